import PyProof.Rows.All
import HandS.ForMost
import HandS.ForExc
import HandS.Strs
import HandS.Wide
import HandS.TupAny
import HandS.IsInst
import HandS.Dict
import HandS.TupLen
import HandS.Conv
import HandS.Zip
import HandS.EndBits
import HandS.Deep
import HandS.TupLe
import HandS.WideBits
import HandS.Small
import HandS.ExcIs
import HandS.Style
import PySem.Challenge.RW_trueword_k34_rows_in_order
set_option Elab.async false
set_option linter.all false
set_option maxRecDepth 100000
set_option autoImplicit false
-- TWBase
namespace TW
open PySem PySem.Spec PyProof.Rows L2
inductive D where
  | non | bl (b : Bool) | int (i : Int) | str (s : Str)
  | lst (l : List D) | tup (l : List D)
  | dK (ks : List Key) (vs : List D) | dT (ks : List (List Key)) (vs : List D)
  | scr (l : List Int)
  | junk
  | ftup (l : List D)
def ScrAt (K : PySem.W.Frag) (H : Hp) (a : Addr) (xs : List V) : Prop :=
  (∃ o, H a = some (.frz o (.lst xs))) ∨ ∃ (o : Obj) (its : Array Value) (n : Nat), K.lookup a = some o ∧ o.cls = .type "list" ∧ o.dict = none ∧ o.data = .seq its n ∧ its.size ≤ sizeLine ∧ Vals xs its.toList
theorem ScrAt.sq {K : PySem.W.Frag} {H : Hp} {a : Addr} {xs : List V} (h : ScrAt K H a xs) : SqL K H a xs := h.imp .inr id
mutual
def Dat (K : PySem.W.Frag) (H : Hp) : D → Nat → V → List Addr → List Addr → Prop
  | .non, _, v, S, R => v = .non ∧ S = [] ∧ R = []
  | .bl b, _, v, S, R => v = .bl b ∧ S = [] ∧ R = []
  | .int i, _, v, S, R => v = .int i ∧ S = [] ∧ R = []
  | .str s, _, v, S, R => v = .str s ∧ S = [] ∧ R = []
  | .scr l, _, v, S, R => (∃ a, v = .ref a ∧ ScrAt K H a (l.map V.int)) ∧ S = [] ∧ R = []
  | .junk, _, _, S, R => S = [] ∧ R = []
  | .ftup ds, n, v, S, R => ∃ a xs, v = .ref a ∧ (∃ o : Obj, o.dict = none ∧ H a = some (.frz o (.tup xs))) ∧ Dats K H ds (n - 1) xs S R
  | .lst ds, n, v, S, R => match n with
    | 0 => ∃ a xs R', v = .ref a ∧ H a = some (.lst xs) ∧ S = [] ∧ R = a :: R' ∧ Dats K H ds 0 xs [] R'
    | n + 1 => ∃ a xs S', v = .ref a ∧ H a = some (.lst xs) ∧ S = a :: S' ∧ Dats K H ds n xs S' R
  | .tup ds, n, v, S, R => ∃ a xs, v = .ref a ∧ H a = some (.tup xs) ∧ Dats K H ds (n - 1) xs S R
  | .dK ks ds, n, v, S, R => match n with
    | 0 => ∃ a ws R', v = .ref a ∧ Rd H a (.dK ws) ∧ ws.map (·.1) = ks ∧ S = [] ∧ R = a :: R' ∧ Dats K H ds 0 (ws.map (·.2)) [] R'
    | n + 1 => ∃ a ws S', v = .ref a ∧ H a = some (.dK ws) ∧ ws.map (·.1) = ks ∧ S = a :: S' ∧ Dats K H ds n (ws.map (·.2)) S' R
  | .dT ks ds, n, v, S, R => match n with
    | 0 => ∃ a ws R', v = .ref a ∧ Rd H a (.dT ws) ∧ ws.map (·.1) = ks ∧ S = [] ∧ R = a :: R' ∧ Dats K H ds 0 (ws.map (·.2)) [] R'
    | n + 1 => ∃ a ws S', v = .ref a ∧ H a = some (.dT ws) ∧ ws.map (·.1) = ks ∧ S = a :: S' ∧ Dats K H ds n (ws.map (·.2)) S' R
def Dats (K : PySem.W.Frag) (H : Hp) : List D → Nat → List V → List Addr → List Addr → Prop
  | [], _, xs, S, R => xs = [] ∧ S = [] ∧ R = []
  | d :: ds, n, xs, S, R => ∃ x xs' S1 S2 R1 R2, xs = x :: xs' ∧ S = S1 ++ S2 ∧ R = R1 ++ R2 ∧ Dat K H d n x S1 R1 ∧ Dats K H ds n xs' S2 R2
end
structure Stay (H H' : Hp) (S R : List Addr) : Prop where
  tup : ∀ b xs, H b = some (.tup xs) → H' b = some (.tup xs)
  frz : ∀ b o xs, H b = some (.frz o (.tup xs)) → H' b = some (.frz o (.tup xs))
  scr : ∀ b o xs, H b = some (.frz o (.lst xs)) → H' b = some (.frz o (.lst xs))
  own : ∀ b ∈ S, ∀ o, H b = some o → H' b = some o
  res : ∀ b ∈ R, ∀ o, H b = some o → H' b = some o

section
variable {K : PySem.W.Frag} {H H' : Hp}
theorem Stay.mono {S R S' R' : List Addr} (h : Stay H H' S R) (hs : ∀ b ∈ S', b ∈ S) (hr : ∀ b ∈ R', b ∈ R) : Stay H H' S' R' :=
  ⟨h.tup, h.frz, h.scr, fun b hb => h.own b (hs b hb), fun b hb => h.res b (hr b hb)⟩
theorem Stay.rd {S R : List Addr} (h : Stay H H' S R) {a : Addr} {u : HO} (ha : a ∈ R) (q : Rd H a u) : Rd H' a u := by
  rcases q with q | ⟨o, q⟩
  · exact .inl (h.res _ ha _ q)
  · exact .inr ⟨o, h.res _ ha _ q⟩
theorem Stay.of_same (h : Same H H') (S R : List Addr) : Stay H H' S R :=
  ⟨fun b xs q => h _ _ q, fun b o xs q => h _ _ q, fun b o xs q => h _ _ q, fun b _ o q => h _ _ q, fun b _ o q => h _ _ q⟩

mutual
theorem Dat.stay : ∀ (d : D) (n : Nat) (v : V) (S R : List Addr), Stay H H' S R → Dat K H d n v S R → Dat K H' d n v S R
  | .non, _, _, _, _, _, h => by simpa [Dat] using h
  | .bl b, _, _, _, _, _, h => by simpa [Dat] using h
  | .int i, _, _, _, _, _, h => by simpa [Dat] using h
  | .str s, _, _, _, _, _, h => by simpa [Dat] using h
  | .junk, _, _, _, _, _, h => by simpa [Dat] using h
  | .scr l, _, _, _, _, st, h => by
    simp only [Dat] at h ⊢
    obtain ⟨⟨a, e, q⟩, h⟩ := h
    exact ⟨⟨a, e, q.imp (fun ⟨o, q⟩ => ⟨o, st.scr _ _ _ q⟩) id⟩, h⟩
  | .lst ds, 0, v, S, R, st, h => by
    simp only [Dat] at h ⊢
    obtain ⟨a, xs, R', rfl, q, rfl, rfl, hd⟩ := h
    exact ⟨a, xs, R', rfl, st.res _ List.mem_cons_self _ q, rfl, rfl, Dats.stay ds 0 xs [] R' (st.mono (fun _ z => z) fun b z => List.mem_cons_of_mem _ z) hd⟩
  | .lst ds, n + 1, v, S, R, st, h => by
    simp only [Dat] at h ⊢
    obtain ⟨a, xs, S', rfl, q, rfl, hd⟩ := h
    exact ⟨a, xs, S', rfl, st.own _ List.mem_cons_self _ q, rfl, Dats.stay ds n xs S' R (st.mono (fun b z => List.mem_cons_of_mem _ z) fun _ z => z) hd⟩
  | .tup ds, n, v, S, R, st, h => by
    simp only [Dat] at h ⊢
    obtain ⟨a, xs, rfl, q, hd⟩ := h
    exact ⟨a, xs, rfl, st.tup _ _ q, Dats.stay ds (n - 1) xs S R st hd⟩
  | .ftup ds, n, v, S, R, st, h => by
    simp only [Dat] at h ⊢
    obtain ⟨a, xs, rfl, q, hd⟩ := h
    exact ⟨a, xs, rfl, q.imp fun o q => ⟨q.1, st.frz _ _ _ q.2⟩, Dats.stay ds (n - 1) xs S R st hd⟩
  | .dK ks ds, 0, v, S, R, st, h => by
    simp only [Dat] at h ⊢
    obtain ⟨a, ws, R', rfl, q, hk, rfl, rfl, hd⟩ := h
    exact ⟨a, ws, R', rfl, st.rd List.mem_cons_self q, hk, rfl, rfl, Dats.stay ds 0 _ [] R' (st.mono (fun _ z => z) fun b z => List.mem_cons_of_mem _ z) hd⟩
  | .dK ks ds, n + 1, v, S, R, st, h => by
    simp only [Dat] at h ⊢
    obtain ⟨a, ws, S', rfl, q, hk, rfl, hd⟩ := h
    exact ⟨a, ws, S', rfl, st.own _ List.mem_cons_self _ q, hk, rfl, Dats.stay ds n _ S' R (st.mono (fun b z => List.mem_cons_of_mem _ z) fun _ z => z) hd⟩
  | .dT ks ds, 0, v, S, R, st, h => by
    simp only [Dat] at h ⊢
    obtain ⟨a, ws, R', rfl, q, hk, rfl, rfl, hd⟩ := h
    exact ⟨a, ws, R', rfl, st.rd List.mem_cons_self q, hk, rfl, rfl, Dats.stay ds 0 _ [] R' (st.mono (fun _ z => z) fun b z => List.mem_cons_of_mem _ z) hd⟩
  | .dT ks ds, n + 1, v, S, R, st, h => by
    simp only [Dat] at h ⊢
    obtain ⟨a, ws, S', rfl, q, hk, rfl, hd⟩ := h
    exact ⟨a, ws, S', rfl, st.own _ List.mem_cons_self _ q, hk, rfl, Dats.stay ds n _ S' R (st.mono (fun b z => List.mem_cons_of_mem _ z) fun _ z => z) hd⟩
theorem Dats.stay : ∀ (ds : List D) (n : Nat) (xs : List V) (S R : List Addr), Stay H H' S R → Dats K H ds n xs S R → Dats K H' ds n xs S R
  | [], _, _, _, _, _, h => by simpa [Dats] using h
  | d :: ds, n, xs, S, R, st, h => by
    simp only [Dats] at h ⊢
    obtain ⟨x, xs', S1, S2, R1, R2, rfl, rfl, rfl, h1, h2⟩ := h
    exact ⟨x, xs', S1, S2, R1, R2, rfl, rfl, rfl,
      Dat.stay d n x S1 R1 (st.mono (fun b z => List.mem_append_left _ z) fun b z => List.mem_append_left _ z) h1,
      Dats.stay ds n xs' S2 R2 (st.mono (fun b z => List.mem_append_right _ z) fun b z => List.mem_append_right _ z) h2⟩
end
theorem Dat.same {d : D} {n : Nat} {v : V} {S R : List Addr} (h : Dat K H d n v S R) (s : Same H H') : Dat K H' d n v S R := Dat.stay d n v S R (.of_same s S R) h
theorem Dats.same {ds : List D} {n : Nat} {xs : List V} {S R : List Addr} (h : Dats K H ds n xs S R) (s : Same H H') : Dats K H' ds n xs S R := Dats.stay ds n xs S R (.of_same s S R) h

mutual
theorem Dat.weak : ∀ (d : D) (n k : Nat) (v : V) (S R : List Addr), k ≤ n → Dat K H d n v S R →
    ∃ S' R', Dat K H d k v S' R' ∧ S'.Sublist S ∧ (∀ a ∈ R', a ∈ S ∨ a ∈ R)
  | .non, _, _, _, S, R, _, h => by
    simp only [Dat] at h ⊢
    obtain ⟨rfl, rfl, rfl⟩ := h
    exact ⟨[], [], ⟨rfl, rfl, rfl⟩, .slnil, fun _ z => .inr z⟩
  | .bl b, _, _, _, S, R, _, h => by
    simp only [Dat] at h ⊢
    obtain ⟨rfl, rfl, rfl⟩ := h
    exact ⟨[], [], ⟨rfl, rfl, rfl⟩, .slnil, fun _ z => .inr z⟩
  | .int i, _, _, _, S, R, _, h => by
    simp only [Dat] at h ⊢
    obtain ⟨rfl, rfl, rfl⟩ := h
    exact ⟨[], [], ⟨rfl, rfl, rfl⟩, .slnil, fun _ z => .inr z⟩
  | .str s, _, _, _, S, R, _, h => by
    simp only [Dat] at h ⊢
    obtain ⟨rfl, rfl, rfl⟩ := h
    exact ⟨[], [], ⟨rfl, rfl, rfl⟩, .slnil, fun _ z => .inr z⟩
  | .junk, _, _, _, S, R, _, h => by
    simp only [Dat] at h ⊢
    obtain ⟨rfl, rfl⟩ := h
    exact ⟨[], [], ⟨rfl, rfl⟩, .slnil, fun _ z => .inr z⟩
  | .scr l, _, _, _, S, R, _, h => by
    simp only [Dat] at h ⊢
    obtain ⟨e, rfl, rfl⟩ := h
    exact ⟨[], [], ⟨e, rfl, rfl⟩, .slnil, fun _ z => .inr z⟩
  | .lst ds, 0, k, v, S, R, hk, h => by
    obtain rfl : k = 0 := by omega
    exact ⟨S, R, h, .refl _, fun _ z => .inr z⟩
  | .lst ds, n + 1, 0, v, S, R, hk, h => by
    simp only [Dat] at h ⊢
    obtain ⟨a, xs, S', rfl, q, rfl, hd⟩ := h
    obtain ⟨S1, R1, h1, s1, r1⟩ := Dats.weak ds n 0 xs S' R (Nat.zero_le _) hd
    obtain rfl : S1 = [] := Dats.noS h1
    exact ⟨[], a :: R1, ⟨a, xs, R1, rfl, q, rfl, rfl, h1⟩, List.nil_sublist _, fun b z => by
      rcases List.mem_cons.mp z with rfl | z
      · exact .inl List.mem_cons_self
      · exact (r1 b z).imp (List.mem_cons_of_mem _) id⟩
  | .lst ds, n + 1, k + 1, v, S, R, hk, h => by
    simp only [Dat] at h ⊢
    obtain ⟨a, xs, S', rfl, q, rfl, hd⟩ := h
    obtain ⟨S1, R1, h1, s1, r1⟩ := Dats.weak ds n k xs S' R (by omega) hd
    exact ⟨a :: S1, R1, ⟨a, xs, S1, rfl, q, rfl, h1⟩, s1.cons₂ a, fun b z => (r1 b z).imp (List.mem_cons_of_mem _) id⟩
  | .tup ds, n, k, v, S, R, hk, h => by
    simp only [Dat] at h ⊢
    obtain ⟨a, xs, rfl, q, hd⟩ := h
    obtain ⟨S1, R1, h1, s1, r1⟩ := Dats.weak ds (n - 1) (k - 1) xs S R (by omega) hd
    exact ⟨S1, R1, ⟨a, xs, rfl, q, h1⟩, s1, r1⟩
  | .ftup ds, n, k, v, S, R, hk, h => by
    simp only [Dat] at h ⊢
    obtain ⟨a, xs, rfl, q, hd⟩ := h
    obtain ⟨S1, R1, h1, s1, r1⟩ := Dats.weak ds (n - 1) (k - 1) xs S R (by omega) hd
    exact ⟨S1, R1, ⟨a, xs, rfl, q, h1⟩, s1, r1⟩
  | .dK ks ds, 0, k, v, S, R, hk, h => by
    obtain rfl : k = 0 := by omega
    exact ⟨S, R, h, .refl _, fun _ z => .inr z⟩
  | .dK ks ds, n + 1, 0, v, S, R, hk, h => by
    simp only [Dat] at h ⊢
    obtain ⟨a, xs, S', rfl, q, hks, rfl, hd⟩ := h
    obtain ⟨S1, R1, h1, s1, r1⟩ := Dats.weak ds n 0 _ S' R (Nat.zero_le _) hd
    obtain rfl : S1 = [] := Dats.noS h1
    exact ⟨[], a :: R1, ⟨a, xs, R1, rfl, .of q, hks, rfl, rfl, h1⟩, List.nil_sublist _, fun b z => by
      rcases List.mem_cons.mp z with rfl | z
      · exact .inl List.mem_cons_self
      · exact (r1 b z).imp (List.mem_cons_of_mem _) id⟩
  | .dK ks ds, n + 1, k + 1, v, S, R, hk, h => by
    simp only [Dat] at h ⊢
    obtain ⟨a, xs, S', rfl, q, hks, rfl, hd⟩ := h
    obtain ⟨S1, R1, h1, s1, r1⟩ := Dats.weak ds n k _ S' R (by omega) hd
    exact ⟨a :: S1, R1, ⟨a, xs, S1, rfl, q, hks, rfl, h1⟩, s1.cons₂ a, fun b z => (r1 b z).imp (List.mem_cons_of_mem _) id⟩
  | .dT ks ds, 0, k, v, S, R, hk, h => by
    obtain rfl : k = 0 := by omega
    exact ⟨S, R, h, .refl _, fun _ z => .inr z⟩
  | .dT ks ds, n + 1, 0, v, S, R, hk, h => by
    simp only [Dat] at h ⊢
    obtain ⟨a, xs, S', rfl, q, hks, rfl, hd⟩ := h
    obtain ⟨S1, R1, h1, s1, r1⟩ := Dats.weak ds n 0 _ S' R (Nat.zero_le _) hd
    obtain rfl : S1 = [] := Dats.noS h1
    exact ⟨[], a :: R1, ⟨a, xs, R1, rfl, .of q, hks, rfl, rfl, h1⟩, List.nil_sublist _, fun b z => by
      rcases List.mem_cons.mp z with rfl | z
      · exact .inl List.mem_cons_self
      · exact (r1 b z).imp (List.mem_cons_of_mem _) id⟩
  | .dT ks ds, n + 1, k + 1, v, S, R, hk, h => by
    simp only [Dat] at h ⊢
    obtain ⟨a, xs, S', rfl, q, hks, rfl, hd⟩ := h
    obtain ⟨S1, R1, h1, s1, r1⟩ := Dats.weak ds n k _ S' R (by omega) hd
    exact ⟨a :: S1, R1, ⟨a, xs, S1, rfl, q, hks, rfl, h1⟩, s1.cons₂ a, fun b z => (r1 b z).imp (List.mem_cons_of_mem _) id⟩
theorem Dats.weak : ∀ (ds : List D) (n k : Nat) (xs : List V) (S R : List Addr), k ≤ n → Dats K H ds n xs S R →
    ∃ S' R', Dats K H ds k xs S' R' ∧ S'.Sublist S ∧ (∀ a ∈ R', a ∈ S ∨ a ∈ R)
  | [], _, _, _, S, R, _, h => by
    simp only [Dats] at h ⊢
    obtain ⟨rfl, rfl, rfl⟩ := h
    exact ⟨[], [], ⟨rfl, rfl, rfl⟩, .slnil, fun _ z => .inr z⟩
  | d :: ds, n, k, xs, S, R, hk, h => by
    simp only [Dats] at h ⊢
    obtain ⟨x, xs', S1, S2, R1, R2, rfl, rfl, rfl, h1, h2⟩ := h
    obtain ⟨S1', R1', g1, s1, r1⟩ := Dat.weak d n k x S1 R1 hk h1
    obtain ⟨S2', R2', g2, s2, r2⟩ := Dats.weak ds n k xs' S2 R2 hk h2
    refine ⟨S1' ++ S2', R1' ++ R2', ⟨x, xs', S1', S2', R1', R2', rfl, rfl, rfl, g1, g2⟩, s1.append s2, fun a z => ?_⟩
    rcases List.mem_append.mp z with z | z
    · exact (r1 a z).imp (List.mem_append_left _) (List.mem_append_left _)
    · exact (r2 a z).imp (List.mem_append_right _) (List.mem_append_right _)
theorem Dat.noS : ∀ {d : D} {v : V} {S R : List Addr}, Dat K H d 0 v S R → S = []
  | .non, _, _, _, h => by simp only [Dat] at h; exact h.2.1
  | .bl _, _, _, _, h => by simp only [Dat] at h; exact h.2.1
  | .int _, _, _, _, h => by simp only [Dat] at h; exact h.2.1
  | .str _, _, _, _, h => by simp only [Dat] at h; exact h.2.1
  | .junk, _, _, _, h => by simp only [Dat] at h; exact h.1
  | .scr _, _, _, _, h => by simp only [Dat] at h; exact h.2.1
  | .lst ds, _, _, _, h => by simp only [Dat] at h; obtain ⟨_, _, _, _, _, z, _⟩ := h; exact z
  | .tup ds, _, _, _, h => by simp only [Dat] at h; obtain ⟨_, _, _, _, z⟩ := h; exact Dats.noS z
  | .ftup ds, _, _, _, h => by simp only [Dat] at h; obtain ⟨_, _, _, _, z⟩ := h; exact Dats.noS z
  | .dK _ ds, _, _, _, h => by simp only [Dat] at h; obtain ⟨_, _, _, _, _, _, z, _⟩ := h; exact z
  | .dT _ ds, _, _, _, h => by simp only [Dat] at h; obtain ⟨_, _, _, _, _, _, z, _⟩ := h; exact z
theorem Dats.noS : ∀ {ds : List D} {xs : List V} {S R : List Addr}, Dats K H ds 0 xs S R → S = []
  | [], _, _, _, h => by simp only [Dats] at h; exact h.2.1
  | d :: ds, _, _, _, h => by
    simp only [Dats] at h
    obtain ⟨x, xs', S1, S2, R1, R2, rfl, rfl, rfl, h1, h2⟩ := h
    rw [Dat.noS h1, Dats.noS h2]; rfl
end

mutual
theorem Dat.weakP : ∀ (d : D) (n k : Nat) (v : V) (S R : List Addr), k ≤ n → Dat K H d n v S R →
    ∃ S' R' Ex, Dat K H d k v S' R' ∧ (S' ++ Ex).Perm S ∧ (∀ a ∈ R', a ∈ Ex ∨ a ∈ R)
  | .non, _, _, _, S, R, _, h => by
    simp only [Dat] at h ⊢
    obtain ⟨rfl, rfl, rfl⟩ := h
    exact ⟨[], [], [], ⟨rfl, rfl, rfl⟩, .refl _, fun _ z => .inr z⟩
  | .bl b, _, _, _, S, R, _, h => by
    simp only [Dat] at h ⊢
    obtain ⟨rfl, rfl, rfl⟩ := h
    exact ⟨[], [], [], ⟨rfl, rfl, rfl⟩, .refl _, fun _ z => .inr z⟩
  | .int i, _, _, _, S, R, _, h => by
    simp only [Dat] at h ⊢
    obtain ⟨rfl, rfl, rfl⟩ := h
    exact ⟨[], [], [], ⟨rfl, rfl, rfl⟩, .refl _, fun _ z => .inr z⟩
  | .str s, _, _, _, S, R, _, h => by
    simp only [Dat] at h ⊢
    obtain ⟨rfl, rfl, rfl⟩ := h
    exact ⟨[], [], [], ⟨rfl, rfl, rfl⟩, .refl _, fun _ z => .inr z⟩
  | .junk, _, _, _, S, R, _, h => by
    simp only [Dat] at h ⊢
    obtain ⟨rfl, rfl⟩ := h
    exact ⟨[], [], [], ⟨rfl, rfl⟩, .refl _, fun _ z => .inr z⟩
  | .scr l, _, _, _, S, R, _, h => by
    simp only [Dat] at h ⊢
    obtain ⟨e, rfl, rfl⟩ := h
    exact ⟨[], [], [], ⟨e, rfl, rfl⟩, .refl _, fun _ z => .inr z⟩
  | .lst ds, 0, k, v, S, R, hk, h => by
    obtain rfl : k = 0 := by omega
    exact ⟨S, R, [], h, by simp, fun _ z => .inr z⟩
  | .lst ds, n + 1, 0, v, S, R, hk, h => by
    simp only [Dat] at h ⊢
    obtain ⟨a, xs, S', rfl, q, rfl, hd⟩ := h
    obtain ⟨S1, R1, E1, h1, s1, r1⟩ := Dats.weakP ds n 0 xs S' R (Nat.zero_le _) hd
    obtain rfl : S1 = [] := Dats.noS h1
    exact ⟨[], a :: R1, a :: E1, ⟨a, xs, R1, rfl, q, rfl, rfl, h1⟩, s1.cons a, fun b z => by
      rcases List.mem_cons.mp z with rfl | z
      · exact .inl List.mem_cons_self
      · exact (r1 b z).imp (List.mem_cons_of_mem _) id⟩
  | .lst ds, n + 1, k + 1, v, S, R, hk, h => by
    simp only [Dat] at h ⊢
    obtain ⟨a, xs, S', rfl, q, rfl, hd⟩ := h
    obtain ⟨S1, R1, E1, h1, s1, r1⟩ := Dats.weakP ds n k xs S' R (by omega) hd
    exact ⟨a :: S1, R1, E1, ⟨a, xs, S1, rfl, q, rfl, h1⟩, s1.cons a, r1⟩
  | .tup ds, n, k, v, S, R, hk, h => by
    simp only [Dat] at h ⊢
    obtain ⟨a, xs, rfl, q, hd⟩ := h
    obtain ⟨S1, R1, E1, h1, s1, r1⟩ := Dats.weakP ds (n - 1) (k - 1) xs S R (by omega) hd
    exact ⟨S1, R1, E1, ⟨a, xs, rfl, q, h1⟩, s1, r1⟩
  | .ftup ds, n, k, v, S, R, hk, h => by
    simp only [Dat] at h ⊢
    obtain ⟨a, xs, rfl, q, hd⟩ := h
    obtain ⟨S1, R1, E1, h1, s1, r1⟩ := Dats.weakP ds (n - 1) (k - 1) xs S R (by omega) hd
    exact ⟨S1, R1, E1, ⟨a, xs, rfl, q, h1⟩, s1, r1⟩
  | .dK ks ds, 0, k, v, S, R, hk, h => by
    obtain rfl : k = 0 := by omega
    exact ⟨S, R, [], h, by simp, fun _ z => .inr z⟩
  | .dK ks ds, n + 1, 0, v, S, R, hk, h => by
    simp only [Dat] at h ⊢
    obtain ⟨a, xs, S', rfl, q, hks, rfl, hd⟩ := h
    obtain ⟨S1, R1, E1, h1, s1, r1⟩ := Dats.weakP ds n 0 _ S' R (Nat.zero_le _) hd
    obtain rfl : S1 = [] := Dats.noS h1
    exact ⟨[], a :: R1, a :: E1, ⟨a, xs, R1, rfl, .of q, hks, rfl, rfl, h1⟩, s1.cons a, fun b z => by
      rcases List.mem_cons.mp z with rfl | z
      · exact .inl List.mem_cons_self
      · exact (r1 b z).imp (List.mem_cons_of_mem _) id⟩
  | .dK ks ds, n + 1, k + 1, v, S, R, hk, h => by
    simp only [Dat] at h ⊢
    obtain ⟨a, xs, S', rfl, q, hks, rfl, hd⟩ := h
    obtain ⟨S1, R1, E1, h1, s1, r1⟩ := Dats.weakP ds n k _ S' R (by omega) hd
    exact ⟨a :: S1, R1, E1, ⟨a, xs, S1, rfl, q, hks, rfl, h1⟩, s1.cons a, r1⟩
  | .dT ks ds, 0, k, v, S, R, hk, h => by
    obtain rfl : k = 0 := by omega
    exact ⟨S, R, [], h, by simp, fun _ z => .inr z⟩
  | .dT ks ds, n + 1, 0, v, S, R, hk, h => by
    simp only [Dat] at h ⊢
    obtain ⟨a, xs, S', rfl, q, hks, rfl, hd⟩ := h
    obtain ⟨S1, R1, E1, h1, s1, r1⟩ := Dats.weakP ds n 0 _ S' R (Nat.zero_le _) hd
    obtain rfl : S1 = [] := Dats.noS h1
    exact ⟨[], a :: R1, a :: E1, ⟨a, xs, R1, rfl, .of q, hks, rfl, rfl, h1⟩, s1.cons a, fun b z => by
      rcases List.mem_cons.mp z with rfl | z
      · exact .inl List.mem_cons_self
      · exact (r1 b z).imp (List.mem_cons_of_mem _) id⟩
  | .dT ks ds, n + 1, k + 1, v, S, R, hk, h => by
    simp only [Dat] at h ⊢
    obtain ⟨a, xs, S', rfl, q, hks, rfl, hd⟩ := h
    obtain ⟨S1, R1, E1, h1, s1, r1⟩ := Dats.weakP ds n k _ S' R (by omega) hd
    exact ⟨a :: S1, R1, E1, ⟨a, xs, S1, rfl, q, hks, rfl, h1⟩, s1.cons a, r1⟩
theorem Dats.weakP : ∀ (ds : List D) (n k : Nat) (xs : List V) (S R : List Addr), k ≤ n → Dats K H ds n xs S R →
    ∃ S' R' Ex, Dats K H ds k xs S' R' ∧ (S' ++ Ex).Perm S ∧ (∀ a ∈ R', a ∈ Ex ∨ a ∈ R)
  | [], _, _, _, S, R, _, h => by
    simp only [Dats] at h ⊢
    obtain ⟨rfl, rfl, rfl⟩ := h
    exact ⟨[], [], [], ⟨rfl, rfl, rfl⟩, .refl _, fun _ z => .inr z⟩
  | d :: ds, n, k, xs, S, R, hk, h => by
    simp only [Dats] at h ⊢
    obtain ⟨x, xs', S1, S2, R1, R2, rfl, rfl, rfl, h1, h2⟩ := h
    obtain ⟨S1', R1', E1, g1, s1, r1⟩ := Dat.weakP d n k x S1 R1 hk h1
    obtain ⟨S2', R2', E2, g2, s2, r2⟩ := Dats.weakP ds n k xs' S2 R2 hk h2
    refine ⟨S1' ++ S2', R1' ++ R2', E1 ++ E2, ⟨x, xs', S1', S2', R1', R2', rfl, rfl, rfl, g1, g2⟩, ?_, fun a z => ?_⟩
    · refine List.Perm.trans ?_ (s1.append s2)
      simp only [List.append_assoc]
      refine List.Perm.append_left _ ?_
      rw [← List.append_assoc, ← List.append_assoc]
      exact List.Perm.append_right _ List.perm_append_comm
    rcases List.mem_append.mp z with z | z
    · exact (r1 a z).imp (List.mem_append_left _) (List.mem_append_left _)
    · exact (r2 a z).imp (List.mem_append_right _) (List.mem_append_right _)
end
theorem Dat.weakS {d : D} {n k : Nat} {v : V} {S R : List Addr} (hk : k ≤ n) (h : Dat K H d n v S R) :
    ∃ S' R', Dat K H d k v S' R' ∧ (S.Nodup → S'.Nodup) ∧ (∀ a ∈ S', a ∈ S) ∧ (∀ a ∈ R', a ∈ S ∨ a ∈ R) ∧ (S.Nodup → (∀ a ∈ S, a ∉ R) → ∀ a ∈ S', a ∉ R') := by
  obtain ⟨S', R', Ex, g, p, r⟩ := Dat.weakP d n k v S R hk h
  have sub : ∀ a ∈ S', a ∈ S := fun a ha => p.subset (List.mem_append_left _ ha)
  refine ⟨S', R', g, fun nd => (List.nodup_append.mp (p.nodup_iff.mpr nd)).1, sub, fun a ha => ?_, fun nd hR a ha hr => ?_⟩
  · rcases r a ha with z | z
    · exact .inl (p.subset (List.mem_append_right _ z))
    · exact .inr z
  · rcases r a hr with z | z
    · exact (List.nodup_append.mp (p.nodup_iff.mpr nd)).2.2 a ha a z rfl
    · exact hR a (sub a ha) z
mutual
theorem Dat.dom : ∀ {d : D} {n : Nat} {v : V} {S R : List Addr}, Dat K H d n v S R → ∀ a ∈ S, H a ≠ none
  | .non, _, _, _, _, h, a, z => by simp only [Dat] at h; rw [h.2.1] at z; simp at z
  | .bl _, _, _, _, _, h, a, z => by simp only [Dat] at h; rw [h.2.1] at z; simp at z
  | .int _, _, _, _, _, h, a, z => by simp only [Dat] at h; rw [h.2.1] at z; simp at z
  | .str _, _, _, _, _, h, a, z => by simp only [Dat] at h; rw [h.2.1] at z; simp at z
  | .junk, _, _, _, _, h, a, z => by simp only [Dat] at h; rw [h.1] at z; simp at z
  | .scr _, _, _, _, _, h, a, z => by simp only [Dat] at h; rw [h.2.1] at z; simp at z
  | .lst ds, 0, _, _, _, h, a, z => by rw [Dat.noS h] at z; simp at z
  | .lst ds, n + 1, _, _, _, h, a, z => by
    simp only [Dat] at h
    obtain ⟨b, xs, S', rfl, q, rfl, hd⟩ := h
    rcases List.mem_cons.mp z with rfl | z
    · rw [q]; simp
    · exact Dats.dom hd a z
  | .tup ds, n, _, _, _, h, a, z => by
    simp only [Dat] at h
    obtain ⟨b, xs, rfl, q, hd⟩ := h
    exact Dats.dom hd a z
  | .ftup ds, n, _, _, _, h, a, z => by
    simp only [Dat] at h
    obtain ⟨b, xs, rfl, q, hd⟩ := h
    exact Dats.dom hd a z
  | .dK _ ds, 0, _, _, _, h, a, z => by rw [Dat.noS h] at z; simp at z
  | .dK _ ds, n + 1, _, _, _, h, a, z => by
    simp only [Dat] at h
    obtain ⟨b, xs, S', rfl, q, _, rfl, hd⟩ := h
    rcases List.mem_cons.mp z with rfl | z
    · rw [q]; simp
    · exact Dats.dom hd a z
  | .dT _ ds, 0, _, _, _, h, a, z => by rw [Dat.noS h] at z; simp at z
  | .dT _ ds, n + 1, _, _, _, h, a, z => by
    simp only [Dat] at h
    obtain ⟨b, xs, S', rfl, q, _, rfl, hd⟩ := h
    rcases List.mem_cons.mp z with rfl | z
    · rw [q]; simp
    · exact Dats.dom hd a z
theorem Dats.dom : ∀ {ds : List D} {n : Nat} {xs : List V} {S R : List Addr}, Dats K H ds n xs S R → ∀ a ∈ S, H a ≠ none
  | [], _, _, _, _, h, a, z => by simp only [Dats] at h; rw [h.2.1] at z; simp at z
  | d :: ds, n, _, _, _, h, a, z => by
    simp only [Dats] at h
    obtain ⟨x, xs', S1, S2, R1, R2, rfl, rfl, rfl, h1, h2⟩ := h
    rcases List.mem_append.mp z with z | z
    · exact Dat.dom h1 a z
    · exact Dats.dom h2 a z
end
mutual
theorem Dat.domR : ∀ {d : D} {n : Nat} {v : V} {S R : List Addr}, Dat K H d n v S R → ∀ a ∈ R, H a ≠ none
  | .non, _, _, _, _, h, a, z => by simp only [Dat] at h; rw [h.2.2] at z; simp at z
  | .bl _, _, _, _, _, h, a, z => by simp only [Dat] at h; rw [h.2.2] at z; simp at z
  | .int _, _, _, _, _, h, a, z => by simp only [Dat] at h; rw [h.2.2] at z; simp at z
  | .str _, _, _, _, _, h, a, z => by simp only [Dat] at h; rw [h.2.2] at z; simp at z
  | .junk, _, _, _, _, h, a, z => by simp only [Dat] at h; rw [h.2] at z; simp at z
  | .scr _, _, _, _, _, h, a, z => by simp only [Dat] at h; rw [h.2.2] at z; simp at z
  | .lst ds, 0, _, _, _, h, a, z => by
    simp only [Dat] at h
    obtain ⟨b, xs, R', rfl, q, rfl, rfl, hd⟩ := h
    rcases List.mem_cons.mp z with rfl | z
    · rw [q]; simp
    · exact Dats.domR hd a z
  | .lst ds, n + 1, _, _, _, h, a, z => by
    simp only [Dat] at h
    obtain ⟨b, xs, S', rfl, q, rfl, hd⟩ := h
    exact Dats.domR hd a z
  | .tup ds, n, _, _, _, h, a, z => by
    simp only [Dat] at h
    obtain ⟨b, xs, rfl, q, hd⟩ := h
    exact Dats.domR hd a z
  | .ftup ds, n, _, _, _, h, a, z => by
    simp only [Dat] at h
    obtain ⟨b, xs, rfl, q, hd⟩ := h
    exact Dats.domR hd a z
  | .dK _ ds, 0, _, _, _, h, a, z => by
    simp only [Dat] at h
    obtain ⟨b, xs, R', rfl, q, _, rfl, rfl, hd⟩ := h
    rcases List.mem_cons.mp z with rfl | z
    · rcases q with q | ⟨o, q⟩ <;> (rw [q]; simp)
    · exact Dats.domR hd a z
  | .dK _ ds, n + 1, _, _, _, h, a, z => by
    simp only [Dat] at h
    obtain ⟨b, xs, S', rfl, q, _, rfl, hd⟩ := h
    exact Dats.domR hd a z
  | .dT _ ds, 0, _, _, _, h, a, z => by
    simp only [Dat] at h
    obtain ⟨b, xs, R', rfl, q, _, rfl, rfl, hd⟩ := h
    rcases List.mem_cons.mp z with rfl | z
    · rcases q with q | ⟨o, q⟩ <;> (rw [q]; simp)
    · exact Dats.domR hd a z
  | .dT _ ds, n + 1, _, _, _, h, a, z => by
    simp only [Dat] at h
    obtain ⟨b, xs, S', rfl, q, _, rfl, hd⟩ := h
    exact Dats.domR hd a z
theorem Dats.domR : ∀ {ds : List D} {n : Nat} {xs : List V} {S R : List Addr}, Dats K H ds n xs S R → ∀ a ∈ R, H a ≠ none
  | [], _, _, _, _, h, a, z => by simp only [Dats] at h; rw [h.2.2] at z; simp at z
  | d :: ds, n, _, _, _, h, a, z => by
    simp only [Dats] at h
    obtain ⟨x, xs', S1, S2, R1, R2, rfl, rfl, rfl, h1, h2⟩ := h
    rcases List.mem_append.mp z with z | z
    · exact Dat.domR h1 a z
    · exact Dats.domR h2 a z
end
theorem Dats.length : ∀ {ds : List D} {n : Nat} {xs : List V} {S R : List Addr}, Dats K H ds n xs S R → xs.length = ds.length
  | [], _, _, _, _, h => by simp only [Dats] at h; rw [h.1]; rfl
  | d :: ds, n, _, _, _, h => by
    simp only [Dats] at h
    obtain ⟨x, xs', S1, S2, R1, R2, rfl, rfl, rfl, h1, h2⟩ := h
    simp [Dats.length h2]
theorem Dats.get : ∀ {ds : List D} {n : Nat} {xs : List V} {S R : List Addr} {i : Nat} {d : D}, Dats K H ds n xs S R → ds[i]? = some d →
    ∃ x S' R', xs[i]? = some x ∧ Dat K H d n x S' R' ∧ S'.Sublist S ∧ ∀ a ∈ R', a ∈ R
  | [], _, _, _, _, _, _, h, e => by simp at e
  | d :: ds, n, _, _, _, 0, _, h, e => by
    simp only [Dats] at h
    obtain ⟨x, xs', S1, S2, R1, R2, rfl, rfl, rfl, h1, h2⟩ := h
    simp at e
    subst e
    exact ⟨x, S1, R1, rfl, h1, List.sublist_append_left _ _, fun a z => List.mem_append_left _ z⟩
  | d :: ds, n, _, _, _, i + 1, d', h, e => by
    simp only [Dats] at h
    obtain ⟨x, xs', S1, S2, R1, R2, rfl, rfl, rfl, h1, h2⟩ := h
    obtain ⟨y, S', R', e1, q, s, r⟩ := Dats.get (i := i) (d := d') h2 (by simpa using e)
    exact ⟨y, S', R', by simpa using e1, q, s.trans (List.sublist_append_right _ _), fun a z => List.mem_append_right _ (r a z)⟩
theorem Dats.append : ∀ {ds es : List D} {n : Nat} {xs ys : List V} {S R S' R' : List Addr}, Dats K H ds n xs S R → Dats K H es n ys S' R' → Dats K H (ds ++ es) n (xs ++ ys) (S ++ S') (R ++ R')
  | [], es, n, _, ys, _, _, S', R', h, g => by
    simp only [Dats] at h
    obtain ⟨rfl, rfl, rfl⟩ := h
    simpa using g
  | d :: ds, es, n, _, ys, _, _, S', R', h, g => by
    simp only [Dats] at h
    obtain ⟨x, xs', S1, S2, R1, R2, rfl, rfl, rfl, h1, h2⟩ := h
    show Dats K H (d :: (ds ++ es)) n _ _ _
    simp only [Dats]
    exact ⟨x, xs' ++ ys, S1, S2 ++ S', R1, R2 ++ R', rfl, by simp, by simp, h1, Dats.append h2 g⟩
theorem Dats.one {d : D} {n : Nat} {x : V} {S R : List Addr} (h : Dat K H d n x S R) : Dats K H [d] n [x] S R := by
  simp only [Dats]
  exact ⟨x, [], S, [], R, [], rfl, by simp, by simp, h, rfl, rfl, rfl⟩
theorem Dats.nil {n : Nat} : Dats K H [] n [] [] [] := by simp [Dats]
theorem Dats.cons {d : D} {ds : List D} {n : Nat} {x : V} {xs : List V} {S1 R1 S2 R2 : List Addr} (h1 : Dat K H d n x S1 R1) (h2 : Dats K H ds n xs S2 R2) : Dats K H (d :: ds) n (x :: xs) (S1 ++ S2) (R1 ++ R2) := by
  simp only [Dats]
  exact ⟨x, xs, S1, S2, R1, R2, rfl, rfl, rfl, h1, h2⟩
end
end TW

-- TWRe
namespace TW
open PySem PySem.Spec PyProof.Rows L2
inductive Res (α : Type) where
  | ok (a : α) | exn (c : Str) | stuck
def Res.bind {α β : Type} (m : Res α) (f : α → Res β) : Res β := match m with
  | .ok a => f a
  | .exn c => .exn c
  | .stuck => .stuck
@[simp] theorem Res.bind_ok {α β : Type} (a : α) (f : α → Res β) : (Res.ok a).bind f = f a := id rfl
@[simp] theorem Res.bind_exn {α β : Type} (c : Str) (f : α → Res β) : (Res.exn c : Res α).bind f = .exn c := id rfl
@[simp] theorem Res.bind_stuck {α β : Type} (f : α → Res β) : (Res.stuck : Res α).bind f = .stuck := id rfl
abbrev Rho := List (Option D)
structure Fr where
  no : Addr → Prop
  pin : Nat → Option V
instance : CoeFun Fr (fun _ => Addr → Prop) := ⟨Fr.no⟩
def Fr.plus (F : Fr) (A : List Addr) : Fr := ⟨fun a => F.no a ∨ a ∈ A, F.pin⟩
def Fr.un (F : Fr) : Fr := ⟨F.no, fun _ => none⟩
structure Sto (K : PySem.W.Frag) (F : Fr) (H0 : Hp) (Γ : List Nat) (ρ : Rho) (σ : L2.St) (H : Hp) (S R : Nat → List Addr) : Prop where
  same : Same H0 H
  len : σ.length = ρ.length
  slot : ∀ i d, ρ[i]? = some (some d) → ∃ x, σ[i]? = some (some x) ∧ Dat K H d (Γ.getD i 0) x (S i) (R i)
  emp : ∀ i, (∀ d, ρ[i]? ≠ some (some d)) → S i = [] ∧ R i = []
  new : ∀ i, ∀ a ∈ S i, H0 a = none
  nd : ∀ i, (S i).Nodup
  dj : ∀ i j, i ≠ j → ∀ a ∈ S i, a ∉ S j
  rs : ∀ i j, ∀ a ∈ R i, a ∉ S j
  rf : ∀ i, ∀ a ∈ R i, ¬ F a
  sf : ∀ i, ∀ a ∈ S i, ¬ F a
  fd : ∀ a, F a → H a ≠ none
  pin : ∀ i v, F.pin i = some v → Γ.getD i 0 = 99 ∧ σ[i]? = some (some v)
def Av (F : Fr) (S : Nat → List Addr) (a : Addr) : Prop := F a ∨ ∃ i, a ∈ S i

section
variable {K : PySem.W.Frag} {F : Fr} {H0 H H' : Hp} {Γ : List Nat} {ρ : Rho} {σ : L2.St} {S R : Nat → List Addr}
theorem Sto.domS (h : Sto K F H0 Γ ρ σ H S R) (i : Nat) : ∀ a ∈ S i, H a ≠ none := fun a ha => by
  by_cases e : ∃ d, ρ[i]? = some (some d)
  · obtain ⟨d, e⟩ := e
    obtain ⟨x, _, q⟩ := h.slot i d e
    exact Dat.dom q a ha
  · rw [(h.emp i fun d q => e ⟨d, q⟩).1] at ha
    simp at ha
theorem Sto.domR (h : Sto K F H0 Γ ρ σ H S R) (i : Nat) : ∀ a ∈ R i, H a ≠ none := fun a ha => by
  by_cases e : ∃ d, ρ[i]? = some (some d)
  · obtain ⟨d, e⟩ := e
    obtain ⟨x, _, q⟩ := h.slot i d e
    exact Dat.domR q a ha
  · rw [(h.emp i fun d q => e ⟨d, q⟩).2] at ha
    simp at ha
theorem Sto.avd (h : Sto K F H0 Γ ρ σ H S R) : ∀ a, Av F S a → H a ≠ none := fun a ha => by
  rcases ha with ha | ⟨i, ha⟩
  · exact h.fd a ha
  · exact h.domS i a ha
theorem Sto.more {A : List Addr} (h : Sto K F H0 Γ ρ σ H S R) (hd : ∀ a ∈ A, H a ≠ none) (hs : ∀ a ∈ A, ∀ i, a ∉ S i) (hr : ∀ a ∈ A, ∀ i, a ∉ R i) : Sto K (F.plus A) H0 Γ ρ σ H S R :=
  ⟨h.same, h.len, h.slot, h.emp, h.new, h.nd, h.dj, h.rs, fun i a ha z => z.elim (h.rf i a ha) fun z => hr a z i ha, fun i a ha z => z.elim (h.sf i a ha) fun z => hs a z i ha, fun a z => z.elim (h.fd a) (hd a), h.pin⟩
theorem Sto.grow (h : Sto K F H0 Γ ρ σ H S R) (e : Same H H') : Sto K F H0 Γ ρ σ H' S R where
  same := h.same.trans e
  len := h.len
  slot := fun i d q => let ⟨x, e1, e2⟩ := h.slot i d q; ⟨x, e1, e2.same e⟩
  emp := h.emp
  new := h.new
  nd := h.nd
  dj := h.dj
  rs := h.rs
  rf := h.rf
  sf := h.sf
  fd := fun a ha z => by
    cases q : H a with
    | none => exact h.fd a ha q
    | some o => rw [e a o q] at z; cases z
  pin := h.pin
end
def New (H : Hp) (A B : List Addr) : Prop := A.Nodup ∧ ∀ a ∈ A, H a = none ∧ a ∉ B
def PostV (K : PySem.W.Frag) (Z : Addr → Prop) (n : Nat) (fr : Bool) (H : Hp) (Q : VK) (d : D) : Prop :=
  ∀ x H' A B, Same H H' → Dat K H' d n x A B → (∀ a ∈ B, ¬ Z a) → (fr = true → New H A B) → Q x H'
def PostE (X : Cx) (W : WX) (Z : Addr → Prop) (n : Nat) (fr : Bool) (σ : L2.St) (H : Hp) (Q : VK) : Res D → Prop
  | .ok d => PostV X.K Z n fr H Q d
  | .exn c => ∀ C H', X.mg c = some (.ref C) → Same H H' → W (.ref C) none σ H'
  | .stuck => False
def RE (X : Cx) (W : WX) (Γ : List Nat) (n : Nat) (fr : Bool) (e : Expr) (m : Rho → Res D) : Prop :=
  ∃ t, PE X e t ∧ ∀ F H0 ρ σ H S R Q, Sto X.K F H0 Γ ρ σ H S R → PostE X W (Av F S) n fr σ H Q (m ρ) → t σ H Q
def PostT (X : Cx) (W : WX) (σ : L2.St) (H : Hp) (Q : Bool → Hp → Prop) : Res Bool → Prop
  | .ok b => ∀ H', Same H H' → Q b H'
  | .exn c => ∀ C H', X.mg c = some (.ref C) → Same H H' → W (.ref C) none σ H'
  | .stuck => False
def RT (X : Cx) (W : WX) (Γ : List Nat) (e : Expr) (m : Rho → Res Bool) : Prop :=
  ∃ t, PT X e t ∧ ∀ F H0 ρ σ H S R Q, Sto X.K F H0 Γ ρ σ H S R → PostT X W σ H Q (m ρ) → t σ H Q
def PostA (X : Cx) (W : WX) (Z : Addr → Prop) (n : Nat) (fr : Bool) (σ : L2.St) (H : Hp) (Q : List V → Hp → Prop) : Res (List D) → Prop
  | .ok ds => ∀ xs H' A B, Same H H' → Dats X.K H' ds n xs A B → (∀ a ∈ B, ¬ Z a) → (fr = true → New H A B) → Q xs H'
  | .exn c => ∀ C H', X.mg c = some (.ref C) → Same H H' → W (.ref C) none σ H'
  | .stuck => False
def RA (X : Cx) (W : WX) (Γ : List Nat) (n : Nat) (fr : Bool) (es : List Expr) (m : Rho → Res (List D)) : Prop :=
  (∀ ρ ds, m ρ = .ok ds → ds.length = es.length) ∧ ∃ t, PA X es t ∧ ∀ F H0 ρ σ H S R Q, Sto X.K F H0 Γ ρ σ H S R → PostA X W (Av F S) n fr σ H Q (m ρ) → t σ H Q
inductive Out where
  | nx (ρ : Rho) | rt (d : D) | ex (c : Str) (ρ : Rho) | stuck
def Keep (S : Nat → List Addr) (H H' : Hp) : Prop := ∀ a o, H a = some o → (∀ i, a ∉ S i) → H' a = some o
def Grow (S : Nat → List Addr) (H : Hp) (S' : Nat → List Addr) : Prop := ∀ i, ∀ a ∈ S' i, (∃ j, a ∈ S j) ∨ H a = none
def PostS (X : Cx) (W : WX) (F : Fr) (H0 : Hp) (Γ' : List Nat) (n : Nat) (S : Nat → List Addr) (H : Hp) (E : Ends) : Out → Prop
  | .nx ρ' => ∀ σ' H' S' R', Sto X.K F H0 Γ' ρ' σ' H' S' R' → Keep S H H' → Grow S H S' → E.nx σ' H'
  | .rt d => ∀ x H' A B, Same H0 H' → Dat X.K H' d n x A B → New H0 A B → (∀ a ∈ B, ¬ F a) → E.rt x H'
  | .ex c ρ' => ∀ C σ' H' S' R', X.mg c = some (.ref C) → Sto X.K F.un H0 [] ρ' σ' H' S' R' → Keep S H H' → Grow S H S' → W (.ref C) none σ' H'
  | .stuck => False
def RS (X : Cx) (W : WX) (n : Nat) (Γ Γ' : List Nat) (st : Stmt) (m : Rho → Out) : Prop :=
  ∃ t, PS X st t ∧ ∀ F H0 ρ σ H S R E, Sto X.K F H0 Γ ρ σ H S R → PostS X W F H0 Γ' n S H E (m ρ) → t E σ H
def RSs (X : Cx) (W : WX) (n : Nat) (Γ Γ' : List Nat) (st : List Stmt) (m : Rho → Out) : Prop :=
  ∃ t, PSs X st t ∧ ∀ F H0 ρ σ H S R E, Sto X.K F H0 Γ ρ σ H S R → PostS X W F H0 Γ' n S H E (m ρ) → t E σ H

section
variable {X : Cx} {W : WX} {Γ : List Nat} {F : Fr} {S : Nat → List Addr} {H H' H0 : Hp} {σ : L2.St}
theorem Keep.refl : Keep S H H := fun _ _ e _ => e
theorem Keep.of_same (h : Same H H') : Keep S H H' := fun a o e _ => h a o e
theorem Grow.refl : Grow S H S := fun i a h => .inl ⟨i, h⟩
theorem Grow.trans {S1 S2 : Nat → List Addr} (g1 : Grow S H S1) (k : Keep S H H') (g2 : Grow S1 H' S2) : Grow S H S2 := fun i a h => by
  rcases g2 i a h with ⟨j, h⟩ | h
  · exact g1 j a h
  · by_cases e : ∃ j, a ∈ S j
    · exact .inl e
    · refine .inr ?_
      cases q : H a with
      | none => rfl
      | some o =>
        rw [k a o q fun i hi => e ⟨i, hi⟩] at h
        cases h
theorem Keep.trans {S1 : Nat → List Addr} {H2 : Hp} (k1 : Keep S H H') (g1 : Grow S H S1) (k2 : Keep S1 H' H2) : Keep S H H2 := fun a o e h => by
  refine k2 a o (k1 a o e h) fun i hi => ?_
  rcases g1 i a hi with ⟨j, hj⟩ | hn
  · exact h j hj
  · rw [e] at hn
    cases hn
theorem PostE.imp {Z : Addr → Prop} {n : Nat} {fr : Bool} {Q Q' : VK} {m : Res D} (h : PostE X W Z n fr σ H Q m) (q : ∀ x H', Q x H' → Q' x H') : PostE X W Z n fr σ H Q' m := by
  cases m with
  | ok d => exact fun x H' A B s d v f => q _ _ (h x H' A B s d v f)
  | exn c => exact h
  | stuck => exact h
theorem PostS.later {Γ' : List Nat} {n : Nat} {E : Ends} {S1 : Nat → List Addr} {o : Out} (h : PostS X W F H0 Γ' n S H E o) (k : Keep S H H') (g : Grow S H S1) : PostS X W F H0 Γ' n S1 H' E o := by
  cases o with
  | nx ρ' => exact fun σ' H2 S' R' st k' g' => h σ' H2 S' R' st (k.trans g k') (g.trans k g')
  | rt d => exact h
  | ex c ρ' => exact fun C σ' H2 S' R' hc st k' g' => h C σ' H2 S' R' hc st (k.trans g k') (g.trans k g')
  | stuck => exact h
end

section
variable {X : Cx} {W : WX} {Γ : List Nat} {e : Expr} {m : Rho → Res D}
theorem RE.w {n k : Nat} (h : RE X W Γ n true e m) (hk : k ≤ n := by decide) : RE X W Γ k true e m := by
  obtain ⟨t, p, q⟩ := h
  refine ⟨t, p, fun F H0 ρ σ H S R Q st po => q F H0 ρ σ H S R Q st ?_⟩
  cases e : m ρ with
  | stuck => rw [e] at po; exact po
  | exn c => rw [e] at po; exact po
  | ok d =>
    rw [e] at po
    refine fun x H' A B s d' v f => ?_
    obtain ⟨A', B', g, snd, sl, hb, ap⟩ := Dat.weakS hk d'
    obtain ⟨nd, new⟩ := f rfl
    refine po x H' A' B' s g (fun a ha => ?_) fun _ => ⟨snd nd, fun a ha => ⟨(new a (sl a ha)).1, ap nd (fun a ha => (new a ha).2) a ha⟩⟩
    rcases hb a ha with ha | ha
    · exact fun z => st.avd a z (new a ha).1
    · exact v a ha
theorem RE.own0 (h : RE X W Γ 0 false e m) : RE X W Γ 0 true e m := by
  obtain ⟨t, p, q⟩ := h
  refine ⟨t, p, fun F H0 ρ σ H S R Q st po => q F H0 ρ σ H S R Q st ?_⟩
  cases e : m ρ with
  | stuck => rw [e] at po; exact po
  | exn c => rw [e] at po; exact po
  | ok d =>
    rw [e] at po
    refine fun x H' A B s d' v f => ?_
    obtain rfl : A = [] := Dat.noS d'
    exact po x H' [] B s d' v fun _ => ⟨List.nodup_nil, fun a z => by simp at z⟩
theorem RE.bor {n : Nat} (h : RE X W Γ n true e m) : RE X W Γ n false e m := by
  obtain ⟨t, p, q⟩ := h
  refine ⟨t, p, fun F H0 ρ σ H S R Q st po => q F H0 ρ σ H S R Q st ?_⟩
  cases e : m ρ with
  | stuck => rw [e] at po; exact po
  | exn c => rw [e] at po; exact po
  | ok d =>
    rw [e] at po
    exact fun x H' A B s d' v f => po x H' A B s d' v (fun z => nomatch z)
end
def D.flat : D → Bool
  | .non => true
  | .bl _ => true
  | .int _ => true
  | .str _ => true
  | _ => false
theorem Dat.flat {K : PySem.W.Frag} {H : Hp} {d : D} {n : Nat} {v : V} {A B : List Addr} (h : Dat K H d n v A B) (f : d.flat = true) : A = [] ∧ B = [] ∧ ∀ k, Dat K H d k v [] [] := by
  cases d with
  | non => simp only [Dat] at h; obtain ⟨rfl, rfl, rfl⟩ := h; exact ⟨rfl, rfl, fun _ => by simp [Dat]⟩
  | bl b => simp only [Dat] at h; obtain ⟨rfl, rfl, rfl⟩ := h; exact ⟨rfl, rfl, fun _ => by simp [Dat]⟩
  | int i => simp only [Dat] at h; obtain ⟨rfl, rfl, rfl⟩ := h; exact ⟨rfl, rfl, fun _ => by simp [Dat]⟩
  | str s => simp only [Dat] at h; obtain ⟨rfl, rfl, rfl⟩ := h; exact ⟨rfl, rfl, fun _ => by simp [Dat]⟩
  | lst l => cases f
  | tup l => cases f
  | dK a b => cases f
  | dT a b => cases f
  | scr l => cases f
  | junk => cases f
  | ftup l => cases f
def mFlat (m : Rho → Res D) : Rho → Res D := fun ρ => (m ρ).bind fun d => if d.flat then .ok d else .stuck
section
variable {X : Cx} {W : WX} {Γ : List Nat} {e : Expr} {m : Rho → Res D}
theorem RE.flat {n k : Nat} {fr : Bool} (h : RE X W Γ n fr e m) : RE X W Γ k true e (mFlat m) := by
  obtain ⟨t, p, q⟩ := h
  refine ⟨t, p, fun F H0 ρ σ H S R Q st po => q F H0 ρ σ H S R Q st ?_⟩
  unfold mFlat at po
  cases e : m ρ with
  | stuck => rw [e] at po; exact po
  | exn c => rw [e] at po; exact po
  | ok d =>
    rw [e] at po
    simp only [Res.bind_ok] at po
    by_cases f : d.flat = true
    · rw [if_pos f] at po
      refine fun x H' A B s d' v fr' => ?_
      obtain ⟨rfl, rfl, g⟩ := d'.flat f
      exact po x H' [] [] s (g k) (fun a z => by simp at z) fun _ => ⟨List.nodup_nil, fun a z => by simp at z⟩
    · rw [if_neg f] at po
      exact po.elim
end
end TW

-- TWStrs
namespace TW
open PySem PySem.Spec PyProof.Rows L2
def strRep (s : Str) (k : Nat) : Str := ⟨(List.replicate k s.cps).foldl (· ++ ·) #[]⟩
theorem foldl_rep (a : Array Nat) : ∀ (k : Nat) (b : Array Nat), ((List.replicate k a).foldl (· ++ ·) b).toList = b.toList ++ (List.replicate k a.toList).flatten
  | 0, b => by simp
  | k + 1, b => by rw [List.replicate_succ, List.foldl_cons, foldl_rep a k, List.replicate_succ, List.flatten_cons]; simp
theorem strRep_list (s : Str) (k : Nat) : (strRep s k).cps.toList = (List.replicate k s.cps.toList).flatten := by
  unfold strRep
  rw [foldl_rep]; simp
theorem strRep_length (s : Str) (k : Nat) : (strRep s k).length = s.length * k := by
  show (strRep s k).cps.size = s.cps.size * k
  rw [← Array.length_toList, strRep_list, List.length_flatten, List.map_replicate, List.sum_replicate_nat, Array.length_toList, Nat.mul_comm]
def rRepS : R2 := fun x y H Q => ∃ (s : Str) (k : Int), x = .str s ∧ y = .int k ∧ -(2 ^ 63) ≤ k ∧ k < 2 ^ 63 ∧ s.length * k.toNat ≤ sizeLine ∧ Q (.str (strRep s k.toNat)) H
theorem op_mulS {X : Cx} : OpR X (binaryOp .Mult) rRepS := by
  intro pins s σ H x y v u Q I rx ry h
  obtain ⟨a, k, rfl, rfl, h1, h2, h3, q⟩ := h
  obtain ⟨t, rfl⟩ := rx
  obtain ⟨t', rfl⟩ := ry
  refine P.mul_str (by rw [decide_eq_false (by omega), decide_eq_false (by omega)]; rfl) (fun c1 c2 z => ?_) (fun c1 c2 => ?_) ?_
  · have hk : 0 < k := by omega
    have e : (a.length : Int) * k ≤ sizeLine := by
      have : k = (k.toNat : Int) := by omega
      rw [this]; exact_mod_cast h3
    have e2 : (a.length : Int) ≤ (2 ^ 63 - 1) / k := by
      refine (Int.le_ediv_iff_mul_le hk).mpr (Int.le_trans e ?_)
      show ((sizeLine : Nat) : Int) ≤ _
      decide
    omega
  · simpa [Builtin.Str.tooLong] using h3
  · have hl : (strRep a k.toNat).length ≤ sizeLine := by rw [strRep_length]; exact h3
    split
    · rename_i c
      have e : strRep a k.toNat = Str.empty := by rw [show k.toNat = 0 by omega]; rfl
      rw [e] at q hl
      exact ⟨hl, .str Str.empty, H, I.tok _, ⟨_, rfl⟩, q⟩
    · rename_i c
      split
      · rename_i d
        have e : strRep a k.toNat = a := by
          rcases Bool.or_eq_true_iff.mp d with d | d
          · have := eq_of_beq d
            subst this
            show (⟨_⟩ : Str) = a
            cases a
            simp
          · have d : a.cps.size = 0 := eq_of_beq d
            have d2 : a.cps.toList = [] := List.length_eq_zero_iff.mp (by rw [Array.length_toList]; exact d)
            have : (strRep a k.toNat).cps.toList = a.cps.toList := by rw [strRep_list, d2]; simp
            cases a with
            | mk c =>
              show (⟨(strRep ⟨c⟩ k.toNat).cps⟩ : Str) = ⟨c⟩
              congr 1
              exact Array.toList_inj.mp this
        rw [e] at q
        exact ⟨.str a, H, I, ⟨_, rfl⟩, q⟩
      · exact ⟨hl, .str _, H, I.tok _, ⟨_, rfl⟩, q⟩
end TW

-- TWOps
namespace TW
open PySem PySem.Spec PyProof.Rows L2

def mVar (i : Nat) : Rho → Res D := fun ρ => match ρ[i]? with
  | some (some d) => .ok d
  | _ => .stuck
def mC (d : D) : Rho → Res D := fun _ => .ok d
def ofO {α : Type} : Option α → Res α
  | some a => .ok a
  | none => .stuck
@[simp] theorem ofO_some {α : Type} (a : α) : ofO (some a) = .ok a := id rfl
@[simp] theorem ofO_none {α : Type} : ofO (none : Option α) = .stuck := id rfl
def m1 (g : D → Option D) (a : Rho → Res D) : Rho → Res D := fun ρ => (a ρ).bind fun x => ofO (g x)
def m2 (g : D → D → Option D) (a b : Rho → Res D) : Rho → Res D := fun ρ => (a ρ).bind fun x => (b ρ).bind fun y => ofO (g x y)
def mA0 : Rho → Res (List D) := fun _ => .ok []
def mA1 (a : Rho → Res D) (r : Rho → Res (List D)) : Rho → Res (List D) := fun ρ => (a ρ).bind fun x => (r ρ).bind fun xs => .ok (x :: xs)
def mArgs (g : List D → Res D) (a : Rho → Res (List D)) : Rho → Res D := fun ρ => (a ρ).bind g
def mL (g : List D → Option D) (a : Rho → Res (List D)) : Rho → Res D := fun ρ => (a ρ).bind fun x => ofO (g x)

section
variable {K : PySem.W.Frag} {Z : Addr → Prop} {n : Nat} {fr : Bool} {H H' : Hp} {Q : VK} {d : D}
theorem New.later {A B : List Addr} (h : New H' A B) (s : Same H H') : New H A B := ⟨h.1, fun a ha => ⟨s.free (h.2 a ha).1, (h.2 a ha).2⟩⟩
theorem New.nil {B : List Addr} : New H [] B := ⟨List.nodup_nil, fun a z => by simp at z⟩
theorem PostV.later (h : PostV K Z n fr H Q d) (s : Same H H') : PostV K Z n fr H' Q d := fun x H2 A B s2 g v f =>
  h x H2 A B (s.trans s2) g v fun e => (f e).later s
theorem PostV.flat (h : PostV K Z n fr H Q d) (f : d.flat = true) {x : V} (g : ∀ k, Dat K H d k x [] []) : Q x H :=
  h x H [] [] (Same.refl H) (g n) (fun a z => by simp at z) fun _ => New.nil
theorem same_new {p : Addr} {o : HO} (h : H p = none) : Same H (upd H p o) := fun b x e => by
  rw [upd_ne (ne_of_none e h)]
  exact e
end
section
variable {X : Cx} {W : WX} {Γ : List Nat} {n : Nat} {fr : Bool} {F : Fr} {S R : Nat → List Addr} {H H' H0 : Hp} {σ : L2.St} {ρ : Rho} {Q : VK}
theorem PostE.later {Z : Addr → Prop} {m : Res D} (h : PostE X W Z n fr σ H Q m) (s : Same H H') : PostE X W Z n fr σ H' Q m := by
  cases m with
  | ok d => exact PostV.later h s
  | exn c => exact fun C H2 e s2 => h C H2 e (s.trans s2)
  | stuck => exact h
theorem PostA.later {Z : Addr → Prop} {Q : List V → Hp → Prop} {m : Res (List D)} (h : PostA X W Z n fr σ H Q m) (s : Same H H') : PostA X W Z n fr σ H' Q m := by
  cases m with
  | ok d => exact fun x H2 A B s2 g v f => h x H2 A B (s.trans s2) g v fun e => (f e).later s
  | exn c => exact fun C H2 e s2 => h C H2 e (s.trans s2)
  | stuck => exact h
theorem PostT.later {Q : Bool → Hp → Prop} {m : Res Bool} (h : PostT X W σ H Q m) (s : Same H H') : PostT X W σ H' Q m := by
  cases m with
  | ok d => exact fun H2 s2 => h H2 (s.trans s2)
  | exn c => exact fun C H2 e s2 => h C H2 e (s.trans s2)
  | stuck => exact h
def PostX (X : Cx) (W : WX) (σ : L2.St) (H : Hp) {α : Type} (ok : α → Prop) : Res α → Prop
  | .ok d => ok d
  | .exn c => ∀ C H', X.mg c = some (.ref C) → Same H H' → W (.ref C) none σ H'
  | .stuck => False
theorem PostX.imp {α : Type} {ok ok' : α → Prop} {m : Res α} (h : PostX X W σ H ok m) (q : ∀ d, m = .ok d → ok d → ok' d) : PostX X W σ H ok' m := by
  cases m with
  | ok d => exact q d rfl h
  | exn c => exact h
  | stuck => exact h
theorem PostX.bind {α β : Type} {ok : β → Prop} {m : Res α} {f : α → Res β} (h : PostX X W σ H ok (m.bind f)) : PostX X W σ H (fun d => PostX X W σ H ok (f d)) m := by
  cases m with
  | ok d => exact h
  | exn c => exact h
  | stuck => exact h
theorem PostX.later {α : Type} {ok ok' : α → Prop} {m : Res α} (h : PostX X W σ H ok m) (s : Same H H') (q : ∀ d, m = .ok d → ok d → ok' d) : PostX X W σ H' ok' m := by
  cases m with
  | ok d => exact q d rfl h
  | exn c => exact fun C H2 e s2 => h C H2 e (s.trans s2)
  | stuck => exact h
theorem PostE.iff {Z : Addr → Prop} {m : Res D} : PostE X W Z n fr σ H Q m ↔ PostX X W σ H (PostV X.K Z n fr H Q) m := by
  cases m <;> exact Iff.rfl
theorem PostT.iff {Q : Bool → Hp → Prop} {m : Res Bool} : PostT X W σ H Q m ↔ PostX X W σ H (fun b => ∀ H', Same H H' → Q b H') m := by
  cases m <;> exact Iff.rfl
theorem PostA.iff {Z : Addr → Prop} {Q : List V → Hp → Prop} {m : Res (List D)} : PostA X W Z n fr σ H Q m ↔ PostX X W σ H (fun ds => ∀ xs H' A B, Same H H' → Dats X.K H' ds n xs A B → (∀ a ∈ B, ¬ Z a) → (fr = true → New H A B) → Q xs H') m := by
  cases m <;> exact Iff.rfl
end

section
variable {X : Cx} {W : WX} {Γ : List Nat} {n : Nat} {e : Expr} {x : Str} {pos : Pos} {m : Rho → Res D}
theorem re_own {i : Nat} (hv : PE X e (tVar i)) (k : Nat) (hk : Γ.getD i 0 = k := by rfl) : RE X W Γ k false e (mVar i) := by
  refine ⟨_, hv, fun F H0 ρ σ H S R Q st po => ?_⟩
  unfold mVar at po
  split at po
  · rename_i d e
    obtain ⟨x, e1, q⟩ := st.slot i d e
    rw [hk] at q
    exact ⟨x, e1, po x H _ _ (Same.refl H) q (fun a ha z => z.elim (st.rf i a ha) fun ⟨j, hj⟩ => st.rs i j a ha hj) fun z => nomatch z⟩
  · exact po.elim
theorem re_v {i : Nat} (hv : PE X e (tVar i)) (hk : Γ.getD i 0 = 0 := by rfl) : RE X W Γ 0 true e (mVar i) := (re_own hv 0 hk).own0
theorem re_c {v : V} {d : D} (hc : PE X e (tC v)) (f : d.flat = true) (h : ∀ K H k, Dat K H d k v [] []) : RE X W Γ n true e (mC d) := by
  refine ⟨_, hc, fun F H0 ρ σ H S R Q st po => ?_⟩
  exact PostV.flat po f (h X.K H)
theorem re_int {i : Int} {j} : RE X W Γ n true (.Constant (.int i) j pos) (mC (.int i)) := re_c pe_int rfl fun _ _ _ => by simp [Dat]
theorem re_str {i : Str} {j} : RE X W Γ n true (.Constant (.str i) j pos) (mC (.str i)) := re_c pe_str rfl fun _ _ _ => by simp [Dat]
theorem re_bl {i : Bool} {j} : RE X W Γ n true (.Constant (.bool i) j pos) (mC (.bl i)) := re_c pe_bl rfl fun _ _ _ => by simp [Dat]
theorem re_non {j} : RE X W Γ n true (.Constant .none j pos) (mC .non) := re_c pe_non rfl fun _ _ _ => by simp [Dat]
end
def BinV (K : PySem.W.Frag) (r : R2) (g : D → D → Option D) (n : Nat) : Prop :=
  ∀ (Z : Addr → Prop) (x y : V) (d e z : D) (H : Hp) (B1 B2 : List Addr) (Q : VK), (∀ a, Z a → H a ≠ none) → Dat K H d 0 x [] B1 → Dat K H e 0 y [] B2 → (∀ a ∈ B1, ¬ Z a) → (∀ a ∈ B2, ¬ Z a) →
    g d e = some z → PostV K Z n true H Q z → r x y H Q
def BinF (K : PySem.W.Frag) (r : R2) (g : D → D → Option D) : Prop :=
  ∀ (x y : V) (d e z : D) (H : Hp) (B1 B2 : List Addr) (Q : VK), Dat K H d 0 x [] B1 → Dat K H e 0 y [] B2 → g d e = some z → (z.flat = true → ∀ v, (∀ k, Dat K H z k v [] []) → Q v H) → r x y H Q
theorem PostE.ofO {X : Cx} {W : WX} {Z : Addr → Prop} {n : Nat} {fr : Bool} {σ : L2.St} {H : Hp} {Q : VK} {o : Option D} (h : PostE X W Z n fr σ H Q (ofO o)) : ∃ z, o = some z ∧ PostV X.K Z n fr H Q z := by
  cases o with
  | none => exact h.elim
  | some z => exact ⟨z, rfl, h⟩
section
variable {X : Cx} {W : WX} {Γ : List Nat} {n n1 n2 : Nat} {f1 f2 fr : Bool} {a b : Expr} {pos : Pos} {ma mb : Rho → Res D} {r : R2} {g : D → D → Option D}
theorem bin_run (hv : BinV X.K r g n) {ta tb : TE} {F : Fr} {H0 : Hp} {ρ : Rho} {σ : L2.St} {H : Hp} {S R : Nat → List Addr} {Q : VK}
    (qa : ∀ F H0 ρ σ H S R Q, Sto X.K F H0 Γ ρ σ H S R → PostE X W (Av F S) 0 true σ H Q (ma ρ) → ta σ H Q) (qb : ∀ F H0 ρ σ H S R Q, Sto X.K F H0 Γ ρ σ H S R → PostE X W (Av F S) 0 true σ H Q (mb ρ) → tb σ H Q)
    (st : Sto X.K F H0 Γ ρ σ H S R) (po : PostE X W (Av F S) n true σ H Q (m2 g ma mb ρ)) : tOp r ta tb σ H Q := by
  refine qa F H0 ρ σ H S R _ st (PostE.iff.mpr ((PostE.iff.mp po).bind.imp fun d _ po => ?_))
  intro x H1 A B s1 d1 v1 _
  refine qb F H0 ρ σ H1 S R _ (st.grow s1) (PostE.iff.mpr (po.bind.later s1 fun e ee po => ?_))
  intro y H2 A' B' s2 d2 v2 _
  obtain rfl : A = [] := Dat.noS d1
  obtain rfl : A' = [] := Dat.noS d2
  obtain ⟨z, ez, po⟩ := PostE.ofO (PostE.iff.mpr po)
  exact hv (Av F S) x y d e z H2 B B' Q ((st.grow s1).grow s2).avd (d1.same s2) d2 v1 v2 ez (PostV.later po (s1.trans s2))
theorem binf_run (hv : BinF X.K r g) {ta tb : TE} {F : Fr} {H0 : Hp} {ρ : Rho} {σ : L2.St} {H : Hp} {S R : Nat → List Addr} {Q : VK}
    (qa : ∀ F H0 ρ σ H S R Q, Sto X.K F H0 Γ ρ σ H S R → PostE X W (Av F S) n1 f1 σ H Q (ma ρ) → ta σ H Q) (qb : ∀ F H0 ρ σ H S R Q, Sto X.K F H0 Γ ρ σ H S R → PostE X W (Av F S) n2 f2 σ H Q (mb ρ) → tb σ H Q)
    (st : Sto X.K F H0 Γ ρ σ H S R) (po : PostX X W σ H (fun z => ∀ H', Same H H' → z.flat = true → ∀ v, (∀ k, Dat X.K H' z k v [] []) → Q v H') (m2 g ma mb ρ)) : tOp r ta tb σ H Q := by
  refine qa F H0 ρ σ H S R _ st (PostE.iff.mpr (po.bind.imp fun d _ po => ?_))
  intro x H1 A B s1 d1 _ _
  refine qb F H0 ρ σ H1 S R _ (st.grow s1) (PostE.iff.mpr (po.bind.later s1 fun e ee po => ?_))
  intro y H2 A' B' s2 d2 _ _
  obtain ⟨S1, R1, d1, l1, _⟩ := Dat.weak d n1 0 x A B (Nat.zero_le _) d1
  obtain ⟨S2, R2, d2, l2, _⟩ := Dat.weak e n2 0 y A' B' (Nat.zero_le _) d2
  obtain rfl : S1 = [] := Dat.noS d1
  obtain rfl : S2 = [] := Dat.noS d2
  cases ez : g d e with
  | none => rw [ez] at po; exact po.elim
  | some z =>
    rw [ez] at po
    exact hv x y d e z H2 R1 R2 Q (d1.same s2) d2 ez (po H2 (s1.trans s2))
theorem re_bin {op : Operator} (ho : OpR X (binaryOp op) r) (hv : BinV X.K r g n) (ha : RE X W Γ 0 true a ma) (hb : RE X W Γ 0 true b mb) : RE X W Γ n true (.BinOp a op b pos) (m2 g ma mb) := by
  obtain ⟨ta, pa, qa⟩ := ha
  obtain ⟨tb, pb, qb⟩ := hb
  exact ⟨_, pe_op ho pa pb, fun F H0 ρ σ H S R Q st po => bin_run hv qa qb st po⟩
theorem re_cmp {op : CmpOp} (ho : OpR X (compareOp op) r) (hv : BinF X.K r g) (hm : behindInMarks op b = false) (ha : RE X W Γ n1 f1 a ma) (hb : RE X W Γ n2 f2 b mb) : RE X W Γ n true (.Compare a [op] [b] pos) (m2 g ma mb) := by
  obtain ⟨ta, pa, qa⟩ := ha
  obtain ⟨tb, pb, qb⟩ := hb
  exact ⟨_, pe_cmpR ho pa pb hm, fun F H0 ρ σ H S R Q st po => binf_run hv qa qb st ((PostE.iff.mp po).imp fun z _ po H' s f v hd =>
    po v H' [] [] s (hd n) (fun a z => by simp at z) fun _ => New.nil)⟩
def ofB : D → Res Bool
  | .bl b => .ok b
  | _ => .stuck
def mT (m : Rho → Res D) : Rho → Res Bool := fun ρ => (m ρ).bind ofB
theorem dat_bl {K : PySem.W.Frag} {H : Hp} {b : Bool} {n : Nat} {v : V} {A B : List Addr} (h : Dat K H (.bl b) n v A B) : v = .bl b := by
  simp only [Dat] at h
  exact h.1
theorem rt_cmp {op : CmpOp} (ho : OpR X (compareOp op) r) (hv : BinF X.K r g) (hm : behindInMarks op b = false) (ha : RE X W Γ n1 f1 a ma) (hb : RE X W Γ n2 f2 b mb) : RT X W Γ (.Compare a [op] [b] pos) (mT (m2 g ma mb)) := by
  obtain ⟨ta, pa, qa⟩ := ha
  obtain ⟨tb, pb, qb⟩ := hb
  refine ⟨_, pt_cmpR ho pa pb hm, fun F H0 ρ σ H S R Q st po => ?_⟩
  unfold mT at po
  refine binf_run (Q := fun x H1 => ∃ k, x = .bl k ∧ Q k H1) hv qa qb st ((PostT.iff.mp po).bind.imp fun z _ po H' s f v hd => ?_)
  cases z with
  | bl c => exact ⟨c, dat_bl (hd 0), po H' s⟩
  | _ => exact po.elim
theorem rt_val (ha : RE X W Γ n1 f1 a ma) (he : ∀ whole, isTrue a X.env whole = (do let v ← whole; standAt a.pos; holding [v] (truthy v)) := by intro _; rfl) : RT X W Γ a (mT ma) := by
  obtain ⟨ta, pa, qa⟩ := ha
  refine ⟨_, pt_val pa he, fun F H0 ρ σ H S R Q st po => ?_⟩
  unfold mT at po
  refine qa F H0 ρ σ H S R _ st (PostE.iff.mpr ((PostT.iff.mp po).bind.imp fun z _ po => ?_))
  intro x H1 A B s1 d1 _ _
  cases z with
  | bl c => exact ⟨c, dat_bl d1, po H1 s1⟩
  | _ => exact po.elim
end

def gAdd : D → D → Option D
  | .int i, .int j => some (.int (i + j))
  | .str i, .str j => if i.length + j.length ≤ sizeLine then some (.str (i ++ j)) else none
  | .lst i, .lst j => if i.length + j.length ≤ sizeLine then some (.lst (i ++ j)) else none
  | .tup i, .tup j => if i.length + j.length ≤ sizeLine then some (.tup (i ++ j)) else none
  | _, _ => none
def gSub : D → D → Option D
  | .int i, .int j => some (.int (i - j))
  | _, _ => none
def gMul : D → D → Option D
  | .int i, .int j => if i.natAbs.log2 + j.natAbs.log2 < 1000000 then some (.int (i * j)) else none
  | .lst i, .int k => if -(2 ^ 63) ≤ k ∧ k < 2 ^ 63 ∧ i.length * k.toNat ≤ sizeLine then some (.lst (List.replicate k.toNat i).flatten) else none
  | .str s, .int k => if -(2 ^ 63) ≤ k ∧ k < 2 ^ 63 ∧ s.length * k.toNat ≤ sizeLine then some (.str (strRep s k.toNat)) else none
  | _, _ => none
def gDiv : D → D → Option D
  | .int i, .int j => if 0 < j ∧ j.natAbs.log2 < 9000 then some (.int (i / j)) else none
  | _, _ => none
def gMod : D → D → Option D
  | .int i, .int j => if 0 < j then some (.int (i % j)) else none
  | _, _ => none
def gPow : D → D → Option D
  | .int i, .int j => if 0 ≤ j ∧ j ≤ 1000000 ∧ i.natAbs < 2 ^ 64 then some (.int (i ^ j.toNat)) else none
  | _, _ => none
theorem OpR.or {X : Cx} {f : Value → Value → Sem Value} {r r' : R2} (h : OpR X f r) (h' : OpR X f r') : OpR X f (fun x y H Q => r x y H Q ∨ r' x y H Q) :=
  fun pins s σ H x y v u Q I rx ry q => q.elim (h pins s σ H x y v u Q I rx ry) (h' pins s σ H x y v u Q I rx ry)
theorem dat_int {K : PySem.W.Frag} {H : Hp} {i : Int} {n : Nat} {v : V} {A B : List Addr} (h : Dat K H (.int i) n v A B) : v = .int i := by
  simp only [Dat] at h
  exact h.1
theorem dat_str {K : PySem.W.Frag} {H : Hp} {i : Str} {n : Nat} {v : V} {A B : List Addr} (h : Dat K H (.str i) n v A B) : v = .str i := by
  simp only [Dat] at h
  exact h.1
theorem dat_of_int {K : PySem.W.Frag} {H : Hp} {i : Int} (k : Nat) : Dat K H (.int i) k (.int i) [] [] := by simp [Dat]
theorem dat_of_str {K : PySem.W.Frag} {H : Hp} {i : Str} (k : Nat) : Dat K H (.str i) k (.str i) [] [] := by simp [Dat]
theorem dat_of_bl {K : PySem.W.Frag} {H : Hp} {i : Bool} (k : Nat) : Dat K H (.bl i) k (.bl i) [] [] := by simp [Dat]
theorem dat_of_non {K : PySem.W.Frag} {H : Hp} (k : Nat) : Dat K H .non k .non [] [] := by simp [Dat]
theorem dat_lst0 {K : PySem.W.Frag} {H : Hp} {ds : List D} {v : V} {B : List Addr} (h : Dat K H (.lst ds) 0 v [] B) : ∃ a xs R', v = .ref a ∧ H a = some (.lst xs) ∧ B = a :: R' ∧ Dats K H ds 0 xs [] R' := by
  simp only [Dat] at h
  obtain ⟨a, xs, R', e, q, _, r, d⟩ := h
  exact ⟨a, xs, R', e, q, r, d⟩
theorem dat_tup0 {K : PySem.W.Frag} {H : Hp} {ds : List D} {v : V} {B : List Addr} (h : Dat K H (.tup ds) 0 v [] B) : ∃ a xs, v = .ref a ∧ H a = some (.tup xs) ∧ Dats K H ds 0 xs [] B := by
  simp only [Dat] at h
  exact h
theorem dat_ftup0 {K : PySem.W.Frag} {H : Hp} {ds : List D} {v : V} {B : List Addr} (h : Dat K H (.ftup ds) 0 v [] B) : ∃ a xs, v = .ref a ∧ (∃ o : Obj, o.dict = none ∧ H a = some (.frz o (.tup xs))) ∧ Dats K H ds 0 xs [] B := by
  simp only [Dat] at h
  exact h
theorem sqt_frz {K : PySem.W.Frag} {H : Hp} {a : Addr} {xs : List V} (h : ∃ o : Obj, o.dict = none ∧ H a = some (.frz o (.tup xs))) : SqT K H a xs := let ⟨o, _, q⟩ := h; .inl (.inr ⟨o, q⟩)
theorem new_lst {K : PySem.W.Frag} {Z : Addr → Prop} {H : Hp} {Q : VK} {ds : List D} {xs : List V} {B : List Addr} {p : Addr} {n : Nat} (po : PostV K Z n true H Q (.lst ds)) (hp : H p = none) (hd : Dats K H ds (n - 1) xs [] B) (hb : ∀ a ∈ B, ¬ Z a) (hz : ∀ a, Z a → H a ≠ none) : Q (.ref p) (upd H p (.lst xs)) := by
  cases n with
  | zero =>
    refine po (.ref p) _ [] (p :: B) (same_new hp) ?_ (fun a ha z => ?_) fun _ => New.nil
    · unfold Dat
      exact ⟨p, xs, B, rfl, upd_same, rfl, rfl, hd.same (same_new hp)⟩
    · rcases List.mem_cons.mp ha with rfl | ha
      · exact hz _ z hp
      · exact hb a ha z
  | succ n =>
    refine po (.ref p) _ [p] B (same_new hp) ?_ hb fun _ => ⟨by simp, fun a z => by simp at z; rw [z]; exact ⟨hp, fun hB => Dats.domR hd p hB hp⟩⟩
    show Dat K _ (.lst ds) (n + 1) _ _ _
    unfold Dat
    exact ⟨p, xs, [], rfl, upd_same, rfl, hd.same (same_new hp)⟩
theorem new_tup {K : PySem.W.Frag} {Z : Addr → Prop} {H : Hp} {Q : VK} {ds : List D} {xs : List V} {B : List Addr} {p : Addr} {n : Nat} (po : PostV K Z n true H Q (.tup ds)) (hp : H p = none) (hd : Dats K H ds (n - 1) xs [] B) (hb : ∀ a ∈ B, ¬ Z a) : Q (.ref p) (upd H p (.tup xs)) := by
  refine po (.ref p) _ [] B (same_new hp) ?_ hb fun _ => New.nil
  unfold Dat
  exact ⟨p, xs, rfl, upd_same, hd.same (same_new hp)⟩
def rAdd (K : PySem.W.Frag) : R2 := fun x y H Q => (rI0 (fun i j => .int (i + j)) x y H Q ∨ ∃ i j, x = .str i ∧ y = .str j ∧ i.length + j.length ≤ sizeLine ∧ Q (.str (i ++ j)) H) ∨ (rCat x y H Q ∨ rCatA K x y H Q)
theorem op_addD {X : Cx} : OpR X (binaryOp .Add) (rAdd X.K) := OpR.or (OpR.or op_add op_add_str) (OpR.or op_cat op_catA)
theorem bv_add {K : PySem.W.Frag} {n : Nat} (hn : n ≤ 1 := by decide) : BinV K (rAdd K) gAdd n := by
  intro Z x y d e z H B1 B2 Q hz h1 h2 v1 v2 ez po
  unfold gAdd at ez
  split at ez
  · cases ez
    rename_i i j
    exact .inl (.inl ⟨i, j, dat_int h1, dat_int h2, po.flat rfl dat_of_int⟩)
  · rename_i i j
    split at ez
    · rename_i hl
      cases ez
      exact .inl (.inr ⟨i, j, dat_str h1, dat_str h2, hl, po.flat rfl dat_of_str⟩)
    · cases ez
  · rename_i i j
    split at ez
    · rename_i hl
      cases ez
      obtain ⟨a, xs, R1, rfl, q1, rfl, d1⟩ := dat_lst0 h1
      obtain ⟨b, ys, R2, rfl, q2, rfl, d2⟩ := dat_lst0 h2
      refine .inr (.inl ⟨a, b, xs, ys, rfl, rfl, q1, q2, by rw [d1.length, d2.length]; exact hl, fun p hp => ?_⟩)
      have dd : Dats K H (i ++ j) (n - 1) (xs ++ ys) ([] ++ []) (R1 ++ R2) := by
        rw [show n - 1 = 0 by omega]
        exact d1.append d2
      refine new_lst po hp dd (fun a ha => ?_) hz
      rcases List.mem_append.mp ha with ha | ha
      · exact v1 a (List.mem_cons_of_mem _ ha)
      · exact v2 a (List.mem_cons_of_mem _ ha)
    · cases ez
  · rename_i i j
    split at ez
    · rename_i hl
      cases ez
      obtain ⟨a, xs, rfl, q1, d1⟩ := dat_tup0 h1
      obtain ⟨b, ys, rfl, q2, d2⟩ := dat_tup0 h2
      have e0 : n - 1 = 0 := by omega
      refine .inr (.inr ⟨a, b, xs, ys, rfl, rfl, .of q1, .of q2, by rw [d1.length, d2.length]; exact hl, fun e => ?_, fun e e' => ?_, fun e e' p hp => ?_⟩)
      · subst e
        have : i = [] := List.length_eq_zero_iff.mp (by rw [← d1.length]; rfl)
        subst this
        refine po _ H [] B2 (Same.refl H) ?_ v2 fun _ => New.nil
        unfold Dat
        exact ⟨b, ys, rfl, q2, by rw [e0]; simpa using d2⟩
      · subst e'
        have : j = [] := List.length_eq_zero_iff.mp (by rw [← d2.length]; rfl)
        subst this
        refine po _ H [] B1 (Same.refl H) ?_ v1 fun _ => New.nil
        unfold Dat
        exact ⟨a, xs, rfl, q1, by rw [e0]; simpa using d1⟩
      · have dd : Dats K H (i ++ j) (n - 1) (xs ++ ys) ([] ++ []) (B1 ++ B2) := by
          rw [e0]
          exact d1.append d2
        refine new_tup po hp dd fun a ha => ?_
        rcases List.mem_append.mp ha with ha | ha
        · exact v1 a ha
        · exact v2 a ha
    · cases ez
  · cases ez
theorem bv_sub {K : PySem.W.Frag} {n : Nat} : BinV K (rI0 fun i j => .int (i - j)) gSub n := by
  intro Z x y d e z H B1 B2 Q hz h1 h2 v1 v2 ez po
  unfold gSub at ez
  split at ez
  · cases ez
    rename_i i j
    exact ⟨i, j, dat_int h1, dat_int h2, po.flat rfl dat_of_int⟩
  · cases ez
def rMul : R2 := fun x y H Q => (rI CMulW (fun i j => .int (i * j)) x y H Q ∨ rRep x y H Q) ∨ rRepS x y H Q
theorem op_mulD {X : Cx} : OpR X (binaryOp .Mult) rMul := OpR.or (OpR.or op_mulW op_rep) op_mulS
theorem Dats.rep {K : PySem.W.Frag} {H : Hp} {ds : List D} {n : Nat} {xs : List V} {R : List Addr} (h : Dats K H ds n xs [] R) : ∀ k : Nat, ∃ R', Dats K H (List.replicate k ds).flatten n (List.replicate k xs).flatten [] R' ∧ ∀ a ∈ R', a ∈ R
  | 0 => ⟨[], by simpa using Dats.nil, fun a z => by simp at z⟩
  | k + 1 => by
    obtain ⟨R', q, i⟩ := Dats.rep h k
    refine ⟨R ++ R', ?_, fun a ha => ?_⟩
    · rw [List.replicate_succ, List.replicate_succ, List.flatten_cons, List.flatten_cons]
      simpa using h.append q
    · rcases List.mem_append.mp ha with ha | ha
      · exact ha
      · exact i a ha
theorem bv_mul {K : PySem.W.Frag} {n : Nat} (hn : n ≤ 1 := by decide) : BinV K rMul gMul n := by
  intro Z x y d e z H B1 B2 Q hz h1 h2 v1 v2 ez po
  unfold gMul at ez
  split at ez
  · rename_i i j
    split at ez
    · rename_i hl
      cases ez
      exact .inl <| .inl ⟨i, j, dat_int h1, dat_int h2, hl, po.flat rfl dat_of_int⟩
    · cases ez
  · rename_i i k
    split at ez
    · rename_i hl
      cases ez
      obtain ⟨a, xs, R1, rfl, q1, rfl, d1⟩ := dat_lst0 h1
      obtain ⟨R', dd, hr⟩ := d1.rep k.toNat
      refine .inl <| .inr ⟨a, k, xs, rfl, dat_int h2, q1, hl.1, hl.2.1, by rw [d1.length]; exact hl.2.2, fun p hp => ?_⟩
      refine new_lst po hp (B := R') (by rw [show n - 1 = 0 by omega]; exact dd) (fun a ha => v1 a (List.mem_cons_of_mem _ (hr a ha))) hz
    · cases ez
  · rename_i s k
    split at ez
    · rename_i hl
      cases ez
      exact .inr ⟨s, k, dat_str h1, dat_int h2, hl.1, hl.2.1, hl.2.2, po.flat rfl dat_of_str⟩
    · cases ez
  · cases ez
theorem bv_div {K : PySem.W.Frag} {n : Nat} : BinV K (rI CDivW fun i j => .int (i / j)) gDiv n := by
  intro Z x y d e z H B1 B2 Q hz h1 h2 v1 v2 ez po
  unfold gDiv at ez
  split at ez
  · rename_i i j
    split at ez
    · rename_i hl
      cases ez
      exact ⟨i, j, dat_int h1, dat_int h2, hl, po.flat rfl dat_of_int⟩
    · cases ez
  · cases ez
theorem bv_mod {K : PySem.W.Frag} {n : Nat} : BinV K (rI (fun _ j => 0 < j) fun i j => .int (i % j)) gMod n := by
  intro Z x y d e z H B1 B2 Q hz h1 h2 v1 v2 ez po
  unfold gMod at ez
  split at ez
  · rename_i i j
    split at ez
    · rename_i hl
      cases ez
      exact ⟨i, j, dat_int h1, dat_int h2, hl, po.flat rfl dat_of_int⟩
    · cases ez
  · cases ez
theorem bv_pow {K : PySem.W.Frag} {n : Nat} : BinV K (rI CPow fun i j => .int (i ^ j.toNat)) gPow n := by
  intro Z x y d e z H B1 B2 Q hz h1 h2 v1 v2 ez po
  unfold gPow at ez
  split at ez
  · rename_i i j
    split at ez
    · rename_i hl
      cases ez
      exact ⟨i, j, dat_int h1, dat_int h2, hl, po.flat rfl dat_of_int⟩
    · cases ez
  · cases ez
section
variable {X : Cx} {W : WX} {Γ : List Nat} {n : Nat} {a b : Expr} {pos : Pos} {ma mb : Rho → Res D}
theorem re_add (ha : RE X W Γ 0 true a ma) (hb : RE X W Γ 0 true b mb) (hn : n ≤ 1 := by decide) : RE X W Γ n true (.BinOp a .Add b pos) (m2 gAdd ma mb) := re_bin op_addD (bv_add hn) ha hb
theorem re_sub (ha : RE X W Γ 0 true a ma) (hb : RE X W Γ 0 true b mb) : RE X W Γ n true (.BinOp a .Sub b pos) (m2 gSub ma mb) := re_bin op_sub bv_sub ha hb
theorem re_mul (ha : RE X W Γ 0 true a ma) (hb : RE X W Γ 0 true b mb) (hn : n ≤ 1 := by decide) : RE X W Γ n true (.BinOp a .Mult b pos) (m2 gMul ma mb) := re_bin op_mulD (bv_mul hn) ha hb
theorem re_div (ha : RE X W Γ 0 true a ma) (hb : RE X W Γ 0 true b mb) : RE X W Γ n true (.BinOp a .FloorDiv b pos) (m2 gDiv ma mb) := re_bin op_fdivW bv_div ha hb
theorem re_mod (ha : RE X W Γ 0 true a ma) (hb : RE X W Γ 0 true b mb) : RE X W Γ n true (.BinOp a .Mod b pos) (m2 gMod ma mb) := re_bin op_mod bv_mod ha hb
theorem re_pow (ha : RE X W Γ 0 true a ma) (hb : RE X W Γ 0 true b mb) : RE X W Γ n true (.BinOp a .Pow b pos) (m2 gPow ma mb) := re_bin op_pow bv_pow ha hb
end
end TW

-- TWExpr
namespace TW
open PySem PySem.Spec PyProof.Rows L2

def gLt : D → D → Option D
  | .int i, .int j => some (.bl (decide (i < j)))
  | _, _ => none
def gLe : D → D → Option D
  | .int i, .int j => some (.bl (decide (i ≤ j)))
  | _, _ => none
def gGt : D → D → Option D
  | .int i, .int j => some (.bl (decide (j < i)))
  | _, _ => none
def gGe : D → D → Option D
  | .int i, .int j => some (.bl (decide (j ≤ i)))
  | _, _ => none
mutual
def toPy : D → Option PyData
  | .non => some .none
  | .bl b => some (.bool b)
  | .int i => some (.int i)
  | .str s => some (.str s)
  | .lst l => (toPys l).map .list
  | .tup l => (toPys l).map .tuple
  | .dK _ _ => none
  | .dT _ _ => none
  | .scr _ => none
  | .junk => none
  | .ftup l => (toPys l).map .tuple
def toPys : List D → Option (List PyData)
  | [] => some []
  | d :: ds => (toPy d).bind fun p => (toPys ds).map fun r => p :: r
end
def gEq (d e : D) : Option D := (toPy d).bind fun p => (toPy e).bind fun q => if SeqAt.shaped p = true ∧ SeqAt.shaped q = true then some (.bl (PyData.eqv p q)) else none
def gNe (d e : D) : Option D := (toPy d).bind fun p => (toPy e).bind fun q => if SeqAt.shaped p = true ∧ SeqAt.shaped q = true then some (.bl (!PyData.eqv p q)) else none
section
variable {K : PySem.W.Frag} {H : Hp}
mutual
theorem Dat.dp : ∀ {d : D} {v : V} {R : List Addr} {p : PyData}, Dat K H d 0 v [] R → toPy d = some p → Dp K H v p
  | .non, _, _, _, h, e => by simp only [Dat] at h; simp only [toPy] at e; cases e; rw [h.1]; exact .non
  | .bl b, _, _, _, h, e => by simp only [Dat] at h; simp only [toPy] at e; cases e; rw [h.1]; exact .bl b
  | .int b, _, _, _, h, e => by simp only [Dat] at h; simp only [toPy] at e; cases e; rw [h.1]; exact .int b
  | .str b, _, _, _, h, e => by simp only [Dat] at h; simp only [toPy] at e; cases e; rw [h.1]; exact .str b
  | .lst l, _, _, _, h, e => by
    obtain ⟨a, xs, R', rfl, q, rfl, dd⟩ := dat_lst0 h
    simp only [toPy] at e
    cases ep : toPys l with
    | none => rw [ep] at e; cases e
    | some ps =>
      rw [ep] at e; cases e
      exact .lst (.of q) (Dats.dp dd ep)
  | .tup l, _, _, _, h, e => by
    obtain ⟨a, xs, rfl, q, dd⟩ := dat_tup0 h
    simp only [toPy] at e
    cases ep : toPys l with
    | none => rw [ep] at e; cases e
    | some ps =>
      rw [ep] at e; cases e
      exact .tup (.of q) (Dats.dp dd ep)
  | .ftup l, _, _, _, h, e => by
    obtain ⟨a, xs, rfl, q, dd⟩ := dat_ftup0 h
    simp only [toPy] at e
    cases ep : toPys l with
    | none => rw [ep] at e; cases e
    | some ps =>
      rw [ep] at e; cases e
      exact .tup (sqt_frz q) (Dats.dp dd ep)
  | .dK _ _, _, _, _, h, e => by simp only [toPy] at e; cases e
  | .dT _ _, _, _, _, h, e => by simp only [toPy] at e; cases e
  | .scr _, _, _, _, h, e => by simp only [toPy] at e; cases e
  | .junk, _, _, _, h, e => by simp only [toPy] at e; cases e
theorem Dats.dp : ∀ {ds : List D} {xs : List V} {R : List Addr} {ps : List PyData}, Dats K H ds 0 xs [] R → toPys ds = some ps → DpAll K H xs ps
  | [], _, _, _, h, e => by simp only [Dats] at h; simp only [toPys] at e; cases e; rw [h.1]; exact .nil
  | d :: ds, _, _, _, h, e => by
    simp only [Dats] at h
    obtain ⟨x, xs', S1, S2, R1, R2, rfl, e0, rfl, h1, h2⟩ := h
    obtain ⟨rfl, rfl⟩ := List.append_eq_nil_iff.mp e0.symm
    simp only [toPys] at e
    cases ep : toPy d with
    | none => rw [ep] at e; cases e
    | some p =>
      rw [ep] at e
      cases er : toPys ds with
      | none => rw [er] at e; cases e
      | some r =>
        rw [er] at e; cases e
        exact .cons (Dat.dp h1 ep) (Dats.dp h2 er)
end
end
section
variable {K : PySem.W.Frag}
theorem bf_lt : BinF K (rI0 fun i j => .bl (decide (i < j))) gLt := by
  intro x y d e z H B1 B2 Q h1 h2 ez po
  unfold gLt at ez
  split at ez
  · cases ez
    exact ⟨_, _, dat_int h1, dat_int h2, po rfl _ dat_of_bl⟩
  · cases ez
theorem bf_le : BinF K (rI0 fun i j => .bl (decide (i ≤ j))) gLe := by
  intro x y d e z H B1 B2 Q h1 h2 ez po
  unfold gLe at ez
  split at ez
  · cases ez
    exact ⟨_, _, dat_int h1, dat_int h2, po rfl _ dat_of_bl⟩
  · cases ez
theorem bf_gt : BinF K (rI0 fun i j => .bl (decide (j < i))) gGt := by
  intro x y d e z H B1 B2 Q h1 h2 ez po
  unfold gGt at ez
  split at ez
  · cases ez
    exact ⟨_, _, dat_int h1, dat_int h2, po rfl _ dat_of_bl⟩
  · cases ez
theorem bf_ge : BinF K (rI0 fun i j => .bl (decide (j ≤ i))) gGe := by
  intro x y d e z H B1 B2 Q h1 h2 ez po
  unfold gGe at ez
  split at ez
  · cases ez
    exact ⟨_, _, dat_int h1, dat_int h2, po rfl _ dat_of_bl⟩
  · cases ez
theorem bf_eq : BinF K (rEqD K) gEq := by
  intro x y d e z H B1 B2 Q h1 h2 ez po
  unfold gEq at ez
  cases ep : toPy d with
  | none => rw [ep] at ez; cases ez
  | some p =>
    cases eq : toPy e with
    | none => rw [ep, eq] at ez; cases ez
    | some q =>
      rw [ep, eq] at ez
      simp only [Option.bind_some] at ez
      split at ez
      · rename_i hs
        cases ez
        exact ⟨p, q, h1.dp ep, h2.dp eq, hs.1, hs.2, po rfl _ dat_of_bl⟩
      · cases ez
theorem bf_ne : BinF K (rNeD K) gNe := by
  intro x y d e z H B1 B2 Q h1 h2 ez po
  unfold gNe at ez
  cases ep : toPy d with
  | none => rw [ep] at ez; cases ez
  | some p =>
    cases eq : toPy e with
    | none => rw [ep, eq] at ez; cases ez
    | some q =>
      rw [ep, eq] at ez
      simp only [Option.bind_some] at ez
      split at ez
      · rename_i hs
        cases ez
        exact ⟨p, q, h1.dp ep, h2.dp eq, hs.1, hs.2, po rfl _ dat_of_bl⟩
      · cases ez
end
def gIsN : D → D → Option D
  | d, .non => match d with
    | .non => some (.bl true)
    | .junk => none
    | _ => some (.bl false)
  | _, _ => none
def gNotN : D → D → Option D
  | d, .non => match d with
    | .non => some (.bl false)
    | .junk => none
    | _ => some (.bl true)
  | _, _ => none
theorem dat_isN {K : PySem.W.Frag} {H : Hp} {d : D} {n : Nat} {v : V} {A B : List Addr} (h : Dat K H d n v A B) (hj : d ≠ .junk) : (v = .non) ↔ d = .non := by
  cases d with
  | junk => exact absurd rfl hj
  | non => simp only [Dat] at h; simp [h.1]
  | bl b => simp only [Dat] at h; simp [h.1]
  | int b => simp only [Dat] at h; simp [h.1]
  | str b => simp only [Dat] at h; simp [h.1]
  | lst l => cases n <;> (simp only [Dat] at h; obtain ⟨a, _, _, rfl, _⟩ := h; simp)
  | tup l => simp only [Dat] at h; obtain ⟨a, _, rfl, _⟩ := h; simp
  | ftup l => simp only [Dat] at h; obtain ⟨a, _, rfl, _⟩ := h; simp
  | dK _ l => cases n <;> (simp only [Dat] at h; obtain ⟨a, _, _, rfl, _⟩ := h; simp)
  | dT _ l => cases n <;> (simp only [Dat] at h; obtain ⟨a, _, _, rfl, _⟩ := h; simp)
  | scr l => simp only [Dat] at h; obtain ⟨⟨a, rfl, _⟩, _⟩ := h; simp
section
variable {X : Cx} {W : WX} {Γ : List Nat} {n n1 n2 : Nat} {f1 f2 : Bool} {a b c : Expr} {pos pos' : Pos} {ma mb mc : Rho → Res D} {j : Nat}
theorem dec_isN {K : PySem.W.Frag} {H : Hp} {d : D} {n : Nat} {v : V} {A B : List Addr} (h : Dat K H d n v A B) {z : D} (e : gIsN d .non = some z) : z = .bl (decide (v = .non)) := by
  have hj : d ≠ .junk := fun z => by subst z; cases e
  have q := dat_isN h hj
  cases d with
  | junk => cases e
  | non => cases e; rw [decide_eq_true (q.mpr rfl)]
  | bl b => cases e; rw [decide_eq_false fun z => D.noConfusion (q.mp z)]
  | int b => cases e; rw [decide_eq_false fun z => D.noConfusion (q.mp z)]
  | str b => cases e; rw [decide_eq_false fun z => D.noConfusion (q.mp z)]
  | lst l => cases e; rw [decide_eq_false fun z => D.noConfusion (q.mp z)]
  | tup l => cases e; rw [decide_eq_false fun z => D.noConfusion (q.mp z)]
  | ftup l => cases e; rw [decide_eq_false fun z => D.noConfusion (q.mp z)]
  | dK _ l => cases e; rw [decide_eq_false fun z => D.noConfusion (q.mp z)]
  | dT _ l => cases e; rw [decide_eq_false fun z => D.noConfusion (q.mp z)]
  | scr l => cases e; rw [decide_eq_false fun z => D.noConfusion (q.mp z)]
theorem dec_notN {K : PySem.W.Frag} {H : Hp} {d : D} {n : Nat} {v : V} {A B : List Addr} (h : Dat K H d n v A B) {z : D} (e : gNotN d .non = some z) : z = .bl (!decide (v = .non)) := by
  have : ∃ k, gIsN d .non = some (.bl k) ∧ z = .bl (!k) := by cases d <;> first | (cases e; exact ⟨_, rfl, rfl⟩) | cases e
  obtain ⟨k, e1, rfl⟩ := this
  have := dec_isN h e1
  cases this
  rfl
theorem re_isN (ha : RE X W Γ n1 f1 a ma) : RE X W Γ n true (.Compare a [.Is] [.Constant .none j pos'] pos) (m1 (fun d => gIsN d .non) ma) := by
  obtain ⟨ta, pa, qa⟩ := ha
  refine ⟨_, pe_cmp (pc_isN pa), fun F H0 ρ σ H S R Q st po => ?_⟩
  refine qa F H0 ρ σ H S R _ st (PostE.iff.mpr ((PostE.iff.mp po).bind.imp fun d _ po => ?_))
  intro x H1 A B s1 d1 _ _
  obtain ⟨z, ez, po⟩ := PostE.ofO (PostE.iff.mpr po)
  obtain rfl := dec_isN d1 ez
  exact PostV.flat (PostV.later po s1) rfl dat_of_bl
theorem re_notN (ha : RE X W Γ n1 f1 a ma) : RE X W Γ n true (.Compare a [.IsNot] [.Constant .none j pos'] pos) (m1 (fun d => gNotN d .non) ma) := by
  obtain ⟨ta, pa, qa⟩ := ha
  refine ⟨_, pe_cmp (pc_notN pa), fun F H0 ρ σ H S R Q st po => ?_⟩
  refine qa F H0 ρ σ H S R _ st (PostE.iff.mpr ((PostE.iff.mp po).bind.imp fun d _ po => ?_))
  intro x H1 A B s1 d1 _ _
  obtain ⟨z, ez, po⟩ := PostE.ofO (PostE.iff.mpr po)
  obtain rfl := dec_notN d1 ez
  exact PostV.flat (PostV.later po s1) rfl dat_of_bl
theorem rt_isN (ha : RE X W Γ n1 f1 a ma) : RT X W Γ (.Compare a [.Is] [.Constant .none j pos'] pos) (mT (m1 (fun d => gIsN d .non) ma)) := by
  obtain ⟨ta, pa, qa⟩ := ha
  refine ⟨_, pt_cmp (pc_isN pa), fun F H0 ρ σ H S R Q st po => ?_⟩
  unfold mT m1 at po
  refine qa F H0 ρ σ H S R _ st (PostE.iff.mpr ((PostT.iff.mp po).bind.bind.imp fun d _ po => ?_))
  intro x H1 A B s1 d1 _ _
  dsimp only at po
  cases ez : gIsN d .non with
  | none => rw [ez] at po; exact po.elim
  | some z =>
    rw [ez] at po
    obtain rfl := dec_isN d1 ez
    exact ⟨_, rfl, po H1 s1⟩
theorem rt_notN (ha : RE X W Γ n1 f1 a ma) : RT X W Γ (.Compare a [.IsNot] [.Constant .none j pos'] pos) (mT (m1 (fun d => gNotN d .non) ma)) := by
  obtain ⟨ta, pa, qa⟩ := ha
  refine ⟨_, pt_cmp (pc_notN pa), fun F H0 ρ σ H S R Q st po => ?_⟩
  unfold mT m1 at po
  refine qa F H0 ρ σ H S R _ st (PostE.iff.mpr ((PostT.iff.mp po).bind.bind.imp fun d _ po => ?_))
  intro x H1 A B s1 d1 _ _
  dsimp only at po
  cases ez : gNotN d .non with
  | none => rw [ez] at po; exact po.elim
  | some z =>
    rw [ez] at po
    obtain rfl := dec_notN d1 ez
    exact ⟨_, rfl, po H1 s1⟩
theorem re_lt (ha : RE X W Γ n1 f1 a ma) (hb : RE X W Γ n2 f2 b mb) : RE X W Γ n true (.Compare a [.Lt] [b] pos) (m2 gLt ma mb) := re_cmp op_lt bf_lt (nomark _) ha hb
theorem re_le (ha : RE X W Γ n1 f1 a ma) (hb : RE X W Γ n2 f2 b mb) : RE X W Γ n true (.Compare a [.LtE] [b] pos) (m2 gLe ma mb) := re_cmp op_le bf_le (nomark _) ha hb
theorem re_gt (ha : RE X W Γ n1 f1 a ma) (hb : RE X W Γ n2 f2 b mb) : RE X W Γ n true (.Compare a [.Gt] [b] pos) (m2 gGt ma mb) := re_cmp op_gt bf_gt (nomark _) ha hb
theorem re_ge (ha : RE X W Γ n1 f1 a ma) (hb : RE X W Γ n2 f2 b mb) : RE X W Γ n true (.Compare a [.GtE] [b] pos) (m2 gGe ma mb) := re_cmp op_ge bf_ge (nomark _) ha hb
theorem re_eq (hu : X.A.units + 64 < cLine) (ha : RE X W Γ n1 f1 a ma) (hb : RE X W Γ n2 f2 b mb) : RE X W Γ n true (.Compare a [.Eq] [b] pos) (m2 gEq ma mb) := re_cmp (op_eqD hu) bf_eq (nomark _) ha hb
theorem re_ne (hu : X.A.units + 64 < cLine) (ha : RE X W Γ n1 f1 a ma) (hb : RE X W Γ n2 f2 b mb) : RE X W Γ n true (.Compare a [.NotEq] [b] pos) (m2 gNe ma mb) := re_cmp (op_neD hu) bf_ne (nomark _) ha hb
theorem rt_lt (ha : RE X W Γ n1 f1 a ma) (hb : RE X W Γ n2 f2 b mb) : RT X W Γ (.Compare a [.Lt] [b] pos) (mT (m2 gLt ma mb)) := rt_cmp op_lt bf_lt (nomark _) ha hb
theorem rt_le (ha : RE X W Γ n1 f1 a ma) (hb : RE X W Γ n2 f2 b mb) : RT X W Γ (.Compare a [.LtE] [b] pos) (mT (m2 gLe ma mb)) := rt_cmp op_le bf_le (nomark _) ha hb
theorem rt_gt (ha : RE X W Γ n1 f1 a ma) (hb : RE X W Γ n2 f2 b mb) : RT X W Γ (.Compare a [.Gt] [b] pos) (mT (m2 gGt ma mb)) := rt_cmp op_gt bf_gt (nomark _) ha hb
theorem rt_ge (ha : RE X W Γ n1 f1 a ma) (hb : RE X W Γ n2 f2 b mb) : RT X W Γ (.Compare a [.GtE] [b] pos) (mT (m2 gGe ma mb)) := rt_cmp op_ge bf_ge (nomark _) ha hb
theorem rt_eq (hu : X.A.units + 64 < cLine) (ha : RE X W Γ n1 f1 a ma) (hb : RE X W Γ n2 f2 b mb) : RT X W Γ (.Compare a [.Eq] [b] pos) (mT (m2 gEq ma mb)) := rt_cmp (op_eqD hu) bf_eq (nomark _) ha hb
theorem rt_ne (hu : X.A.units + 64 < cLine) (ha : RE X W Γ n1 f1 a ma) (hb : RE X W Γ n2 f2 b mb) : RT X W Γ (.Compare a [.NotEq] [b] pos) (mT (m2 gNe ma mb)) := rt_cmp (op_neD hu) bf_ne (nomark _) ha hb
end

def mAnd (a b : Rho → Res D) : Rho → Res D := fun ρ => (a ρ).bind fun d => match d with
  | .bl true => b ρ
  | .bl false => .ok (.bl false)
  | _ => .stuck
def mOr (a b : Rho → Res D) : Rho → Res D := fun ρ => (a ρ).bind fun d => match d with
  | .bl true => .ok (.bl true)
  | .bl false => b ρ
  | _ => .stuck
def gNot : D → Option D
  | .bl b => some (.bl (!b))
  | _ => none
def tAndM (a b : Rho → Res Bool) : Rho → Res Bool := fun ρ => (a ρ).bind fun d => if d = true then b ρ else .ok false
def tOrM (a b : Rho → Res Bool) : Rho → Res Bool := fun ρ => (a ρ).bind fun d => if d = true then .ok true else b ρ
def tNotM (a : Rho → Res Bool) : Rho → Res Bool := fun ρ => (a ρ).bind fun d => .ok (!d)
def RW (X : Cx) (W : WX) (Γ : List Nat) (e : Expr) (m : Rho → Res Bool) : Prop :=
  ∃ t, PW X e t ∧ ∀ F H0 ρ σ H S R Q, Sto X.K F H0 Γ ρ σ H S R → PostT X W σ H Q (m ρ) → t σ H Q
section
variable {X : Cx} {W : WX} {Γ : List Nat} {n n1 n2 : Nat} {f1 f2 : Bool} {a b c : Expr} {rest : List Expr} {pos : Pos} {ma mb mc : Rho → Res D} {ta' tb' : Rho → Res Bool}
theorem re_one {op} (h : RE X W Γ n true a ma) : RE X W Γ n true (.BoolOp op [a] pos) ma := by
  obtain ⟨ta, pa, qa⟩ := h
  exact ⟨_, pe_one pa, qa⟩
theorem re_and (ha : RE X W Γ n1 f1 a ma) (hb : RE X W Γ n true (.BoolOp .And (b :: rest) pos) mb) : RE X W Γ n true (.BoolOp .And (a :: b :: rest) pos) (mAnd ma mb) := by
  obtain ⟨ta, pa, qa⟩ := ha
  obtain ⟨tb, pb, qb⟩ := hb
  refine ⟨_, pe_and pa pb, fun F H0 ρ σ H S R Q st po => ?_⟩
  refine qa F H0 ρ σ H S R _ st (PostE.iff.mpr ((PostE.iff.mp po).bind.imp fun d _ po => ?_))
  intro x H1 A B s1 d1 _ _
  cases d with
  | bl k =>
    refine ⟨k, dat_bl d1, ?_⟩
    cases k with
    | true => exact iteT (qb F H0 ρ σ H1 S R _ (st.grow s1) (PostE.later (PostE.iff.mpr po) s1))
    | false => exact iteF (PostV.flat (PostV.later po s1) rfl dat_of_bl)
  | _ => exact po.elim
theorem re_or (ha : RE X W Γ n1 f1 a ma) (hb : RE X W Γ n true (.BoolOp .Or (b :: rest) pos) mb) : RE X W Γ n true (.BoolOp .Or (a :: b :: rest) pos) (mOr ma mb) := by
  obtain ⟨ta, pa, qa⟩ := ha
  obtain ⟨tb, pb, qb⟩ := hb
  refine ⟨_, pe_or pa pb, fun F H0 ρ σ H S R Q st po => ?_⟩
  refine qa F H0 ρ σ H S R _ st (PostE.iff.mpr ((PostE.iff.mp po).bind.imp fun d _ po => ?_))
  intro x H1 A B s1 d1 _ _
  cases d with
  | bl k =>
    refine ⟨k, dat_bl d1, ?_⟩
    cases k with
    | false => exact iteF (qb F H0 ρ σ H1 S R _ (st.grow s1) (PostE.later (PostE.iff.mpr po) s1))
    | true => exact iteT (PostV.flat (PostV.later po s1) rfl dat_of_bl)
  | _ => exact po.elim
theorem re_not (ha : RE X W Γ n1 f1 a ma) : RE X W Γ n true (.UnaryOp .Not a pos) (m1 gNot ma) := by
  obtain ⟨ta, pa, qa⟩ := ha
  refine ⟨_, pe_not pa, fun F H0 ρ σ H S R Q st po => ?_⟩
  refine qa F H0 ρ σ H S R _ st (PostE.iff.mpr ((PostE.iff.mp po).bind.imp fun d _ po => ?_))
  intro x H1 A B s1 d1 _ _
  cases d with
  | bl k => exact ⟨k, dat_bl d1, PostV.flat (PostV.later po s1) rfl dat_of_bl⟩
  | _ => exact po.elim
theorem RW.t {t : Rho → Res Bool} (h : RW X W Γ a t) : RT X W Γ a t := by
  obtain ⟨t, p, q⟩ := h
  exact ⟨t, p.pt, q⟩
theorem rw_and1 {t : Rho → Res Bool} (ha : RT X W Γ a t) : RW X W Γ (.BoolOp .And [a] pos) t := by
  obtain ⟨t, p, q⟩ := ha
  exact ⟨t, pw_and1 p, q⟩
theorem rw_or1 {t : Rho → Res Bool} (ha : RT X W Γ a t) : RW X W Γ (.BoolOp .Or [a] pos) t := by
  obtain ⟨t, p, q⟩ := ha
  exact ⟨t, pw_or1 p, q⟩
theorem rw_and (ha : RT X W Γ a ta') (hb : RW X W Γ (.BoolOp .And (b :: rest) pos) tb') : RW X W Γ (.BoolOp .And (a :: b :: rest) pos) (tAndM ta' tb') := by
  obtain ⟨ta, pa, qa⟩ := ha
  obtain ⟨tb, pb, qb⟩ := hb
  refine ⟨_, pw_and pa pb, fun F H0 ρ σ H S R Q st po => ?_⟩
  refine qa F H0 ρ σ H S R _ st (PostT.iff.mpr ((PostT.iff.mp po).bind.imp fun d _ po => ?_))
  intro H1 s1
  cases d with
  | true => exact iteT (qb F H0 ρ σ H1 S R _ (st.grow s1) (PostT.later (PostT.iff.mpr po) s1))
  | false => exact iteF (po H1 s1)
theorem rw_or (ha : RT X W Γ a ta') (hb : RW X W Γ (.BoolOp .Or (b :: rest) pos) tb') : RW X W Γ (.BoolOp .Or (a :: b :: rest) pos) (tOrM ta' tb') := by
  obtain ⟨ta, pa, qa⟩ := ha
  obtain ⟨tb, pb, qb⟩ := hb
  refine ⟨_, pw_or pa pb, fun F H0 ρ σ H S R Q st po => ?_⟩
  refine qa F H0 ρ σ H S R _ st (PostT.iff.mpr ((PostT.iff.mp po).bind.imp fun d _ po => ?_))
  intro H1 s1
  cases d with
  | false => exact iteF (qb F H0 ρ σ H1 S R _ (st.grow s1) (PostT.later (PostT.iff.mpr po) s1))
  | true => exact iteT (po H1 s1)
theorem rt_not (ha : RT X W Γ a ta') : RT X W Γ (.UnaryOp .Not a pos) (tNotM ta') := by
  obtain ⟨ta, pa, qa⟩ := ha
  refine ⟨_, pt_not pa, fun F H0 ρ σ H S R Q st po => ?_⟩
  exact qa F H0 ρ σ H S R _ st (PostT.iff.mpr ((PostT.iff.mp po).bind.imp fun d _ po => po))
def mChain (g g' : D → D → Option D) (a b c : Rho → Res D) : Rho → Res D := fun ρ => (a ρ).bind fun x => (b ρ).bind fun y => (ofO (g x y)).bind fun z => match z with
  | .bl true => (c ρ).bind fun w => ofO (g' y w)
  | .bl false => .ok (.bl false)
  | _ => .stuck
theorem chain_run {r r' : R2} {g g' : D → D → Option D} (hv : BinF X.K r g) (hv' : BinF X.K r' g') {ta tb tc : TE} {F : Fr} {H0 : Hp} {ρ : Rho} {σ : L2.St} {H : Hp} {S R : Nat → List Addr} {Q : VK}
    (qa : ∀ F H0 ρ σ H S R Q, Sto X.K F H0 Γ ρ σ H S R → PostE X W (Av F S) 0 true σ H Q (ma ρ) → ta σ H Q) (qb : ∀ F H0 ρ σ H S R Q, Sto X.K F H0 Γ ρ σ H S R → PostE X W (Av F S) 0 true σ H Q (mb ρ) → tb σ H Q)
    (qc : ∀ F H0 ρ σ H S R Q, Sto X.K F H0 Γ ρ σ H S R → PostE X W (Av F S) 0 true σ H Q (mc ρ) → tc σ H Q)
    (st : Sto X.K F H0 Γ ρ σ H S R) (po : PostX X W σ H (fun z => ∀ H', Same H H' → z.flat = true → ∀ v, (∀ k, Dat X.K H' z k v [] []) → Q v H') (mChain g g' ma mb mc ρ)) : tChain r r' ta tb tc σ H Q := by
  unfold mChain at po
  refine qa F H0 ρ σ H S R _ st (PostE.iff.mpr (po.bind.imp fun d _ po => ?_))
  intro x H1 A B s1 d1 _ _
  refine qb F H0 ρ σ H1 S R _ (st.grow s1) (PostE.iff.mpr (po.bind.later s1 fun e ee po => ?_))
  intro y H2 A' B' s2 d2 _ _
  obtain rfl : A = [] := Dat.noS d1
  obtain rfl : A' = [] := Dat.noS d2
  cases ez : g d e with
  | none => rw [ez] at po; exact po.elim
  | some z =>
    rw [ez] at po
    refine hv x y d e z H2 B B' _ (d1.same s2) d2 ez fun fz v hz => ?_
    simp only [ofO_some, Res.bind_ok] at po
    cases z with
    | bl k =>
      refine ⟨k, dat_bl (hz 0), ?_⟩
      cases k with
      | false => exact iteF (po H2 (s1.trans s2) rfl _ dat_of_bl)
      | true =>
        refine iteT (qc F H0 ρ σ H2 S R _ ((st.grow s1).grow s2) (PostE.iff.mpr (PostX.bind po |>.later (s1.trans s2) fun w ew po => ?_)))
        intro u H3 A3 B3 s3 d3 _ _
        obtain rfl : A3 = [] := Dat.noS d3
        cases ez2 : g' e w with
        | none => rw [ez2] at po; exact po.elim
        | some z2 =>
          rw [ez2] at po
          exact hv' y u e w z2 H3 B' B3 Q (d2.same s3) d3 ez2 (po H3 ((s1.trans s2).trans s3))
    | _ => exact po.elim
theorem re_chain {op op' : CmpOp} {r r' : R2} {g g' : D → D → Option D} (ho : OpR X (compareOp op) r) (ho' : OpR X (compareOp op') r') (hv : BinF X.K r g) (hv' : BinF X.K r' g') (ha : RE X W Γ 0 true a ma) (hb : RE X W Γ 0 true b mb) (hc : RE X W Γ 0 true c mc)
    (hm : lastMarks [op, op'] [b, c] = false := by with_unfolding_all rfl) : RE X W Γ n true (.Compare a [op, op'] [b, c] pos) (mChain g g' ma mb mc) := by
  obtain ⟨ta, pa, qa⟩ := ha
  obtain ⟨tb, pb, qb⟩ := hb
  obtain ⟨tc, pc, qc⟩ := hc
  exact ⟨_, pe_chain ho ho' pa pb pc hm, fun F H0 ρ σ H S R Q st po => chain_run hv hv' qa qb qc st ((PostE.iff.mp po).imp fun z _ po H' s f v hd =>
    po v H' [] [] s (hd n) (fun a z => by simp at z) fun _ => New.nil)⟩
theorem rt_chain {op op' : CmpOp} {r r' : R2} {g g' : D → D → Option D} (ho : OpR X (compareOp op) r) (ho' : OpR X (compareOp op') r') (hv : BinF X.K r g) (hv' : BinF X.K r' g') (ha : RE X W Γ 0 true a ma) (hb : RE X W Γ 0 true b mb) (hc : RE X W Γ 0 true c mc)
    (hm : lastMarks [op, op'] [b, c] = false := by with_unfolding_all rfl) : RT X W Γ (.Compare a [op, op'] [b, c] pos) (mT (mChain g g' ma mb mc)) := by
  obtain ⟨ta, pa, qa⟩ := ha
  obtain ⟨tb, pb, qb⟩ := hb
  obtain ⟨tc, pc, qc⟩ := hc
  refine ⟨_, pt_chain ho ho' pa pb pc hm, fun F H0 ρ σ H S R Q st po => ?_⟩
  unfold mT at po
  refine chain_run (Q := fun x H1 => ∃ k, x = .bl k ∧ Q k H1) hv hv' qa qb qc st ((PostT.iff.mp po).bind.imp fun z _ po H' s f v hd => ?_)
  cases z with
  | bl c => exact ⟨c, dat_bl (hd 0), po H' s⟩
  | _ => exact po.elim
end
end TW

-- TWDict0
namespace TW
open PySem PySem.Spec PyProof.Rows L2
def keyD : D → Option Key
  | .int i => some (.inl i)
  | .str s => some (.inr s)
  | _ => none
def keysD : List D → Option (List Key)
  | [] => some []
  | d :: ds => (keyD d).bind fun k => (keysD ds).map fun r => k :: r
def lookK {κ : Type} [DecidableEq κ] : List κ → List D → κ → Option D
  | j :: ks, d :: ds, k => if j = k then some d else lookK ks ds k
  | _, _, _ => none
def lookD (d k : D) : Option (Option D) := match d with
  | .dK ks vs => (keyD k).map fun k => lookK ks vs k
  | .dT ks vs => match k with
    | .tup l => (keysD l).map fun k => lookK ks vs k
    | _ => none
  | _ => none
section
variable {K : PySem.W.Frag} {H : Hp}
theorem dat_key {d : D} {k : Key} {n : Nat} {x : V} {S R : List Addr} (h : Dat K H d n x S R) (e : keyD d = some k) : x = kV k := by
  cases d with
  | int i => cases e; exact dat_int h
  | str s => cases e; exact dat_str h
  | _ => cases e
theorem dats_keys : ∀ {ds : List D} {ks : List Key} {n : Nat} {xs : List V} {S R : List Addr}, Dats K H ds n xs S R → keysD ds = some ks → xs = ks.map kV
  | [], _, _, _, _, _, h, e => by
    cases e
    simp only [Dats] at h
    rw [h.1]; rfl
  | d :: ds, _, _, _, _, _, h, e => by
    unfold Dats at h
    obtain ⟨x, xs', S1, S2, R1, R2, rfl, rfl, rfl, h1, h2⟩ := h
    unfold keysD at e
    cases e1 : keyD d with
    | none => rw [e1] at e; cases e
    | some k =>
      rw [e1] at e
      cases e2 : keysD ds with
      | none => rw [e2] at e; cases e
      | some r =>
        rw [e2] at e
        cases e
        rw [dat_key h1 e1, dats_keys h2 e2]
        rfl
def Fnd (K : PySem.W.Frag) (H : Hp) (n : Nat) (A B : List Addr) : Option D → Option V → Prop
  | none, r => r = none
  | some z, r => ∃ v S' R', r = some v ∧ Dat K H z n v S' R' ∧ S'.Sublist A ∧ ∀ a ∈ R', a ∈ B
theorem Fnd.more {n : Nat} {A B A' B' : List Addr} {o : Option D} {r : Option V} (h : Fnd K H n A B o r) (hA : A.Sublist A') (hB : ∀ a ∈ B, a ∈ B') : Fnd K H n A' B' o r := by
  cases o with
  | none => exact h
  | some z =>
    obtain ⟨v, S', R', a1, a2, a3, a4⟩ := h
    exact ⟨v, S', R', a1, a2, a3.trans hA, fun a ha => hB a (a4 a ha)⟩
theorem dats_look {κ : Type} [DecidableEq κ] {k : κ} : ∀ {ws : List (κ × V)} {ds : List D} {n : Nat} {S R : List Addr}, Dats K H ds n (ws.map (·.2)) S R → Fnd K H n S R (lookK (ws.map (·.1)) ds k) (valV ws k)
  | [], ds, n, S, R, h => by
    have : lookK ([] : List κ) ds k = none := by cases ds <;> rfl
    rw [List.map_nil, this]
    rfl
  | w :: ws, [], n, S, R, h => by simp only [Dats] at h; simp at h
  | w :: ws, d :: ds, n, S, R, h => by
    unfold Dats at h
    obtain ⟨x, xs', S1, S2, R1, R2, e, rfl, rfl, h1, h2⟩ := h
    simp only [List.map_cons, List.cons.injEq] at e
    obtain ⟨rfl, rfl⟩ := e
    have ih := dats_look (k := k) h2
    simp only [List.map_cons, lookK]
    by_cases e : w.1 = k
    · rw [if_pos e]
      exact ⟨w.2, S1, R1, valV_pos e, h1, List.sublist_append_left _ _, fun a ha => List.mem_append_left _ ha⟩
    · rw [if_neg e, valV_neg e]
      exact ih.more (List.sublist_append_right _ _) fun a ha => List.mem_append_right _ ha
theorem look_at {d e : D} {o : Option D} {n : Nat} {x y : V} {A B B2 : List Addr} (h : Dat K H d n x A B) (hy : Dat K H e 0 y [] B2) (ez : lookD d e = some o) :
    ∃ a r, x = .ref a ∧ DGet H a y r ∧ Fnd K H (n - 1) A B o r := by
  cases d with
  | dK ks vs =>
    simp only [lookD, Option.map_eq_some_iff] at ez
    obtain ⟨k, ek, rfl⟩ := ez
    have ey := dat_key hy ek
    cases n with
    | zero =>
      unfold Dat at h
      obtain ⟨a, ws, R', rfl, q, rfl, rfl, rfl, hd⟩ := h
      exact ⟨a, _, rfl, .inl ⟨ws, k, q, ey, rfl⟩, (dats_look hd).more (.refl _) fun a ha => List.mem_cons_of_mem _ ha⟩
    | succ n =>
      unfold Dat at h
      obtain ⟨a, ws, S1, rfl, q, rfl, rfl, hd⟩ := h
      exact ⟨a, _, rfl, .inl ⟨ws, k, .of q, ey, rfl⟩, (dats_look hd).more (List.sublist_cons_self _ _) fun a ha => ha⟩
  | dT ks vs =>
    unfold lookD at ez
    cases e with
    | tup l =>
      simp only [Option.map_eq_some_iff] at ez
      obtain ⟨k, ek, rfl⟩ := ez
      obtain ⟨b, xs, rfl, hb, hl⟩ := dat_tup0 hy
      obtain rfl := dats_keys hl ek
      cases n with
      | zero =>
        unfold Dat at h
        obtain ⟨a, ws, R', rfl, q, rfl, rfl, rfl, hd⟩ := h
        exact ⟨a, _, rfl, .inr ⟨ws, k, b, q, rfl, hb, rfl⟩, (dats_look hd).more (.refl _) fun a ha => List.mem_cons_of_mem _ ha⟩
      | succ n =>
        unfold Dat at h
        obtain ⟨a, ws, S1, rfl, q, rfl, rfl, hd⟩ := h
        exact ⟨a, _, rfl, .inr ⟨ws, k, b, .of q, rfl, hb, rfl⟩, (dats_look hd).more (List.sublist_cons_self _ _) fun a ha => ha⟩
    | _ => cases ez
  | _ => cases ez
end
def rIxD : R2 := fun x y H Q => ∃ a v, x = .ref a ∧ DGet H a y (some v) ∧ Q v H
theorem ix_dict {X : Cx} (hu : X.A.units + 1 < cLine) : IxR X rIxD := by
  intro value slice pins s σ H x y v u Q I rx ry h hs
  obtain ⟨a, z, rfl, g, q⟩ := h
  cases rx
  exact tail_any (dict_typeIs I g) PySem.F.slot_dict_getitem.lookup (d_getItem hu I g ry fun w s2 I2 rw2 => ⟨z, H, I2, rw2, q⟩) hs
def rInDict (k : Bool) : R2 := fun x y H Q => ∃ a o, y = .ref a ∧ DGet H a x o ∧ Q (.bl (if k = true then o.isSome else !o.isSome)) H
theorem op_inDict {X : Cx} (hu : X.A.units + 1 < cLine) : OpR X (compareOp .In) (rInDict true) := by
  intro pins s σ H x y v u Q I rx ry h
  obtain ⟨a, o, rfl, g, q⟩ := h
  cases ry
  exact d_in hu I g rx fun s3 I3 => ⟨.bl o.isSome, H, I3, rfl, q⟩
theorem op_notInDict {X : Cx} (hu : X.A.units + 1 < cLine) : OpR X (compareOp .NotIn) (rInDict false) := by
  intro pins s σ H x y v u Q I rx ry h
  obtain ⟨a, o, rfl, g, q⟩ := h
  cases ry
  exact d_notIn hu I g rx fun s3 I3 => ⟨.bl (!o.isSome), H, I3, rfl, q⟩
end TW

-- TWCall
namespace TW
open PySem PySem.Spec PyProof.Rows L2

section
variable {X : Cx} {W : WX} {Γ : List Nat} {n : Nat} {e : Expr} {es : List Expr} {pos : Pos} {me : Rho → Res D} {mes : Rho → Res (List D)}
theorem ra_nil : RA X W Γ n true [] mA0 := by
  refine ⟨fun ρ ds e => by cases e; rfl, _, pa_nil, fun F H0 ρ σ H S R Q st po => ?_⟩
  exact po [] H [] [] (Same.refl H) .nil (fun a z => by simp at z) fun _ => New.nil
theorem ra_cons (he : RE X W Γ n true e me) (hes : RA X W Γ n true es mes) (hs : starEach (e :: es) X.env = (false, eval e X.env) :: starEach es X.env := by rfl) : RA X W Γ n true (e :: es) (mA1 me mes) := by
  obtain ⟨ta, pa, qa⟩ := he
  obtain ⟨lb, tb, pb, qb⟩ := hes
  refine ⟨fun ρ ds e => ?_, _, pa_cons pa pb hs, fun F H0 ρ σ H S R Q st po => ?_⟩
  · unfold mA1 at e
    cases e1 : me ρ with
    | ok d =>
      rw [e1] at e
      cases e2 : mes ρ with
      | ok r =>
        rw [e2] at e
        cases e
        simp [lb ρ r e2]
      | exn c => rw [e2] at e; cases e
      | stuck => rw [e2] at e; cases e
    | exn c => rw [e1] at e; cases e
    | stuck => rw [e1] at e; cases e
  refine qa F H0 ρ σ H S R _ st (PostE.iff.mpr ((PostA.iff.mp po).bind.imp fun d _ po => ?_))
  intro x H1 A B s1 d1 v1 f1
  obtain ⟨n1, w1⟩ := f1 rfl
  refine qb (F.plus A) H0 ρ σ H1 S R _ ((st.grow s1).more (fun a ha => Dat.dom d1 a ha) (fun a ha i hi => st.domS i a hi (w1 a ha).1) fun a ha i hi => st.domR i a hi (w1 a ha).1) (PostA.iff.mpr (po.bind.later s1 fun ds _ po => ?_))
  intro xs H2 A' B' s2 d2 v2 f2
  refine po (x :: xs) H2 (A ++ A') (B ++ B') (s1.trans s2) (.cons (d1.same s2) d2) (fun a ha => ?_) fun _ => ?_
  · rcases List.mem_append.mp ha with ha | ha
    · exact v1 a ha
    · exact fun z => v2 a ha (z.imp .inl id)
  · obtain ⟨n2, w2⟩ := f2 rfl
    refine ⟨List.nodup_append.mpr ⟨n1, n2, fun a ha b hb e => ?_⟩, fun a ha => ?_⟩
    · subst e
      exact Dat.dom d1 a ha (w2 a hb).1
    · rcases List.mem_append.mp ha with ha | ha
      · refine ⟨(w1 a ha).1, fun hB => ?_⟩
        rcases List.mem_append.mp hB with hB | hB
        · exact (w1 a ha).2 hB
        · exact v2 a hB (.inl (.inr ha))
      · refine ⟨s1.free (w2 a ha).1, fun hB => ?_⟩
        rcases List.mem_append.mp hB with hB | hB
        · exact Dat.domR d1 a hB (w2 a ha).1
        · exact (w2 a ha).2 hB
def gLst (l : List D) : Option D := if l.length ≤ sizeLine then some (.lst l) else none
def gTup (l : List D) : Option D := if l.length ≤ sizeLine then some (.tup l) else none
theorem PostA.ofO {X : Cx} {W : WX} {σ : L2.St} {H : Hp} {g : List D → Option D} {l : List D} {ok : D → Prop} (h : PostX X W σ H ok (ofO (g l))) : ∃ z, g l = some z ∧ ok z := by
  cases e : g l with
  | none => rw [e] at h; exact h.elim
  | some z => rw [e] at h; exact ⟨z, rfl, h⟩
theorem re_lst (he : RA X W Γ n true es mes) : RE X W Γ (n + 1) true (.List es pos) (mL gLst mes) := by
  obtain ⟨_, ta, pa, qa⟩ := he
  refine ⟨_, pe_lst pa, fun F H0 ρ σ H S R Q st po => ?_⟩
  refine qa F H0 ρ σ H S R _ st (PostA.iff.mpr ((PostE.iff.mp po).bind.imp fun d _ po => ?_))
  intro xs H1 A B s1 d1 v1 f1
  obtain ⟨z, ez, po⟩ := PostA.ofO po
  unfold gLst at ez
  split at ez
  · rename_i hl
    cases ez
    obtain ⟨nd, nw⟩ := f1 rfl
    refine ⟨by rw [d1.length]; exact hl, fun p hp => ?_⟩
    refine po (.ref p) _ (p :: A) B (s1.trans (same_new hp)) ?_ v1 fun _ => ⟨List.nodup_cons.mpr ⟨fun z => Dats.dom d1 p z hp, nd⟩, fun a ha => ?_⟩
    · unfold Dat
      exact ⟨p, xs, A, rfl, upd_same, rfl, d1.same (same_new hp)⟩
    · rcases List.mem_cons.mp ha with rfl | ha
      · exact ⟨s1.free hp, fun hB => Dats.domR d1 _ hB hp⟩
      · exact nw a ha
  · cases ez
theorem re_tup {j} (he : RA X W Γ (n - 1) true es mes) : RE X W Γ n true (.Tuple es j pos) (mL gTup mes) := by
  obtain ⟨_, ta, pa, qa⟩ := he
  refine ⟨_, pe_tup pa, fun F H0 ρ σ H S R Q st po => ?_⟩
  refine qa F H0 ρ σ H S R _ st (PostA.iff.mpr ((PostE.iff.mp po).bind.imp fun d _ po => ?_))
  intro xs H1 A B s1 d1 v1 f1
  obtain ⟨z, ez, po⟩ := PostA.ofO po
  unfold gTup at ez
  split at ez
  · rename_i hl
    cases ez
    refine ⟨by rw [d1.length]; exact hl, fun p hp => ?_⟩
    refine po (.ref p) _ A B (s1.trans (same_new hp)) ?_ v1 f1
    unfold Dat
    exact ⟨p, xs, rfl, upd_same, d1.same (same_new hp)⟩
  · cases ez
end

def RB (X : Cx) (W : WX) (Γ : List Nat) (e : Expr) (m : Rho → Res D) : Prop :=
  ∃ t, PE X e t ∧ ∀ F H0 ρ σ H S R Q, Sto X.K F H0 Γ ρ σ H S R → PostX X W σ H (fun d => ∀ x H' B, Same H H' → Dat X.K H' d 0 x [] B → Q x H') (m ρ) → t σ H Q
theorem RE.b {X : Cx} {W : WX} {Γ : List Nat} {n : Nat} {fr : Bool} {e : Expr} {m : Rho → Res D} (h : RE X W Γ n fr e m) : RB X W Γ e m := by
  obtain ⟨t, p, q⟩ := h
  refine ⟨t, p, fun F H0 ρ σ H S R Q st po => q F H0 ρ σ H S R Q st (PostE.iff.mpr (po.imp fun d _ po => ?_))⟩
  intro x H' A B s d1 _ _
  obtain ⟨S', R', g, _, _⟩ := Dat.weak d n 0 x A B (Nat.zero_le _) d1
  obtain rfl : S' = [] := Dat.noS g
  exact po x H' R' s g
def RAB (X : Cx) (W : WX) (Γ : List Nat) (es : List Expr) (m : Rho → Res (List D)) : Prop :=
  ∃ t, PA X es t ∧ ∀ F H0 ρ σ H S R Q, Sto X.K F H0 Γ ρ σ H S R → PostX X W σ H (fun ds => ∀ xs H' B, Same H H' → Dats X.K H' ds 0 xs [] B → Q xs H') (m ρ) → t σ H Q
section
variable {X : Cx} {W : WX} {Γ : List Nat} {e : Expr} {es : List Expr} {pos : Pos} {me : Rho → Res D} {mes : Rho → Res (List D)}
theorem rab_nil : RAB X W Γ [] mA0 := by
  refine ⟨_, pa_nil, fun F H0 ρ σ H S R Q st po => ?_⟩
  exact po [] H [] (Same.refl H) .nil
theorem rab_cons (he : RB X W Γ e me) (hes : RAB X W Γ es mes) (hs : starEach (e :: es) X.env = (false, eval e X.env) :: starEach es X.env := by rfl) : RAB X W Γ (e :: es) (mA1 me mes) := by
  obtain ⟨ta, pa, qa⟩ := he
  obtain ⟨tb, pb, qb⟩ := hes
  refine ⟨_, pa_cons pa pb hs, fun F H0 ρ σ H S R Q st po => ?_⟩
  refine qa F H0 ρ σ H S R _ st (po.bind.imp fun d _ po => ?_)
  intro x H1 B s1 d1
  refine qb F H0 ρ σ H1 S R _ (st.grow s1) (po.bind.later s1 fun ds _ po => ?_)
  intro xs H2 B' s2 d2
  exact po (x :: xs) H2 (B ++ B') (s1.trans s2) (by simpa using Dats.cons (d1.same s2) d2)
end

def gIx : D → D → Option D
  | .lst l, .int i => atI l i
  | .tup l, .int i => atI l i
  | .scr l, .int i => (atI l i).map .int
  | .str s, .int i => if s.length ≤ sizeLine then (atI s.cps.toList i).map fun c => .str ⟨#[c]⟩ else none
  | .dK ks vs, k => (lookD (.dK ks vs) k).bind id
  | .dT ks vs, k => (lookD (.dT ks vs) k).bind id
  | .ftup l, .int i => atI l i
  | _, _ => none
theorem atI_some {α : Type} {l : List α} {i : Int} {v : α} (h : atI l i = some v) : ∃ j, ixN l.length i = some j ∧ l[j]? = some v := by
  unfold atI at h
  cases e : ixN l.length i with
  | none => rw [e] at h; cases h
  | some j => rw [e] at h; exact ⟨j, rfl, h⟩
theorem atI_of {α : Type} {l : List α} {i : Int} {v : α} {j : Nat} (h : ixN l.length i = some j) (e : l[j]? = some v) : atI l i = some v := by
  unfold atI
  rw [h]
  exact e
section
variable {X : Cx} {W : WX} {Γ : List Nat} {n k : Nat} {fr : Bool} {a b : Expr} {pos : Pos} {ma mb : Rho → Res D}
theorem ix_at {K : PySem.W.Frag} {H : Hp} {d e z : D} {n : Nat} {x y : V} {A B B2 : List Addr} {Q : VK} (h : Dat K H d n x A B) (hy : Dat K H e 0 y [] B2) (ez : gIx d e = some z)
    (q : ∀ v A' B', Dat K H z (n - 1) v A' B' → A'.Sublist A → (∀ a ∈ B', a ∈ B) → Q v H) : rIx K x y H Q ∨ rIxD x y H Q := by
  unfold gIx at ez
  split at ez
  · rename_i l i
    obtain ⟨j, e1, e2⟩ := atI_some ez
    cases n with
    | zero =>
      unfold Dat at h
      obtain ⟨p, xs, R', rfl, hp, rfl, rfl, hd⟩ := h
      obtain ⟨v, S', R2, e3, g, sl, r⟩ := hd.get e2
      exact .inl <| .inl ⟨p, xs, i, v, rfl, dat_int hy, .of hp, atI_of (by rw [hd.length]; exact e1) e3, q v S' R2 g (sl.trans (List.nil_sublist _)) fun a ha => List.mem_cons_of_mem _ (r a ha)⟩
    | succ n =>
      unfold Dat at h
      obtain ⟨p, xs, S1, rfl, hp, rfl, hd⟩ := h
      obtain ⟨v, S', R2, e3, g, sl, r⟩ := hd.get e2
      exact .inl <| .inl ⟨p, xs, i, v, rfl, dat_int hy, .of hp, atI_of (by rw [hd.length]; exact e1) e3, q v S' R2 g (sl.trans (List.sublist_cons_self _ _)) r⟩
  · rename_i l i
    obtain ⟨j, e1, e2⟩ := atI_some ez
    unfold Dat at h
    obtain ⟨p, xs, rfl, hp, hd⟩ := h
    obtain ⟨v, S', R2, e3, g, sl, r⟩ := hd.get e2
    exact .inl <| .inr (.inl ⟨p, xs, i, v, rfl, dat_int hy, .of hp, atI_of (by rw [hd.length]; exact e1) e3, q v S' R2 g sl r⟩)
  · rename_i l i
    cases e1 : atI l i with
    | none => rw [e1] at ez; cases ez
    | some c =>
      rw [e1] at ez
      cases ez
      obtain ⟨j, e1, e2⟩ := atI_some e1
      unfold Dat at h
      obtain ⟨⟨p, rfl, hp⟩, rfl, rfl⟩ := h
      exact .inl <| .inl ⟨p, l.map V.int, i, .int c, rfl, dat_int hy, hp.sq, atI_of (by rw [List.length_map]; exact e1) (by rw [List.getElem?_map, e2]; rfl), q _ [] [] (dat_of_int _) (List.nil_sublist _) fun a z => by simp at z⟩
  · rename_i s i
    split at ez
    · rename_i hl
      cases e1 : atI s.cps.toList i with
      | none => rw [e1] at ez; cases ez
      | some c =>
        rw [e1] at ez
        cases ez
        exact .inl <| .inr (.inr ⟨s, i, c, dat_str h, dat_int hy, hl, e1, q _ [] [] (dat_of_str _) (List.nil_sublist _) fun a z => by simp at z⟩)
    · cases ez
  · rename_i ks vs
    have e2 : lookD (.dK ks vs) e = some (some z) := by
      cases q : lookD (.dK ks vs) e with
      | none => rw [q] at ez; cases ez
      | some o => rw [q] at ez; exact congrArg some ez
    obtain ⟨a, r, rfl, g, v, S', R', rfl, g2, sl, hr⟩ := look_at h hy e2
    exact .inr ⟨a, v, rfl, g, q v S' R' g2 sl hr⟩
  · rename_i ks vs
    have e2 : lookD (.dT ks vs) e = some (some z) := by
      cases q : lookD (.dT ks vs) e with
      | none => rw [q] at ez; cases ez
      | some o => rw [q] at ez; exact congrArg some ez
    obtain ⟨a, r, rfl, g, v, S', R', rfl, g2, sl, hr⟩ := look_at h hy e2
    exact .inr ⟨a, v, rfl, g, q v S' R' g2 sl hr⟩
  · rename_i l i
    obtain ⟨j, e1, e2⟩ := atI_some ez
    unfold Dat at h
    obtain ⟨p, xs, rfl, hp, hd⟩ := h
    obtain ⟨v, S', R2, e3, g, sl, r⟩ := hd.get e2
    exact .inl <| .inr (.inl ⟨p, xs, i, v, rfl, dat_int hy, sqt_frz hp, atI_of (by rw [hd.length]; exact e1) e3, q v S' R2 g sl r⟩)
  · cases ez
theorem re_ixG (hu : X.A.units + 1 < cLine) (ha : RE X W Γ n fr a ma) (hb : RE X W Γ 0 true b mb) (hs : PlainIx b := by exact fun _ _ => rfl) : RE X W Γ (n - 1) fr (.Subscript a b pos) (m2 gIx ma mb) := by
  obtain ⟨ta, pa, qa⟩ := ha
  obtain ⟨tb, pb, qb⟩ := hb
  refine ⟨_, pe_ix (IxR.or ix_seq (ix_dict hu)) pa pb hs, fun F H0 ρ σ H S R Q st po => ?_⟩
  refine qa F H0 ρ σ H S R _ st (PostE.iff.mpr ((PostE.iff.mp po).bind.imp fun d _ po => ?_))
  intro x H1 A B s1 d1 v1 f1
  refine qb F H0 ρ σ H1 S R _ (st.grow s1) (PostE.iff.mpr (po.bind.later s1 fun e ee po => ?_))
  intro y H2 A' B' s2 d2 _ _
  obtain rfl : A' = [] := Dat.noS d2
  obtain ⟨z, ez, po⟩ := PostE.ofO (PostE.iff.mpr po)
  refine ix_at (d1.same s2) d2 ez fun v A2 B2 g sl r => ?_
  exact po v H2 A2 B2 (s1.trans s2) g (fun a ha => v1 a (r a ha)) fun e => ⟨(f1 e).1.sublist sl, fun a ha => ⟨((f1 e).2 a (sl.subset ha)).1, fun hB => ((f1 e).2 a (sl.subset ha)).2 (r a hB)⟩⟩
theorem re_ix (hu : X.A.units + 1 < cLine) (ha : RE X W Γ 0 true a ma) (hb : RE X W Γ 0 true b mb) (hs : PlainIx b := by exact fun _ _ => rfl) : RE X W Γ 0 true (.Subscript a b pos) (m2 gIx ma mb) := re_ixG hu ha hb hs
theorem re_ixF (hu : X.A.units + 1 < cLine) (ha : RE X W Γ (n + 1) true a ma) (hb : RE X W Γ 0 true b mb) (hs : PlainIx b := by exact fun _ _ => rfl) : RE X W Γ n true (.Subscript a b pos) (m2 gIx ma mb) := re_ixG hu ha hb hs
theorem re_ixO (hu : X.A.units + 1 < cLine) (ha : RE X W Γ (n + 1) false a ma) (hb : RE X W Γ 0 true b mb) (hs : PlainIx b := by exact fun _ _ => rfl) : RE X W Γ n false (.Subscript a b pos) (m2 gIx ma mb) := re_ixG hu ha hb hs
end

def CallV (K : PySem.W.Frag) (r : List V → Hp → VK → Prop) (g : List D → Option D) (n : Nat) : Prop :=
  ∀ (Z : Addr → Prop) (vs : List V) (ds : List D) (z : D) (H : Hp) (B : List Addr) (Q : VK), (∀ a, Z a → H a ≠ none) → Dats K H ds 0 vs [] B → (∀ a ∈ B, ¬ Z a) → g ds = some z → PostV K Z n true H Q z → r vs H Q
def CallF (K : PySem.W.Frag) (r : List V → Hp → VK → Prop) (g : List D → Option D) : Prop :=
  ∀ (vs : List V) (ds : List D) (z : D) (H : Hp) (B : List Addr) (Q : VK), Dats K H ds 0 vs [] B → g ds = some z → (z.flat = true → ∀ v, (∀ k, Dat K H z k v [] []) → Q v H) → r vs H Q
section
variable {X : Cx} {W : WX} {Γ : List Nat} {n : Nat} {e : Expr} {es : List Expr} {x : Str} {id T : String} {p pos : Pos} {r : List V → Hp → VK → Prop} {g : List D → Option D} {ma : Rho → Res (List D)}
theorem re_callB (hc : CallR X (.builtin id) r) (hv : CallV X.K r g n) (hm : X.mg x = none) (hb : bootBuiltins x = some (.builtin id)) (ha : RA X W Γ 0 true (e :: es) ma) (hg : Gl X x := by rfl) (hn : x ≠ "__name__" := by decide) (hdb : (x == ("__debug__" : Str)) = false := by decide)
    (he : starEach (e :: es) X.env = (false, eval e X.env) :: starEach es X.env := by rfl) (hpl : (backTo pos (starEach es X.env)).any (·.1) = false := by rfl) : RE X W Γ n true (.Call (.Name x p) (e :: es) [] pos) (mL g ma) := by
  obtain ⟨_, ta, pa, qa⟩ := ha
  refine ⟨_, pe_callB hc hg hm hb pa hn hdb he hpl, fun F H0 ρ σ H S R Q st po => ?_⟩
  refine qa F H0 ρ σ H S R _ st (PostA.iff.mpr ((PostE.iff.mp po).bind.imp fun d _ po => ?_))
  intro xs H1 A B s1 d1 v1 f1
  obtain rfl : A = [] := Dats.noS d1
  obtain ⟨z, ez, po⟩ := PostA.ofO po
  exact hv (Av F S) xs d z H1 B Q (st.grow s1).avd d1 v1 ez (PostV.later po s1)
theorem re_callT (hc : CallR X (.type T) r) (hv : CallV X.K r g n) (hm : X.mg x = none) (hb : bootBuiltins x = some (.type T)) (ha : RA X W Γ 0 true (e :: es) ma) (hg : Gl X x := by rfl) (hn : x ≠ "__name__" := by decide) (hdb : (x == ("__debug__" : Str)) = false := by decide)
    (he : starEach (e :: es) X.env = (false, eval e X.env) :: starEach es X.env := by rfl) (hpl : (backTo pos (starEach es X.env)).any (·.1) = false := by rfl) : RE X W Γ n true (.Call (.Name x p) (e :: es) [] pos) (mL g ma) := by
  obtain ⟨_, ta, pa, qa⟩ := ha
  refine ⟨_, pe_callTy hc hg hm hb pa hn hdb he hpl, fun F H0 ρ σ H S R Q st po => ?_⟩
  refine qa F H0 ρ σ H S R _ st (PostA.iff.mpr ((PostE.iff.mp po).bind.imp fun d _ po => ?_))
  intro xs H1 A B s1 d1 v1 f1
  obtain rfl : A = [] := Dats.noS d1
  obtain ⟨z, ez, po⟩ := PostA.ofO po
  exact hv (Av F S) xs d z H1 B Q (st.grow s1).avd d1 v1 ez (PostV.later po s1)
theorem re_callBF (hc : CallR X (.builtin id) r) (hv : CallF X.K r g) (hm : X.mg x = none) (hb : bootBuiltins x = some (.builtin id)) (ha : RAB X W Γ (e :: es) ma) (hg : Gl X x := by rfl) (hn : x ≠ "__name__" := by decide) (hdb : (x == ("__debug__" : Str)) = false := by decide)
    (he : starEach (e :: es) X.env = (false, eval e X.env) :: starEach es X.env := by rfl) (hpl : (backTo pos (starEach es X.env)).any (·.1) = false := by rfl) : RE X W Γ n true (.Call (.Name x p) (e :: es) [] pos) (mL g ma) := by
  obtain ⟨ta, pa, qa⟩ := ha
  refine ⟨_, pe_callB hc hg hm hb pa hn hdb he hpl, fun F H0 ρ σ H S R Q st po => ?_⟩
  refine qa F H0 ρ σ H S R _ st ((PostE.iff.mp po).bind.imp fun d _ po => ?_)
  intro xs H1 B s1 d1
  obtain ⟨z, ez, po⟩ := PostA.ofO po
  exact hv xs d z H1 B Q d1 ez fun f v hd => PostV.flat (PostV.later po s1) f hd
theorem re_callTF (hc : CallR X (.type T) r) (hv : CallF X.K r g) (hm : X.mg x = none) (hb : bootBuiltins x = some (.type T)) (ha : RAB X W Γ (e :: es) ma) (hg : Gl X x := by rfl) (hn : x ≠ "__name__" := by decide) (hdb : (x == ("__debug__" : Str)) = false := by decide)
    (he : starEach (e :: es) X.env = (false, eval e X.env) :: starEach es X.env := by rfl) (hpl : (backTo pos (starEach es X.env)).any (·.1) = false := by rfl) : RE X W Γ n true (.Call (.Name x p) (e :: es) [] pos) (mL g ma) := by
  obtain ⟨ta, pa, qa⟩ := ha
  refine ⟨_, pe_callTy hc hg hm hb pa hn hdb he hpl, fun F H0 ρ σ H S R Q st po => ?_⟩
  refine qa F H0 ρ σ H S R _ st ((PostE.iff.mp po).bind.imp fun d _ po => ?_)
  intro xs H1 B s1 d1
  obtain ⟨z, ez, po⟩ := PostA.ofO po
  exact hv xs d z H1 B Q d1 ez fun f v hd => PostV.flat (PostV.later po s1) f hd
end
section
variable {K : PySem.W.Frag}
theorem dats1 {H : Hp} {d : D} {vs : List V} {B : List Addr} (h : Dats K H [d] 0 vs [] B) : ∃ v, vs = [v] ∧ Dat K H d 0 v [] B := by
  simp only [Dats] at h
  obtain ⟨x, xs', S1, S2, R1, R2, rfl, e0, rfl, h1, rfl, rfl, rfl⟩ := h
  obtain ⟨rfl, _⟩ := List.append_eq_nil_iff.mp e0.symm
  exact ⟨x, rfl, by simpa using h1⟩
theorem dats2 {H : Hp} {d e : D} {vs : List V} {B : List Addr} (h : Dats K H [d, e] 0 vs [] B) : ∃ v w B1 B2, vs = [v, w] ∧ Dat K H d 0 v [] B1 ∧ Dat K H e 0 w [] B2 ∧ B = B1 ++ B2 := by
  unfold Dats at h
  obtain ⟨x, xs', S1, S2, R1, R2, rfl, e0, rfl, h1, h2⟩ := h
  obtain ⟨rfl, rfl⟩ := List.append_eq_nil_iff.mp e0.symm
  obtain ⟨y, rfl, h3⟩ := dats1 h2
  exact ⟨x, y, R1, R2, rfl, h1, h3, rfl⟩
def gLen : List D → Option D
  | [.lst l] => some (.int l.length)
  | [.tup l] => some (.int l.length)
  | [.scr l] => some (.int l.length)
  | [.str s] => if s.length ≤ sizeLine then some (.int s.length) else none
  | [.dK ks _] => some (.int ks.length)
  | [.dT ks _] => some (.int ks.length)
  | [.ftup l] => some (.int l.length)
  | _ => none
def rLen (K : PySem.W.Frag) : List V → Hp → VK → Prop := fun xs H Q => ∃ x n, xs = [x] ∧ LenV K x H n ∧ Q (.int n) H
theorem int_list {H : Hp} : ∀ {l : List D} {ns : List Int} {xs : List V} {B : List Addr}, Dats K H l 0 xs [] B → l = ns.map D.int → xs = ns.map V.int
  | [], ns, xs, B, h, e => by
    simp only [Dats] at h
    rw [h.1]
    cases ns with
    | nil => rfl
    | cons a r => cases e
  | d :: l, ns, xs, B, h, e => by
    cases ns with
    | nil => cases e
    | cons a r =>
      cases e
      unfold Dats at h
      obtain ⟨x, xs', S1, S2, R1, R2, rfl, e0, rfl, h1, h2⟩ := h
      obtain ⟨rfl, rfl⟩ := List.append_eq_nil_iff.mp e0.symm
      rw [dat_int h1, int_list h2 rfl]
      rfl
end
end TW

-- TWBlt
namespace TW
open PySem PySem.Spec PyProof.Rows L2

theorem CallR.or {X : Cx} {f : Value} {r r' : List V → Hp → VK → Prop} (h : CallR X f r) (h' : CallR X f r') : CallR X f (fun xs H Q => r xs H Q ∨ r' xs H Q) :=
  fun pins s σ H xs us Q I rx q => q.elim (h pins s σ H xs us Q I rx) (h' pins s σ H xs us Q I rx)
section
variable {K : PySem.W.Frag}
def rLenA (K : PySem.W.Frag) : List V → Hp → VK → Prop := fun xs H Q => (∃ x n, xs = [x] ∧ LenV K x H n ∧ Q (.int n) H) ∨ ((∃ a kvs, xs = [V.ref a] ∧ Rd H a (.dK kvs) ∧ Q (.int (kvs.length : Nat)) H) ∨ (∃ a kvs, xs = [V.ref a] ∧ Rd H a (.dT kvs) ∧ Q (.int (kvs.length : Nat)) H))
theorem call_lenK {X : Cx} : CallR X (.builtin "len") (fun xs H Q => ∃ a kvs, xs = [V.ref a] ∧ Rd H a (.dK kvs) ∧ Q (.int (kvs.length : Nat)) H) := by
  intro pins s σ H xs us Q I r h
  obtain ⟨a, kvs, rfl, ha, q⟩ := h
  obtain ⟨u, rfl, ru⟩ := vals1 r
  cases ru
  exact d_len I ha fun t s' I' => ⟨.int kvs.length, H, I', ⟨t, rfl⟩, q⟩
theorem call_lenT {X : Cx} : CallR X (.builtin "len") (fun xs H Q => ∃ a kvs, xs = [V.ref a] ∧ Rd H a (.dT kvs) ∧ Q (.int (kvs.length : Nat)) H) := by
  intro pins s σ H xs us Q I r h
  obtain ⟨p, kvs, rfl, hp, q⟩ := h
  obtain ⟨u, rfl, rx⟩ := vals1 r
  obtain rfl : u = .ref p := rx
  obtain ⟨z, hd, ys, rel, dd⟩ := dt_rd I.hok hp
  have hl : kvs.length = ys.length := Paired.length rel
  refine call_len_dictH hd dd (by rw [← hl]; rw [sizeLine_eq] at z; omega) ?_
  rw [← hl]
  exact ⟨.int ((kvs.length : Nat) : Int), H, I.tok _, ⟨_, rfl⟩, q⟩
theorem call_lenA {X : Cx} : CallR X (.builtin "len") (rLenA X.K) := CallR.or call_len (CallR.or call_lenK call_lenT)
theorem cf_len : CallF K (rLenA K) gLen := by
  intro vs ds z H B Q h ez po
  unfold gLen at ez
  split at ez
  · cases ez
    obtain ⟨v, e9, h9⟩ := dats1 h
    subst e9
    clear h
    have h := h9
    clear h9
    obtain ⟨a, xs, R', rfl, q, rfl, hd⟩ := dat_lst0 h
    exact .inl ⟨_, xs.length, rfl, .inl ⟨xs, .of q, rfl⟩, by rw [hd.length]; exact po rfl _ dat_of_int⟩
  · cases ez
    obtain ⟨v, e9, h9⟩ := dats1 h
    subst e9
    clear h
    have h := h9
    clear h9
    obtain ⟨a, xs, rfl, q, hd⟩ := dat_tup0 h
    exact .inl ⟨_, xs.length, rfl, .inr ⟨xs, .of q, rfl⟩, by rw [hd.length]; exact po rfl _ dat_of_int⟩
  · rename_i l
    cases ez
    obtain ⟨v, e9, h9⟩ := dats1 h
    subst e9
    clear h
    have h := h9
    clear h9
    unfold Dat at h
    obtain ⟨⟨a, rfl, q⟩, _⟩ := h
    exact .inl ⟨_, l.length, rfl, .inl ⟨l.map V.int, q.sq, by rw [List.length_map]⟩, po rfl _ dat_of_int⟩
  · rename_i s
    split at ez
    · rename_i hl
      cases ez
      obtain ⟨v, e9, h9⟩ := dats1 h
      subst e9
      clear h
      have h := h9
      clear h9
      rw [dat_str h]
      exact .inl ⟨_, s.length, rfl, ⟨hl, rfl⟩, po rfl _ dat_of_int⟩
    · cases ez
  · cases ez
    obtain ⟨v, e9, h9⟩ := dats1 h
    subst e9
    unfold Dat at h9
    obtain ⟨a, ws, R', rfl, q, rfl, _⟩ := h9
    exact .inr (.inl ⟨a, ws, rfl, q, by rw [← List.length_map (as := ws) (·.1)]; exact po rfl _ dat_of_int⟩)
  · cases ez
    obtain ⟨v, e9, h9⟩ := dats1 h
    subst e9
    unfold Dat at h9
    obtain ⟨a, ws, R', rfl, q, rfl, _⟩ := h9
    exact .inr (.inr ⟨a, ws, rfl, q, by rw [← List.length_map (as := ws) (·.1)]; exact po rfl _ dat_of_int⟩)
  · cases ez
    obtain ⟨v, e9, h9⟩ := dats1 h
    subst e9
    obtain ⟨a, xs, rfl, q, hd⟩ := dat_ftup0 h9
    exact .inl ⟨_, xs.length, rfl, .inr ⟨xs, sqt_frz q, rfl⟩, by rw [hd.length]; exact po rfl _ dat_of_int⟩
  · cases ez
def intsOf : List D → Option (List Int)
  | [] => some []
  | .int i :: r => (intsOf r).map fun l => i :: l
  | _ => none
theorem intsOf_eq : ∀ {l : List D} {ns : List Int}, intsOf l = some ns → l = ns.map D.int
  | [], ns, h => by cases h; rfl
  | d :: r, ns, h => by
    cases d with
    | int i =>
      unfold intsOf at h
      cases e : intsOf r with
      | none => rw [e] at h; cases h
      | some l =>
        rw [e] at h
        cases h
        rw [intsOf_eq e]
        rfl
    | _ => cases h
@[simp] theorem intsOf_map (ns : List Int) : intsOf (ns.map D.int) = some ns := by
  induction ns with
  | nil => rfl
  | cons a r ih =>
    show (intsOf (r.map D.int)).map _ = _
    rw [ih]
    rfl
def maxI : List Int → Option Int
  | [] => none
  | a :: r => some (r.foldl max a)
def minI : List Int → Option Int
  | [] => none
  | a :: r => some (r.foldl min a)
theorem foldl_max : ∀ (r : List Int) (a : Int), (r.foldl max a = a ∨ r.foldl max a ∈ r) ∧ a ≤ r.foldl max a ∧ ∀ y ∈ r, y ≤ r.foldl max a
  | [], a => ⟨.inl rfl, Int.le_refl _, fun y h => by simp at h⟩
  | b :: r, a => by
    obtain ⟨h1, h2, h3⟩ := foldl_max r (max a b)
    rw [List.foldl_cons]
    refine ⟨?_, by omega, fun y hy => ?_⟩
    · rcases h1 with h1 | h1
      · rw [h1]
        by_cases h : a ≤ b
        · rw [Int.max_eq_right h]; exact .inr List.mem_cons_self
        · rw [Int.max_eq_left (by omega)]; exact .inl rfl
      · exact .inr (List.mem_cons_of_mem _ h1)
    · rcases List.mem_cons.mp hy with rfl | hy
      · omega
      · exact h3 y hy
theorem foldl_min : ∀ (r : List Int) (a : Int), (r.foldl min a = a ∨ r.foldl min a ∈ r) ∧ r.foldl min a ≤ a ∧ ∀ y ∈ r, r.foldl min a ≤ y
  | [], a => ⟨.inl rfl, Int.le_refl _, fun y h => by simp at h⟩
  | b :: r, a => by
    obtain ⟨h1, h2, h3⟩ := foldl_min r (min a b)
    rw [List.foldl_cons]
    refine ⟨?_, by omega, fun y hy => ?_⟩
    · rcases h1 with h1 | h1
      · rw [h1]
        by_cases h : a ≤ b
        · rw [Int.min_eq_left h]; exact .inl rfl
        · rw [Int.min_eq_right (by omega)]; exact .inr List.mem_cons_self
      · exact .inr (List.mem_cons_of_mem _ h1)
    · rcases List.mem_cons.mp hy with rfl | hy
      · omega
      · exact h3 y hy
theorem maxI_spec {l : List Int} {m : Int} (h : maxI l = some m) : m ∈ l ∧ ∀ y ∈ l, y ≤ m := by
  cases l with
  | nil => cases h
  | cons a r =>
    cases h
    obtain ⟨h1, h2, h3⟩ := foldl_max r a
    refine ⟨h1.elim (fun e => by rw [e]; exact List.mem_cons_self) fun e => List.mem_cons_of_mem _ e, fun y hy => ?_⟩
    rcases List.mem_cons.mp hy with rfl | hy
    · exact h2
    · exact h3 y hy
theorem minI_spec {l : List Int} {m : Int} (h : minI l = some m) : m ∈ l ∧ ∀ y ∈ l, m ≤ y := by
  cases l with
  | nil => cases h
  | cons a r =>
    cases h
    obtain ⟨h1, h2, h3⟩ := foldl_min r a
    refine ⟨h1.elim (fun e => by rw [e]; exact List.mem_cons_self) fun e => List.mem_cons_of_mem _ e, fun y hy => ?_⟩
    rcases List.mem_cons.mp hy with rfl | hy
    · exact h2
    · exact h3 y hy
def gMax : List D → Option D
  | [.int i, .int j] => some (.int (max i j))
  | [.lst l] => (intsOf l).bind fun ns => (maxI ns).map .int
  | _ => none
def gMin : List D → Option D
  | [.int i, .int j] => some (.int (min i j))
  | [.lst l] => (intsOf l).bind fun ns => (minI ns).map .int
  | _ => none
def gSum : List D → Option D
  | [.lst l] => (intsOf l).map fun ns => .int ns.sum
  | _ => none
def gAbs : List D → Option D
  | [.int i] => some (.int (if i < 0 then -i else i))
  | _ => none
def gInt : List D → Option D
  | [.int i] => some (.int i)
  | [.bl b] => some (.int (if b then 1 else 0))
  | _ => none
def rMaxA (K : PySem.W.Frag) : List V → Hp → VK → Prop := fun xs H Q => (∃ i j, xs = [.int i, .int j] ∧ Q (.int (if j > i then j else i)) H) ∨ rMax K xs H Q
def rMinA (K : PySem.W.Frag) : List V → Hp → VK → Prop := fun xs H Q => (∃ i j, xs = [.int i, .int j] ∧ Q (.int (if j < i then j else i)) H) ∨ rMin K xs H Q
theorem call_maxA {X : Cx} (hc : X.calm = true) : CallR X (.builtin "max") (rMaxA X.K) := CallR.or (call_max2 hc) (cr_max hc)
theorem call_minA {X : Cx} (hc : X.calm = true) : CallR X (.builtin "min") (rMinA X.K) := CallR.or (call_min2 hc) (cr_min hc)
theorem cf_max : CallF K (rMaxA K) gMax := by
  intro vs ds z H B Q h ez po
  unfold gMax at ez
  split at ez
  · rename_i i j
    cases ez
    obtain ⟨v, w, B1, B2, rfl, h1, h2, _⟩ := dats2 h
    rw [dat_int h1, dat_int h2]
    refine .inl ⟨i, j, rfl, ?_⟩
    have e : (if j > i then j else i) = max i j := by split <;> omega
    rw [e]
    exact po rfl _ dat_of_int
  · rename_i l
    cases e : intsOf l with
    | none => rw [e] at ez; cases ez
    | some ns =>
      rw [e] at ez
      simp only [Option.bind_some] at ez
      cases em : maxI ns with
      | none => rw [em] at ez; cases ez
      | some m =>
        rw [em] at ez
        cases ez
        obtain ⟨v, e9, h9⟩ := dats1 h
        subst e9
        clear h
        have h := h9
        clear h9
        obtain ⟨a, xs, R', rfl, q, rfl, hd⟩ := dat_lst0 h
        have ex := int_list hd (intsOf_eq e)
        subst ex
        obtain ⟨m1, m2⟩ := maxI_spec em
        refine .inr ⟨a, ns, rfl, .of q, List.length_pos_of_mem m1, fun k hk hm => ?_⟩
        have : k = m := by have := hm m m1; have := m2 k hk; omega
        rw [this]
        exact po rfl _ dat_of_int
  · cases ez
theorem cf_min : CallF K (rMinA K) gMin := by
  intro vs ds z H B Q h ez po
  unfold gMin at ez
  split at ez
  · rename_i i j
    cases ez
    obtain ⟨v, w, B1, B2, rfl, h1, h2, _⟩ := dats2 h
    rw [dat_int h1, dat_int h2]
    refine .inl ⟨i, j, rfl, ?_⟩
    have e : (if j < i then j else i) = min i j := by split <;> omega
    rw [e]
    exact po rfl _ dat_of_int
  · rename_i l
    cases e : intsOf l with
    | none => rw [e] at ez; cases ez
    | some ns =>
      rw [e] at ez
      simp only [Option.bind_some] at ez
      cases em : minI ns with
      | none => rw [em] at ez; cases ez
      | some m =>
        rw [em] at ez
        cases ez
        obtain ⟨v, e9, h9⟩ := dats1 h
        subst e9
        clear h
        have h := h9
        clear h9
        obtain ⟨a, xs, R', rfl, q, rfl, hd⟩ := dat_lst0 h
        have ex := int_list hd (intsOf_eq e)
        subst ex
        obtain ⟨m1, m2⟩ := minI_spec em
        refine .inr ⟨a, ns, rfl, .of q, List.length_pos_of_mem m1, fun k hk hm => ?_⟩
        have : k = m := by have := hm m m1; have := m2 k hk; omega
        rw [this]
        exact po rfl _ dat_of_int
  · cases ez
theorem cf_sum : CallF K (rSum K) gSum := by
  intro vs ds z H B Q h ez po
  unfold gSum at ez
  split at ez
  · rename_i l
    cases e : intsOf l with
    | none => rw [e] at ez; cases ez
    | some ns =>
      rw [e] at ez
      cases ez
      obtain ⟨v, e9, h9⟩ := dats1 h
      subst e9
      clear h
      have h := h9
      clear h9
      obtain ⟨a, xs, R', rfl, q, rfl, hd⟩ := dat_lst0 h
      have ex := int_list hd (intsOf_eq e)
      subst ex
      exact ⟨a, ns, rfl, .of q, po rfl _ dat_of_int⟩
  · cases ez
theorem cf_abs : CallF K (fun xs H Q => ∃ i, xs = [.int i] ∧ Q (.int (if i < 0 then -i else i)) H) gAbs := by
  intro vs ds z H B Q h ez po
  unfold gAbs at ez
  split at ez
  · rename_i i
    cases ez
    obtain ⟨v, e9, h9⟩ := dats1 h
    subst e9
    clear h
    have h := h9
    clear h9
    rw [dat_int h]
    exact ⟨i, rfl, po rfl _ dat_of_int⟩
  · cases ez
theorem cf_int : CallF K (fun xs H Q => (∃ i, xs = [.int i] ∧ Q (.int i) H) ∨ ∃ k, xs = [.bl k] ∧ Q (.int (if k then 1 else 0)) H) gInt := by
  intro vs ds z H B Q h ez po
  unfold gInt at ez
  split at ez
  · rename_i i
    cases ez
    obtain ⟨v, e9, h9⟩ := dats1 h
    subst e9
    clear h
    have h := h9
    clear h9
    rw [dat_int h]
    exact .inl ⟨i, rfl, po rfl _ dat_of_int⟩
  · rename_i b
    cases ez
    obtain ⟨v, e9, h9⟩ := dats1 h
    subst e9
    clear h
    have h := h9
    clear h9
    rw [dat_bl h]
    exact .inr ⟨b, rfl, po rfl _ dat_of_int⟩
  · cases ez
def gList : List D → Option D
  | [.lst l] => some (.lst l)
  | [.tup l] => some (.lst l)
  | [.scr l] => some (.lst (l.map .int))
  | [.ftup l] => some (.lst l)
  | _ => none
theorem cv_list {n : Nat} (hn : n ≤ 1 := by decide) : CallV K (fun xs H Q => ∃ p ys, xs = [.ref p] ∧ (SqL K H p ys ∨ SqT K H p ys) ∧ ∀ l, H l = none → Q (.ref l) (upd H l (.lst ys))) gList n := by
  intro Z vs ds z H B Q hz h hb ez po
  have e0 : n - 1 = 0 := by omega
  unfold gList at ez
  split at ez
  · cases ez
    obtain ⟨v, e9, h9⟩ := dats1 h
    subst e9
    clear h
    have h := h9
    clear h9
    obtain ⟨a, xs, R', rfl, q, rfl, hd⟩ := dat_lst0 h
    exact ⟨a, xs, rfl, .inl (.of q), fun l hl => new_lst po hl (B := R') (by rw [e0]; exact hd) (fun b hb' => hb b (List.mem_cons_of_mem _ hb')) hz⟩
  · cases ez
    obtain ⟨v, e9, h9⟩ := dats1 h
    subst e9
    clear h
    have h := h9
    clear h9
    obtain ⟨a, xs, rfl, q, hd⟩ := dat_tup0 h
    exact ⟨a, xs, rfl, .inr (.of q), fun l hl => new_lst po hl (B := B) (by rw [e0]; exact hd) hb hz⟩
  · rename_i l
    cases ez
    obtain ⟨v, e9, h9⟩ := dats1 h
    subst e9
    clear h
    have h := h9
    clear h9
    unfold Dat at h
    obtain ⟨⟨a, rfl, q⟩, _, rfl⟩ := h
    refine ⟨a, l.map V.int, rfl, .inl q.sq, fun p hp => new_lst po hp (B := []) ?_ (fun b hb' => by simp at hb') hz⟩
    rw [e0]
    clear po q hp
    induction l with
    | nil => exact .nil
    | cons a r ih => exact Dats.cons (S1 := []) (R1 := []) (dat_of_int 0) ih
  · cases ez
    obtain ⟨v, e9, h9⟩ := dats1 h
    subst e9
    obtain ⟨a, xs, rfl, q, hd⟩ := dat_ftup0 h9
    exact ⟨a, xs, rfl, .inr (sqt_frz q), fun l hl => new_lst po hl (B := B) (by rw [e0]; exact hd) hb hz⟩
  · cases ez
def gTuple : List D → Option D
  | [.lst l] => some (.tup l)
  | [.tup l] => some (.tup l)
  | [.ftup l] => some (.ftup l)
  | _ => none
theorem cv_tuple {n : Nat} (hn : n ≤ 1 := by decide) : CallV K (fun xs H Q => ∃ p ys, xs = [.ref p] ∧ ((SqL K H p ys ∧ ∀ l, H l = none → Q (.ref l) (upd H l (.tup ys))) ∨ (SqT K H p ys ∧ Q (.ref p) H))) gTuple n := by
  intro Z vs ds z H B Q hz h hb ez po
  have e0 : n - 1 = 0 := by omega
  unfold gTuple at ez
  split at ez
  · cases ez
    obtain ⟨v, e9, h9⟩ := dats1 h
    subst e9
    clear h
    have h := h9
    clear h9
    obtain ⟨a, xs, R', rfl, q, rfl, hd⟩ := dat_lst0 h
    exact ⟨a, xs, rfl, .inl ⟨.of q, fun l hl => new_tup po hl (B := R') (by rw [e0]; exact hd) (fun b hb' => hb b (List.mem_cons_of_mem _ hb'))⟩⟩
  · rename_i l
    cases ez
    obtain ⟨v, e9, h9⟩ := dats1 h
    subst e9
    clear h
    have h := h9
    clear h9
    obtain ⟨a, xs, rfl, q, hd⟩ := dat_tup0 h
    refine ⟨a, xs, rfl, .inr ⟨.of q, ?_⟩⟩
    refine po (.ref a) H [] B (Same.refl H) ?_ hb fun _ => New.nil
    unfold Dat
    exact ⟨a, xs, rfl, q, by rw [e0]; exact hd⟩
  · rename_i l
    cases ez
    obtain ⟨v, e9, h9⟩ := dats1 h
    subst e9
    obtain ⟨a, xs, rfl, q, hd⟩ := dat_ftup0 h9
    refine ⟨a, xs, rfl, .inr ⟨sqt_frz q, ?_⟩⟩
    refine po (.ref a) H [] B (Same.refl H) ?_ hb fun _ => New.nil
    unfold Dat
    exact ⟨a, xs, rfl, q, by rw [e0]; exact hd⟩
  · cases ez
end
section
variable {X : Cx} {W : WX} {Γ : List Nat} {n : Nat} {e : Expr} {es : List Expr} {p pos : Pos} {ma : Rho → Res (List D)}
theorem re_len (hm : X.mg "len" = none) (ha : RAB X W Γ [e] ma) (hg : Gl X "len" := by rfl)
    (he : starEach (e :: []) X.env = (false, eval e X.env) :: starEach [] X.env := by rfl) (hpl : (backTo pos (starEach [] X.env)).any (·.1) = false := by rfl) : RE X W Γ n true (.Call (.Name "len" p) [e] [] pos) (mL gLen ma) := re_callBF call_lenA cf_len hm PySem.boot_len ha hg (by decide) (by decide) he hpl
theorem re_max (hc : X.calm = true) (hm : X.mg "max" = none) (ha : RAB X W Γ (e :: es) ma) (hg : Gl X "max" := by rfl)
    (he : starEach (e :: es) X.env = (false, eval e X.env) :: starEach es X.env := by rfl) (hpl : (backTo pos (starEach es X.env)).any (·.1) = false := by rfl) : RE X W Γ n true (.Call (.Name "max" p) (e :: es) [] pos) (mL gMax ma) := re_callBF (call_maxA hc) cf_max hm (by decide +kernel) ha hg (by decide) (by decide) he hpl
theorem re_min (hc : X.calm = true) (hm : X.mg "min" = none) (ha : RAB X W Γ (e :: es) ma) (hg : Gl X "min" := by rfl)
    (he : starEach (e :: es) X.env = (false, eval e X.env) :: starEach es X.env := by rfl) (hpl : (backTo pos (starEach es X.env)).any (·.1) = false := by rfl) : RE X W Γ n true (.Call (.Name "min" p) (e :: es) [] pos) (mL gMin ma) := re_callBF (call_minA hc) cf_min hm (by decide +kernel) ha hg (by decide) (by decide) he hpl
theorem re_sum (hc : X.calm = true) (hm : X.mg "sum" = none) (ha : RAB X W Γ [e] ma) (hg : Gl X "sum" := by rfl)
    (he : starEach (e :: []) X.env = (false, eval e X.env) :: starEach [] X.env := by rfl) (hpl : (backTo pos (starEach [] X.env)).any (·.1) = false := by rfl) : RE X W Γ n true (.Call (.Name "sum" p) [e] [] pos) (mL gSum ma) := re_callBF (cr_sum hc) cf_sum hm (by decide +kernel) ha hg (by decide) (by decide) he hpl
theorem re_abs (hm : X.mg "abs" = none) (ha : RAB X W Γ [e] ma) (hg : Gl X "abs" := by rfl)
    (he : starEach (e :: []) X.env = (false, eval e X.env) :: starEach [] X.env := by rfl) (hpl : (backTo pos (starEach [] X.env)).any (·.1) = false := by rfl) : RE X W Γ n true (.Call (.Name "abs" p) [e] [] pos) (mL gAbs ma) := re_callBF call_abs cf_abs hm boot_abs ha hg (by decide) (by decide) he hpl
theorem re_intB (hm : X.mg "int" = none) (ha : RAB X W Γ [e] ma) (hg : Gl X "int" := by rfl)
    (he : starEach (e :: []) X.env = (false, eval e X.env) :: starEach [] X.env := by rfl) (hpl : (backTo pos (starEach [] X.env)).any (·.1) = false := by rfl) : RE X W Γ n true (.Call (.Name "int" p) [e] [] pos) (mL gInt ma) := re_callTF call_int1 cf_int hm boot_int ha hg (by decide) (by decide) he hpl
theorem re_list (hm : X.mg "list" = none) (ha : RA X W Γ 0 true [e] ma) (hn : n ≤ 1 := by decide) (hg : Gl X "list" := by rfl)
    (he : starEach (e :: []) X.env = (false, eval e X.env) :: starEach [] X.env := by rfl) (hpl : (backTo pos (starEach [] X.env)).any (·.1) = false := by rfl) : RE X W Γ n true (.Call (.Name "list" p) [e] [] pos) (mL gList ma) := re_callT call_list_of (cv_list hn) hm boot_list ha hg (by decide) (by decide) he hpl
theorem re_tuple (hm : X.mg "tuple" = none) (ha : RA X W Γ 0 true [e] ma) (hn : n ≤ 1 := by decide) (hg : Gl X "tuple" := by rfl)
    (he : starEach (e :: []) X.env = (false, eval e X.env) :: starEach [] X.env := by rfl) (hpl : (backTo pos (starEach [] X.env)).any (·.1) = false := by rfl) : RE X W Γ n true (.Call (.Name "tuple" p) [e] [] pos) (mL gTuple ma) := re_callT call_tuple_of (cv_tuple hn) hm boot_tuple ha hg (by decide) (by decide) he hpl
end

def D.ty : D → String
  | .non => "NoneType"
  | .bl _ => "bool"
  | .int _ => "int"
  | .str _ => "str"
  | .lst _ => "list"
  | .tup _ => "tuple"
  | .dK _ _ => "dict"
  | .dT _ _ => "dict"
  | .scr _ => "list"
  | .junk => "junk"
  | .ftup _ => "tuple"
def gIsi (T : String) (d : D) : Option D := match d with
  | .junk => none
  | d => (kitB d.ty T).map .bl
def rIsiZ (K : PySem.W.Frag) : List V → Hp → VK → Prop := fun xs H Q => ∃ (a : Addr) (o : Obj) (kvs : List (List Key × V)) (c : V) (u : Value) (b : Bool), xs = [.ref a, c] ∧ ClsV c u ∧ H a = some (.frz o (.dT kvs)) ∧ PySem.W.kitOne K (.type "dict") u = some b ∧ Q (.bl b) H
theorem call_isiZ {X : Cx} : CallR X (.builtin "isinstance") (rIsiZ X.K) := by
  intro pins s σ H xs us Q I r h
  obtain ⟨a, o, kvs, c, u, b, rfl, k, ea, e, q⟩ := h
  obtain ⟨u1, u2, rfl, r1, r2⟩ := vals2 r
  have e2 := k.eq r2
  subst e2
  cases (show u1 = Value.ref a from r1)
  obtain ⟨_, _, _, _, _, ob, es, ep, h1, h2, _⟩ := (show ObjOk X.prog X.w H s.heap a (.frz o (.dT kvs)) from I.hok a _ ea)
  exact PySem.W.kia_one PySem.W.kitx_dict I.kIn ⟨ob, h1, h2.1⟩ e (fun z => nomatch z) fun tk => ⟨.bl b, H, I.tok tk, rfl, q⟩
theorem isi_at {K : PySem.W.Frag} {H : Hp} {d : D} {x : V} {B : List Addr} {T : String} {b : Bool} {Q : VK} (hj : d ≠ .junk) (h : Dat K H d 0 x [] B) (e : kitB d.ty T = some b) (q : Q (.bl b) H) : rIsi K [x, .ty T] H Q ∨ rIsiZ K [x, .ty T] H Q := by
  have base : ∀ {t : String}, kitB t T = some b → TyX K H x (.type t) → rIsi K [x, .ty T] H Q := fun e ty => ⟨x, .ty T, _, _, b, rfl, .ty T, ty, kit_ty e, q⟩
  cases d with
  | junk => exact absurd rfl hj
  | non => simp only [Dat] at h; obtain ⟨rfl, _⟩ := h; exact .inl (base e (.base .non))
  | bl k => rw [dat_bl h] at base ⊢; exact .inl (base e (.base (.bl k)))
  | int k => rw [dat_int h] at base ⊢; exact .inl (base e (.base (.int k)))
  | str k => rw [dat_str h] at base ⊢; exact .inl (base e (.base (.str k)))
  | lst l =>
    obtain ⟨a, xs, R', rfl, q', _⟩ := dat_lst0 h
    exact .inl (base e (.base (.lst q')))
  | tup l =>
    obtain ⟨a, xs, rfl, q', _⟩ := dat_tup0 h
    exact .inl (base e (.base (.tup q')))
  | ftup l =>
    obtain ⟨a, xs, rfl, ⟨o, _, q'⟩, _⟩ := dat_ftup0 h
    exact .inl (base e (.fTuple q'))
  | dK ks vs =>
    unfold Dat at h
    obtain ⟨a, ws, R', rfl, q' | ⟨o, q'⟩, _⟩ := h
    · exact .inl (base e (.base (.dK q')))
    · exact .inl (base e (.fDict q'))
  | dT ks vs =>
    unfold Dat at h
    obtain ⟨a, ws, R', rfl, q' | ⟨o, q'⟩, _⟩ := h
    · exact .inl (base e (.base (.dT q')))
    · exact .inr ⟨a, o, ws, .ty T, .type T, b, rfl, .ty T, q', kit_ty e, q⟩
  | scr l =>
    unfold Dat at h
    obtain ⟨⟨a, rfl, ⟨o, q'⟩ | ⟨o, its, m, k1, k2, _⟩⟩, _⟩ := h
    · exact .inl (base e (.base (.frz q')))
    · exact .inl (base e (.kList k1 k2))
section
variable {X : Cx} {W : WX} {Γ : List Nat} {n : Nat} {e : Expr} {p p2 pos : Pos} {me : Rho → Res D}
theorem re_isi {T : Str} {U : String} (hm : X.mg "isinstance" = none) (hmT : X.mg T = none) (hbT : bootBuiltins T = some (.type U)) (ha : RB X W Γ e me) (hg : Gl X "isinstance" := by rfl) (hgT : Gl X T := by rfl) (hnT : T ≠ "__name__" := by decide) (hdT : (T == ("__debug__" : Str)) = false := by decide)
    (he : starEach (e :: [.Name T p2]) X.env = (false, eval e X.env) :: starEach [.Name T p2] X.env := by rfl) (he2 : starEach (.Name T p2 :: []) X.env = (false, eval (.Name T p2) X.env) :: starEach [] X.env := by rfl) (hpl : (backTo pos (starEach [.Name T p2] X.env)).any (·.1) = false := by rfl) :
    RE X W Γ n true (.Call (.Name "isinstance" p) [e, .Name T p2] [] pos) (m1 (gIsi U) me) := by
  obtain ⟨ta, pa, qa⟩ := ha
  refine ⟨_, pe_callB (CallR.or call_isi call_isiZ) hg hm boot_isinstance (pa_cons pa (pa_cons (pe_bltn (v := .ty U) hgT hmT hbT rfl hnT hdT) pa_nil he2) he) (by decide) (by decide) he hpl, fun F H0 ρ σ H S R Q st po => ?_⟩
  refine qa F H0 ρ σ H S R _ st ((PostE.iff.mp po).bind.imp fun d _ po => ?_)
  intro x H1 B s1 d1
  obtain ⟨z, ez, po⟩ := PostE.ofO (PostE.iff.mpr po)
  have hj : d ≠ .junk := fun z => by subst z; cases ez
  have ez : (kitB d.ty U).map D.bl = some z := by cases d <;> first | exact ez | exact absurd rfl hj
  cases ek : kitB d.ty U with
  | none => rw [ek] at ez; cases ez
  | some b =>
    rw [ek] at ez
    cases ez
    exact isi_at hj d1 ek (PostV.flat (PostV.later po s1) rfl dat_of_bl)
end

def cutD {α : Type} (l : List α) (lo hi : Option Int) : List α := (l.drop (HT.sIx l.length 0 lo)).take (HT.sIx l.length l.length hi - HT.sIx l.length 0 lo)
def gSl (d : D) (lo hi : Option Int) : Option D := match d with
  | .lst l => some (.lst (cutD l lo hi))
  | .tup l => some (.tup (cutD l lo hi))
  | .scr l => some (.lst ((cutD l lo hi).map .int))
  | .str s => if s.length ≤ sizeLine then some (.str (cutS s lo hi)) else none
  | _ => none
def ROp (X : Cx) (W : WX) (Γ : List Nat) (e : Option Expr) (m : Rho → Res (Option Int)) : Prop :=
  ∃ t, PO X e t ∧ ∀ F H0 ρ σ H S R Q, Sto X.K F H0 Γ ρ σ H S R → PostX X W σ H (fun o => ∀ H', Same H H' → Q o H') (m ρ) → t σ H Q
def ofI : D → Res (Option Int)
  | .int i => .ok (some i)
  | _ => .stuck
def oNo : Rho → Res (Option Int) := fun _ => .ok none
def oYes (m : Rho → Res D) : Rho → Res (Option Int) := fun ρ => (m ρ).bind ofI
def mSl (a : Rho → Res D) (lo hi : Rho → Res (Option Int)) : Rho → Res D := fun ρ => (a ρ).bind fun d => (lo ρ).bind fun l => (hi ρ).bind fun h => ofO (gSl d l h)
theorem Dats.drop {K : PySem.W.Frag} {H : Hp} : ∀ {ds : List D} {xs : List V} {R : List Addr} (k : Nat), Dats K H ds 0 xs [] R → ∃ R', Dats K H (ds.drop k) 0 (xs.drop k) [] R' ∧ ∀ a ∈ R', a ∈ R
  | ds, xs, R, 0, h => ⟨R, by simpa using h, fun _ z => z⟩
  | [], xs, R, k + 1, h => by
    simp only [Dats] at h
    obtain ⟨rfl, _, rfl⟩ := h
    exact ⟨[], by simpa using Dats.nil, fun a z => z⟩
  | d :: ds, xs, R, k + 1, h => by
    unfold Dats at h
    obtain ⟨x, xs', S1, S2, R1, R2, rfl, e0, rfl, h1, h2⟩ := h
    obtain ⟨rfl, rfl⟩ := List.append_eq_nil_iff.mp e0.symm
    obtain ⟨R', q, i⟩ := Dats.drop k h2
    exact ⟨R', q, fun a z => List.mem_append_right _ (i a z)⟩
theorem Dats.take {K : PySem.W.Frag} {H : Hp} : ∀ {ds : List D} {xs : List V} {R : List Addr} (k : Nat), Dats K H ds 0 xs [] R → ∃ R', Dats K H (ds.take k) 0 (xs.take k) [] R' ∧ ∀ a ∈ R', a ∈ R
  | ds, xs, R, 0, h => ⟨[], by simpa using Dats.nil, fun _ z => by simp at z⟩
  | [], xs, R, k + 1, h => by
    simp only [Dats] at h
    obtain ⟨rfl, _, rfl⟩ := h
    exact ⟨[], by simpa using Dats.nil, fun a z => z⟩
  | d :: ds, xs, R, k + 1, h => by
    unfold Dats at h
    obtain ⟨x, xs', S1, S2, R1, R2, rfl, e0, rfl, h1, h2⟩ := h
    obtain ⟨rfl, rfl⟩ := List.append_eq_nil_iff.mp e0.symm
    obtain ⟨R', q, i⟩ := Dats.take k h2
    refine ⟨R1 ++ R', Dats.cons (S1 := []) (S2 := []) h1 q, fun a z => ?_⟩
    rcases List.mem_append.mp z with z | z
    · exact List.mem_append_left _ z
    · exact List.mem_append_right _ (i a z)
theorem Dats.cut {K : PySem.W.Frag} {H : Hp} {ds : List D} {xs : List V} {R : List Addr} (lo hi : Option Int) (h : Dats K H ds 0 xs [] R) : ∃ R', Dats K H (cutD ds lo hi) 0 (cutV xs lo hi) [] R' ∧ ∀ a ∈ R', a ∈ R := by
  unfold cutD cutV
  rw [h.length]
  obtain ⟨R1, q1, i1⟩ := Dats.drop (HT.sIx ds.length 0 lo) h
  obtain ⟨R2, q2, i2⟩ := Dats.take (HT.sIx ds.length ds.length hi - HT.sIx ds.length 0 lo) q1
  exact ⟨R2, q2, fun a z => i1 a (i2 a z)⟩
theorem SlR.or {X : Cx} {r r' : V → Option Int → Option Int → Hp → VK → Prop} (h : SlR X r) (h' : SlR X r') : SlR X (fun x lo hi H Q => r x lo hi H Q ∨ r' x lo hi H Q) :=
  fun pins s σ H x v vl vu lo hi sl Q I rx hs pl pu q => q.elim (h pins s σ H x v vl vu lo hi sl Q I rx hs pl pu) (h' pins s σ H x v vl vu lo hi sl Q I rx hs pl pu)
section
variable {X : Cx} {W : WX} {Γ : List Nat} {n : Nat} {e : Expr} {lo hi : Option Expr} {pos p2 : Pos} {me : Rho → Res D} {ml mh : Rho → Res (Option Int)}
theorem ro_no : ROp X W Γ none oNo := ⟨_, po_none, fun F H0 ρ σ H S R Q st po => po H (Same.refl H)⟩
theorem ro_yes (h : RE X W Γ 0 true e me) : ROp X W Γ (some e) (oYes me) := by
  obtain ⟨t, p, q⟩ := h
  refine ⟨_, po_some p, fun F H0 ρ σ H S R Q st po => ?_⟩
  refine q F H0 ρ σ H S R _ st (PostE.iff.mpr (po.bind.imp fun d _ po => ?_))
  intro x H1 A B s1 d1 _ _
  cases d with
  | int i => exact ⟨i, dat_int d1, po H1 s1⟩
  | _ => exact po.elim
theorem sl_at {K : PySem.W.Frag} {Z : Addr → Prop} {H : Hp} {d z : D} {x : V} {B : List Addr} {l h : Option Int} {Q : VK} {n : Nat} (hn : n ≤ 1) (hz : ∀ a, Z a → H a ≠ none) (hd : Dat K H d 0 x [] B) (hb : ∀ a ∈ B, ¬ Z a) (ez : gSl d l h = some z) (po : PostV K Z n true H Q z) :
    (rSlL K x l h H Q ∨ rSlS x l h H Q) ∨ rSlA K x l h H Q := by
  have e0 : n - 1 = 0 := by omega
  unfold gSl at ez
  split at ez
  · rename_i ds
    cases ez
    obtain ⟨a, xs, R', rfl, q, rfl, dd⟩ := dat_lst0 hd
    obtain ⟨R2, g, i⟩ := dd.cut l h
    exact .inl (.inl ⟨a, xs, rfl, .of q, fun p hp => new_lst po hp (B := R2) (by rw [e0]; exact g) (fun b hb' => hb b (List.mem_cons_of_mem _ (i b hb'))) hz⟩)
  · rename_i ds
    cases ez
    obtain ⟨a, xs, rfl, q, dd⟩ := dat_tup0 hd
    obtain ⟨R2, g, i⟩ := dd.cut l h
    refine .inr ⟨a, xs, rfl, .of q, fun hw => ?_, fun hw p hp => new_tup po hp (B := R2) (by rw [e0]; exact g) fun b hb' => hb b (i b hb')⟩
    have ew : cutD ds l h = ds := by
      have hl := dd.length
      unfold cutD
      rw [← hl, hw.1, hw.2, List.drop_zero, Nat.sub_zero, hl, List.take_length]
    refine po (.ref a) H [] B (Same.refl H) ?_ hb fun _ => New.nil
    rw [ew]
    unfold Dat
    exact ⟨a, xs, rfl, q, by rw [e0]; exact dd⟩
  · rename_i ds
    cases ez
    unfold Dat at hd
    obtain ⟨⟨a, rfl, q⟩, _, rfl⟩ := hd
    refine .inl (.inl ⟨a, ds.map V.int, rfl, q.sq, fun p hp => ?_⟩)
    have ec : cutV (ds.map V.int) l h = (cutD ds l h).map V.int := by
      unfold cutV cutD
      rw [List.length_map, List.map_take, List.map_drop]
    rw [ec]
    refine new_lst po hp (B := []) ?_ (fun b hb' => by simp at hb') hz
    rw [e0]
    generalize cutD ds l h = l2
    induction l2 with
    | nil => exact .nil
    | cons a r ih => exact Dats.cons (S1 := []) (R1 := []) (dat_of_int 0) ih
  · rename_i s
    split at ez
    · rename_i hl
      cases ez
      rw [dat_str hd]
      exact .inl (.inr ⟨s, rfl, hl, PostV.flat po rfl dat_of_str⟩)
    · cases ez
  · cases ez
theorem re_sl (he : RE X W Γ 0 true e me) (hl : ROp X W Γ lo ml) (hh : ROp X W Γ hi mh) (hn : n ≤ 1 := by decide) : RE X W Γ n true (.Subscript e (.Slice lo hi none p2) pos) (mSl me ml mh) := by
  obtain ⟨ta, pa, qa⟩ := he
  obtain ⟨tb, pb, qb⟩ := hl
  obtain ⟨tc, pc, qc⟩ := hh
  refine ⟨_, pe_slice (SlR.or (SlR.or sl_list sl_str) sl_tupA) pa pb pc, fun F H0 ρ σ H S R Q st po => ?_⟩
  unfold mSl at po
  refine qa F H0 ρ σ H S R _ st (PostE.iff.mpr ((PostE.iff.mp po).bind.imp fun d _ po => ?_))
  intro x H1 A B s1 d1 v1 _
  obtain rfl : A = [] := Dat.noS d1
  refine qb F H0 ρ σ H1 S R _ (st.grow s1) (po.bind.later s1 fun l _ po H2 s2 => ?_)
  refine qc F H0 ρ σ H2 S R _ ((st.grow s1).grow s2) (po.bind.later (s1.trans s2) fun h _ po H3 s3 => ?_)
  obtain ⟨z, ez, po⟩ := PostE.ofO (PostE.iff.mpr po)
  exact sl_at hn (((st.grow s1).grow s2).grow s3).avd ((d1.same s2).same s3) v1 ez (PostV.later po ((s1.trans s2).trans s3))
end
def spM (K : PySem.W.Frag) (mg : Str → Option Value) (n ar : Nat) (m : List D → Res D) : Sp := fun vs H Q E => vs.length = ar ∧ ∃ (ds : List D) (F : Addr → Prop) (R : List Addr), (∀ a, F a → H a ≠ none) ∧ Dats K H ds 0 vs [] R ∧ (∀ a ∈ R, ¬ F a) ∧
  match m ds with
  | .ok d => PostV K F n true H Q d
  | .exn c => ∀ C H', mg c = some (.ref C) → Same H H' → E (.ref C) none H'
  | .stuck => False
structure FnG (P : Program) (w : World) (K : PySem.W.Frag) (mg : Str → Option Value) (base : Heap) (x : Str) (k n ar : Nat) (m : List D → Res D) : Prop where
  ex : ∃ (f : Addr) (fd : FuncData) (ps : List Str), FnOk P w K mg base (L2.CX P w) k f fd ps (spM K mg n ar m) ∧ mg x = some (.ref f) ∧ PySem.W.keepIn K (.ref f) = true ∧ Binds K fd ps []
theorem FnG.mono {P : Program} {w : World} {K : PySem.W.Frag} {mg : Str → Option Value} {base : Heap} {x : Str} {j k n ar : Nat} {m : List D → Res D} (h : FnG P w K mg base x j n ar m) (hk : j ≤ k) : FnG P w K mg base x k n ar m := by
  obtain ⟨f, fd, ps, F, r⟩ := h.ex
  exact ⟨f, fd, ps, F.mono hk, r⟩
section
variable {X : Cx} {W : WX} {Γ : List Nat} {n nf k ar : Nat} {e : Expr} {es : List Expr} {x : Str} {p pos : Pos} {ma : Rho → Res (List D)} {m : List D → Res D}
theorem re_call (h : FnG X.prog X.w X.K X.mg X.base x k nf ar m) (hr : Room k X.A) (tk : Takes X W) (ha : RA X W Γ 0 true (e :: es) ma) (hl : (e :: es).length = ar := by rfl) (hn : n ≤ nf := by decide) (hg : Gl X x := by rfl)
    (hdb : (x == ("__debug__" : Str)) = false := by decide) (he : starEach (e :: es) X.env = (false, eval e X.env) :: starEach es X.env := by rfl) (hpl : (backTo pos (starEach es X.env)).any (·.1) = false := by rfl) :
    RE X W Γ n true (.Call (.Name x p) (e :: es) [] pos) (mArgs m ma) := by
  refine RE.w ?_ hn
  obtain ⟨f, fd, ps, F, hm, hk, hb⟩ := h.ex
  obtain ⟨la, ta, pa, qa⟩ := ha
  have har : ∀ ρ ds, ma ρ = .ok ds → ds.length = ar := fun ρ ds q => (la ρ ds q).trans hl
  refine ⟨_, pe_callS F hr hg hm hk hb (fun σ => passAt tk σ) pa hdb he hpl, fun F' H0 ρ σ H S R Q st po => ?_⟩
  refine qa F' H0 ρ σ H S R _ st (PostA.iff.mpr ((PostE.iff.mp po).bind.imp fun ds eds po => ?_))
  intro xs H1 A B s1 d1 v1 _
  obtain rfl : A = [] := Dats.noS d1
  refine ⟨by rw [d1.length]; exact har ρ ds eds, ds, Av F' S, B, (st.grow s1).avd, d1, v1, ?_⟩
  cases em : m ds with
  | ok d => rw [em] at po; exact PostV.later po s1
  | exn c => rw [em] at po; exact fun C H' hc s2 => po C H' hc (s1.trans s2)
  | stuck => rw [em] at po; exact po
end
end TW

-- TWStm
namespace TW
open PySem PySem.Spec PyProof.Rows L2

section
variable {K : PySem.W.Frag} {H : Hp}
mutual
theorem Dat.mut : ∀ {d : D} {n : Nat} {v : V} {S R : List Addr}, Dat K H d n v S R → ∀ a ∈ S, Mut (H a)
  | .non, _, _, _, _, h, a, z => by simp only [Dat] at h; rw [h.2.1] at z; simp at z
  | .bl _, _, _, _, _, h, a, z => by simp only [Dat] at h; rw [h.2.1] at z; simp at z
  | .int _, _, _, _, _, h, a, z => by simp only [Dat] at h; rw [h.2.1] at z; simp at z
  | .str _, _, _, _, _, h, a, z => by simp only [Dat] at h; rw [h.2.1] at z; simp at z
  | .junk, _, _, _, _, h, a, z => by simp only [Dat] at h; rw [h.1] at z; simp at z
  | .scr _, _, _, _, _, h, a, z => by simp only [Dat] at h; rw [h.2.1] at z; simp at z
  | .lst ds, 0, _, _, _, h, a, z => by rw [Dat.noS h] at z; simp at z
  | .lst ds, n + 1, _, _, _, h, a, z => by
    simp only [Dat] at h
    obtain ⟨b, xs, S', rfl, q, rfl, hd⟩ := h
    rcases List.mem_cons.mp z with rfl | z
    · rw [q]; trivial
    · exact Dats.mut hd a z
  | .tup ds, n, _, _, _, h, a, z => by
    simp only [Dat] at h
    obtain ⟨b, xs, rfl, q, hd⟩ := h
    exact Dats.mut hd a z
  | .ftup ds, n, _, _, _, h, a, z => by
    simp only [Dat] at h
    obtain ⟨b, xs, rfl, q, hd⟩ := h
    exact Dats.mut hd a z
  | .dK _ ds, 0, _, _, _, h, a, z => by rw [Dat.noS h] at z; simp at z
  | .dK _ ds, n + 1, _, _, _, h, a, z => by
    simp only [Dat] at h
    obtain ⟨b, xs, S', rfl, q, _, rfl, hd⟩ := h
    rcases List.mem_cons.mp z with rfl | z
    · rw [q]; trivial
    · exact Dats.mut hd a z
  | .dT _ ds, 0, _, _, _, h, a, z => by rw [Dat.noS h] at z; simp at z
  | .dT _ ds, n + 1, _, _, _, h, a, z => by
    simp only [Dat] at h
    obtain ⟨b, xs, S', rfl, q, _, rfl, hd⟩ := h
    rcases List.mem_cons.mp z with rfl | z
    · rw [q]; trivial
    · exact Dats.mut hd a z
theorem Dats.mut : ∀ {ds : List D} {n : Nat} {xs : List V} {S R : List Addr}, Dats K H ds n xs S R → ∀ a ∈ S, Mut (H a)
  | [], _, _, _, _, h, a, z => by simp only [Dats] at h; rw [h.2.1] at z; simp at z
  | d :: ds, n, _, _, _, h, a, z => by
    simp only [Dats] at h
    obtain ⟨x, xs', S1, S2, R1, R2, rfl, rfl, rfl, h1, h2⟩ := h
    rcases List.mem_append.mp z with z | z
    · exact Dat.mut h1 a z
    · exact Dats.mut h2 a z
end
end
section
variable {K : PySem.W.Frag} {F : Fr} {H0 H H' : Hp} {Γ Γ' : List Nat} {ρ : Rho} {σ : L2.St} {S R : Nat → List Addr}
theorem Sto.mut (h : Sto K F H0 Γ ρ σ H S R) (i : Nat) : ∀ a ∈ S i, Mut (H a) := fun a ha => by
  by_cases e : ∃ d, ρ[i]? = some (some d)
  · obtain ⟨d, e⟩ := e
    obtain ⟨x, _, q⟩ := h.slot i d e
    exact Dat.mut q a ha
  · rw [(h.emp i fun d q => e ⟨d, q⟩).1] at ha
    simp at ha
theorem Sto.stay (h : Sto K F H0 Γ ρ σ H S R) (k : Keep S H H') {B : List Addr} (hb : ∀ a ∈ B, ¬ Av F S a) : Stay H H' [] B where
  tup := fun b xs q => k b _ q fun i hi => by have := h.mut i b hi; rw [q] at this; exact this
  frz := fun b o xs q => k b _ q fun i hi => by have := h.mut i b hi; rw [q] at this; exact this
  scr := fun b o xs q => k b _ q fun i hi => by have := h.mut i b hi; rw [q] at this; exact this
  own := fun b hb' => by simp at hb'
  res := fun b hb' o q => k b o q fun i hi => hb b hb' (.inr ⟨i, hi⟩)
theorem Sto.cong (h : Sto K F H0 Γ ρ σ H S R) (e : ∀ i, Γ.getD i 0 = Γ'.getD i 0) : Sto K F H0 Γ' ρ σ H S R :=
  ⟨h.same, h.len, fun i d q => by rw [← e i]; exact h.slot i d q, h.emp, h.new, h.nd, h.dj, h.rs, h.rf, h.sf, h.fd, fun i v q => ⟨(e i).symm.trans (h.pin i v q).1, (h.pin i v q).2⟩⟩
theorem Sto.set {i n : Nat} {d : D} {x : V} {A B : List Addr} (h : Sto K F H0 Γ ρ σ H S R) (hi : i < Γ.length ∨ n = 0 ∧ Γ.getD i 0 = 0) (hd : Dat K H d n x A B) (hb : ∀ a ∈ B, ¬ Av F S a) (nd : A.Nodup)
    (new : ∀ a ∈ A, H0 a = none) (nF : ∀ a ∈ A, ¬ F a) (nS : ∀ a ∈ A, ∀ j, a ∉ S j) (nR : ∀ a ∈ A, ∀ j, a ∉ R j) (nB : ∀ a ∈ A, a ∉ B) (hp : Γ.getD i 0 ≠ 99) :
    ∃ S' R', Sto K F H0 (Γ.set i n) (ρ.set i (some d)) (σ.set i (some x)) H S' R' ∧ (∀ j a, a ∈ S' j → a ∈ S j ∨ a ∈ A) := by
  have pin : ∀ j v, F.pin j = some v → (Γ.set i n).getD j 0 = 99 ∧ (σ.set i (some x))[j]? = some (some v) := fun j v q => by
    obtain ⟨p1, p2⟩ := h.pin j v q
    have hj : i ≠ j := fun z => hp (by rw [z]; exact p1)
    exact ⟨by rw [List.getD_eq_getElem?_getD, List.getElem?_set_ne hj, ← List.getD_eq_getElem?_getD]; exact p1, by rw [List.getElem?_set_ne hj]; exact p2⟩
  by_cases hl : i < ρ.length
  · refine ⟨fun j => if j = i then A else S j, fun j => if j = i then B else R j, ⟨h.same, by simp [h.len], fun j e q => ?_, fun j q => ?_, fun j a ha => ?_, fun j => ?_, fun j k hjk a ha hk => ?_, fun j k a ha hk => ?_, fun j a ha => ?_, fun j a ha => ?_, h.fd, pin⟩, fun j a ha => ?_⟩
    · by_cases hj : j = i
      · subst hj
        rw [List.getElem?_set_self hl] at q
        cases q
        refine ⟨x, by rw [List.getElem?_set_self (by rw [h.len]; exact hl)], ?_⟩
        rw [if_pos rfl, if_pos rfl]
        have eg : (Γ.set j n).getD j 0 = n := by
          rcases hi with hi | ⟨rfl, hi⟩
          · rw [List.getD_eq_getElem?_getD, List.getElem?_set_self hi]; rfl
          · rw [List.getD_eq_getElem?_getD] at hi ⊢
            by_cases hg : j < Γ.length
            · rw [List.getElem?_set_self hg]; rfl
            · rw [List.getElem?_eq_none (by simp; omega)]; rfl
        rw [eg]
        exact hd
      · rw [List.getElem?_set_ne (Ne.symm hj)] at q
        obtain ⟨y, e1, e2⟩ := h.slot j e q
        refine ⟨y, by rw [List.getElem?_set_ne (Ne.symm hj)]; exact e1, ?_⟩
        rw [if_neg hj, if_neg hj, show (Γ.set i n).getD j 0 = Γ.getD j 0 by rw [List.getD_eq_getElem?_getD, List.getD_eq_getElem?_getD, List.getElem?_set_ne (Ne.symm hj)]]
        exact e2
    · by_cases hj : j = i
      · subst hj
        exact absurd (List.getElem?_set_self hl) (q d)
      · rw [if_neg hj, if_neg hj]
        refine h.emp j fun e q' => q e ?_
        rw [List.getElem?_set_ne (Ne.symm hj)]
        exact q'
    · split at ha
      · exact new a ha
      · exact h.new j a ha
    · split
      · exact nd
      · exact h.nd j
    · split at ha
      · split at hk
        · omega
        · exact nS a ha k hk
      · split at hk
        · exact nS a hk j ha
        · exact h.dj j k hjk a ha hk
    · split at ha
      · split at hk
        · exact nB a hk ha
        · exact hb a ha (.inr ⟨k, hk⟩)
      · split at hk
        · exact nR a hk j ha
        · exact h.rs j k a ha hk
    · split at ha
      · exact fun z => hb a ha (.inl z)
      · exact h.rf j a ha
    · split at ha
      · exact nF a ha
      · exact h.sf j a ha
    · dsimp only at ha
      split at ha
      · exact .inr ha
      · exact .inl ha
  · have e1 : ρ.set i (some d) = ρ := List.set_eq_of_length_le (by omega)
    have e2 : σ.set i (some x) = σ := List.set_eq_of_length_le (by rw [h.len]; omega)
    rw [e1, e2]
    rw [e2] at pin
    refine ⟨S, R, ?_, fun j a ha => .inl ha⟩
    refine ⟨h.same, h.len, fun j e q => ?_, h.emp, h.new, h.nd, h.dj, h.rs, h.rf, h.sf, h.fd, pin⟩
    have hj : j ≠ i := fun z => by
      subst z
      rw [List.getElem?_eq_none (by omega)] at q
      cases q
    rw [show (Γ.set i n).getD j 0 = Γ.getD j 0 by rw [List.getD_eq_getElem?_getD, List.getD_eq_getElem?_getD, List.getElem?_set_ne (Ne.symm hj)]]
    exact h.slot j e q
theorem Sto.frz (h : Sto K F H0 Γ ρ σ H S R) (i : Nat) (hi : i < Γ.length) (hp : Γ.getD i 0 ≠ 99) : ∃ S' R', Sto K F H0 (Γ.set i 0) ρ σ H S' R' ∧ ∀ j a, a ∈ S' j → a ∈ S j := by
  have pin : ∀ j v, F.pin j = some v → (Γ.set i 0).getD j 0 = 99 ∧ σ[j]? = some (some v) := fun j v q => by
    obtain ⟨p1, p2⟩ := h.pin j v q
    have hj : i ≠ j := fun z => hp (by rw [z]; exact p1)
    exact ⟨by rw [List.getD_eq_getElem?_getD, List.getElem?_set_ne hj, ← List.getD_eq_getElem?_getD]; exact p1, p2⟩
  by_cases e : ∃ d, ρ[i]? = some (some d)
  · obtain ⟨d, e⟩ := e
    obtain ⟨x, e1, q⟩ := h.slot i d e
    obtain ⟨S1, R1, g, sl, hr⟩ := Dat.weak d _ 0 x _ _ (Nat.zero_le _) q
    obtain rfl : S1 = [] := Dat.noS g
    have eg : (Γ.set i 0).getD i 0 = 0 := by rw [List.getD_eq_getElem?_getD, List.getElem?_set_self hi]; rfl
    have eo : ∀ j, j ≠ i → (Γ.set i 0).getD j 0 = Γ.getD j 0 := fun j hj => by rw [List.getD_eq_getElem?_getD, List.getD_eq_getElem?_getD, List.getElem?_set_ne (Ne.symm hj)]
    have sub : ∀ j a, a ∈ (if j = i then [] else S j) → a ∈ S j := fun j a ha => by
      split at ha
      · simp at ha
      · exact ha
    have dis : ∀ a ∈ R1, ∀ j, a ∉ (if j = i then [] else S j) := fun a ha j hj => by
      split at hj
      · simp at hj
      · rename_i hji
        rcases hr a ha with z | z
        · exact h.dj i j (Ne.symm hji) a z hj
        · exact h.rs i j a z hj
    refine ⟨fun j => if j = i then [] else S j, fun j => if j = i then R1 else R j, ⟨h.same, h.len, fun j e' q' => ?_, fun j q' => ?_, fun j a ha => h.new j a (sub j a ha), fun j => ?_, fun j l hjl a ha hl => h.dj j l hjl a (sub j a ha) (sub l a hl), fun j l a ha hl => ?_, fun j a ha => ?_, fun j a ha => h.sf j a (sub j a ha), h.fd, pin⟩, sub⟩
    · by_cases hj : j = i
      · subst hj
        rw [e] at q'; cases q'
        rw [if_pos rfl, if_pos rfl, eg]
        exact ⟨x, e1, g⟩
      · rw [if_neg hj, if_neg hj, eo j hj]
        exact h.slot j e' q'
    · by_cases hj : j = i
      · subst hj
        exact absurd e (q' d)
      · rw [if_neg hj, if_neg hj]
        exact h.emp j q'
    · split
      · exact (h.nd i).sublist sl
      · exact h.nd j
    · split at ha
      · exact dis a ha l hl
      · exact h.rs j l a ha (sub l a hl)
    · split at ha
      · rcases hr a ha with ha | ha
        · exact h.sf i a ha
        · exact h.rf i a ha
      · exact h.rf j a ha
  · refine ⟨S, R, ⟨h.same, h.len, fun j e' q' => ?_, h.emp, h.new, h.nd, h.dj, h.rs, h.rf, h.sf, h.fd, pin⟩, fun _ _ z => z⟩
    have hj : j ≠ i := fun z => e ⟨e', z ▸ q'⟩
    rw [show (Γ.set i 0).getD j 0 = Γ.getD j 0 by rw [List.getD_eq_getElem?_getD, List.getD_eq_getElem?_getD, List.getElem?_set_ne (Ne.symm hj)]]
    exact h.slot j e' q'
end

def Res.out {α : Type} (m : Res α) (ρ : Rho) (f : α → Out) : Out := match m with
  | .ok a => f a
  | .exn c => .ex c ρ
  | .stuck => .stuck
@[simp] theorem Res.out_ok {α : Type} (a : α) (ρ : Rho) (f : α → Out) : (Res.ok a).out ρ f = f a := id rfl
@[simp] theorem Res.out_exn {α : Type} (c : Str) (ρ : Rho) (f : α → Out) : (Res.exn c : Res α).out ρ f = .ex c ρ := id rfl
@[simp] theorem Res.out_stuck {α : Type} (ρ : Rho) (f : α → Out) : (Res.stuck : Res α).out ρ f = .stuck := id rfl
def sSet (i : Nat) (m : Rho → Res D) : Rho → Out := fun ρ => (m ρ).out ρ fun d => .nx (ρ.set i (some d))
def sRet (m : Rho → Res D) : Rho → Out := fun ρ => (m ρ).out ρ fun d => .rt d
def sDo (m : Rho → Res D) : Rho → Out := fun ρ => (m ρ).out ρ fun _ => .nx ρ
def sIf (c : Rho → Res Bool) (a b : Rho → Out) : Rho → Out := fun ρ => (c ρ).out ρ fun k => if k = true then a ρ else b ρ
def Out.bind (o : Out) (f : Rho → Out) : Out := match o with
  | .nx ρ => f ρ
  | o => o
def sSeq (a b : Rho → Out) : Rho → Out := fun ρ => (a ρ).bind b
def sNil : Rho → Out := fun ρ => .nx ρ
def forL (f : D → Rho → Option Rho) (b : Rho → Out) : List D → Rho → Out
  | [], ρ => .nx ρ
  | d :: ds, ρ => match f d ρ with
    | some ρ' => (b ρ').bind (forL f b ds)
    | none => .stuck
def sFor (f : D → Rho → Option Rho) (it : Rho → Res (List D)) (b : Rho → Out) : Rho → Out := fun ρ => (it ρ).out ρ fun ds => forL f b ds ρ
def whileF (c : Rho → Res Bool) (b : Rho → Out) : Nat → Rho → Out
  | 0, _ => .stuck
  | k + 1, ρ => (c ρ).out ρ fun t => if t = true then (b ρ).bind (whileF c b k) else .nx ρ

section
variable {X : Cx} {W : WX} {n : Nat} {Γ Γ1 Γ2 : List Nat} {F : Fr} {S : Nat → List Addr} {H H' H0 : Hp} {σ : L2.St} {E : Ends} {ρ : Rho}
theorem PostS.ofR {α : Type} {Γ' : List Nat} {m : Res α} {R : Nat → List Addr} {Hc : Hp} {f : α → Out} (st : Sto X.K F H0 Γ ρ σ Hc S R)
    (h : PostS X W F H0 Γ' n S H E (m.out ρ f)) (sm : Same H Hc := by first | exact Same.refl _ | assumption) : PostX X W σ Hc (fun d => PostS X W F H0 Γ' n S H E (f d)) m := by
  cases m with
  | ok d => exact h
  | exn c =>
    refine fun C H' hc s => ?_
    obtain ⟨S', R', st', eS⟩ : ∃ S' R', Sto X.K F.un H0 [] ρ σ H' S' R' ∧ ∀ i, S' i = [] := by
      have st1 := st.grow s
      have q : ∀ i : Nat, ∃ R1 : List Addr, (∀ d, ρ[i]? = some (some d) → ∃ x, σ[i]? = some (some x) ∧ Dat X.K H' d 0 x [] R1) ∧ (∀ a ∈ R1, ¬ F a) ∧ ((∀ d, ρ[i]? ≠ some (some d)) → R1 = []) := fun i => by
        by_cases e : ∃ d, ρ[i]? = some (some d)
        · obtain ⟨d, e⟩ := e
          obtain ⟨x, e1, g⟩ := st1.slot i d e
          obtain ⟨S1, R1, g, sl, hr⟩ := Dat.weak d _ 0 x _ _ (Nat.zero_le _) g
          obtain rfl : S1 = [] := Dat.noS g
          refine ⟨R1, fun d' e' => ?_, fun a ha => ?_, fun z => absurd e (z d)⟩
          · rw [e] at e'; cases e'
            exact ⟨x, e1, g⟩
          · rcases hr a ha with ha | ha
            · exact st1.sf i a ha
            · exact st1.rf i a ha
        · exact ⟨[], fun d e' => absurd ⟨d, e'⟩ e, fun a z => by simp at z, fun _ => rfl⟩
      refine ⟨fun _ => [], fun i => Classical.choose (q i), ⟨st1.same, st1.len, fun i d e => ?_, fun i z => ?_, fun i a z => by simp at z, fun i => List.nodup_nil, fun i j _ a z => by simp at z, fun i j a _ z => by simp at z, fun i a ha => ?_, fun i a z => by simp at z, st1.fd, fun i v q => nomatch q⟩, fun i => rfl⟩
      · exact (Classical.choose_spec (q i)).1 d e
      · exact ⟨rfl, (Classical.choose_spec (q i)).2.2 z⟩
      · exact (Classical.choose_spec (q i)).2.1 a ha
    exact h C σ H' S' R' hc st' (Keep.of_same (sm.trans s)) fun i a ha => by rw [eS i] at ha; simp at ha
  | stuck => exact h
theorem rss_nil : RSs X W n Γ Γ [] sNil := by
  refine ⟨_, pss_nil, fun F H0 ρ σ H S R E st po => ?_⟩
  exact po σ H S R st Keep.refl Grow.refl
theorem rss_cons {st : Stmt} {rest : List Stmt} {m m' : Rho → Out} (h1 : RS X W n Γ Γ1 st m) (h2 : RSs X W n Γ1 Γ2 rest m') : RSs X W n Γ Γ2 (st :: rest) (sSeq m m') := by
  obtain ⟨ta, pa, qa⟩ := h1
  obtain ⟨tb, pb, qb⟩ := h2
  refine ⟨_, pss_cons pa pb, fun F H0 ρ σ H S R E st po => ?_⟩
  refine qa F H0 ρ σ H S R _ st ?_
  unfold sSeq at po
  cases e : m ρ with
  | nx ρ' =>
    rw [e] at po
    exact fun σ' H' S' R' st' k g => qb F H0 ρ' σ' H' S' R' E st' (PostS.later po k g)
  | rt d => rw [e] at po; exact po
  | ex c ρ' => rw [e] at po; exact po
  | stuck => rw [e] at po; exact po
theorem rss_one {st : Stmt} {m : Rho → Out} (h : RS X W n Γ Γ1 st m) : RSs X W n Γ Γ1 [st] m := by
  obtain ⟨t, p, q⟩ := h
  exact ⟨t, pss_one p, q⟩
theorem rss_frz {sts : List Stmt} {m : Rho → Out} (i : Nat) (h : RSs X W n (Γ.set i 0) Γ2 sts m) (hi : i < Γ.length := by decide) (hp : Γ.getD i 0 ≠ 99 := by decide) : RSs X W n Γ Γ2 sts m := by
  obtain ⟨t, p, q⟩ := h
  refine ⟨t, p, fun F H0 ρ σ H S R E st po => ?_⟩
  obtain ⟨S', R', st', sub⟩ := st.frz i hi hp
  exact q F H0 ρ σ H S' R' E st' (PostS.later po Keep.refl fun j a ha => .inl ⟨j, sub j a ha⟩)
theorem rss_fz {sts : List Stmt} {m : Rho → Out} (i : Nat) (h : RSs X W n Γ Γ1 sts m) (hi : i < Γ1.length := by decide) (hp : Γ1.getD i 0 ≠ 99 := by decide) (hΓ : Γ1.set i 0 = Γ2 := by rfl) : RSs X W n Γ Γ2 sts m := by
  subst hΓ
  obtain ⟨t, p, q⟩ := h
  refine ⟨t, p, fun F H0 ρ σ H S R E st po => q F H0 ρ σ H S R E st ?_⟩
  cases e : m ρ with
  | nx ρ' =>
    rw [e] at po
    refine fun σ' H' S' R' st' k g => ?_
    obtain ⟨S2, R2, st2, sub⟩ := st'.frz i hi hp
    exact po σ' H' S2 R2 st2 k fun j a ha => g j a (sub j a ha)
  | rt d => rw [e] at po; exact po
  | ex c ρ' => rw [e] at po; exact po
  | stuck => rw [e] at po; exact po
theorem rs_if {c : Expr} {a b : List Stmt} {pos : Pos} {mc : Rho → Res Bool} {ma mb : Rho → Out} (hc : RT X W Γ c mc) (ha : RSs X W n Γ Γ1 a ma) (hb : RSs X W n Γ Γ1 b mb) : RS X W n Γ Γ1 (.If c a b pos) (sIf mc ma mb) := by
  obtain ⟨tc, pc, qc⟩ := hc
  obtain ⟨ta, pa, qa⟩ := ha
  obtain ⟨tb, pb, qb⟩ := hb
  refine ⟨_, ps_if pc pa pb, fun F H0 ρ σ H S R E st po => ?_⟩
  refine qc F H0 ρ σ H S R _ st (PostT.iff.mpr ((PostS.ofR st po).imp fun d _ po H1 s1 => ?_))
  cases d with
  | true => exact iteT (qa F H0 ρ σ H1 S R E (st.grow s1) (PostS.later po (Keep.of_same s1) Grow.refl))
  | false => exact iteF (qb F H0 ρ σ H1 S R E (st.grow s1) (PostS.later po (Keep.of_same s1) Grow.refl))
theorem rs_ret {e : Expr} {pos : Pos} {m : Rho → Res D} (h : RE X W Γ n true e m) : RS X W n Γ Γ1 (.Return (some e) pos) (sRet m) := by
  obtain ⟨t, p, q⟩ := h
  refine ⟨_, ps_ret p, fun F H0 ρ σ H S R E st po => ?_⟩
  refine q F H0 ρ σ H S R _ st (PostE.iff.mpr ((PostS.ofR st po).imp fun d _ po => ?_))
  intro x H1 A B s1 d1 v1 f1
  exact po x H1 A B (st.same.trans s1) d1 ((f1 rfl).later st.same) fun a ha z => v1 a ha (.inl z)
theorem rs_retO {e : Expr} {pos : Pos} {i : Nat} (h : PE X e (tVar i)) (hn : Γ.getD i 0 = n := by rfl) : RS X W n Γ Γ1 (.Return (some e) pos) (sRet (mVar i)) := by
  refine ⟨_, ps_ret h, fun F H0 ρ σ H S R E st po => ?_⟩
  unfold sRet mVar at po
  split at po
  · rename_i d e
    obtain ⟨x, e1, g⟩ := st.slot i d e
    rw [hn] at g
    exact ⟨x, e1, po x H (S i) (R i) st.same g ⟨st.nd i, fun a ha => ⟨st.new i a ha, fun hr => st.rs i i a hr ha⟩⟩ (st.rf i)⟩
  · exact po.elim
theorem rs_retN {pos : Pos} : RS X W n Γ Γ1 (.Return none pos) (sRet (mC .non)) := by
  refine ⟨_, ps_retN, fun F H0 ρ σ H S R E st po => ?_⟩
  exact po .non H [] [] st.same (dat_of_non n) New.nil fun a z => by simp at z
theorem rs_do {e : Expr} {pos : Pos} {m : Rho → Res D} (h : RB X W Γ e m) (hs : swapsWith e none pos.line X.env = pure false := by rfl) : RS X W n Γ Γ (.Expr e pos) (sDo m) := by
  obtain ⟨t, p, q⟩ := h
  refine ⟨_, ps_expr p hs, fun F H0 ρ σ H S R E st po => ?_⟩
  refine q F H0 ρ σ H S R _ st ((PostS.ofR (f := fun _ => .nx ρ) st po).imp fun d _ po => ?_)
  intro x H1 B s1 d1
  exact po σ H1 S R (st.grow s1) (Keep.of_same s1) Grow.refl
theorem rs_set {i k : Nat} {x : Str} {e : Expr} {m : Rho → Res D} {pos pos' : Pos} (h : RE X W Γ k true e m) (hN : X.N.Nodup) (hx : Loc X.env.scope x) (hi : X.N[i]? = some x := by rfl) (hl : i < Γ.length := by decide)
    (hs : swapsWith e (some (.Name x pos')) pos.line X.env = pure false := by rfl) (hf : X.fn x = true ∨ X.env.scope.names.lookup x = some .local := by first | exact .inl rfl | exact .inr rfl | assumption) (hp : Γ.getD i 0 ≠ 99 := by decide) (hΓ : Γ.set i k = Γ1 := by rfl) : RS X W n Γ Γ1 (.Assign [.Name x pos'] e pos) (sSet i m) := by
  subst hΓ
  obtain ⟨t, p, q⟩ := h
  refine ⟨_, ps_set hN hi hx p hs hf, fun F H0 ρ σ H S R E st po => ?_⟩
  refine q F H0 ρ σ H S R _ st (PostE.iff.mpr ((PostS.ofR (f := fun d => .nx (ρ.set i (some d))) st po).imp fun d _ po => ?_))
  intro v H1 A B s1 d1 v1 f1
  obtain ⟨nd, nw⟩ := f1 rfl
  have st1 := st.grow s1
  obtain ⟨S', R', st2, gr⟩ := st1.set (i := i) (n := k) (.inl hl) d1 v1 nd (fun a ha => st.same.free (nw a ha).1) (fun a ha z => st.fd a z (nw a ha).1) (fun a ha j hj => st.domS j a hj (nw a ha).1) (fun a ha j hj => st.domR j a hj (nw a ha).1) (fun a ha hb => (nw a ha).2 hb) hp
  exact po _ H1 S' R' st2 (Keep.of_same s1) fun j a ha => (gr j a ha).imp (fun z => ⟨j, z⟩) fun z => (nw a z).1
end

end TW

-- TWLoop
namespace TW
open PySem PySem.Spec PyProof.Rows L2

def RG (X : Cx) (Γ : List Nat) (tg : Expr) (f : D → Rho → Option Rho) : Prop :=
  ∃ g, PG X tg g ∧ ∀ F H0 ρ σ H S R d x B ρ' (Q : L2.St → Hp → Prop), Sto X.K F H0 Γ ρ σ H S R → Dat X.K H d 0 x [] B → (∀ a ∈ B, ¬ Av F S a) → f d ρ = some ρ' → (∀ σ' R', Sto X.K F H0 Γ ρ' σ' H S R' → Q σ' H) → g x σ H Q
def tgN (i : Nat) : D → Rho → Option Rho := fun d ρ => some (ρ.set i (some d))
def tgNs : List Nat → List D → Rho → Option Rho
  | [], [], ρ => some ρ
  | i :: is, d :: ds, ρ => tgNs is ds (ρ.set i (some d))
  | _, _, _ => none
def tgT (is : List Nat) : D → Rho → Option Rho := fun d ρ => match d with
  | .tup ds => tgNs is ds ρ
  | _ => none
theorem Sto.set0 {K : PySem.W.Frag} {F : Fr} {H0 H : Hp} {Γ : List Nat} {ρ : Rho} {σ : L2.St} {S R : Nat → List Addr} {i : Nat} {d : D} {x : V} {B : List Addr} (h : Sto K F H0 Γ ρ σ H S R) (hi : Γ.getD i 0 = 0) (hd : Dat K H d 0 x [] B) (hb : ∀ a ∈ B, ¬ Av F S a) :
    ∃ R', Sto K F H0 Γ (ρ.set i (some d)) (σ.set i (some x)) H S R' := by
  have hs : S i = [] := by
    by_cases e : ∃ d, ρ[i]? = some (some d)
    · obtain ⟨d', e⟩ := e
      obtain ⟨y, _, g⟩ := h.slot i d' e
      rw [hi] at g
      exact Dat.noS g
    · exact (h.emp i fun d q => e ⟨d, q⟩).1
  have pin : ∀ j v, F.pin j = some v → Γ.getD j 0 = 99 ∧ (σ.set i (some x))[j]? = some (some v) := fun j v q => by
    obtain ⟨p1, p2⟩ := h.pin j v q
    have hj : i ≠ j := fun z => by subst z; omega
    exact ⟨p1, by rw [List.getElem?_set_ne hj]; exact p2⟩
  by_cases hl : i < ρ.length
  · refine ⟨fun j => if j = i then B else R j, ⟨h.same, by simp [h.len], fun j e q => ?_, fun j q => ?_, h.new, h.nd, h.dj, fun j k a ha hk => ?_, fun j a ha => ?_, h.sf, h.fd, pin⟩⟩
    · by_cases hj : j = i
      · subst hj
        rw [List.getElem?_set_self hl] at q
        cases q
        refine ⟨x, by rw [List.getElem?_set_self (by rw [h.len]; exact hl)], ?_⟩
        rw [if_pos rfl, hi, hs]
        exact hd
      · rw [List.getElem?_set_ne (Ne.symm hj)] at q
        obtain ⟨y, e1, e2⟩ := h.slot j e q
        refine ⟨y, by rw [List.getElem?_set_ne (Ne.symm hj)]; exact e1, ?_⟩
        rw [if_neg hj]
        exact e2
    · by_cases hj : j = i
      · subst hj
        exact absurd (List.getElem?_set_self hl) (q d)
      · rw [if_neg hj]
        refine h.emp j fun e q' => q e ?_
        rw [List.getElem?_set_ne (Ne.symm hj)]
        exact q'
    · split at ha
      · exact hb a ha (.inr ⟨k, hk⟩)
      · exact h.rs j k a ha hk
    · split at ha
      · exact fun z => hb a ha (.inl z)
      · exact h.rf j a ha
  · rw [show ρ.set i (some d) = ρ from List.set_eq_of_length_le (by omega), show σ.set i (some x) = σ from List.set_eq_of_length_le (by rw [h.len]; omega)]
    exact ⟨R, h⟩
section
variable {X : Cx} {Γ : List Nat} {pos : Pos}
theorem rg_n {i : Nat} {x : Str} (hN : X.N.Nodup) (hx : Loc X.env.scope x) (hi : X.N[i]? = some x := by rfl) (hz : Γ.getD i 0 = 0 := by rfl)
    (hf : X.fn x = true ∨ X.env.scope.names.lookup x = some .local := by first | exact .inl rfl | exact .inr rfl | assumption) : RG X Γ (.Name x pos) (tgN i) := by
  refine ⟨_, pg_name hN hi hx hf, fun F H0 ρ σ H S R d x B ρ' Q st hd hb e q => ?_⟩
  cases e
  obtain ⟨R', st'⟩ := st.set0 hz hd hb
  exact q _ R' st'
def RGs (X : Cx) (Γ : List Nat) (ts : List Expr) (is : List Nat) : Prop :=
  ∃ g, PGs X ts g ∧ ∀ F H0 ρ σ H S R ds xs B ρ' (Q : L2.St → Hp → Prop), Sto X.K F H0 Γ ρ σ H S R → Dats X.K H ds 0 xs [] B → (∀ a ∈ B, ¬ Av F S a) → tgNs is ds ρ = some ρ' → (∀ σ' R', Sto X.K F H0 Γ ρ' σ' H S R' → Q σ' H) → g xs σ H Q
theorem rgs_nil : RGs X Γ [] [] := by
  refine ⟨_, pgs_nil, fun F H0 ρ σ H S R ds xs B ρ' Q st hd hb e q => ?_⟩
  cases ds with
  | nil =>
    simp only [Dats] at hd
    cases e
    exact ⟨hd.1, q σ R st⟩
  | cons d r => cases e
theorem rgs_cons {e : Expr} {es : List Expr} {i : Nat} {is : List Nat} (h1 : RG X Γ e (tgN i)) (h2 : RGs X Γ es is) (hs : (assignEach (e :: es) X.env).map (·.2) = assign e X.env :: (assignEach es X.env).map (·.2) := by rfl) : RGs X Γ (e :: es) (i :: is) := by
  obtain ⟨g1, p1, q1⟩ := h1
  obtain ⟨g2, p2, q2⟩ := h2
  refine ⟨_, pgs_cons p1 p2 hs, fun F H0 ρ σ H S R ds xs B ρ' Q st hd hb e q => ?_⟩
  cases ds with
  | nil => cases e
  | cons d r =>
    unfold Dats at hd
    obtain ⟨x, xs', S1, S2, R1, R2, rfl, e0, rfl, d1, d2⟩ := hd
    obtain ⟨rfl, rfl⟩ := List.append_eq_nil_iff.mp e0.symm
    refine ⟨x, xs', rfl, q1 F H0 ρ σ H S R d x R1 _ _ st d1 (fun a ha => hb a (List.mem_append_left _ ha)) rfl fun σ1 R' st1 => ?_⟩
    exact q2 F H0 _ σ1 H S R' r xs' R2 ρ' Q st1 d2 (fun a ha => hb a (List.mem_append_right _ ha)) e q
theorem rg_t {es : List Expr} {k : Nat} {is : List Nat} {n : Nat} (hc : X.calm = true) (h : RGs X Γ es is) (hl : is.length = n := by rfl) (hn : (assignEach es X.env).length = n := by rfl) (hst : (assignEach es X.env).findIdx? (·.1) = none := by rfl) : RG X Γ (.Tuple es k pos) (tgT is) := by
  obtain ⟨g, p, q⟩ := h
  refine ⟨_, pg_tup hc p hn hst, fun F H0 ρ σ H S R d x B ρ' Q st hd hb e qq => ?_⟩
  cases d with
  | tup ds =>
    obtain ⟨a, xs, rfl, hq, dd⟩ := dat_tup0 hd
    have len : ∀ (is : List Nat) (ds : List D) (ρ ρ' : Rho), tgNs is ds ρ = some ρ' → ds.length = is.length := by
      intro is
      induction is with
      | nil => intro ds ρ ρ' e; cases ds with
        | nil => rfl
        | cons d r => cases e
      | cons i is ih => intro ds ρ ρ' e; cases ds with
        | nil => cases e
        | cons d r => simp [ih r _ ρ' e]
    exact ⟨a, xs, rfl, .of hq, by rw [dd.length, len is ds ρ ρ' e, hl], q F H0 ρ σ H S R ds xs B ρ' Q st dd hb e qq⟩
  | _ => cases e
end
def Iter (K : PySem.W.Frag) (J : It) (H : Hp) (B : List Addr) (ds : List D) : Prop :=
  ∀ H', Stay H H' [] B → ∀ i, (ds.length ≤ i → J.stop i H') ∧ ∀ d, ds[i]? = some d → J.go i H' ∧ ∀ x H3, J.yld i H' x H3 → Same H' H3 ∧ ∃ B', Dat K H3 d 0 x [] B' ∧ ∀ a ∈ B', a ∈ B
def RI (X : Cx) (W : WX) (Γ : List Nat) (tg it : Expr) (m : Rho → Res (List D)) : Prop :=
  ∃ wi, PI X tg it wi ∧ ∀ F H0 ρ σ H S R (Rk : It → Hp → Prop), Sto X.K F H0 Γ ρ σ H S R →
    PostX X W σ H (fun ds => ∀ J H' B, Same H H' → (∀ a ∈ B, ¬ Av F S a) → (∀ a ∈ B, H' a ≠ none) → Iter X.K J H' B ds → Rk J H') (m ρ) → wi σ H Rk
theorem PI.or {X : Cx} {tg it : Expr} {w1 w2 : TI} (h1 : PI X tg it w1) (h2 : PI X tg it w2) : PI X tg it (fun σ H R => w1 σ H R ∨ w2 σ H R) :=
  ⟨fun pins s σ H R I h => h.elim (h1.run pins s σ H R I) (h2.run pins s σ H R I)⟩
def iLoc : D → Option (List D)
  | .lst l => some l
  | .tup l => some l
  | .ftup l => some l
  | .scr l => some (l.map .int)
  | .str s => some (s.cps.toList.map fun c => .str ⟨#[c]⟩)
  | _ => none
def iAny (m : Rho → Res D) : Rho → Res (List D) := fun ρ => (m ρ).bind fun d => ofO (iLoc d)
def iR1 (m : Rho → Res D) : Rho → Res (List D) := fun ρ => (m ρ).bind fun d => match d with
  | .int j => if -(2 ^ 62) ≤ j ∧ j < 2 ^ 62 then .ok ((List.range j.toNat).map fun k : Nat => .int k) else .stuck
  | _ => .stuck
def iR2 (a b : Rho → Res D) : Rho → Res (List D) := fun ρ => (a ρ).bind fun x => (b ρ).bind fun y => match x, y with
  | .int i, .int j => if -(2 ^ 62) ≤ i ∧ i < 2 ^ 62 ∧ -(2 ^ 62) ≤ j ∧ j < 2 ^ 62 then .ok ((List.range (j - i).toNat).map fun k : Nat => .int (i + k)) else .stuck
  | _, _ => .stuck
section
variable {X : Cx} {W : WX} {Γ : List Nat} {tg e a b : Expr} {p pos : Pos} {m ma mb : Rho → Res D}
theorem iter_range {K : PySem.W.Frag} {H : Hp} {lo : Int} {n : Nat} : Iter K (Itr lo n) H [] ((List.range n).map fun k : Nat => D.int (lo + k)) := by
  intro H' _ i
  refine ⟨fun h => by (show n ≤ i); simpa using h, fun d e => ?_⟩
  rw [List.getElem?_map] at e
  by_cases hi : i < n
  · rw [List.getElem?_range hi] at e
    cases e
    refine ⟨hi, fun x H3 h => ?_⟩
    obtain ⟨rfl, rfl⟩ := h
    exact ⟨Same.refl _, [], dat_of_int 0, fun a z => z⟩
  · rw [List.getElem?_eq_none (by simpa using hi)] at e
    cases e
theorem ri_r1 (hm : X.mg "range" = none) (ha : RE X W Γ 0 true a ma) (hg : Gl X "range" := by rfl) (hs : starEach [a] X.env = [(false, eval a X.env)] := by rfl) (hs2 : starEach (a :: []) X.env = (false, eval a X.env) :: starEach [] X.env := by rfl) : RI X W Γ tg (.Call (.Name "range" p) [a] [] pos) (iR1 ma) := by
  obtain ⟨ta, pa, qa⟩ := ha
  refine ⟨_, pi_range1 hg hm (pa_cons pa pa_nil hs2) hs, fun F H0 ρ σ H S R Rk st po => ?_⟩
  refine qa F H0 ρ σ H S R _ st (PostE.iff.mpr (po.bind.imp fun d _ po => ?_))
  intro x H1 A B s1 d1 _ _
  cases d with
  | int j =>
    dsimp only at po
    by_cases hj : -(2 ^ 62) ≤ j ∧ j < 2 ^ 62
    · rw [if_pos hj] at po
      refine ⟨j, by rw [dat_int d1], hj.1, hj.2, po _ H1 [] s1 (fun a z => by simp at z) (fun a z => by simp at z) ?_⟩
      have := iter_range (K := X.K) (H := H1) (lo := 0) (n := j.toNat)
      simpa using this
    · rw [if_neg hj] at po
      exact po.elim
  | _ => exact po.elim
theorem ri_r2 (hm : X.mg "range" = none) (ha : RE X W Γ 0 true a ma) (hb : RE X W Γ 0 true b mb) (hg : Gl X "range" := by rfl) (hs : starEach [a, b] X.env = [(false, eval a X.env), (false, eval b X.env)] := by rfl) (hs2 : starEach [b] X.env = [(false, eval b X.env)] := by rfl)
    (hs3 : starEach (a :: [b]) X.env = (false, eval a X.env) :: starEach [b] X.env := by rfl) (hs4 : starEach (b :: []) X.env = (false, eval b X.env) :: starEach [] X.env := by rfl) : RI X W Γ tg (.Call (.Name "range" p) [a, b] [] pos) (iR2 ma mb) := by
  obtain ⟨ta, pa, qa⟩ := ha
  obtain ⟨tb, pb, qb⟩ := hb
  refine ⟨_, pi_range2 hg hm (pa_cons pa (pa_cons pb pa_nil hs4) hs3) hs hs2, fun F H0 ρ σ H S R Rk st po => ?_⟩
  refine qa F H0 ρ σ H S R _ st (PostE.iff.mpr (po.bind.imp fun d _ po => ?_))
  intro x H1 A B s1 d1 _ _
  refine qb F H0 ρ σ H1 S R _ (st.grow s1) (PostE.iff.mpr (po.bind.later s1 fun e _ po => ?_))
  intro y H2 A2 B2 s2 d2 _ _
  cases d with
  | int i =>
    cases e with
    | int j =>
      dsimp only at po
      by_cases hj : -(2 ^ 62) ≤ i ∧ i < 2 ^ 62 ∧ -(2 ^ 62) ≤ j ∧ j < 2 ^ 62
      · rw [if_pos hj] at po
        exact ⟨i, j, by rw [dat_int d1, dat_int d2], hj, po _ H2 [] (s1.trans s2) (fun a z => by simp at z) (fun a z => by simp at z) iter_range⟩
      · rw [if_neg hj] at po
        exact po.elim
    | _ => exact po.elim
  | _ => exact po.elim
theorem iter_list {K : PySem.W.Frag} {H : Hp} {l : List D} {p : Addr} {xs : List V} {B : List Addr} (hp : H p = some (.lst xs)) (hd : Dats K H l 0 xs [] B) : Iter K (Itl K p) H (p :: B) l := by
  intro H' st i
  have hp' : SqL K H' p xs := .of (st.res p List.mem_cons_self _ hp)
  refine ⟨fun h => ⟨xs, hp', by rw [hd.length]; exact h⟩, fun d e => ?_⟩
  obtain ⟨x, S', R', ex, g, sl, r⟩ := hd.get e
  obtain rfl : S' = [] := Dat.noS g
  refine ⟨⟨xs, x, hp', ex⟩, fun y H3 h => ?_⟩
  obtain ⟨rfl, hy⟩ := h
  have := hy xs hp'
  rw [ex] at this
  cases this
  exact ⟨Same.refl _, R', Dat.stay _ 0 _ [] R' (st.mono (fun _ z => z) fun a ha => List.mem_cons_of_mem _ (r a ha)) g, fun a ha => List.mem_cons_of_mem _ (r a ha)⟩
theorem iter_tup {K : PySem.W.Frag} {H : Hp} {l : List D} {p : Addr} {xs : List V} {B : List Addr} (hp : H p = some (.tup xs)) (hd : Dats K H l 0 xs [] B) : Iter K (Itt K p) H B l := by
  intro H' st i
  have hp' : SqT K H' p xs := .of (st.tup p _ hp)
  refine ⟨fun h => ⟨xs, hp', by rw [hd.length]; exact h⟩, fun d e => ?_⟩
  obtain ⟨x, S', R', ex, g, sl, r⟩ := hd.get e
  obtain rfl : S' = [] := Dat.noS g
  refine ⟨⟨xs, x, hp', ex⟩, fun y H3 h => ?_⟩
  obtain ⟨rfl, hy⟩ := h
  have := hy xs hp'
  rw [ex] at this
  cases this
  exact ⟨Same.refl _, R', Dat.stay _ 0 _ [] R' (st.mono (fun _ z => z) fun a ha => r a ha) g, fun a ha => r a ha⟩
theorem iter_ftup {K : PySem.W.Frag} {H : Hp} {l : List D} {p : Addr} {xs : List V} {B : List Addr} (hp : ∃ o : Obj, o.dict = none ∧ H p = some (.frz o (.tup xs))) (hd : Dats K H l 0 xs [] B) : Iter K (Itt K p) H B l := by
  intro H' st i
  have hp' : SqT K H' p xs := sqt_frz (hp.imp fun o q => ⟨q.1, st.frz _ _ _ q.2⟩)
  refine ⟨fun h => ⟨xs, hp', by rw [hd.length]; exact h⟩, fun d e => ?_⟩
  obtain ⟨x, S', R', ex, g, sl, r⟩ := hd.get e
  obtain rfl : S' = [] := Dat.noS g
  refine ⟨⟨xs, x, hp', ex⟩, fun y H3 h => ?_⟩
  obtain ⟨rfl, hy⟩ := h
  have := hy xs hp'
  rw [ex] at this
  cases this
  exact ⟨Same.refl _, R', Dat.stay _ 0 _ [] R' (st.mono (fun _ z => z) fun a ha => r a ha) g, fun a ha => r a ha⟩
theorem iter_scr {K : PySem.W.Frag} {H : Hp} {l : List Int} {p : Addr} (hp : ScrAt K H p (l.map V.int)) : Iter K (Itl K p) H [] (l.map D.int) := by
  intro H' st i
  have hp' : SqL K H' p (l.map V.int) := ScrAt.sq (hp.imp (fun ⟨o, q⟩ => ⟨o, st.scr _ _ _ q⟩) id)
  refine ⟨fun h => ⟨_, hp', by simpa using h⟩, fun d e => ?_⟩
  rw [List.getElem?_map] at e
  cases ei : l[i]? with
  | none => rw [ei] at e; cases e
  | some c =>
    rw [ei] at e
    cases e
    have ex : (l.map V.int)[i]? = some (.int c) := by rw [List.getElem?_map, ei]; rfl
    refine ⟨⟨_, _, hp', ex⟩, fun y H3 h => ?_⟩
    obtain ⟨rfl, hy⟩ := h
    have := hy _ hp'
    rw [ex] at this
    cases this
    exact ⟨Same.refl _, [], dat_of_int 0, fun a z => z⟩
theorem iter_str {K : PySem.W.Frag} {H : Hp} {s : Str} : Iter K (Its s) H [] (s.cps.toList.map fun c => D.str ⟨#[c]⟩) := by
  intro H' st i
  refine ⟨fun h => by (show s.cps.size ≤ i); simpa using h, fun d e => ?_⟩
  rw [List.getElem?_map] at e
  cases ei : s.cps.toList[i]? with
  | none => rw [ei] at e; cases e
  | some c =>
    rw [ei] at e
    cases e
    have ei' : s.cps[i]? = some c := by rw [← Array.getElem?_toList]; exact ei
    have hi : i < s.cps.size := (Array.getElem?_eq_some_iff.mp ei').1
    refine ⟨hi, fun y H3 h => ?_⟩
    obtain ⟨rfl, c', e1, rfl⟩ := h
    rw [ei'] at e1
    cases e1
    exact ⟨Same.refl _, [], dat_of_str 0, fun a z => z⟩
theorem ri_any (ha : RE X W Γ 0 true e m) : RI X W Γ tg e (iAny m) := by
  obtain ⟨ta, pa, qa⟩ := ha
  refine ⟨_, PI.or (PI.or (pi_list pa) (pi_tup pa)) (pi_str pa), fun F H0 ρ σ H S R Rk st po => ?_⟩
  have key : ∀ (P : V → Hp → Prop) (hP : ∀ d x H1 B, m ρ = .ok d → Same H H1 → Dat X.K H1 d 0 x [] B → (∀ a ∈ B, ¬ Av F S a) → (∃ l, iLoc d = some l ∧ ∀ J H' B, Same H H' → (∀ a ∈ B, ¬ Av F S a) → (∀ a ∈ B, H' a ≠ none) → Iter X.K J H' B l → Rk J H') → P x H1), ta σ H P := fun P hP => by
    refine qa F H0 ρ σ H S R P st (PostE.iff.mpr (po.bind.imp fun d ed po => ?_))
    intro x H1 A B s1 d1 v1 _
    obtain rfl : A = [] := Dat.noS d1
    refine hP d x H1 B ed s1 d1 v1 ?_
    cases e : iLoc d with
    | none => rw [e] at po; exact po.elim
    | some l => rw [e] at po; exact ⟨l, rfl, po⟩
  cases em : m ρ with
  | stuck => unfold iAny at po; rw [em] at po; exact po.elim
  | exn c => exact .inl (.inl (key _ fun d x H1 B ed => by rw [em] at ed; cases ed))
  | ok d =>
    cases d with
    | lst l =>
      refine .inl (.inl (key _ fun d x H1 B ed s1 d1 v1 ⟨l', el, k⟩ => ?_))
      rw [em] at ed; cases ed; cases el
      obtain ⟨a, xs, R', rfl, q, rfl, hd⟩ := dat_lst0 d1
      refine ⟨a, rfl, ⟨xs, .of q⟩, k _ H1 (a :: R') s1 v1 (fun b hb => Dat.domR d1 b hb) (iter_list q hd)⟩
    | tup l =>
      refine .inl (.inr (key _ fun d x H1 B ed s1 d1 v1 ⟨l', el, k⟩ => ?_))
      rw [em] at ed; cases ed; cases el
      obtain ⟨a, xs, rfl, q, hd⟩ := dat_tup0 d1
      exact ⟨a, rfl, ⟨xs, .of q⟩, k _ H1 B s1 v1 (fun b hb => Dat.domR d1 b hb) (iter_tup q hd)⟩
    | ftup l =>
      refine .inl (.inr (key _ fun d x H1 B ed s1 d1 v1 ⟨l', el, k⟩ => ?_))
      rw [em] at ed; cases ed; cases el
      obtain ⟨a, xs, rfl, q, hd⟩ := dat_ftup0 d1
      exact ⟨a, rfl, ⟨xs, sqt_frz q⟩, k _ H1 B s1 v1 (fun b hb => Dat.domR d1 b hb) (iter_ftup q hd)⟩
    | scr l =>
      refine .inl (.inl (key _ fun d x H1 B ed s1 d1 v1 ⟨l', el, k⟩ => ?_))
      rw [em] at ed; cases ed; cases el
      unfold Dat at d1
      obtain ⟨⟨a, rfl, q⟩, _⟩ := d1
      exact ⟨a, rfl, ⟨_, q.sq⟩, k _ H1 [] s1 (fun a z => by simp at z) (fun a z => by simp at z) (iter_scr q)⟩
    | str s =>
      refine .inr (key _ fun d x H1 B ed s1 d1 v1 ⟨l', el, k⟩ => ?_)
      rw [em] at ed; cases ed; cases el
      exact ⟨s, dat_str d1, k _ H1 [] s1 (fun a z => by simp at z) (fun a z => by simp at z) iter_str⟩
    | _ => unfold iAny at po; rw [em] at po; exact po.elim
end

theorem Out.bind_nx (o : Out) : o.bind Out.nx = o := by cases o <;> rfl
section
variable {X : Cx} {W : WX} {n : Nat} {Γ : List Nat} {F : Fr} {S : Nat → List Addr} {H H' H0 : Hp} {σ : L2.St} {E : Ends} {ρ : Rho}
theorem PostS.bind {Γ' : List Nat} {o : Out} {f : Rho → Out} (h : PostS X W F H0 Γ' n S H E (o.bind f)) {N : L2.St → Hp → Prop}
    (hN : ∀ ρ' σ' H' S' R', o = .nx ρ' → Sto X.K F H0 Γ ρ' σ' H' S' R' → Keep S H H' → Grow S H S' → N σ' H') : PostS X W F H0 Γ n S H { E with nx := N, ct := N, bk := E.nx } o := by
  cases o with
  | nx ρ' => exact fun σ' H' S' R' st k g => hN ρ' σ' H' S' R' rfl st k g
  | rt d => exact h
  | ex c ρ' => exact h
  | stuck => exact h
theorem rs_for {tg it : Expr} {body : List Stmt} {pos : Pos} {f : D → Rho → Option Rho} {mi : Rho → Res (List D)} {mb : Rho → Out} (hp : PassesOwn (model X.prog X.w) X.A X.env X.xe) (hc : X.calm = true) (hi : RI X W Γ tg it mi) (hg : RG X Γ tg f) (hb : RSs X W n Γ Γ body mb)
    (hs : ∀ x, foldedSetIterable it X.env x = pure x := by intro _; rfl) : RS X W n Γ Γ (.For tg it body [] pos) (sFor f mi mb) := by
  obtain ⟨wi, pi, qi⟩ := hi
  obtain ⟨g, pg, qg⟩ := hg
  obtain ⟨tb, pb, qb⟩ := hb
  refine ⟨_, ps_for hp hc pi pg pb hs, fun F H0 ρ σ H S R E st po => ?_⟩
  refine qi F H0 ρ σ H S R _ st ((PostS.ofR st po).imp fun ds _ po => ?_)
  intro J H1 B s1 v1 dm it1
  have st1 := st.grow s1
  have po1 := PostS.later po (Keep.of_same s1) (Grow.refl (S := S))
  refine ⟨fun i m σ' H' => ∃ ρ' S' R', Sto X.K F H0 Γ ρ' σ' H' S' R' ∧ Keep S H1 H' ∧ Grow S H1 S' ∧ PostS X W F H0 Γ n S' H' E (forL f mb (ds.drop i) ρ') ∧ m = ds.length - i ∧ i ≤ ds.length,
    ⟨ds.length, ρ, S, R, st1, Keep.refl, Grow.refl, by simpa using po1, by omega, Nat.zero_le _⟩, ?_⟩
  rintro i m σ' H' ⟨ρ', S', R', st', k', g', po', rfl, hi'⟩
  have stay : Stay H1 H' [] B := st1.stay k' v1
  have v' : ∀ a ∈ B, ¬ Av F S' a := fun a ha z => by
    rcases z with z | ⟨j, z⟩
    · exact v1 a ha (.inl z)
    · rcases g' j a z with ⟨l, z⟩ | z
      · exact v1 a ha (.inr ⟨l, z⟩)
      · exact dm a ha z
  by_cases hlt : i < ds.length
  · have ed : ds[i]? = some ds[i] := List.getElem?_eq_getElem hlt
    obtain ⟨go, yld⟩ := (it1 H' stay i).2 _ ed
    rw [List.drop_eq_getElem_cons hlt] at po'
    refine .inr ⟨go, fun σ2 H2 => ∃ m', m' < ds.length - i ∧ ∃ ρ' S' R', Sto X.K F H0 Γ ρ' σ2 H2 S' R' ∧ Keep S H1 H2 ∧ Grow S H1 S' ∧ PostS X W F H0 Γ n S' H2 E (forL f mb (ds.drop (i + 1)) ρ') ∧ m' = ds.length - (i + 1) ∧ i + 1 ≤ ds.length, fun _ _ h => h, fun x H3 hy => ?_⟩
    obtain ⟨s3, B', d3, sub⟩ := yld x H3 hy
    unfold forL at po'
    cases ef : f ds[i] ρ' with
    | none => rw [ef] at po'; exact po'.elim
    | some ρ2 =>
      rw [ef] at po'
      dsimp only at po'
      have k3 : Keep S' H' H3 := Keep.of_same s3
      refine qg F H0 ρ' σ' H3 S' R' ds[i] x B' ρ2 _ (st'.grow s3) d3 (fun a ha => v' a (sub a ha)) ef fun σ4 R4 st4 => ?_
      refine qb F H0 ρ2 σ4 H3 S' R4 _ st4 (PostS.bind (PostS.later po' k3 Grow.refl) fun ρ5 σ5 H5 S5 R5 e5 st5 k5 g5 => ?_)
      have k35 : Keep S' H' H5 := k3.trans Grow.refl k5
      have g35 : Grow S' H' S5 := Grow.trans Grow.refl k3 g5
      refine ⟨ds.length - (i + 1), by omega, ρ5, S5, R5, st5, k'.trans g' k35, g'.trans k' g35, ?_, rfl, hlt⟩
      rw [e5] at po'
      exact PostS.later po' k35 g35
  · have e : i = ds.length := by omega
    subst e
    refine .inl ⟨(it1 H' stay _).1 (Nat.le_refl _), ?_⟩
    rw [List.drop_length] at po'
    exact po' σ' H' S' R' st' Keep.refl Grow.refl
theorem rs_while {c : Expr} {body : List Stmt} {pos : Pos} {mc : Rho → Res Bool} {mb : Rho → Out} (k : Nat) (hp : PassesOwn (model X.prog X.w) X.A X.env X.xe) (hc : RT X W Γ c mc) (hb : RSs X W n Γ Γ body mb) : RS X W n Γ Γ (.While c body [] pos) (whileF mc mb k) := by
  obtain ⟨tc, pc, qc⟩ := hc
  obtain ⟨tb, pb, qb⟩ := hb
  refine ⟨_, ps_while hp pc pb, fun F H0 ρ σ H S R E st po => ?_⟩
  refine ⟨fun m σ' H' => ∃ ρ' S' R', Sto X.K F H0 Γ ρ' σ' H' S' R' ∧ Keep S H H' ∧ Grow S H S' ∧ PostS X W F H0 Γ n S' H' E (whileF mc mb m ρ'), ⟨k, ρ, S, R, st, Keep.refl, Grow.refl, po⟩, ?_⟩
  rintro m σ' H' ⟨ρ', S', R', st', k', g', po'⟩
  cases m with
  | zero => exact po'.elim
  | succ m =>
    unfold whileF at po'
    refine qc F H0 ρ' σ' H' S' R' _ st' (PostT.iff.mpr ((PostS.ofR st' po').imp fun d _ po' H2 s2 => ?_))
    cases d with
    | true =>
      refine iteT ?_
      rw [if_pos rfl] at po'
      refine ⟨fun σ3 H3 => ∃ m', m' < m + 1 ∧ ∃ ρ' S' R', Sto X.K F H0 Γ ρ' σ3 H3 S' R' ∧ Keep S H H3 ∧ Grow S H S' ∧ PostS X W F H0 Γ n S' H3 E (whileF mc mb m' ρ'), fun _ _ h => h, ?_⟩
      have k2 : Keep S' H' H2 := Keep.of_same s2
      refine qb F H0 ρ' σ' H2 S' R' _ (st'.grow s2) (PostS.bind (PostS.later po' k2 Grow.refl) fun ρ5 σ5 H5 S5 R5 e5 st5 k5 g5 => ?_)
      have k35 : Keep S' H' H5 := k2.trans Grow.refl k5
      have g35 : Grow S' H' S5 := Grow.trans Grow.refl k2 g5
      refine ⟨m, by omega, ρ5, S5, R5, st5, k'.trans g' k35, g'.trans k' g35, ?_⟩
      rw [e5] at po'
      exact PostS.later po' k35 g35
    | false =>
      refine iteF ?_
      rw [if_neg Bool.false_ne_true] at po'
      exact po' σ' H2 S' R' (st'.grow s2) (Keep.of_same s2) Grow.refl
end
end TW

-- TWMut
namespace TW
open PySem PySem.Spec PyProof.Rows L2
def ixD (n : Nat) : D → Option Nat
  | .int i => ixN n i
  | _ => none
def getC : D → D → Option D
  | .lst l, i => (ixD l.length i).bind fun j => l[j]?
  | .tup l, i => (ixD l.length i).bind fun j => l[j]?
  | _, _ => none
def setC : D → D → D → Option D
  | .lst l, i, e => (ixD l.length i).map fun j => .lst (l.set j e)
  | .tup l, i, e => (ixD l.length i).map fun j => .tup (l.set j e)
  | _, _, _ => none
def getP : D → List D → Option D
  | d, [] => some d
  | d, i :: p => (getC d i).bind fun e => getP e p
def setP : D → List D → D → Option D
  | _, [], e => some e
  | d, i :: p, e => (getC d i).bind fun c => (setP c p e).bind fun c' => setC d i c'
def updP (d : D) (p : List D) (f : D → Option D) : Option D := (getP d p).bind fun e => (f e).bind fun e' => setP d p e'

section
variable {K : PySem.W.Frag} {H : Hp}
theorem Dats.focus : ∀ {ds : List D} {n : Nat} {xs : List V} {S R : List Addr} {j : Nat} {e : D}, Dats K H ds n xs S R → ds[j]? = some e →
    ∃ v Se Re P Q P' Q', xs[j]? = some v ∧ Dat K H e n v Se Re ∧ S = P ++ Se ++ Q ∧ R = P' ++ Re ++ Q' ∧
      ∀ H' e' Se' Re', Stay H H' (P ++ Q) (P' ++ Q') → Dat K H' e' n v Se' Re' → Dats K H' (ds.set j e') n xs (P ++ Se' ++ Q) (P' ++ Re' ++ Q')
  | [], _, _, _, _, _, _, h, e => by simp at e
  | d :: ds, n, _, _, _, 0, _, h, e => by
    simp only [Dats] at h
    obtain ⟨x, xs', S1, S2, R1, R2, rfl, rfl, rfl, h1, h2⟩ := h
    simp at e
    subst e
    refine ⟨x, S1, R1, [], S2, [], R2, rfl, h1, rfl, rfl, fun H' e' Se' Re' st g => ?_⟩
    show Dats K H' (e' :: ds) n (x :: xs') _ _
    exact Dats.cons g (Dats.stay _ _ _ _ _ st h2)
  | d :: ds, n, _, _, _, j + 1, _, h, e => by
    simp only [Dats] at h
    obtain ⟨x, xs', S1, S2, R1, R2, rfl, rfl, rfl, h1, h2⟩ := h
    obtain ⟨v, Se, Re, P, Q, P', Q', e1, g, rfl, rfl, k⟩ := Dats.focus (j := j) h2 (by simpa using e)
    refine ⟨v, Se, Re, S1 ++ P, Q, R1 ++ P', Q', by simpa using e1, g, by simp, by simp, fun H' e' Se' Re' st g' => ?_⟩
    show Dats K H' (d :: ds.set j e') n (x :: xs') _ _
    have h1' := Dat.stay _ _ _ _ _ (st.mono (fun b hb => by simp [hb]) fun b hb => by simp [hb]) h1
    have h2' := k H' e' Se' Re' (st.mono (fun b hb => by simp at hb ⊢; rcases hb with hb | hb <;> simp [hb]) fun b hb => by simp at hb ⊢; rcases hb with hb | hb <;> simp [hb]) g'
    simpa using Dats.cons h1' h2'
def Foc (K : PySem.W.Frag) (H : Hp) (d : D) (n : Nat) (x : V) (S R : List Addr) (p : List D) (e : D) (k : Nat) (v : V) (Se Re : List Addr) : Prop :=
  Dat K H e k v Se Re ∧ ∃ P Q P' Q', S = P ++ Se ++ Q ∧ R = P' ++ Re ++ Q' ∧
    ∀ H' e' Se' Re', Stay H H' (P ++ Q) (P' ++ Q') → Dat K H' e' k v Se' Re' → ∃ d', setP d p e' = some d' ∧ Dat K H' d' n x (P ++ Se' ++ Q) (P' ++ Re' ++ Q')
theorem Foc.nil {d : D} {n : Nat} {x : V} {S R : List Addr} (h : Dat K H d n x S R) : Foc K H d n x S R [] d n x S R :=
  ⟨h, [], [], [], [], by simp, by simp, fun H' e' Se' Re' _ g => ⟨e', rfl, by simpa using g⟩⟩
theorem setP_snoc : ∀ (p : List D) (d e : D) (i e' : D), getP d p = some e → setP d (p ++ [i]) e' = (setC e i e').bind fun c => setP d p c
  | [], d, e, i, e', h => by
    cases h
    show (getC d i).bind (fun c => (some e').bind fun c' => setC d i c') = _
    cases hc : getC d i with
    | some c =>
      show setC d i e' = (setC d i e').bind fun c => some c
      cases setC d i e' <;> rfl
    | none =>
      have : setC d i e' = none := by
        cases d with
        | lst l =>
          simp only [getC] at hc
          simp only [setC]
          cases hj : ixD l.length i with
          | none => rfl
          | some j =>
            rw [hj] at hc
            have : j < l.length := by
              cases i with
              | int z => exact (ixN_seq hj).2.1
              | _ => cases hj
            simp [List.getElem?_eq_getElem this] at hc
        | tup l =>
          simp only [getC] at hc
          simp only [setC]
          cases hj : ixD l.length i with
          | none => rfl
          | some j =>
            rw [hj] at hc
            have : j < l.length := by
              cases i with
              | int z => exact (ixN_seq hj).2.1
              | _ => cases hj
            simp [List.getElem?_eq_getElem this] at hc
        | _ => rfl
      rw [this]
      rfl
  | j :: p, d, e, i, e', h => by
    unfold getP at h
    cases hc : getC d j with
    | none => rw [hc] at h; cases h
    | some c =>
      rw [hc] at h
      show (getC d j).bind (fun c => (setP c (p ++ [i]) e').bind fun c' => setC d j c') = (setC e i e').bind fun x => (getC d j).bind fun c => (setP c p x).bind fun c' => setC d j c'
      rw [hc]
      simp only [Option.bind_some]
      rw [setP_snoc p c e i e' h]
      cases setC e i e' <;> rfl
theorem getP_snoc : ∀ (p : List D) (d e : D) (i : D), getP d p = some e → getP d (p ++ [i]) = getC e i
  | [], d, e, i, h => by
    cases h
    show (getC d i).bind (fun e => some e) = _
    cases getC d i <;> rfl
  | j :: p, d, e, i, h => by
    unfold getP at h
    cases hc : getC d j with
    | none => rw [hc] at h; cases h
    | some c =>
      rw [hc] at h
      show (getC d j).bind (fun e => getP e (p ++ [i])) = _
      rw [hc]
      exact getP_snoc p c e i h
theorem Foc.step {d e c : D} {n k : Nat} {x v : V} {S R Se Re : List Addr} {p : List D} {i : D} (h : Foc K H d n x S R p e (k + 1) v Se Re) (hp : getP d p = some e) (hc : getC e i = some c) :
    ∃ u Sc Rc, Foc K H d n x S R (p ++ [i]) c k u Sc Rc ∧ ∀ {Q : VK}, (∀ y B, Dat K H i 0 y [] B → Q u H → rIx K v y H Q) := by
  obtain ⟨hd, P, Q, P', Q', rfl, rfl, rep⟩ := h
  cases e with
  | lst l =>
    simp only [getC] at hc
    cases hj : ixD l.length i with
    | none => rw [hj] at hc; cases hc
    | some j =>
      rw [hj] at hc
      simp only [Option.bind_some] at hc
      unfold Dat at hd
      obtain ⟨a, xs, S', rfl, ha, rfl, dd⟩ := hd
      obtain ⟨u, Sc, Rc, P2, Q2, P3, Q3, e1, g, rfl, rfl, rep2⟩ := dd.focus hc
      refine ⟨u, Sc, Rc, ⟨g, P ++ a :: P2, Q2 ++ Q, P' ++ P3, Q3 ++ Q', by simp, by simp, fun H' e' Se' Re' st g' => ?_⟩, fun {Qv} y B hy q => ?_⟩
      · have st2 : Stay H H' (P2 ++ Q2) (P3 ++ Q3) := st.mono (fun b hb => by simp at hb ⊢; rcases hb with hb | hb <;> simp [hb]) fun b hb => by simp at hb ⊢; rcases hb with hb | hb <;> simp [hb]
        have ha' : H' a = some (.lst xs) := st.own a (by simp) _ ha
        have w := rep2 H' e' Se' Re' st2 g'
        obtain ⟨d', ed, gd⟩ := rep H' (.lst (l.set j e')) (a :: (P2 ++ Se' ++ Q2)) (P3 ++ Re' ++ Q3) (st.mono (fun b hb => by simp at hb ⊢; rcases hb with hb | hb <;> simp [hb]) fun b hb => by simp at hb ⊢; rcases hb with hb | hb <;> simp [hb]) (by unfold Dat; exact ⟨a, xs, _, rfl, ha', rfl, w⟩)
        refine ⟨d', ?_, by simpa using gd⟩
        rw [setP_snoc p d _ i e' hp]
        simp only [setC]
        rw [hj]
        exact ed
      · cases i with
        | int z =>
          exact .inl ⟨a, xs, z, u, rfl, dat_int hy, .of ha, atI_of (by rw [dd.length]; exact hj) e1, q⟩
        | _ => cases hj
  | tup l =>
    simp only [getC] at hc
    cases hj : ixD l.length i with
    | none => rw [hj] at hc; cases hc
    | some j =>
      rw [hj] at hc
      simp only [Option.bind_some] at hc
      unfold Dat at hd
      obtain ⟨a, xs, rfl, ha, dd⟩ := hd
      obtain ⟨u, Sc, Rc, P2, Q2, P3, Q3, e1, g, rfl, rfl, rep2⟩ := dd.focus hc
      refine ⟨u, Sc, Rc, ⟨g, P ++ P2, Q2 ++ Q, P' ++ P3, Q3 ++ Q', by simp, by simp, fun H' e' Se' Re' st g' => ?_⟩, fun {Qv} y B hy q => ?_⟩
      · have st2 : Stay H H' (P2 ++ Q2) (P3 ++ Q3) := st.mono (fun b hb => by simp at hb ⊢; rcases hb with hb | hb <;> simp [hb]) fun b hb => by simp at hb ⊢; rcases hb with hb | hb <;> simp [hb]
        have ha' : H' a = some (.tup xs) := st.tup a _ ha
        have w := rep2 H' e' Se' Re' st2 g'
        obtain ⟨d', ed, gd⟩ := rep H' (.tup (l.set j e')) (P2 ++ Se' ++ Q2) (P3 ++ Re' ++ Q3) (st.mono (fun b hb => by simp at hb ⊢; rcases hb with hb | hb <;> simp [hb]) fun b hb => by simp at hb ⊢; rcases hb with hb | hb <;> simp [hb]) (by unfold Dat; exact ⟨a, xs, rfl, ha', w⟩)
        refine ⟨d', ?_, by simpa using gd⟩
        rw [setP_snoc p d _ i e' hp]
        simp only [setC]
        rw [hj]
        exact ed
      · cases i with
        | int z =>
          exact .inr (.inl ⟨a, xs, z, u, rfl, dat_int hy, .of ha, atI_of (by rw [dd.length]; exact hj) e1, q⟩)
        | _ => cases hj
  | _ => cases hc
theorem Foc.same {H' : Hp} {d e : D} {n k : Nat} {x v : V} {S R Se Re : List Addr} {p : List D} (h : Foc K H d n x S R p e k v Se Re) (s : Same H H') : Foc K H' d n x S R p e k v Se Re := by
  obtain ⟨hd, P, Q, P', Q', e1, e2, rep⟩ := h
  refine ⟨hd.same s, P, Q, P', Q', e1, e2, fun H2 e' Se' Re' st g => rep H2 e' Se' Re' ⟨fun b xs q => st.tup b xs (s b _ q), fun b o xs q => st.frz b o xs (s b _ q), fun b o xs q => st.scr b o xs (s b _ q), fun b hb o q => st.own b hb o (s b _ q), fun b hb o q => st.res b hb o (s b _ q)⟩ g⟩
end

section
variable {K : PySem.W.Frag} {F : Fr} {H0 H : Hp} {Γ : List Nat} {ρ : Rho} {σ : L2.St} {S R : Nat → List Addr}
theorem Sto.upd {i : Nat} {a : Addr} {o : HO} {d d' : D} {x : V} {A B : List Addr} (h : Sto K F H0 Γ ρ σ H S R) (hd : ρ[i]? = some (some d)) (hx : σ[i]? = some (some x)) (ha : a ∈ S i) (g : Dat K (upd H a o) d' (Γ.getD i 0) x A B)
    (nd : A.Nodup) (hA : ∀ b ∈ A, b ∈ S i ∨ (H0 b = none ∧ ¬ F b ∧ (∀ j, b ∉ S j) ∧ ∀ j, b ∉ R j)) (hB : ∀ b ∈ B, b ∉ A ∧ ¬ F b ∧ ∀ j, j ≠ i → b ∉ S j) :
    Sto K F H0 Γ (ρ.set i (some d')) σ (upd H a o) (fun j => if j = i then A else S j) (fun j => if j = i then B else R j) := by
  have hl : i < ρ.length := (List.getElem?_eq_some_iff.mp hd).1
  have mu := h.mut i a ha
  have other : ∀ j, j ≠ i → Stay H (L2.upd H a o) (S j) (R j) := fun j hj => by
    refine ⟨fun b xs q => ?_, fun b ob xs q => ?_, fun b ob xs q => ?_, fun b hb u q => ?_, fun b hb u q => ?_⟩
    · rw [upd_ne (fun z => by subst z; rw [q] at mu; exact mu)]; exact q
    · rw [upd_ne (fun z => by subst z; rw [q] at mu; exact mu)]; exact q
    · rw [upd_ne (fun z => by subst z; rw [q] at mu; exact mu)]; exact q
    · rw [upd_ne (fun z => by subst z; exact h.dj j i hj _ hb ha)]; exact q
    · rw [upd_ne (fun z => by subst z; exact h.rs j i _ hb ha)]; exact q
  refine ⟨fun b u q => ?_, by simp [h.len], fun j e q => ?_, fun j q => ?_, fun j b hb => ?_, fun j => ?_, fun j k hjk b hb hk => ?_, fun j k b hb hk => ?_, fun j b hb => ?_, fun j b hb => ?_, fun b hb => ?_, h.pin⟩
  · rw [upd_ne (fun z => by subst z; rw [h.new i _ ha] at q; cases q)]
    exact h.same b u q
  · by_cases hj : j = i
    · subst hj
      rw [List.getElem?_set_self hl] at q
      cases q
      rw [if_pos rfl, if_pos rfl]
      exact ⟨x, hx, g⟩
    · rw [List.getElem?_set_ne (Ne.symm hj)] at q
      obtain ⟨y, e1, e2⟩ := h.slot j e q
      rw [if_neg hj, if_neg hj]
      exact ⟨y, e1, Dat.stay _ _ _ _ _ (other j hj) e2⟩
  · by_cases hj : j = i
    · subst hj
      exact absurd (List.getElem?_set_self hl) (q d')
    · rw [if_neg hj, if_neg hj]
      refine h.emp j fun e q' => q e ?_
      rw [List.getElem?_set_ne (Ne.symm hj)]
      exact q'
  · split at hb
    · rcases hA b hb with z | z
      · exact h.new i b z
      · exact z.1
    · exact h.new j b hb
  · split
    · exact nd
    · exact h.nd j
  · split at hb
    · split at hk
      · omega
      · rcases hA b hb with z | z
        · exact h.dj i k (by omega) b z hk
        · exact z.2.2.1 k hk
    · split at hk
      · rcases hA b hk with z | z
        · exact h.dj i j (by omega) b z hb
        · exact z.2.2.1 j hb
      · exact h.dj j k hjk b hb hk
  · split at hb
    · split at hk
      · exact (hB b hb).1 hk
      · exact (hB b hb).2.2 k (by assumption) hk
    · split at hk
      · rcases hA b hk with z | z
        · exact h.rs j i b hb z
        · exact z.2.2.2 j hb
      · exact h.rs j k b hb hk
  · split at hb
    · exact (hB b hb).2.1
    · exact h.rf j b hb
  · split at hb
    · rcases hA b hb with z | z
      · exact h.sf i b z
      · exact z.2.1
    · exact h.sf j b hb
  · unfold L2.upd
    split
    · simp
    · exact h.fd b hb
end
end TW

-- TWMut2
namespace TW
open PySem PySem.Spec PyProof.Rows L2

theorem Sto.node {K : PySem.W.Frag} {F : Fr} {H0 H : Hp} {Γ : List Nat} {ρ : Rho} {σ : L2.St} {S R : Nat → List Addr} {i k : Nat} {a : Addr} {o : HO} {d c e' : D} {x v : V} {A B S' Re S2 R2 : List Addr} {p : List D}
    (st : Sto K F H0 Γ ρ σ H S R) (hd : ρ[i]? = some (some d)) (hx : σ[i]? = some (some x)) (foc : Foc K H d (Γ.getD i 0) x (S i) (R i) p c k v (a :: S') Re) (g : Dat K (L2.upd H a o) e' k v (a :: S2) R2) (nd : (a :: S2).Nodup)
    (h2 : ∀ b ∈ S2, b ∈ S' ∨ b ∈ A) (nA : ∀ b ∈ A, H0 b = none ∧ ¬ F b ∧ (∀ j, b ∉ S j) ∧ ∀ j, b ∉ R j) (hR2 : ∀ b ∈ R2, b ∈ Re ∨ b ∈ B) (hB : ∀ b ∈ B, ¬ Av F S b ∧ b ∉ A) :
    ∃ d' S'' R'', setP d p e' = some d' ∧ Sto K F H0 Γ (ρ.set i (some d')) σ (L2.upd H a o) S'' R'' ∧ Keep S H (L2.upd H a o) ∧ ∀ j b, b ∈ S'' j → (∃ l, b ∈ S l) ∨ b ∈ A := by
  obtain ⟨hc, P, Q, P', Q', eS, eR, rep⟩ := foc
  have ha : a ∈ S i := by rw [eS]; simp
  have mu := st.mut i a ha
  have ndS := st.nd i
  rw [eS] at ndS
  have ndS' : P.Nodup ∧ (a :: S').Nodup ∧ Q.Nodup ∧ (∀ b ∈ P, b ∉ a :: S') ∧ (∀ b ∈ P, b ∉ Q) ∧ ∀ b ∈ a :: S', b ∉ Q := by
    obtain ⟨h1, h2, h3⟩ := List.nodup_append.mp ndS
    obtain ⟨h4, h5, h6⟩ := List.nodup_append.mp h1
    exact ⟨h4, h5, h2, fun b hb hb' => h6 b hb b hb' rfl, fun b hb hb' => h3 b (List.mem_append_left _ hb) b hb' rfl, fun b hb hb' => h3 b (List.mem_append_right _ hb) b hb' rfl⟩
  obtain ⟨nP, nS, nQ, dPS, dPQ, dSQ⟩ := ndS'
  have stay : Stay H (L2.upd H a o) (P ++ Q) (P' ++ Q') := by
    refine ⟨fun b xs q => ?_, fun b ob xs q => ?_, fun b ob xs q => ?_, fun b hb u q => ?_, fun b hb u q => ?_⟩
    · rw [upd_ne (fun z => by subst z; rw [q] at mu; exact mu)]; exact q
    · rw [upd_ne (fun z => by subst z; rw [q] at mu; exact mu)]; exact q
    · rw [upd_ne (fun z => by subst z; rw [q] at mu; exact mu)]; exact q
    · rw [upd_ne (fun z => ?_)]; exact q
      subst z
      rcases List.mem_append.mp hb with hb | hb
      · exact dPS _ hb List.mem_cons_self
      · exact dSQ _ List.mem_cons_self hb
    · rw [upd_ne (fun z => ?_)]; exact q
      subst z
      refine st.rs i i b ?_ ha
      rw [eR]
      rcases List.mem_append.mp hb with hb | hb <;> simp [hb]
  obtain ⟨d', ed, gd⟩ := rep _ e' (a :: S2) R2 stay g
  have inS : ∀ b ∈ a :: S2, b ∈ S i ∨ b ∈ A := fun b hb => by
    rcases List.mem_cons.mp hb with rfl | hb
    · exact .inl ha
    · rcases h2 b hb with hb | hb
      · left; rw [eS]; simp [hb]
      · exact .inr hb
  have notPQ : ∀ b ∈ a :: S2, b ∉ P ∧ b ∉ Q := fun b hb => by
    rcases List.mem_cons.mp hb with rfl | hb
    · exact ⟨fun z => dPS _ z List.mem_cons_self, dSQ _ List.mem_cons_self⟩
    · rcases h2 b hb with hb | hb
      · exact ⟨fun z => dPS _ z (List.mem_cons_of_mem _ hb), dSQ _ (List.mem_cons_of_mem _ hb)⟩
      · have n := (nA b hb).2.2.1 i
        rw [eS] at n
        exact ⟨fun z => n (by simp [z]), fun z => n (by simp [z])⟩
  refine ⟨d', _, _, ed, st.upd (A := P ++ (a :: S2) ++ Q) (B := P' ++ R2 ++ Q') hd hx ha gd ?_ (fun b hb => ?_) fun b hb => ?_, fun b u q hn => ?_, fun j b hb => ?_⟩
  · refine List.nodup_append.mpr ⟨List.nodup_append.mpr ⟨nP, nd, fun b hb b' hb' e => ?_⟩, nQ, fun b hb b' hb' e => ?_⟩
    · subst e; exact (notPQ b hb').1 hb
    · subst e
      rcases List.mem_append.mp hb with hb | hb
      · exact dPQ b hb hb'
      · exact (notPQ b hb).2 hb'
  · have : b ∈ P ∨ b ∈ a :: S2 ∨ b ∈ Q := by
      rcases List.mem_append.mp hb with hb | hb
      · rcases List.mem_append.mp hb with hb | hb
        · exact .inl hb
        · exact .inr (.inl hb)
      · exact .inr (.inr hb)
    rcases this with hb | hb | hb
    · left; rw [eS]; simp [hb]
    · exact (inS b hb).imp id (nA b)
    · left; rw [eS]; simp [hb]
  · have hb' : b ∈ R i ∨ b ∈ B := by
      rw [eR]
      rcases List.mem_append.mp hb with hb | hb
      · rcases List.mem_append.mp hb with hb | hb
        · left; simp [hb]
        · rcases hR2 b hb with hb | hb
          · left; simp [hb]
          · exact .inr hb
      · left; simp [hb]
    have key : ∀ z, z ∈ P ++ (a :: S2) ++ Q → z ∈ S i ∨ z ∈ A := fun z hz => by
      rcases List.mem_append.mp hz with hz | hz
      · rcases List.mem_append.mp hz with hz | hz
        · left; rw [eS]; simp [hz]
        · exact inS z hz
      · left; rw [eS]; simp [hz]
    rcases hb' with hb | hb
    · refine ⟨fun z => ?_, st.rf i b hb, fun j _ => st.rs i j b hb⟩
      rcases key b z with z | z
      · exact st.rs i i b hb z
      · exact (nA b z).2.2.2 i hb
    · refine ⟨fun z => ?_, fun z => (hB b hb).1 (.inl z), fun j _ z => (hB b hb).1 (.inr ⟨j, z⟩)⟩
      rcases key b z with z | z
      · exact (hB b hb).1 (.inr ⟨i, z⟩)
      · exact (hB b hb).2 z
  · rw [upd_ne (fun z => hn i (by subst z; exact ha))]
    exact q
  · split at hb
    · rcases List.mem_append.mp hb with hb | hb
      · rcases List.mem_append.mp hb with hb | hb
        · exact .inl ⟨i, by rw [eS]; simp [hb]⟩
        · exact (inS b hb).imp (fun z => ⟨i, z⟩) id
      · exact .inl ⟨i, by rw [eS]; simp [hb]⟩
    · exact .inl ⟨j, hb⟩

def RP (X : Cx) (W : WX) (Γ : List Nat) (i len : Nat) (e : Expr) (m : Rho → Res (List D)) : Prop :=
  ∃ t, PE X e t ∧ ∀ F H0 ρ σ H S R (Q : VK) d x, Sto X.K F H0 Γ ρ σ H S R → ρ[i]? = some (some d) → σ[i]? = some (some x) →
    PostX X W σ H (fun p => ∃ c, getP d p = some c ∧ ∀ v H' Se Re, Same H H' → Foc X.K H' d (Γ.getD i 0) x (S i) (R i) p c (Γ.getD i 0 - len) v Se Re → Q v H') (m ρ) → t σ H Q
def pNil : Rho → Res (List D) := fun _ => .ok []
def noX {α : Type} : Res α → Res α
  | .ok a => .ok a
  | _ => .stuck
@[simp] theorem noX_ok {α : Type} (a : α) : noX (.ok a) = .ok a := id rfl
def pSnoc (m : Rho → Res (List D)) (b : Rho → Res D) : Rho → Res (List D) := fun ρ => (m ρ).bind fun p => (noX (b ρ)).bind fun j => .ok (p ++ [j])
theorem PostX.noX {X : Cx} {W : WX} {σ : L2.St} {H : Hp} {α : Type} {ok : α → Prop} {m : Res α} (h : PostX X W σ H ok (TW.noX m)) : PostX X W σ H ok m := by
  cases m with
  | ok d => exact h
  | exn c => exact h.elim
  | stuck => exact h.elim
section
variable {X : Cx} {W : WX} {Γ : List Nat} {n i len : Nat} {e a b o : Expr} {pos pos' : Pos} {mp : Rho → Res (List D)} {mb me mi : Rho → Res D}
theorem rp_var (h : PE X e (tVar i)) : RP X W Γ i 0 e pNil := by
  refine ⟨_, h, fun F H0 ρ σ H S R Q d x st hd hx po => ?_⟩
  obtain ⟨c, ec, po⟩ := po
  cases ec
  obtain ⟨y, e1, g⟩ := st.slot i d hd
  rw [hx] at e1
  cases e1
  exact ⟨x, hx, po x H _ _ (Same.refl H) (Foc.nil g)⟩
theorem getP_pre : ∀ (p : List D) (d : D) (i c : D), getP d (p ++ [i]) = some c → ∃ e, getP d p = some e
  | [], d, i, c, _ => ⟨d, rfl⟩
  | j :: p, d, i, c, h => by
    have h' : (getC d j).bind (fun e => getP e (p ++ [i])) = some c := h
    cases hc : getC d j with
    | none => rw [hc] at h'; cases h'
    | some e =>
      rw [hc] at h'
      obtain ⟨u, hu⟩ := getP_pre p e i c h'
      exact ⟨u, by show (getC d j).bind (fun e => getP e p) = _; rw [hc]; exact hu⟩
theorem rp_ix (h : RP X W Γ i len a mp) (hb : RE X W Γ 0 true b mb) (hk : len < Γ.getD i 0 := by decide) (hs : PlainIx b := by exact fun _ _ => rfl) : RP X W Γ i (len + 1) (.Subscript a b pos) (pSnoc mp mb) := by
  obtain ⟨ta, pa, qa⟩ := h
  obtain ⟨tb, pb, qb⟩ := hb
  refine ⟨_, pe_ix ix_seq pa pb hs, fun F H0 ρ σ H S R Q d x st hd hx po => ?_⟩
  unfold pSnoc at po
  refine qa F H0 ρ σ H S R _ d x st hd hx (po.bind.imp fun p ep po => ?_)
  have hz : ∃ c, getP d p = some c := by
    cases ej : mb ρ with
    | stuck => rw [ej] at po; exact po.elim
    | exn c => rw [ej] at po; exact po.elim
    | ok j =>
      rw [ej] at po
      obtain ⟨c, ec, _⟩ := po
      exact getP_pre p d j c ec
  obtain ⟨c, ec⟩ := hz
  refine ⟨c, ec, fun v H1 Se Re s1 foc => ?_⟩
  refine qb F H0 ρ σ H1 S R _ (st.grow s1) (PostE.iff.mpr (PostX.noX (po.bind.later s1 fun j ej po => ?_)))
  intro y H2 A B s2 d2 _ _
  obtain rfl : A = [] := Dat.noS d2
  obtain ⟨c', ec', po⟩ := po
  have hc := ec'
  rw [getP_snoc p d c j ec] at hc
  have foc2 := foc.same s2
  rw [show Γ.getD i 0 - len = (Γ.getD i 0 - (len + 1)) + 1 by omega] at foc2
  obtain ⟨u, Sc, Rc, f3, k⟩ := foc2.step ec hc
  exact k y B d2 (po u H2 Sc Rc (s1.trans s2) f3)

def nApp (v : D) : D → Option D
  | .lst l => if l.length < sizeLine then some (.lst (l ++ [v])) else none
  | _ => none
def nSet (j v : D) : D → Option D
  | .lst l => (ixD l.length j).map fun k => .lst (l.set k v)
  | _ => none
def atS (i : Nat) (f : Rho → Out) : Rho → Out := fun ρ => match ρ[i]? with
  | some (some _) => f ρ
  | _ => .stuck
def mutO (i : Nat) (ρ : Rho) (p : List D) (f : D → Option D) : Out := match ρ[i]? with
  | some (some d) => match updP d p f with
    | some d' => .nx (ρ.set i (some d'))
    | none => .stuck
  | _ => .stuck
def sApp (i : Nat) (mp : Rho → Res (List D)) (me : Rho → Res D) : Rho → Out := atS i fun ρ => (mp ρ).out ρ fun p => (noX (me ρ)).out ρ fun v => mutO i ρ p (nApp v)
def sPut (i : Nat) (mp : Rho → Res (List D)) (mj me : Rho → Res D) : Rho → Out := atS i fun ρ => (me ρ).out ρ fun v => (mp ρ).out ρ fun p => (noX (mj ρ)).out ρ fun j => mutO i ρ p (nSet j v)
def sAug (i : Nat) (op : D → D → Option D) (mp : Rho → Res (List D)) (mj me : Rho → Res D) : Rho → Out := atS i fun ρ => (mp ρ).out ρ fun p => (noX (mj ρ)).out ρ fun j => (noX (me ρ)).out ρ fun v =>
  mutO i ρ p fun c => (gIx c j).bind fun u => (op u v).bind fun z => nSet j z c
theorem atS_ok {X : Cx} {W : WX} {n i : Nat} {Γ : List Nat} {F : Fr} {H0 H : Hp} {S : Nat → List Addr} {ρ : Rho} {f : Rho → Out} {E : Ends} (h : PostS X W F H0 Γ n S H E (atS i f ρ)) : ∃ d, ρ[i]? = some (some d) ∧ PostS X W F H0 Γ n S H E (f ρ) := by
  unfold atS at h
  split at h
  · rename_i d e
    exact ⟨d, e, h⟩
  · exact h.elim
theorem noX_out {X : Cx} {W : WX} {n : Nat} {Γ : List Nat} {F : Fr} {H0 H : Hp} {S : Nat → List Addr} {ρ : Rho} {α : Type} {m : Res α} {f : α → Out} {E : Ends} (h : PostS X W F H0 Γ n S H E ((noX m).out ρ f)) : ∃ v, m = .ok v ∧ PostS X W F H0 Γ n S H E (f v) := by
  cases m with
  | ok v => exact ⟨v, rfl, h⟩
  | exn c => exact h.elim
  | stuck => exact h.elim
theorem mutO_ok {X : Cx} {W : WX} {n i : Nat} {Γ : List Nat} {F : Fr} {H0 H : Hp} {S : Nat → List Addr} {ρ : Rho} {p : List D} {f : D → Option D} {E : Ends} (h : PostS X W F H0 Γ n S H E (mutO i ρ p f)) :
    ∃ d c c' d', ρ[i]? = some (some d) ∧ getP d p = some c ∧ f c = some c' ∧ setP d p c' = some d' ∧ PostS X W F H0 Γ n S H E (.nx (ρ.set i (some d'))) := by
  unfold mutO at h
  split at h
  · rename_i d ed
    unfold updP at h
    cases ec : getP d p with
    | none => rw [ec] at h; exact h.elim
    | some c =>
      rw [ec] at h
      simp only [Option.bind_some] at h
      cases ef : f c with
      | none => rw [ef] at h; exact h.elim
      | some c' =>
        rw [ef] at h
        simp only [Option.bind_some] at h
        cases es : setP d p c' with
        | none => rw [es] at h; exact h.elim
        | some d' => rw [es] at h; exact ⟨d, c, c', d', ed, ec, ef, es, h⟩
  · exact h.elim
theorem sub_stay {K : PySem.W.Frag} {H : Hp} {a : Addr} {o u : HO} {S R : List Addr} (ha : H a = some u) (mu : Mut (some u)) (hS : a ∉ S) (hR : a ∉ R) : Stay H (L2.upd H a o) S R := by
  have ne : ∀ {b w}, H b = some w → ¬ Mut (some w) → b ≠ a := fun q nm z => by subst z; rw [ha] at q; cases q; exact nm mu
  exact ⟨fun b xs q => by rw [upd_ne (ne q fun z => z)]; exact q, fun b ob xs q => by rw [upd_ne (ne q fun z => z)]; exact q, fun b ob xs q => by rw [upd_ne (ne q fun z => z)]; exact q,
    fun b hb w q => by rw [upd_ne (fun z => hS (by subst z; exact hb))]; exact q, fun b hb w q => by rw [upd_ne (fun z => hR (by subst z; exact hb))]; exact q⟩
theorem node_lst {K : PySem.W.Frag} {F : Fr} {H0 H : Hp} {Γ : List Nat} {ρ : Rho} {σ : L2.St} {S R : Nat → List Addr} {i k : Nat} {d : D} {l : List D} {x v : V} {Se Re : List Addr} {p : List D}
    (st : Sto K F H0 Γ ρ σ H S R) (foc : Foc K H d (Γ.getD i 0) x (S i) (R i) p (.lst l) (k + 1) v Se Re) :
    ∃ a xs S', v = .ref a ∧ H a = some (.lst xs) ∧ Se = a :: S' ∧ Dats K H l k xs S' Re ∧ a ∈ S i ∧ a ∉ S' ∧ a ∉ Re ∧ S'.Nodup ∧ (∀ b ∈ S', b ∈ S i) ∧ ∀ b ∈ Re, b ∈ R i := by
  obtain ⟨hc, P, Q, P', Q', eS, eR, _⟩ := foc
  unfold Dat at hc
  obtain ⟨a, xs, S', rfl, ha, rfl, dd⟩ := hc
  have ndS := st.nd i
  rw [eS] at ndS
  have nd2 : (a :: S').Nodup := (List.nodup_append.mp (List.nodup_append.mp ndS).1).2.1
  refine ⟨a, xs, S', rfl, ha, rfl, dd, by rw [eS]; simp, (List.nodup_cons.mp nd2).1, fun z => st.rs i i a (by rw [eR]; simp [z]) (by rw [eS]; simp), (List.nodup_cons.mp nd2).2, fun b hb => by rw [eS]; simp [hb], fun b hb => by rw [eR]; simp [hb]⟩
theorem lst_write {K : PySem.W.Frag} {F : Fr} {H0 H1 H : Hp} {Γ : List Nat} {ρ : Rho} {σ : L2.St} {S R : Nat → List Addr} {i kk : Nat} {d d2 : D} {l l' : List D} {x : V} {a : Addr} {xs xs' : List V} {S' Re A B S2 R2 : List Addr} {p : List D}
    (st : Sto K F H0 Γ ρ σ H S R) (hd : ρ[i]? = some (some d)) (hx : σ[i]? = some (some x)) (foc : Foc K H d (Γ.getD i 0) x (S i) (R i) p (.lst l) (kk + 1) (.ref a) (a :: S') Re) (ha : H a = some (.lst xs))
    (sm : Same H1 H) (wA : New H1 A B) (ha1 : H1 a ≠ none) (st1 : Sto K F H0 Γ ρ σ H1 S R) (v2 : ∀ b ∈ B, ¬ Av F S b) (haS : a ∈ S i) (haS' : a ∉ S') (haR : a ∉ Re) (subS : ∀ b ∈ S', b ∈ S i)
    (dd : Dats K H l' kk xs' S2 R2) (h2 : ∀ b ∈ S2, b ∈ S' ∨ b ∈ A) (hR : ∀ b ∈ R2, b ∈ Re ∨ b ∈ B) (nd : S2.Nodup) (hs : setP d p (.lst l') = some d2) :
    ∃ S'' R'', Sto K F H0 Γ (ρ.set i (some d2)) σ (L2.upd H a (.lst xs')) S'' R'' ∧ Keep S H1 (L2.upd H a (.lst xs')) ∧ Grow S H1 S'' := by
  have haA : a ∉ A := fun z => ha1 (wA.2 a z).1
  have haB : a ∉ B := fun z => v2 a z (.inr ⟨i, haS⟩)
  have n2 : a ∉ S2 := fun z => (h2 a z).elim haS' haA
  have nR : a ∉ R2 := fun z => (hR a z).elim haR haB
  have g : Dat K (L2.upd H a (.lst xs')) (.lst l') (kk + 1) (.ref a) (a :: S2) R2 := by
    unfold Dat
    exact ⟨a, _, _, rfl, upd_same, rfl, Dats.stay _ _ _ _ _ (sub_stay (K := K) ha trivial n2 nR) dd⟩
  obtain ⟨d3, S'', R'', ed, st3, kp, gr⟩ := st.node (A := A) (B := B) hd hx foc g (List.nodup_cons.mpr ⟨n2, nd⟩) h2 (fun b hb => ⟨st1.same.free (wA.2 b hb).1, fun z => st1.fd b z (wA.2 b hb).1, fun j z => st1.domS j b z (wA.2 b hb).1, fun j z => st1.domR j b z (wA.2 b hb).1⟩) hR fun b hb => ⟨v2 b hb, fun z => (wA.2 b z).2 hb⟩
  rw [hs] at ed
  cases ed
  exact ⟨S'', R'', st3, (Keep.of_same sm).trans Grow.refl kp, fun j b hb => (gr j b hb).imp id fun z => (wA.2 b z).1⟩
theorem Dats.put {K : PySem.W.Frag} {H : Hp} : ∀ {ds : List D} {n : Nat} {xs : List V} {S R : List Addr} {j : Nat} {e' : D} {y : V} {A B : List Addr}, Dats K H ds n xs S R → j < ds.length → Dat K H e' n y A B →
    ∃ S2 R2, Dats K H (ds.set j e') n (xs.set j y) S2 R2 ∧ (∀ b ∈ S2, b ∈ S ∨ b ∈ A) ∧ (S.Nodup → A.Nodup → (∀ b ∈ A, b ∉ S) → S2.Nodup) ∧ ∀ b ∈ R2, b ∈ R ∨ b ∈ B
  | [], _, _, _, _, _, _, _, _, _, h, hj, g => by simp at hj
  | d :: ds, n, _, _, _, 0, e', y, A, B, h, hj, g => by
    unfold Dats at h
    obtain ⟨x, xs', S1, S2, R1, R2, rfl, rfl, rfl, h1, h2⟩ := h
    refine ⟨A ++ S2, B ++ R2, Dats.cons g h2, fun b hb => ?_, fun n1 n2 n3 => ?_, fun b hb => ?_⟩
    · rcases List.mem_append.mp hb with hb | hb
      · exact .inr hb
      · exact .inl (List.mem_append_right _ hb)
    · exact List.nodup_append.mpr ⟨n2, (List.nodup_append.mp n1).2.1, fun b hb b' hb' e => by subst e; exact n3 b hb (List.mem_append_right _ hb')⟩
    · rcases List.mem_append.mp hb with hb | hb
      · exact .inr hb
      · exact .inl (List.mem_append_right _ hb)
  | d :: ds, n, _, _, _, j + 1, e', y, A, B, h, hj, g => by
    unfold Dats at h
    obtain ⟨x, xs', S1, S2, R1, R2, rfl, rfl, rfl, h1, h2⟩ := h
    obtain ⟨S3, R3, q, a1, a2, a3⟩ := Dats.put (j := j) h2 (by simpa using hj) g
    refine ⟨S1 ++ S3, R1 ++ R3, Dats.cons h1 q, fun b hb => ?_, fun n1 n2 n3 => ?_, fun b hb => ?_⟩
    · rcases List.mem_append.mp hb with hb | hb
      · exact .inl (List.mem_append_left _ hb)
      · exact (a1 b hb).imp (List.mem_append_right _) id
    · obtain ⟨m1, m2, m3⟩ := List.nodup_append.mp n1
      refine List.nodup_append.mpr ⟨m1, a2 m2 n2 fun b hb hb' => n3 b hb (List.mem_append_right _ hb'), fun b hb b' hb' e => ?_⟩
      subst e
      rcases a1 b hb' with z | z
      · exact m3 b hb b z rfl
      · exact n3 b z (List.mem_append_left _ hb)
    · rcases List.mem_append.mp hb with hb | hb
      · exact .inl (List.mem_append_left _ hb)
      · exact (a3 b hb).imp (List.mem_append_right _) id
theorem rs_app (hp : RP X W Γ i len o mp) (he : RE X W Γ (Γ.getD i 0 - len - 1) true e me) (hk : len < Γ.getD i 0 := by decide)
    (hbase : attributeBase o "append" X.env (eval o X.env) = eval o X.env := by rfl)
    (hfew : ((backTo pos (starEach (e :: []) X.env)).all (fun x => !x.1) && (backToKw pos (keywordEach [] X.env)).all (fun x => x.1.isSome)
      && decide ((e :: []).length + ([] : List Keyword).length + (if ([] : List Keyword).isEmpty then 0 else 1) < 30)) = true := by rfl)
    (hline : (pos'.endLine == pos.line) = true := by rfl) (hs : starEach (e :: []) X.env = (false, eval e X.env) :: starEach [] X.env := by rfl) (hplain : (backTo pos (starEach [] X.env)).any (·.1) = false := by rfl)
    {pos2 : Pos} (hw : swapsWith (.Call (.Attribute o "append" pos') [e] [] pos) none pos2.line X.env = pure false := by rfl) :
    RS X W n Γ Γ (.Expr (.Call (.Attribute o "append" pos') [e] [] pos) pos2) (sApp i mp me) := by
  obtain ⟨ta, pa, qa⟩ := hp
  obtain ⟨tb, pb, qb⟩ := he
  refine ⟨_, ps_expr (pe_bm PySem.F.plainAttrs_list PySem.F.slot_list_append PySem.F.type_list_append mt_append pa (pa_cons pb pa_nil hs) hbase hfew hline hs hplain) hw, fun F H0 ρ σ H S R E st po => ?_⟩
  obtain ⟨d, hd, po⟩ := atS_ok po
  · obtain ⟨x, hx, _⟩ := st.slot i d hd
    refine qa F H0 ρ σ H S R _ d x st hd hx ((PostS.ofR st po).imp fun p ep po => ?_)
    obtain ⟨v0, ev0, po0⟩ := noX_out po
    obtain ⟨d', c, c', d2, hd', hc, hf, hs', po2⟩ := mutO_ok po0
    rw [hd] at hd'
    cases hd'
    refine ⟨c, hc, fun v H1 Se Re s1 foc => ?_⟩
    unfold nApp at hf
    split at hf
    · rename_i l
      split at hf
      · rename_i hlen
        cases hf
        obtain ⟨kk, hkk⟩ : ∃ kk, Γ.getD i 0 - len = kk + 1 := ⟨Γ.getD i 0 - len - 1, by omega⟩
        rw [hkk] at foc
        obtain ⟨a, xs, S', rfl, ha, rfl, dd, haS, haS', haR, ndS', subS, subR⟩ := node_lst (st.grow s1) foc
        refine ⟨.inl ⟨rfl, _, .of ha⟩, ?_⟩
        have st1 := st.grow s1
        refine qb F H0 ρ σ H1 S R _ st1 ?_
        rw [ev0]
        intro y H2 A B s2 d2' v2 f2
        obtain ⟨nA, wA⟩ := f2 rfl
        have st2 := st1.grow s2
        have ha2 := s2 _ _ ha
        refine ⟨a, xs, y, rfl, rfl, ha2, by rw [dd.length]; exact hlen, ?_⟩
        have haA : a ∉ A := fun z => by rw [(wA a z).1] at ha; cases ha
        have haB : a ∉ B := fun z => v2 a z (.inr ⟨i, haS⟩)
        have hkk2 : Γ.getD i 0 - len - 1 = kk := by omega
        rw [hkk2] at d2'
        have g : Dat X.K (L2.upd H2 a (.lst (xs ++ [y]))) (.lst (l ++ [v0])) (kk + 1) (.ref a) (a :: (S' ++ A)) (Re ++ B) := by
          unfold Dat
          refine ⟨a, _, _, rfl, upd_same, rfl, Dats.append (Dats.stay _ _ _ _ _ (sub_stay (K := X.K) ha2 trivial haS' haR) (dd.same s2)) (Dats.one (Dat.stay _ _ _ _ _ (sub_stay (K := X.K) ha2 trivial haA haB) d2'))⟩
        obtain ⟨d3, S'', R'', ed, st3, kp, gr⟩ := st2.node (A := A) (B := B) hd hx (foc.same s2) g (by
            refine List.nodup_cons.mpr ⟨fun z => ?_, List.nodup_append.mpr ⟨ndS', nA, fun b hb b' hb' e => ?_⟩⟩
            · rcases List.mem_append.mp z with z | z
              · exact haS' z
              · exact haA z
            · subst e
              exact st1.domS i b (subS b hb) (wA b hb').1) (fun b hb => List.mem_append.mp hb) (fun b hb => ⟨st1.same.free (wA b hb).1, fun z => st1.fd b z (wA b hb).1, fun j z => st1.domS j b z (wA b hb).1, fun j z => st1.domR j b z (wA b hb).1⟩)
            (fun b hb => List.mem_append.mp hb) fun b hb => ⟨v2 b hb, fun z => (wA b z).2 hb⟩
        rw [hs'] at ed
        cases ed
        exact po2 σ _ S'' R'' st3 ((Keep.of_same (s1.trans s2)).trans Grow.refl kp) fun j b hb => (gr j b hb).imp id fun z => s1.free (wA b z).1
      · cases hf
    · cases hf
theorem rs_put (hp : RP X W Γ i len o mp) (hj : RE X W Γ 0 true b mi) (he : RE X W Γ (Γ.getD i 0 - len - 1) true e me) (hk : len < Γ.getD i 0 := by decide)
    (ha : ∀ v, assign (.Subscript o b pos') X.env v = (do
      let ov ← holding [v] (eval o X.env)
      let iv ← holding [v, ov] (eval b X.env)
      standAt pos'
      holding [v, ov, iv] (setItem ov iv v)
      release [v, ov, iv] []) := by intro _; rfl)
    (hs : swapsWithSole [.Subscript o b pos'] e pos.line X.env = pure false := by rfl) (hw : swappedStores [.Subscript o b pos'] e X.env = pure none := by rfl)
    (h1 : (assignEach [.Subscript o b pos'] X.env).map (·.2) = [assign (.Subscript o b pos') X.env] := by rfl) :
    RS X W n Γ Γ (.Assign [.Subscript o b pos'] e pos) (sPut i mp mi me) := by
  obtain ⟨ta, pa, qa⟩ := hp
  obtain ⟨tb, pb, qb⟩ := he
  obtain ⟨tc, pc, qc⟩ := hj
  refine ⟨_, ps_asg pb (pg_sub pa pc set_list ha) hs hw h1, fun F H0 ρ σ H S R E st po => ?_⟩
  obtain ⟨d, hd, po⟩ := atS_ok po
  obtain ⟨x, hx, _⟩ := st.slot i d hd
  refine qb F H0 ρ σ H S R _ st (PostE.iff.mpr ((PostS.ofR st po).imp fun v0 ev po => ?_))
  intro y H1 A B s1 d1 v1 f1
  have wA := f1 rfl
  have st1 := st.grow s1
  refine qa F H0 ρ σ H1 S R _ d x st1 hd hx ((PostS.ofR st1 po).imp fun p ep po => ?_)
  obtain ⟨j0, ej0, po0⟩ := noX_out po
  obtain ⟨d', c, c', d2, hd', hc, hf, hs', po2⟩ := mutO_ok po0
  rw [hd] at hd'
  cases hd'
  refine ⟨c, hc, fun v H2 Se Re s2 foc => ?_⟩
  unfold nSet at hf
  split at hf
  · rename_i l
    cases hjx : ixD l.length j0 with
    | none => rw [hjx] at hf; cases hf
    | some jn =>
      rw [hjx] at hf
      cases hf
      obtain ⟨kk, hkk⟩ : ∃ kk, Γ.getD i 0 - len = kk + 1 := ⟨Γ.getD i 0 - len - 1, by omega⟩
      rw [hkk] at foc
      have st2 := st1.grow s2
      obtain ⟨a, xs, S', rfl, ha, rfl, dd, haS, haS', haR, ndS', subS, subR⟩ := node_lst st2 foc
      refine qc F H0 ρ σ H2 S R _ st2 ?_
      rw [ej0]
      intro u H3 A3 B3 s3 d3 _ _
      have st3 := st2.grow s3
      cases j0 with
      | int z =>
        have ha3 := s3 _ _ ha
        refine ⟨a, xs, z, jn, rfl, dat_int d3, ha3, by rw [dd.length]; exact hjx, ?_⟩
        have hkk2 : Γ.getD i 0 - len - 1 = kk := by omega
        rw [hkk2] at d1
        have s13 := s2.trans s3
        obtain ⟨S2, R2, q, a1, a2, a3⟩ := Dats.put (dd.same s3) (ixN_seq hjx).2.1 (d1.same s13)
        have hadom : H1 a ≠ none := st1.domS i a haS
        obtain ⟨S'', R'', st4, kp, gr⟩ := lst_write (H1 := H) st3 hd hx (foc.same s3) ha3 (s1.trans s13) wA (st.domS i a haS) st v1 haS haS' haR subS q a1 a3 (a2 ndS' wA.1 fun b hb hb' => st.domS i b (subS b hb') (wA.2 b hb).1) hs'
        exact po2 σ _ S'' R'' st4 kp gr
      | _ => cases hjx
  · cases hf
end
end TW

-- TWMut3
namespace TW
open PySem PySem.Spec PyProof.Rows L2

section
variable {X : Cx}
theorem pget_list : PGet X (rIxL X.K) := by
  intro pins s σ H x y v u Q I rx ry h
  obtain ⟨p, xs, i, z, rfl, rfl, hq, he, q⟩ := h
  cases rx
  obtain ⟨t, rfl⟩ := ry
  obtain ⟨its, r, pl, hz⟩ := I.list hq
  obtain ⟨j, h1, h2, h3, h4, h5⟩ := atI_get he
  obtain ⟨w, ew, rw'⟩ := r.get h2
  have hl := r.length
  have hn := line63
  have fin : EP X pins σ Q w s := ⟨z, H, I, rw', q⟩
  by_cases h0 : 0 ≤ i
  · have hj : i.toNat = j := by
      rw [seqIndex_of h0 h5] at h1
      exact Option.some.inj h1
    exact wpAny_getItem_list pl.isList h0 (by omega) (by rw [hj]; simpa using ew) fin
  · have hj : (i + (its.toArray.size : Int)).toNat = j := by
      rw [seqIndex_neg (by omega) h4] at h1
      rw [List.size_toArray, ← hl]
      exact Option.some.inj h1
    exact wpAny_getItem_list_neg pl.isList (by omega) (by rw [List.size_toArray] <;> omega) (by omega) (by rw [hj]; simpa using ew) fin
end
def gAddI : D → D → Option D
  | .int i, .int j => some (.int (i + j))
  | _, _ => none
section
variable {X : Cx} {W : WX} {Γ : List Nat} {n i len : Nat} {e a b o : Expr} {pos pos' : Pos} {mp : Rho → Res (List D)} {mb me mi : Rho → Res D}
theorem rs_aug (hp : RP X W Γ i len o mp) (hj : RE X W Γ 0 true b mi) (he : RE X W Γ 0 true e me) (hk : len < Γ.getD i 0 := by decide)
    (ha : ∀ ov iv new, augStore b ov iv new = (do holding [new, ov, iv] (setItem ov iv new); release [new, ov, iv] []; pure .next) := by intros; rfl) :
    RS X W n Γ Γ (.AugAssign (.Subscript o b pos') .Add e pos) (sAug i gAddI mp mi me) := by
  obtain ⟨ta, pa, qa⟩ := hp
  obtain ⟨tb, pb, qb⟩ := he
  obtain ⟨tc, pc, qc⟩ := hj
  refine ⟨_, ps_augS pa pc pget_list pb ip_add set_list ha, fun F H0 ρ σ H S R E st po => ?_⟩
  obtain ⟨d, hd, po⟩ := atS_ok po
  obtain ⟨x, hx, _⟩ := st.slot i d hd
  refine qa F H0 ρ σ H S R _ d x st hd hx ((PostS.ofR st po).imp fun p ep po => ?_)
  obtain ⟨j0, ej0, po⟩ := noX_out po
  obtain ⟨v0, ev0, po0⟩ := noX_out po
  obtain ⟨d', c, c', d2, hd', hc, hf, hs', po2⟩ := mutO_ok po0
  rw [hd] at hd'
  cases hd'
  refine ⟨c, hc, fun v H1 Se Re s1 foc => ?_⟩
  have st1 := st.grow s1
  refine qc F H0 ρ σ H1 S R _ st1 ?_
  rw [ej0]
  intro u H2 A2 B2 s2 dj _ _
  obtain rfl : A2 = [] := Dat.noS dj
  have st2 := st1.grow s2
  cases hg : gIx c j0 with
  | none => rw [hg] at hf; cases hf
  | some old =>
    rw [hg] at hf
    simp only [Option.bind_some] at hf
    cases ho : gAddI old v0 with
    | none => rw [ho] at hf; cases hf
    | some nw =>
      rw [ho] at hf
      simp only [Option.bind_some] at hf
      unfold nSet at hf
      split at hf
      · rename_i l
        cases hjx : ixD l.length j0 with
        | none => rw [hjx] at hf; cases hf
        | some jn =>
          rw [hjx] at hf
          cases hf
          cases j0 with
          | int z =>
            obtain ⟨kk, hkk⟩ : ∃ kk, Γ.getD i 0 - len = kk + 1 := ⟨Γ.getD i 0 - len - 1, by omega⟩
            rw [hkk] at foc
            have foc2 := foc.same s2
            obtain ⟨a, xs, S', rfl, ha2, rfl, dd, haS, haS', haR, ndS', subS, subR⟩ := node_lst st2 foc2
            have hjl : jn < l.length := (ixN_seq hjx).2.1
            have eold : l[jn]? = some old := by
              simp only [gIx] at hg
              unfold atI at hg
              rw [show ixN l.length z = some jn from hjx] at hg
              exact hg
            obtain ⟨w, S3, R3, ew, gw, _, _⟩ := dd.get eold
            unfold gAddI at ho
            split at ho
            · rename_i i1 i2
              cases ho
              have ew' := dat_int gw
              subst ew'
              refine ⟨a, xs, z, .int i1, rfl, dat_int dj, .of ha2, atI_of (by rw [dd.length]; exact hjx) ew, ?_⟩
              refine qb F H0 ρ σ H2 S R _ st2 ?_
              rw [ev0]
              intro y H3 A3 B3 s3 d3 _ _
              have st3 := st2.grow s3
              refine ⟨i1, i2, rfl, dat_int d3, ?_⟩
              have ha3 := s3 _ _ ha2
              refine ⟨a, xs, z, jn, rfl, dat_int dj, ha3, by rw [dd.length]; exact hjx, ?_⟩
              obtain ⟨S2, R2, q, a1, a2, a3⟩ := Dats.put (dd.same s3) hjl (dat_of_int (K := X.K) (H := H3) (i := i1 + i2) kk)
              obtain ⟨S'', R'', st4, kp, gr⟩ := lst_write (H1 := H) (A := []) (B := []) st3 hd hx (foc2.same s3) ha3 (s1.trans (s2.trans s3)) New.nil (st.domS i a haS) st (fun b hb => by simp at hb) haS haS' haR subS q a1 a3 (a2 ndS' List.nodup_nil fun b hb => by simp at hb) hs'
              exact po2 σ _ S'' R'' st4 kp gr
            · cases ho
          | _ => cases hjx
      · cases hf
def sAugN (i : Nat) (me : Rho → Res D) : Rho → Out := atS i fun ρ => (me ρ).out ρ fun v => (m2 gAddI (mVar i) (mC v) ρ).out ρ fun z => .nx (ρ.set i (some z))
theorem rs_augN {x : Str} (h : RE X W Γ 0 true e me) (hN : X.N.Nodup) (hx : Loc X.env.scope x) (hi : X.N[i]? = some x := by rfl) (hz : Γ.getD i 0 = 0 := by rfl)
    (hf : X.fn x = true ∨ X.env.scope.names.lookup x = some .local := by first | exact .inl rfl | exact .inr rfl | assumption) : RS X W n Γ Γ (.AugAssign (.Name x pos') .Add e pos) (sAugN i me) := by
  obtain ⟨tb, pb, qb⟩ := h
  refine ⟨_, ps_aug hN hi hx pb ip_add hf, fun F H0 ρ σ H S R E st po => ?_⟩
  obtain ⟨d, hd, po⟩ := atS_ok po
  obtain ⟨x, hx', gx⟩ := st.slot i d hd
  refine ⟨x, hx', ?_⟩
  refine qb F H0 ρ σ H S R _ st (PostE.iff.mpr ((PostS.ofR st po).imp fun v0 ev po => ?_))
  intro y H1 A B s1 d1 v1 f1
  unfold m2 mVar mC at po
  rw [hd] at po
  simp only [Res.bind_ok] at po
  cases ho : gAddI d v0 with
  | none => rw [ho] at po; exact po.elim
  | some z =>
    rw [ho] at po
    unfold gAddI at ho
    split at ho
    · rename_i i1 i2
      cases ho
      refine ⟨i1, i2, dat_int gx, dat_int d1, ?_⟩
      obtain ⟨R', st'⟩ := (st.grow s1).set0 (i := i) hz (dat_of_int (K := X.K) (H := H1) (i := i1 + i2) 0) (fun a z => by simp at z)
      exact po _ H1 S R' st' (Keep.of_same s1) Grow.refl
    · cases ho
end

def wipeR (ρ : Rho) : List Nat → Rho
  | [] => ρ
  | v :: vs => (wipeR ρ vs).set v none
def compL (f : D → Res (Option D)) : List D → Res (List D)
  | [] => .ok []
  | d :: ds => (noX (f d)).bind fun o => (compL f ds).bind fun r => .ok (o.toList ++ r)
def mLc (vs : List Nat) (f : D → Rho → Option Rho) (it : Rho → Res (List D)) (tt : Rho → Res Bool) (me : Rho → Res D) : Rho → Res D := fun ρ => (it ρ).bind fun ds =>
  if ds.length < sizeLine then (compL (fun d => match f d (wipeR ρ vs) with
    | some ρ' => (tt ρ').bind fun k => if k = true then (me ρ').bind fun v => .ok (some v) else .ok none
    | none => .stuck) ds).bind fun l => .ok (.lst l)
  else .stuck
def tYesM : Rho → Res Bool := fun _ => .ok true
theorem compL_append {f : D → Res (Option D)} : ∀ {ds es : List D} {l : List D}, compL f (ds ++ es) = .ok l → ∃ l1 l2, compL f ds = .ok l1 ∧ compL f es = .ok l2 ∧ l = l1 ++ l2
  | [], es, l, h => ⟨[], l, rfl, h, rfl⟩
  | d :: ds, es, l, h => by
    have h : ((noX (f d)).bind fun o => (compL f (ds ++ es)).bind fun r => Res.ok (o.toList ++ r)) = .ok l := h
    cases e1 : f d with
    | ok o =>
      rw [e1] at h
      simp only [noX_ok, Res.bind_ok] at h
      cases e2 : compL f (ds ++ es) with
      | ok r =>
        rw [e2] at h
        cases h
        obtain ⟨l1, l2, h1, h2, rfl⟩ := compL_append e2
        refine ⟨o.toList ++ l1, l2, ?_, h2, by simp⟩
        unfold compL
        rw [e1, h1]
        rfl
      | exn c => rw [e2] at h; cases h
      | stuck => rw [e2] at h; cases h
    | exn c => rw [e1] at h; cases h
    | stuck => rw [e1] at h; cases h
section
variable {K : PySem.W.Frag} {F : Fr} {H0 H : Hp} {Γ : List Nat} {ρ : Rho} {σ : L2.St} {S R : Nat → List Addr}
theorem wipeR_length : ∀ vs : List Nat, (wipeR ρ vs).length = ρ.length
  | [] => rfl
  | v :: vs => by unfold wipeR; rw [List.length_set, wipeR_length vs]
theorem Sto.wipe1 (h : Sto K F H0 Γ ρ σ H S R) (i : Nat) (hi : Γ.getD i 0 = 0) : ∃ R', Sto K F H0 Γ (ρ.set i none) (σ.set i none) H S R' := by
  have hs : S i = [] := by
    by_cases e : ∃ d, ρ[i]? = some (some d)
    · obtain ⟨d', e⟩ := e
      obtain ⟨y, _, g⟩ := h.slot i d' e
      rw [hi] at g
      exact Dat.noS g
    · exact (h.emp i fun d q => e ⟨d, q⟩).1
  have pin : ∀ j v, F.pin j = some v → Γ.getD j 0 = 99 ∧ (σ.set i none)[j]? = some (some v) := fun j v q => by
    obtain ⟨p1, p2⟩ := h.pin j v q
    have hj : i ≠ j := fun z => by subst z; omega
    exact ⟨p1, by rw [List.getElem?_set_ne hj]; exact p2⟩
  refine ⟨fun j => if j = i then [] else R j, ⟨h.same, by simp [h.len], fun j e q => ?_, fun j q => ?_, h.new, h.nd, h.dj, fun j k a ha hk => ?_, fun j a ha => ?_, h.sf, h.fd, pin⟩⟩
  · by_cases hj : j = i
    · subst hj
      by_cases hl : j < ρ.length
      · rw [List.getElem?_set_self hl] at q; cases q
      · rw [List.getElem?_eq_none (by simp; omega)] at q; cases q
    · rw [List.getElem?_set_ne (Ne.symm hj)] at q
      obtain ⟨y, e1, e2⟩ := h.slot j e q
      refine ⟨y, by rw [List.getElem?_set_ne (Ne.symm hj)]; exact e1, ?_⟩
      rw [if_neg hj]
      exact e2
  · by_cases hj : j = i
    · subst hj
      rw [if_pos rfl]
      exact ⟨hs, rfl⟩
    · rw [if_neg hj]
      refine h.emp j fun e q' => q e ?_
      rw [List.getElem?_set_ne (Ne.symm hj)]
      exact q'
  · split at ha
    · simp at ha
    · exact h.rs j k a ha hk
  · split at ha
    · simp at ha
    · exact h.rf j a ha
theorem Sto.wipe : ∀ (vs : List Nat), (∀ v ∈ vs, Γ.getD v 0 = 0) → Sto K F H0 Γ ρ σ H S R → ∃ R', Sto K F H0 Γ (wipeR ρ vs) (L2.wipe σ vs) H S R'
  | [], _, h => ⟨R, h⟩
  | v :: vs, hv, h => by
    obtain ⟨R1, h1⟩ := Sto.wipe vs (fun u hu => hv u (List.mem_cons_of_mem _ hu)) h
    exact h1.wipe1 v (hv v List.mem_cons_self)
end
def RGw (X : Cx) (Γ : List Nat) (vs : List Nat) (tg : Expr) (f : D → Rho → Option Rho) : Prop :=
  ∃ g, PG X tg g ∧ ∀ F H0 ρ σ H S R d x B ρ' (Q : L2.St → Hp → Prop), Sto X.K F H0 Γ ρ σ H S R → Dat X.K H d 0 x [] B → (∀ a ∈ B, ¬ Av F S a) → f d ρ = some ρ' → (∀ σ' R', Sto X.K F H0 Γ ρ' σ' H S R' → L2.wipe σ' vs = L2.wipe σ vs → Q σ' H) → g x σ H Q
theorem wipe_key {i : Nat} {v : Option V} : ∀ (vs : List Nat) (τ : L2.St), (L2.wipe (τ.set i v) vs).set i none = (L2.wipe τ vs).set i none := by
  intro vs
  induction vs with
  | nil => intro τ; unfold L2.wipe; rw [List.set_set]
  | cons w vs ih =>
    intro τ
    unfold L2.wipe
    by_cases ew : w = i
    · subst ew; rw [ih]
    · rw [List.set_comm _ _ ew, ih, List.set_comm _ _ ew]
theorem wipe_idem (σ : L2.St) : ∀ vs : List Nat, L2.wipe (L2.wipe σ vs) vs = L2.wipe σ vs
  | [] => rfl
  | v :: vs => by
    show (L2.wipe ((L2.wipe σ vs).set v none) vs).set v none = (L2.wipe σ vs).set v none
    rw [wipe_key, wipe_idem σ vs]
theorem wipe_set {σ : L2.St} {i : Nat} {v : Option V} : ∀ {vs : List Nat}, i ∈ vs → L2.wipe (σ.set i v) vs = L2.wipe σ vs
  | [], h => by simp at h
  | u :: vs, h => by
    unfold L2.wipe
    by_cases e : i = u
    · subst e
      exact wipe_key vs σ
    · rw [wipe_set ((List.mem_cons.mp h).resolve_left e)]
section
variable {X : Cx} {Γ : List Nat} {pos : Pos} {vs : List Nat}
theorem rgw_n {i : Nat} {x : Str} (hN : X.N.Nodup) (hx : Loc X.env.scope x) (hi : X.N[i]? = some x := by rfl) (hz : Γ.getD i 0 = 0 := by rfl) (hv : i ∈ vs := by decide)
    (hf : X.fn x = true ∨ X.env.scope.names.lookup x = some .local := by first | exact .inl rfl | exact .inr rfl | assumption) : RGw X Γ vs (.Name x pos) (tgN i) := by
  refine ⟨_, pg_name hN hi hx hf, fun F H0 ρ σ H S R d x B ρ' Q st hd hb e q => ?_⟩
  cases e
  obtain ⟨R', st'⟩ := st.set0 hz hd hb
  exact q _ R' st' (wipe_set hv)
def RGws (X : Cx) (Γ : List Nat) (vs : List Nat) (ts : List Expr) (is : List Nat) : Prop :=
  ∃ g, PGs X ts g ∧ ∀ F H0 ρ σ H S R ds xs B ρ' (Q : L2.St → Hp → Prop), Sto X.K F H0 Γ ρ σ H S R → Dats X.K H ds 0 xs [] B → (∀ a ∈ B, ¬ Av F S a) → tgNs is ds ρ = some ρ' → (∀ σ' R', Sto X.K F H0 Γ ρ' σ' H S R' → L2.wipe σ' vs = L2.wipe σ vs → Q σ' H) → g xs σ H Q
theorem rgws_nil : RGws X Γ vs [] [] := by
  refine ⟨_, pgs_nil, fun F H0 ρ σ H S R ds xs B ρ' Q st hd hb e q => ?_⟩
  cases ds with
  | nil =>
    simp only [Dats] at hd
    cases e
    exact ⟨hd.1, q σ R st rfl⟩
  | cons d r => cases e
theorem rgws_cons {e : Expr} {es : List Expr} {i : Nat} {is : List Nat} (h1 : RGw X Γ vs e (tgN i)) (h2 : RGws X Γ vs es is) (hs : (assignEach (e :: es) X.env).map (·.2) = assign e X.env :: (assignEach es X.env).map (·.2) := by rfl) : RGws X Γ vs (e :: es) (i :: is) := by
  obtain ⟨g1, p1, q1⟩ := h1
  obtain ⟨g2, p2, q2⟩ := h2
  refine ⟨_, pgs_cons p1 p2 hs, fun F H0 ρ σ H S R ds xs B ρ' Q st hd hb e q => ?_⟩
  cases ds with
  | nil => cases e
  | cons d r =>
    unfold Dats at hd
    obtain ⟨x, xs', S1, S2, R1, R2, rfl, e0, rfl, d1, d2⟩ := hd
    obtain ⟨rfl, rfl⟩ := List.append_eq_nil_iff.mp e0.symm
    refine ⟨x, xs', rfl, q1 F H0 ρ σ H S R d x R1 _ _ st d1 (fun a ha => hb a (List.mem_append_left _ ha)) rfl fun σ1 R' st1 w1 => ?_⟩
    exact q2 F H0 _ σ1 H S R' r xs' R2 ρ' Q st1 d2 (fun a ha => hb a (List.mem_append_right _ ha)) e fun σ2 R2 st2 w2 => q σ2 R2 st2 (w2.trans w1)
theorem rgw_t {es : List Expr} {k : Nat} {is : List Nat} {n : Nat} (hc : X.calm = true) (h : RGws X Γ vs es is) (hl : is.length = n := by rfl) (hn : (assignEach es X.env).length = n := by rfl) (hst : (assignEach es X.env).findIdx? (·.1) = none := by rfl) : RGw X Γ vs (.Tuple es k pos) (tgT is) := by
  obtain ⟨g, p, q⟩ := h
  refine ⟨_, pg_tup hc p hn hst, fun F H0 ρ σ H S R d x B ρ' Q st hd hb e qq => ?_⟩
  cases d with
  | tup ds =>
    obtain ⟨a, xs, rfl, hq, dd⟩ := dat_tup0 hd
    have len : ∀ (is : List Nat) (ds : List D) (ρ ρ' : Rho), tgNs is ds ρ = some ρ' → ds.length = is.length := by
      intro is
      induction is with
      | nil => intro ds ρ ρ' e; cases ds with
        | nil => rfl
        | cons d r => cases e
      | cons i is ih => intro ds ρ ρ' e; cases ds with
        | nil => cases e
        | cons d r => simp [ih r _ ρ' e]
    exact ⟨a, xs, rfl, .of hq, by rw [dd.length, len is ds ρ ρ' e, hl], q F H0 ρ σ H S R ds xs B ρ' Q st dd hb e qq⟩
  | _ => cases e
end
abbrev W0 : WX := fun _ _ _ _ => False
def RTs (X : Cx) (W : WX) (Γ : List Nat) (es : List Expr) (m : Rho → Res Bool) : Prop :=
  ∃ t, PTs X es t ∧ ∀ F H0 ρ σ H S R Q, Sto X.K F H0 Γ ρ σ H S R → PostT X W σ H Q (m ρ) → t σ H Q
theorem rts_nil {X : Cx} {W : WX} {Γ : List Nat} : RTs X W Γ [] tYesM := ⟨_, pts_nil, fun F H0 ρ σ H S R Q st po => po H (Same.refl H)⟩
theorem rts_one {X : Cx} {W : WX} {Γ : List Nat} {c : Expr} {m : Rho → Res Bool} (h : RT X W Γ c m) : RTs X W Γ [c] m := by
  obtain ⟨t, p, q⟩ := h
  exact ⟨_, pts_one p, q⟩
section
variable {X : Cx} {W : WX} {Γ : List Nat} {n nr : Nat} {elt tg iter : Expr} {ifs : List Expr} {scope : Scope} {own : List (Str × Nat)} {pos : Pos} {f : D → Rho → Option Rho} {mi : Rho → Res (List D)} {tt : Rho → Res Bool} {me : Rho → Res D}
theorem lc_parts (hg : ∀ (s : Shared) (H : Hp) (C : Addr) (cl : List (Str × Addr)) (fp : List Addr), RGw (X.blk s H scope (compEnvC scope cl C X.env) fp) Γ (own.map (·.2)) tg f)
    (ht : ∀ (s : Shared) (H : Hp) (C : Addr) (cl : List (Str × Addr)) (fp : List Addr), RTs (X.blk s H scope (compEnvC scope cl C X.env) fp) W0 Γ ifs tt)
    (he : ∀ (s : Shared) (H : Hp) (C : Addr) (cl : List (Str × Addr)) (fp : List Addr), RE (X.blk s H scope (compEnvC scope cl C X.env) fp) W0 Γ n true elt me) :
    ∃ (g : TG) (t : TT) (te : TE), (∀ (s : Shared) (H : Hp) (C : Addr) (cl : List (Str × Addr)) (fp : List Addr), PG (X.blk s H scope (compEnvC scope cl C X.env) fp) tg g) ∧ (∀ (s : Shared) (H : Hp) (C : Addr) (cl : List (Str × Addr)) (fp : List Addr), PTs (X.blk s H scope (compEnvC scope cl C X.env) fp) ifs t) ∧
      (∀ (s : Shared) (H : Hp) (C : Addr) (cl : List (Str × Addr)) (fp : List Addr), PE (X.blk s H scope (compEnvC scope cl C X.env) fp) elt te) ∧
      (∀ F H0 ρ σ H S R d x B ρ' (Q : L2.St → Hp → Prop), Sto X.K F H0 Γ ρ σ H S R → Dat X.K H d 0 x [] B → (∀ a ∈ B, ¬ Av F S a) → f d ρ = some ρ' → (∀ σ' R', Sto X.K F H0 Γ ρ' σ' H S R' → L2.wipe σ' (own.map (·.2)) = L2.wipe σ (own.map (·.2)) → Q σ' H) → g x σ H Q) ∧
      (∀ F H0 ρ σ H S R Q b, Sto X.K F H0 Γ ρ σ H S R → tt ρ = .ok b → (∀ H', Same H H' → Q b H') → t σ H Q) ∧
      (∀ F H0 ρ σ H S R Q d, Sto X.K F H0 Γ ρ σ H S R → me ρ = .ok d → PostV X.K (Av F S) n true H Q d → te σ H Q) := by
  refine ⟨fun x σ H Q => ∀ s H' C cl fp, Classical.choose (hg s H' C cl fp) x σ H Q, fun σ H Q => ∀ s H' C cl fp, Classical.choose (ht s H' C cl fp) σ H Q, fun σ H Q => ∀ s H' C cl fp, Classical.choose (he s H' C cl fp) σ H Q,
    fun s H C cl fp => ⟨fun pins s1 σ H1 v u Q I r h => (Classical.choose_spec (hg s H C cl fp)).1.run pins s1 σ H1 v u Q I r (h s H C cl fp)⟩, fun s H C cl fp => ⟨fun pins s1 σ H1 Q I h => (Classical.choose_spec (ht s H C cl fp)).1.run pins s1 σ H1 Q I (h s H C cl fp)⟩,
    fun s H C cl fp => ⟨fun pins s1 σ H1 Q I h => (Classical.choose_spec (he s H C cl fp)).1.run pins s1 σ H1 Q I (h s H C cl fp)⟩,
    fun F H0 ρ σ H S R d x B ρ' Q st hd hb e q s H' C cl fp => (Classical.choose_spec (hg s H' C cl fp)).2 F H0 ρ σ H S R d x B ρ' Q st hd hb e q,
    fun F H0 ρ σ H S R Q b st e q s H' C cl fp => (Classical.choose_spec (ht s H' C cl fp)).2 F H0 ρ σ H S R Q st (by rw [e]; exact q),
    fun F H0 ρ σ H S R Q d st e q s H' C cl fp => (Classical.choose_spec (he s H' C cl fp)).2 F H0 ρ σ H S R Q st (by rw [e]; exact q)⟩
theorem lc_run {wi : TI} {g : TG} {t : TT} {te : TE} {vs : List Nat} {F : Fr} {H0 H : Hp} {ρ : Rho} {σ : L2.St} {S R : Nat → List Addr} {Q : VK} (hv : ∀ v ∈ vs, Γ.getD v 0 = 0)
    (qi : ∀ F H0 ρ σ H S R (Rk : It → Hp → Prop), Sto X.K F H0 Γ ρ σ H S R → PostX X W σ H (fun ds => ∀ J H' B, Same H H' → (∀ a ∈ B, ¬ Av F S a) → (∀ a ∈ B, H' a ≠ none) → Iter X.K J H' B ds → Rk J H') (mi ρ) → wi σ H Rk)
    (qg : ∀ F H0 ρ σ H S R d x B ρ' (Q : L2.St → Hp → Prop), Sto X.K F H0 Γ ρ σ H S R → Dat X.K H d 0 x [] B → (∀ a ∈ B, ¬ Av F S a) → f d ρ = some ρ' → (∀ σ' R', Sto X.K F H0 Γ ρ' σ' H S R' → L2.wipe σ' vs = L2.wipe σ vs → Q σ' H) → g x σ H Q)
    (qt : ∀ F H0 ρ σ H S R Q b, Sto X.K F H0 Γ ρ σ H S R → tt ρ = .ok b → (∀ H', Same H H' → Q b H') → t σ H Q)
    (qe : ∀ F H0 ρ σ H S R Q d, Sto X.K F H0 Γ ρ σ H S R → me ρ = .ok d → PostV X.K (Av F S) n true H Q d → te σ H Q)
    (st : Sto X.K F H0 Γ ρ σ H S R) (po : PostE X W (Av F S) (n + 1) true σ H Q (mLc vs f mi tt me ρ)) : tLc wi g t te vs σ H Q := by
  unfold mLc at po
  refine qi F H0 ρ σ H S R _ st ((PostE.iff.mp po).bind.imp fun ds eds po => ?_)
  intro J H1 B s1 v1 dm it1 L hL
  have st1 := st.grow s1
  by_cases hlen : ds.length < sizeLine
  · rw [if_pos hlen] at po
    generalize hfun : (fun d => match f d (wipeR ρ vs) with
      | some ρ' => (tt ρ').bind fun k => if k = true then (me ρ').bind fun v => Res.ok (some v) else Res.ok none
      | none => Res.stuck) = fn at po
    cases ec : compL fn ds with
    | stuck => rw [ec] at po; exact po.elim
    | exn c =>
      exfalso
      clear po
      have nx : ∀ (l : List D), compL fn l ≠ .exn c := by
        intro l
        induction l with
        | nil => intro z; cases z
        | cons d l ih =>
          intro z
          unfold compL at z
          cases e1 : fn d with
          | ok o =>
            rw [e1] at z
            simp only [noX_ok, Res.bind_ok] at z
            cases e2 : compL fn l with
            | ok r => rw [e2] at z; cases z
            | exn c' => rw [e2] at z; cases z; exact ih e2
            | stuck => rw [e2] at z; cases z
          | exn c' => rw [e1] at z; cases z
          | stuck => rw [e1] at z; cases z
      exact nx ds ec
    | ok res =>
      rw [ec] at po
      have po : PostV X.K (Av F S) (n + 1) true H Q (.lst res) := po
      refine ⟨fun i m H' => ∃ l1 xs A1 B1, compL fn (ds.take i) = .ok l1 ∧ H' L = some (.lst xs) ∧ Dats X.K H' l1 n xs A1 B1 ∧ (∀ a ∈ B1, ¬ Av F S a) ∧ A1.Nodup ∧ (∀ a ∈ A1, H1 a = none ∧ a ≠ L ∧ a ∉ B1) ∧ L ∉ B1 ∧ Same H1 H' ∧ xs.length ≤ i ∧ m = ds.length - i ∧ i ≤ ds.length,
        ⟨ds.length, [], [], [], [], rfl, upd_same, .nil, fun a z => by simp at z, List.nodup_nil, fun a z => by simp at z, by simp, same_new hL, Nat.le_refl _, by omega, Nat.zero_le _⟩, ?_⟩
      rintro i m H' ⟨l1, xs, A1, B1, el1, hLl, dl, vB, ndA, nA, nDB, sm, hxs, rfl, hi⟩
      have stay : Stay H1 H' [] B := Stay.of_same sm _ _
      by_cases hlt : i < ds.length
      · have ed : ds[i]? = some ds[i] := List.getElem?_eq_getElem hlt
        obtain ⟨go, yld⟩ := (it1 H' stay i).2 _ ed
        -- the mirror at this item
        have etake : ds.take (i + 1) = ds.take i ++ [ds[i]] := by rw [List.take_add_one, ed]; rfl
        have erest : ds = ds.take (i + 1) ++ ds.drop (i + 1) := (List.take_append_drop _ _).symm
        obtain ⟨r1, r2, hr1, hr2, er⟩ := compL_append (by rw [← erest]; exact ec : compL fn (ds.take (i + 1) ++ ds.drop (i + 1)) = .ok res)
        rw [etake] at hr1
        obtain ⟨q1, q2, hq1, hq2, eq⟩ := compL_append hr1
        rw [el1] at hq1
        cases hq1
        refine .inr ⟨go, fun H2 => ∃ l1 xs A1 B1, compL fn (ds.take (i + 1)) = .ok l1 ∧ H2 L = some (.lst xs) ∧ Dats X.K H2 l1 n xs A1 B1 ∧ (∀ a ∈ B1, ¬ Av F S a) ∧ A1.Nodup ∧ (∀ a ∈ A1, H1 a = none ∧ a ≠ L ∧ a ∉ B1) ∧ L ∉ B1 ∧ Same H1 H2 ∧ xs.length ≤ i + 1 ∧ i + 1 ≤ ds.length,
          fun H2 ⟨a1, a2, a3, a4, h1, h2, h3, h4, h5, h6, h7, h8, h9, h10⟩ => ⟨ds.length - (i + 1), by omega, a1, a2, a3, a4, h1, h2, h3, h4, h5, h6, h7, h8, h9, rfl, h10⟩, fun x H3 hy => ?_⟩
        obtain ⟨s3, B', d3, sub⟩ := yld x H3 hy
        -- the store within: what is made so far is not to be reached
        have sm3 : Same H1 H3 := sm.trans s3
        have new1 : ∀ a ∈ L :: A1, H1 a = none := fun a ha => by
          rcases List.mem_cons.mp ha with rfl | ha
          · exact hL
          · exact (nA a ha).1
        have dom3 : ∀ a ∈ L :: A1, H3 a ≠ none := fun a ha => by
          have : H' a ≠ none := by
            rcases List.mem_cons.mp ha with rfl | ha
            · rw [hLl]; simp
            · exact Dats.dom dl a ha
          cases q : H' a with
          | none => exact absurd q this
          | some o => rw [s3 a o q]; simp
        have stF : Sto X.K (F.plus (L :: A1)) H0 Γ ρ σ H3 S R :=
          (st1.grow sm3).more dom3 (fun a ha j hj => st1.domS j a hj (new1 a ha)) fun a ha j hj => st1.domR j a hj (new1 a ha)
        obtain ⟨Rw, stw⟩ := Sto.wipe vs hv stF
        have vB' : ∀ a ∈ B', ¬ Av (F.plus (L :: A1)) S a := fun a ha z => by
          rcases z with (z | z) | z
          · exact v1 a (sub a ha) (.inl z)
          · exact dm a (sub a ha) (new1 a z)
          · exact v1 a (sub a ha) (.inr z)
        -- the mirror's turn
        have hfd : ∃ o, fn ds[i] = .ok o ∧ q2 = o.toList := by
          unfold compL at hq2
          cases e1 : fn ds[i] with
          | ok o =>
            rw [e1] at hq2
            cases hq2
            exact ⟨o, rfl, by simp⟩
          | exn c => rw [e1] at hq2; cases hq2
          | stuck => rw [e1] at hq2; cases hq2
        obtain ⟨o, efn, eq2⟩ := hfd
        rw [← hfun] at efn
        dsimp only at efn
        cases ef : f ds[i] (wipeR ρ vs) with
        | none => rw [ef] at efn; cases efn
        | some ρ' =>
          rw [ef] at efn
          dsimp only at efn
          refine qg _ H0 _ _ H3 S Rw ds[i] x B' ρ' _ stw d3 vB' ef fun σ4 R4 st4 w4 => ?_
          refine ⟨w4.trans (wipe_idem σ vs), ?_⟩
          cases et : tt ρ' with
          | stuck => rw [et] at efn; cases efn
          | exn c => rw [et] at efn; cases efn
          | ok k =>
            rw [et] at efn
            simp only [Res.bind_ok] at efn
            refine qt _ H0 ρ' σ4 H3 S R4 _ k st4 et fun H4 s4 => ?_
            cases k with
            | false =>
              rw [if_neg Bool.false_ne_true] at efn
              cases efn
              refine iteF ⟨l1, xs, A1, B1, ?_, s4 _ _ (s3 _ _ hLl), (dl.same s3).same s4, vB, ndA, nA, nDB, sm3.trans s4, by omega, hlt⟩
              rw [etake, hr1, eq, eq2]
              simp
            | true =>
              rw [if_pos rfl] at efn
              cases em : me ρ' with
              | stuck => rw [em] at efn; cases efn
              | exn c => rw [em] at efn; cases efn
              | ok v =>
                rw [em] at efn
                cases efn
                refine iteT (qe _ H0 ρ' σ4 H4 S R4 _ v (st4.grow s4) em ?_)
                intro y H5 A2 B2 s5 d5 v5 f5
                obtain ⟨nd2, nw2⟩ := f5 rfl
                have s35 : Same H3 H5 := s4.trans s5
                have hL5 : H5 L = some (.lst xs) := s35 _ _ (s3 _ _ hLl)
                have dom4 : ∀ a, H3 a ≠ none → H4 a ≠ none := fun a h z => h (s4.free z)
                have LA2 : L ∉ A2 := fun z => dom4 L (dom3 L List.mem_cons_self) (nw2 L z).1
                have LB2 : L ∉ B2 := fun z => v5 L z (.inl (.inr List.mem_cons_self))
                have LA1 : L ∉ A1 := fun z => (nA L z).2.1 rfl
                refine ⟨xs, hL5, by omega, l1 ++ [v], xs ++ [y], A1 ++ A2, B1 ++ B2, ?_, upd_same, ?_, fun a ha => ?_, ?_, fun a ha => ?_, fun z => ?_, fun b u q => ?_, by simp; omega, hlt⟩
                · rw [etake, hr1, eq, eq2]; rfl
                · exact Dats.append (Dats.stay _ _ _ _ _ (sub_stay (K := X.K) hL5 trivial LA1 nDB) (((dl.same s3).same s4).same s5)) (Dats.one (Dat.stay _ _ _ _ _ (sub_stay (K := X.K) hL5 trivial LA2 LB2) d5))
                · rcases List.mem_append.mp ha with ha | ha
                  · exact vB a ha
                  · exact fun z => v5 a ha (z.imp .inl id)
                · refine List.nodup_append.mpr ⟨ndA, nd2, fun b hb b' hb' e => ?_⟩
                  subst e
                  exact dom4 b (dom3 b (List.mem_cons_of_mem _ hb)) (nw2 b hb').1
                · rcases List.mem_append.mp ha with ha | ha
                  · refine ⟨(nA a ha).1, (nA a ha).2.1, fun z => ?_⟩
                    rcases List.mem_append.mp z with z | z
                    · exact (nA a ha).2.2 z
                    · exact v5 a z (.inl (.inr (List.mem_cons_of_mem _ ha)))
                  · refine ⟨sm3.free (s4.free (nw2 a ha).1), fun z => LA2 (z ▸ ha), fun z => ?_⟩
                    rcases List.mem_append.mp z with z | z
                    · exact Dats.domR ((dl.same s3).same s4) a z (nw2 a ha).1
                    · exact (nw2 a ha).2 z
                · rcases List.mem_append.mp z with z | z
                  · exact nDB z
                  · exact LB2 z
                · rw [upd_ne (fun z => by subst z; rw [hL] at q; cases q)]
                  exact s35 _ _ (sm3 _ _ q)
      · have e : i = ds.length := by omega
        subst e
        refine .inl ⟨(it1 H' stay _).1 (Nat.le_refl _), ?_⟩
        rw [List.take_length, ec] at el1
        cases el1
        refine po (.ref L) H' (L :: A1) B1 (s1.trans sm) ?_ vB fun _ => ⟨List.nodup_cons.mpr ⟨fun z => (nA L z).2.1 rfl, ndA⟩, fun a ha => ?_⟩
        · unfold Dat
          exact ⟨L, xs, A1, rfl, hLl, rfl, dl⟩
        · rcases List.mem_cons.mp ha with rfl | ha
          · exact ⟨s1.free hL, nDB⟩
          · exact ⟨s1.free (nA a ha).1, (nA a ha).2.2⟩
  · rw [if_neg hlen] at po
    exact po.elim

theorem re_lc (hc : X.calm = true) (hN : X.N.Nodup) (hi : RI X W Γ tg iter mi) (ok : BlkOk X.N X.env.scope scope own) (hg : ∀ (s : Shared) (H : Hp) (C : Addr) (cl : List (Str × Addr)) (fp : List Addr), RGw (X.blk s H scope (compEnvC scope cl C X.env) fp) Γ (own.map (·.2)) tg f)
    (ht : ∀ (s : Shared) (H : Hp) (C : Addr) (cl : List (Str × Addr)) (fp : List Addr), RTs (X.blk s H scope (compEnvC scope cl C X.env) fp) W0 Γ ifs tt)
    (he : ∀ (s : Shared) (H : Hp) (C : Addr) (cl : List (Str × Addr)) (fp : List Addr), RE (X.blk s H scope (compEnvC scope cl C X.env) fp) W0 Γ n true elt me) (hv : ∀ v ∈ own.map (·.2), Γ.getD v 0 = 0 := by decide)
    (hs : ∀ x, foldedSetIterable iter X.env x = pure x := by intro _; rfl) : RE X W Γ (n + 1) true (.ListComp elt [⟨tg, iter, ifs, 0⟩] scope pos) (mLc (own.map (·.2)) f mi tt me) := by
  obtain ⟨wi, pi, qi⟩ := hi
  obtain ⟨g, t, te, pg, pt, pe, qg, qt, qe⟩ := lc_parts hg ht he
  exact ⟨_, pe_lc hc hN pi ok pg pt pe hs, fun F H0 ρ σ H S R Q st po => lc_run hv qi qg qt qe st po⟩
theorem rs_setLc {k : Nat} {i : Nat} {y : Str} {py spos : Pos} (hc : X.calm = true) (hN : X.N.Nodup) (hyl : X.env.scope.names.lookup y = some .local) (hsw : swapsWith (.ListComp elt [⟨tg, iter, ifs, 0⟩] scope pos) (some (.Name y py)) spos.line X.env = pure true)
    (hi : RI X W Γ tg iter mi) (ok : BlkOk X.N X.env.scope scope own) (hg : ∀ (s : Shared) (H : Hp) (C : Addr) (cl : List (Str × Addr)) (fp : List Addr), RGw (X.blk s H scope (compEnvC scope cl C X.env) fp) Γ (own.map (·.2)) tg f)
    (ht : ∀ (s : Shared) (H : Hp) (C : Addr) (cl : List (Str × Addr)) (fp : List Addr), RTs (X.blk s H scope (compEnvC scope cl C X.env) fp) W0 Γ ifs tt)
    (he : ∀ (s : Shared) (H : Hp) (C : Addr) (cl : List (Str × Addr)) (fp : List Addr), RE (X.blk s H scope (compEnvC scope cl C X.env) fp) W0 Γ n true elt me) (hv : ∀ v ∈ own.map (·.2), Γ.getD v 0 = 0 := by decide) (hy : X.N[i]? = some y := by rfl) (hl : i < Γ.length := by decide) (hk : k ≤ n + 1 := by decide)
    (hs : ∀ x, foldedSetIterable iter X.env x = pure x := by intro _; rfl) {Γ1 : List Nat} (hp : Γ.getD i 0 ≠ 99 := by decide) (hΓ : Γ.set i k = Γ1 := by rfl) : RS X W nr Γ Γ1 (.Assign [.Name y py] (.ListComp elt [⟨tg, iter, ifs, 0⟩] scope pos) spos) (sSet i (mLc (own.map (·.2)) f mi tt me)) := by
  subst hΓ
  obtain ⟨wi, pi, qi⟩ := hi
  obtain ⟨g, t, te, pg, pt, pe, qg, qt, qe⟩ := lc_parts hg ht he
  refine ⟨_, ps_setLc hc hN hy hyl hsw pi ok pg pt pe hs, fun F H0 ρ σ H S R E st po => ?_⟩
  refine lc_run (n := n) (Q := fun x H1 => gName i x σ H1 E.nx) hv qi qg qt qe st (PostE.iff.mpr ((PostS.ofR (f := fun d => .nx (ρ.set i (some d))) st po).imp fun d _ po => ?_))
  intro v H1 A0 B0 s1 d1' v1' f1'
  have st1 := st.grow s1
  obtain ⟨A, B, d1, snd, sub, hb, ap⟩ := Dat.weakS hk d1'
  obtain ⟨nd0, nw0⟩ := f1' rfl
  have v1 : ∀ a ∈ B, ¬ Av F S a := fun a ha => (hb a ha).elim (fun z w => st.avd a w (nw0 a z).1) (v1' a)
  have nw : ∀ a ∈ A, H a = none ∧ a ∉ B := fun a ha => ⟨(nw0 a (sub a ha)).1, ap nd0 (fun a ha => (nw0 a ha).2) a ha⟩
  obtain ⟨S', R', st2, gr⟩ := st1.set (i := i) (n := k) (.inl hl) d1 v1 (snd nd0) (fun a ha => st.same.free (nw a ha).1) (fun a ha z => st.fd a z (nw a ha).1) (fun a ha j hj => st.domS j a hj (nw a ha).1) (fun a ha j hj => st.domR j a hj (nw a ha).1) (fun a ha hb => (nw a ha).2 hb) hp
  exact po _ H1 S' R' st2 (Keep.of_same s1) fun j a ha => (gr j a ha).imp (fun z => ⟨j, z⟩) fun z => (nw a z).1
end
def callM (N : Nat) (b : Rho → Out) (ds : List D) : Res D := match b (ds.map some ++ List.replicate (N - ds.length) none) with
  | .rt d => .ok d
  | .nx _ => .ok .non
  | .ex c _ => .exn c
  | .stuck => .stuck
theorem Dats.slot {K : PySem.W.Frag} {H : Hp} {ds : List D} {xs : List V} {R : List Addr} (h : Dats K H ds 0 xs [] R) : ∀ (i : Nat) (d : D), ds[i]? = some d → ∃ x R', xs[i]? = some x ∧ Dat K H d 0 x [] R' ∧ ∀ a ∈ R', a ∈ R := fun i d e => by
  obtain ⟨x, S', R', e1, g, _, r⟩ := h.get e
  obtain rfl : S' = [] := Dat.noS g
  exact ⟨x, R', e1, g, r⟩
theorem mk_ok {P : Program} {w : World} {K : PySem.W.Frag} {mg : Str → Option Value} {base : Heap} {x qual : Str} {st : Stmt} {f : Addr} {fd : FuncData} {N ps : List Str} {k n ar : Nat} {m : Rho → Out} {Γ Γ' : List Nat}
    (F : Fun K x qual st f fd) (Sc : FnScope N ps (defScope st)) (har : ps.length = ar) (hz : ∀ v ∈ Γ, v = 0)
    (body : ∀ (cdv : Value) (A : Around) (outer : List Env) (s : Shared) (H : Hp) (E : XK), Room k (A.deeper (envOfC qual (defScope st) s.heap.objs.size f cdv)) →
      RSs (cxOf (L2.CX P w) P w K mg base N qual (defScope st) f cdv A outer s H E) (fun cls d _ H => E cls d H) n Γ Γ' (defBody st) m) :
    FnOk P w K mg base (L2.CX P w) (k + 1) f fd ps (spM K mg n ar (callM N.length m)) := by
  refine F.okX Sc (fun vs H Q E h => by rw [h.1, har]) (fun cdv A outer s H vs Q E hr h => ?_)
  obtain ⟨t, p, q⟩ := body cdv A outer s H E hr
  refine ⟨t, p, ?_⟩
  obtain ⟨hl, ds, Fb, R, hF, hd, hR, po⟩ := h
  have hps : ps.length ≤ N.length := by have := congrArg List.length Sc.pre; rw [List.length_take] at this; omega
  have hds : ds.length = ar := by rw [← hd.length]; exact hl
  have gz : ∀ i, Γ.getD i 0 = 0 := fun i => by
    rw [List.getD_eq_getElem?_getD]
    cases e : Γ[i]? with
    | none => rfl
    | some v => exact hz v (List.mem_of_getElem? e)
  have slotq : ∀ i : Nat, ∃ R1 : List Addr, (∀ d, ds[i]? = some d → ∃ x, vs[i]? = some x ∧ Dat K H d 0 x [] R1) ∧ (∀ a ∈ R1, a ∈ R) ∧ (ds[i]? = none → R1 = []) := fun i => by
    cases e : ds[i]? with
    | none => exact ⟨[], ⟨(fun d z => nomatch z), (fun a z => nomatch z), (fun _ => rfl)⟩⟩
    | some d =>
      obtain ⟨x, R', e1, g, r⟩ := hd.slot i d e
      exact ⟨R', ⟨fun d' z => by cases z; exact ⟨x, e1, g⟩, r, fun z => by cases z⟩⟩
  have ρget : ∀ i d, (ds.map some ++ List.replicate (N.length - ds.length) none : Rho)[i]? = some (some d) → ds[i]? = some d := fun i d e => by
    by_cases hi : i < ds.length
    · rw [List.getElem?_append_left (by simpa using hi), List.getElem?_map] at e
      cases e2 : ds[i]? with
      | none => rw [e2] at e; cases e
      | some d' => rw [e2] at e; cases e; rfl
    · rw [List.getElem?_append_right (by simpa using hi), List.getElem?_replicate] at e
      split at e <;> cases e
  have st0 : Sto K ⟨Fb, fun _ => none⟩ H Γ (ds.map some ++ List.replicate (N.length - ds.length) none) (L2.start N vs) H (fun _ => []) (fun i => Classical.choose (slotq i)) := by
    refine ⟨Same.refl H, ?_, fun i d e => ?_, fun i z => ⟨rfl, (Classical.choose_spec (slotq i)).2.2 ?_⟩, fun i a z => by simp at z, fun i => List.nodup_nil, fun i j _ a z => by simp at z, fun i j a _ z => by simp at z, fun i a ha => ?_, fun i a z => by simp at z, hF, fun i v q => nomatch q⟩
    · unfold L2.start
      simp only [List.length_append, List.length_map, List.length_replicate]
      rw [hd.length]
    · have ed := ρget i d e
      obtain ⟨x, ex, g⟩ := (Classical.choose_spec (slotq i)).1 d ed
      have hi : i < vs.length := (List.getElem?_eq_some_iff.mp ex).1
      refine ⟨x, ?_, ?_⟩
      · unfold L2.start
        rw [List.getElem?_append_left (by simpa using hi), List.getElem?_map, ex]
        rfl
      · rw [gz i]
        exact g
    · cases e : ds[i]? with
      | none => rfl
      | some d =>
        have hi : i < ds.length := (List.getElem?_eq_some_iff.mp e).1
        refine absurd ?_ (z d)
        rw [List.getElem?_append_left (by simpa using hi), List.getElem?_map, e]
        rfl
    · exact hR a ((Classical.choose_spec (slotq i)).2.1 a ha)
  refine q ⟨Fb, fun _ => none⟩ H _ (L2.start N vs) H (fun _ => []) _ _ st0 ?_
  unfold callM at po
  cases eb : m (ds.map some ++ List.replicate (N.length - ds.length) none) with
  | nx ρ' =>
    rw [eb] at po
    intro σ' H' S' R' st' kp gr
    have sm : Same H H' := fun a o e => kp a o e fun i z => by simp at z
    exact po .non H' [] [] sm (dat_of_non n) (fun a z => by simp at z) fun _ => New.nil
  | rt d =>
    rw [eb] at po
    exact fun x H' A B s g nw hB => po x H' A B s g hB fun _ => nw
  | ex c ρ' =>
    rw [eb] at po
    intro C σ' H' S' R' hc st' _ _
    exact po C H' hc st'.same
  | stuck => rw [eb] at po; exact po
end TW

-- TWEnd
namespace TW
open PySem PySem.Spec PyProof.Rows L2

theorem Sto.drop {K : PySem.W.Frag} {F : Fr} {H0 H : Hp} {Γ : List Nat} {ρ : Rho} {σ : L2.St} {S R : Nat → List Addr} (h : Sto K F H0 Γ ρ σ H S R) (i : Nat) :
    Sto K F H0 Γ (ρ.set i none) σ H (fun j => if j = i then [] else S j) (fun j => if j = i then [] else R j) := by
  refine ⟨h.same, by simp [h.len], fun j e q => ?_, fun j q => ?_, fun j a ha => ?_, fun j => ?_, fun j k hjk a ha hk => ?_, fun j k a ha hk => ?_, fun j a ha => ?_, fun j a ha => ?_, h.fd, h.pin⟩
  · have hj : j ≠ i := fun z => by
      subst z
      by_cases hl : j < ρ.length
      · rw [List.getElem?_set_self hl] at q; cases q
      · rw [List.getElem?_eq_none (by simp; omega)] at q; cases q
    rw [List.getElem?_set_ne (Ne.symm hj)] at q
    rw [if_neg hj, if_neg hj]
    exact h.slot j e q
  · by_cases hj : j = i
    · rw [if_pos hj, if_pos hj]
      exact ⟨rfl, rfl⟩
    · rw [if_neg hj, if_neg hj]
      refine h.emp j fun e q' => q e ?_
      rw [List.getElem?_set_ne (Ne.symm hj)]
      exact q'
  · split at ha
    · simp at ha
    · exact h.new j a ha
  · split
    · exact List.nodup_nil
    · exact h.nd j
  · split at ha
    · simp at ha
    · split at hk
      · simp at hk
      · exact h.dj j k hjk a ha hk
  · split at ha
    · simp at ha
    · split at hk
      · simp at hk
      · exact h.rs j k a ha hk
  · split at ha
    · simp at ha
    · exact h.rf j a ha
  · split at ha
    · simp at ha
    · exact h.sf j a ha
def sAppMv (i : Nat) (mp : Rho → Res (List D)) (j : Nat) : Rho → Out := atS j (atS i fun ρ => (mp ρ).out ρ fun p => (mVar j ρ).out ρ fun v => mutO i (ρ.set j none) p (nApp v))
section
variable {X : Cx} {W : WX} {Γ : List Nat} {n i j len : Nat} {e o : Expr} {pos pos' : Pos} {mp : Rho → Res (List D)}
theorem rs_appMv (hp : RP X W Γ i len o mp) (hy : PE X e (tVar j)) (hj : Γ.getD j 0 = Γ.getD i 0 - len - 1 := by rfl) (hij : j ≠ i := by decide) (hk : len < Γ.getD i 0 := by decide)
    (hbase : attributeBase o "append" X.env (eval o X.env) = eval o X.env := by rfl)
    (hfew : ((backTo pos (starEach (e :: []) X.env)).all (fun x => !x.1) && (backToKw pos (keywordEach [] X.env)).all (fun x => x.1.isSome)
      && decide ((e :: []).length + ([] : List Keyword).length + (if ([] : List Keyword).isEmpty then 0 else 1) < 30)) = true := by rfl)
    (hline : (pos'.endLine == pos.line) = true := by rfl) (hs : starEach (e :: []) X.env = (false, eval e X.env) :: starEach [] X.env := by rfl) (hplain : (backTo pos (starEach [] X.env)).any (·.1) = false := by rfl)
    {pos2 : Pos} (hw : swapsWith (.Call (.Attribute o "append" pos') [e] [] pos) none pos2.line X.env = pure false := by rfl) :
    RS X W n Γ Γ (.Expr (.Call (.Attribute o "append" pos') [e] [] pos) pos2) (sAppMv i mp j) := by
  obtain ⟨ta, pa, qa⟩ := hp
  refine ⟨_, ps_expr (pe_bm PySem.F.plainAttrs_list PySem.F.slot_list_append PySem.F.type_list_append mt_append pa (pa_cons hy pa_nil hs) hbase hfew hline hs hplain) hw, fun F H0 ρ σ H S R E st po => ?_⟩
  obtain ⟨dj, hdj, po⟩ := atS_ok po
  obtain ⟨d, hd, po⟩ := atS_ok po
  obtain ⟨x, hx, _⟩ := st.slot i d hd
  refine qa F H0 ρ σ H S R _ d x st hd hx ((PostS.ofR st po).imp fun p ep po => ?_)
  unfold mVar at po
  rw [hdj] at po
  obtain ⟨d', c, c', d2, hd', hc, hf, hs', po2⟩ := mutO_ok po
  rw [List.getElem?_set_ne hij] at hd'
  rw [hd] at hd'
  cases hd'
  refine ⟨c, hc, fun v H1 Se Re s1 foc => ?_⟩
  unfold nApp at hf
  split at hf
  · rename_i l
    split at hf
    · rename_i hlen
      cases hf
      obtain ⟨kk, hkk⟩ : ∃ kk, Γ.getD i 0 - len = kk + 1 := ⟨Γ.getD i 0 - len - 1, by omega⟩
      rw [hkk] at foc
      have st1 := st.grow s1
      obtain ⟨a, xs, S', rfl, ha, rfl, dd, haS, haS', haR, ndS', subS, subR⟩ := node_lst st1 foc
      refine ⟨.inl ⟨rfl, _, .of ha⟩, ?_⟩
      obtain ⟨y, hyσ, gy⟩ := st1.slot j dj hdj
      rw [hj, hkk] at gy
      refine ⟨y, hyσ, a, xs, y, rfl, rfl, ha, by rw [dd.length]; exact hlen, ?_⟩
      have stD := st1.drop j
      have haj : a ∉ S j := st1.dj i j (Ne.symm hij) a haS
      have harj : a ∉ R j := fun z => st1.rs j i a z haS
      have hdD : (ρ.set j none)[i]? = some (some d) := by rw [List.getElem?_set_ne hij]; exact hd
      have g : Dat X.K (L2.upd H1 a (.lst (xs ++ [y]))) (.lst (l ++ [dj])) (kk + 1) (.ref a) (a :: (S' ++ S j)) (Re ++ R j) := by
        unfold Dat
        refine ⟨a, _, _, rfl, upd_same, rfl, Dats.append (Dats.stay _ _ _ _ _ (sub_stay (K := X.K) ha trivial haS' haR) dd) (Dats.one (Dat.stay _ _ _ _ _ (sub_stay (K := X.K) ha trivial haj harj) gy))⟩
      have focD : Foc X.K H1 d (Γ.getD i 0) x ((fun k => if k = j then [] else S k) i) ((fun k => if k = j then [] else R k) i) p (.lst l) (kk + 1) (.ref a) (a :: S') Re := by
        dsimp only
        rw [if_neg (Ne.symm hij), if_neg (Ne.symm hij)]
        exact foc
      have c1 : (a :: (S' ++ S j)).Nodup := by
        refine List.nodup_cons.mpr ⟨fun z => ?_, List.nodup_append.mpr ⟨ndS', st1.nd j, fun b hb b' hb' e => ?_⟩⟩
        · rcases List.mem_append.mp z with z | z
          · exact haS' z
          · exact haj z
        · subst e
          exact st1.dj i j (Ne.symm hij) b (subS b hb) hb'
      have c2 : ∀ b ∈ S j, H0 b = none ∧ ¬ F b ∧ (∀ k, b ∉ (fun k => if k = j then [] else S k) k) ∧ ∀ k, b ∉ (fun k => if k = j then [] else R k) k := fun b hb => by
        refine ⟨st1.new j b hb, st1.sf j b hb, fun k z => ?_, fun k z => ?_⟩
        · dsimp only at z
          split at z
          · simp at z
          · rename_i hkj
            exact st1.dj j k (Ne.symm hkj) b hb z
        · dsimp only at z
          split at z
          · simp at z
          · exact st1.rs k j b z hb
      have c3 : ∀ b ∈ R j, ¬ Av F (fun k => if k = j then [] else S k) b ∧ b ∉ S j := fun b hb => by
        refine ⟨fun z => ?_, fun z => st1.rs j j b hb z⟩
        rcases z with z | ⟨k, z⟩
        · exact st1.rf j b hb z
        · dsimp only at z
          split at z
          · simp at z
          · exact st1.rs j k b hb z
      obtain ⟨d3, S'', R'', ed, st3, kp, gr⟩ := stD.node (A := S j) (B := R j) hdD hx focD g c1 (fun b hb => List.mem_append.mp hb) c2 (fun b hb => List.mem_append.mp hb) c3
      rw [hs'] at ed
      cases ed
      refine po2 σ _ S'' R'' st3 (fun b u q hn => ?_) fun k b hb => ?_
      · refine kp b u (s1 b u q) fun k z => ?_
        dsimp only at z
        split at z
        · simp at z
        · exact hn k z
      · rcases gr k b hb with ⟨q, z⟩ | z
        · split at z
          · simp at z
          · exact .inl ⟨q, z⟩
        · exact .inl ⟨j, z⟩
    · cases hf
  · cases hf
end

def spLaw (K : PySem.W.Frag) : Sp := fun vs H Q _ => ∃ (a : Addr) (ns : List Int), vs = [.ref a] ∧ ScrAt K H a (ns.map V.int) ∧ ns.length ≤ 63 ∧ (∀ z ∈ ns, Builtin.Int.intBits z ≤ 1048576) ∧ ∀ H', Q (.bl true) H'
theorem law_sp {K : PySem.W.Frag} {mg : Str → Option Value} {n : Nat} {m : List D → Res D} (h : ∀ ns : List Int, ns.length ≤ 63 → (∀ z ∈ ns, Builtin.Int.intBits z ≤ 1048576) → m [.scr ns] = .ok (.bl true)) (vs : List V) (H : Hp) (Q : VK) (E : XK) (q : spLaw K vs H Q E) : spM K mg n 1 m vs H Q E := by
  obtain ⟨a, ns, rfl, hs, hl, hb, q⟩ := q
  refine ⟨rfl, [.scr ns], fun _ => False, [], fun _ z => z.elim, ?_, (fun a z => nomatch z), ?_⟩
  · refine Dats.one ?_
    unfold Dat
    exact ⟨⟨a, rfl, hs⟩, rfl, rfl⟩
  · rw [h ns hl hb]
    intro x H' A B s g v f
    rw [dat_bl g]
    exact q H'
theorem scr_of {K : PySem.W.Frag} {H : Hp} {a : Addr} {ns : List Int} (h : Only H) (q : SqL K H a (ns.map V.int)) : ScrAt K H a (ns.map V.int) := by
  rcases q with (q | q) | q
  · rcases h a with z | ⟨o, xs, z⟩
    · rw [q] at z; cases z
    · rw [q] at z; cases z
  · exact .inl q
  · exact .inr q
theorem no_cx {P : Program} {w : World} {H : Hp} {s : Shared} {e : Value} {s' : Shared} (h : L2.CX P w [] H s (fun _ _ _ => False) e s') : False := by
  obtain ⟨_, _, _, _, _, _, _, _, _, _, _, _, z⟩ := h
  exact z
end TW

-- TWMore
namespace TW
open PySem PySem.Spec PyProof.Rows L2
def gNeg : D → Option D
  | .int i => some (.int (-i))
  | _ => none
section
variable {X : Cx} {W : WX} {Γ : List Nat} {n : Nat} {a b e : Expr} {pos : Pos} {ma mb : Rho → Res D}
theorem re_neg (ha : RE X W Γ 0 true a ma) : RE X W Γ n true (.UnaryOp .USub a pos) (m1 gNeg ma) := by
  obtain ⟨ta, pa, qa⟩ := ha
  refine ⟨_, pe_un un_neg pa, fun F H0 ρ σ H S R Q st po => ?_⟩
  refine qa F H0 ρ σ H S R _ st (PostE.iff.mpr ((PostE.iff.mp po).bind.imp fun d _ po => ?_))
  intro x H1 A B s1 d1 _ _
  obtain ⟨z, ez, po⟩ := PostE.ofO (PostE.iff.mpr po)
  cases d with
  | int i =>
    cases ez
    exact ⟨i, dat_int d1, PostV.flat (PostV.later po s1) rfl dat_of_int⟩
  | _ => cases ez
end
end TW

-- TWZip
namespace TW
open PySem PySem.Spec PyProof.Rows L2

def seqLD : D → Option (List D)
  | .lst l => some l
  | .scr l => some (l.map .int)
  | _ => none
def seqTD : D → Option (List D)
  | .tup l => some l
  | _ => none
def zipL (l r : List D) : List D := (l.zip r).map fun p => .tup [p.1, p.2]
def gZip (x y : D) : Option (List D) := match seqLD x, seqLD y with
  | some l, some r => some (zipL l r)
  | _, _ => match seqTD x, seqTD y with
    | some l, some r => some (zipL l r)
    | _, _ => none
def iZipM (a b : Rho → Res D) : Rho → Res (List D) := fun ρ => (a ρ).bind fun x => (b ρ).bind fun y => ofO (gZip x y)
section
variable {K : PySem.W.Frag} {H : Hp}
theorem seqL_at {d : D} {l : List D} {x : V} {B : List Addr} (e : seqLD d = some l) (h : Dat K H d 0 x [] B) : ∃ (p : Addr) (xs : List V), x = .ref p ∧ xs.length = l.length ∧ ∀ H', Stay H H' [] B → SqL K H' p xs ∧ ∀ (i : Nat) (c : D), l[i]? = some c → ∃ y R', xs[i]? = some y ∧ Dat K H' c 0 y [] R' ∧ ∀ a ∈ R', a ∈ B := by
  cases d with
  | lst l' =>
    cases e
    obtain ⟨p, xs, B', rfl, hp, rfl, hd⟩ := dat_lst0 h
    refine ⟨p, xs, rfl, hd.length, fun H' st => ⟨.of (st.res p List.mem_cons_self _ hp), fun i c ec => ?_⟩⟩
    obtain ⟨y, S', R', ex, g, sl, r⟩ := hd.get ec
    obtain rfl : S' = [] := Dat.noS g
    exact ⟨y, R', ex, Dat.stay _ 0 _ [] R' (st.mono (fun _ z => z) fun a ha => List.mem_cons_of_mem _ (r a ha)) g, fun a ha => List.mem_cons_of_mem _ (r a ha)⟩
  | scr l' =>
    cases e
    unfold Dat at h
    obtain ⟨⟨p, rfl, hp⟩, _⟩ := h
    refine ⟨p, l'.map V.int, rfl, by simp, fun H' st => ⟨ScrAt.sq (hp.imp (fun ⟨o, q⟩ => ⟨o, st.scr _ _ _ q⟩) id), fun i c ec => ?_⟩⟩
    rw [List.getElem?_map] at ec
    cases ei : l'[i]? with
    | none => rw [ei] at ec; cases ec
    | some z =>
      rw [ei] at ec
      cases ec
      exact ⟨.int z, [], by rw [List.getElem?_map, ei]; rfl, dat_of_int 0, fun a z => by simp at z⟩
  | _ => cases e
theorem seqT_at {d : D} {l : List D} {x : V} {B : List Addr} (e : seqTD d = some l) (h : Dat K H d 0 x [] B) : ∃ (p : Addr) (xs : List V), x = .ref p ∧ xs.length = l.length ∧ ∀ H', Stay H H' [] B → SqT K H' p xs ∧ ∀ (i : Nat) (c : D), l[i]? = some c → ∃ y R', xs[i]? = some y ∧ Dat K H' c 0 y [] R' ∧ ∀ a ∈ R', a ∈ B := by
  cases d with
  | tup l' =>
    cases e
    obtain ⟨p, xs, rfl, hp, hd⟩ := dat_tup0 h
    refine ⟨p, xs, rfl, hd.length, fun H' st => ⟨.of (st.tup p _ hp), fun i c ec => ?_⟩⟩
    obtain ⟨y, S', R', ex, g, sl, r⟩ := hd.get ec
    obtain rfl : S' = [] := Dat.noS g
    exact ⟨y, R', ex, Dat.stay _ 0 _ [] R' (st.mono (fun _ z => z) fun a ha => r a ha) g, r⟩
  | _ => cases e
theorem zip_get {l r : List D} {i : Nat} {d : D} (e : (zipL l r)[i]? = some d) : ∃ a b, l[i]? = some a ∧ r[i]? = some b ∧ d = .tup [a, b] := by
  unfold zipL at e
  rw [List.getElem?_map, Option.map_eq_some_iff] at e
  obtain ⟨⟨a, b⟩, e, rfl⟩ := e
  rw [List.getElem?_zip_eq_some] at e
  exact ⟨a, b, e.1, e.2, rfl⟩
theorem pair_dat {H' : Hp} {T : Addr} {x y : V} {a b : D} {R1 R2 B : List Addr} (hT : H' T = none) (hx : Dat K H' a 0 x [] R1) (hy : Dat K H' b 0 y [] R2) (h1 : ∀ c ∈ R1, c ∈ B) (h2 : ∀ c ∈ R2, c ∈ B) :
    Same H' (upd H' T (.tup [x, y])) ∧ ∃ B', Dat K (upd H' T (.tup [x, y])) (.tup [a, b]) 0 (.ref T) [] B' ∧ ∀ c ∈ B', c ∈ B := by
  have sm : Same H' (upd H' T (.tup [x, y])) := fun c o q => by
    by_cases e : c = T
    · subst e; rw [hT] at q; cases q
    · rw [upd_ne e]; exact q
  have gx := hx.same sm
  have gy := hy.same sm
  refine ⟨sm, R1 ++ R2, ?_, fun c hc => (List.mem_append.mp hc).elim (h1 c) (h2 c)⟩
  unfold Dat
  exact ⟨T, [x, y], rfl, upd_same, Dats.cons gx (Dats.one gy)⟩
end
section
variable {X : Cx} {W : WX} {Γ : List Nat} {a b : Expr} {p pos tpos : Pos} {elts : List Expr} {kk : Nat} {ma mb : Rho → Res D}
theorem ri_zip (hm : X.mg "zip" = none) (ha : RE X W Γ 0 true a ma) (hb : RE X W Γ 0 true b mb) (hg : Gl X "zip" := by rfl) (hpl : (backTo pos (starEach [b] X.env)).any (·.1) = false := by rfl)
    (hs3 : starEach (a :: [b]) X.env = (false, eval a X.env) :: starEach [b] X.env := by rfl) (hs4 : starEach (b :: []) X.env = (false, eval b X.env) :: starEach [] X.env := by rfl) : RI X W Γ (.Tuple elts kk tpos) (.Call (.Name "zip" p) [a, b] [] pos) (iZipM ma mb) := by
  obtain ⟨ta, pa, qa⟩ := ha
  obtain ⟨tb, pb, qb⟩ := hb
  refine ⟨_, RZ.pi_zipA hg hm (pa_cons pa (pa_cons pb pa_nil hs4) hs3) hs3 hpl, fun F H0 ρ σ H S R Rk st po => ?_⟩
  refine qa F H0 ρ σ H S R _ st (PostE.iff.mpr (po.bind.imp fun d _ po => ?_))
  intro x H1 A B s1 d1 v1 _
  refine qb F H0 ρ σ H1 S R _ (st.grow s1) (PostE.iff.mpr (po.bind.later s1 fun e _ po => ?_))
  intro y H2 A2 B2 s2 d2 v2 _
  obtain rfl : A = [] := Dat.noS d1
  obtain rfl : A2 = [] := Dat.noS d2
  have d1' := d1.same s2
  have vB : ∀ c ∈ B ++ B2, ¬ Av F S c := fun c hc => (List.mem_append.mp hc).elim (v1 c) (v2 c)
  have dB : ∀ c ∈ B ++ B2, H2 c ≠ none := fun c hc => (List.mem_append.mp hc).elim (Dat.domR d1' c) (Dat.domR d2 c)
  unfold gZip at po
  cases e1 : seqLD d with
  | some l =>
    cases e2 : seqLD e with
    | some r =>
      rw [e1, e2] at po
      obtain ⟨pa, xs, rfl, l1, k1⟩ := seqL_at e1 d1'
      obtain ⟨pb, ys, rfl, l2, k2⟩ := seqL_at e2 d2
      refine ⟨pa, pb, xs, ys, rfl, .inl ⟨(k1 H2 (Stay.of_same (Same.refl _) _ _)).1, (k2 H2 (Stay.of_same (Same.refl _) _ _)).1, po _ H2 (B ++ B2) (s1.trans s2) vB dB ?_⟩⟩
      intro H' stay i
      obtain ⟨q1, g1⟩ := k1 H' (stay.mono (fun _ z => z) fun c hc => List.mem_append_left _ hc)
      obtain ⟨q2, g2⟩ := k2 H' (stay.mono (fun _ z => z) fun c hc => List.mem_append_right _ hc)
      refine ⟨fun h => ⟨xs, ys, q1, q2, ?_⟩, fun c ec => ?_⟩
      · unfold zipL at h
        simp at h
        omega
      · obtain ⟨u, v, eu, ev, rfl⟩ := zip_get ec
        obtain ⟨x', R1, ex, gx, r1⟩ := g1 i u eu
        obtain ⟨y', R2, ey, gy, r2⟩ := g2 i v ev
        refine ⟨⟨xs, ys, x', y', q1, q2, ex, ey⟩, fun z H3 h => ?_⟩
        obtain ⟨T, x2, y2, rfl, hT, rfl, hx2, hy2⟩ := h
        have := hx2 xs q1
        rw [ex] at this
        cases this
        have := hy2 ys q2
        rw [ey] at this
        cases this
        exact pair_dat hT gx gy (fun c hc => List.mem_append_left _ (r1 c hc)) (fun c hc => List.mem_append_right _ (r2 c hc))
    | none =>
      rw [e1, e2] at po
      cases d with
      | lst _ => exact po.elim
      | scr _ => exact po.elim
      | _ => cases e1
  | none =>
    rw [e1] at po
    dsimp only at po
    cases e3 : seqTD d with
    | none => rw [e3] at po; exact po.elim
    | some l =>
      rw [e3] at po
      cases e2 : seqTD e with
      | none => rw [e2] at po; exact po.elim
      | some r =>
        rw [e2] at po
        obtain ⟨pa, xs, rfl, l1, k1⟩ := seqT_at e3 d1'
        obtain ⟨pb, ys, rfl, l2, k2⟩ := seqT_at e2 d2
        refine ⟨pa, pb, xs, ys, rfl, .inr ⟨(k1 H2 (Stay.of_same (Same.refl _) _ _)).1, (k2 H2 (Stay.of_same (Same.refl _) _ _)).1, po _ H2 (B ++ B2) (s1.trans s2) vB dB ?_⟩⟩
        intro H' stay i
        obtain ⟨q1, g1⟩ := k1 H' (stay.mono (fun _ z => z) fun c hc => List.mem_append_left _ hc)
        obtain ⟨q2, g2⟩ := k2 H' (stay.mono (fun _ z => z) fun c hc => List.mem_append_right _ hc)
        refine ⟨fun h => ⟨xs, ys, q1, q2, ?_⟩, fun c ec => ?_⟩
        · unfold zipL at h
          simp at h
          omega
        · obtain ⟨u, v, eu, ev, rfl⟩ := zip_get ec
          obtain ⟨x', R1, ex, gx, r1⟩ := g1 i u eu
          obtain ⟨y', R2, ey, gy, r2⟩ := g2 i v ev
          refine ⟨⟨xs, ys, x', y', q1, q2, ex, ey⟩, fun z H3 h => ?_⟩
          obtain ⟨T, x2, y2, rfl, hT, rfl, hx2, hy2⟩ := h
          have := hx2 xs q1
          rw [ex] at this
          cases this
          have := hy2 ys q2
          rw [ey] at this
          cases this
          exact pair_dat hT gx gy (fun c hc => List.mem_append_left _ (r1 c hc)) (fun c hc => List.mem_append_right _ (r2 c hc))
end
end TW

-- TWLend
namespace TW
open PySem PySem.Spec PyProof.Rows L2

def D.still : D → Bool
  | .tup l => l.all D.flat
  | d => d.flat
theorem Dats.still {K : PySem.W.Frag} {H : Hp} : ∀ {ds : List D} {n : Nat} {xs : List V} {S R : List Addr}, ds.all D.flat = true → Dats K H ds n xs S R → S = [] ∧ R = [] ∧ ∀ k, Dats K H ds k xs [] []
  | [], n, xs, S, R, _, h => by
    unfold Dats at h
    obtain ⟨rfl, rfl, rfl⟩ := h
    exact ⟨rfl, rfl, fun k => by unfold Dats; exact ⟨rfl, rfl, rfl⟩⟩
  | d :: ds, n, xs, S, R, f, h => by
    simp only [List.all_cons, Bool.and_eq_true] at f
    unfold Dats at h
    obtain ⟨x, xs', S1, S2, R1, R2, rfl, rfl, rfl, h1, h2⟩ := h
    obtain ⟨rfl, rfl, g1⟩ := h1.flat f.1
    obtain ⟨rfl, rfl, g2⟩ := Dats.still f.2 h2
    exact ⟨rfl, rfl, fun k => Dats.cons (g1 k) (g2 k)⟩
theorem Dat.still {K : PySem.W.Frag} {H : Hp} {d : D} {n : Nat} {x : V} {S R : List Addr} (f : d.still = true) (h : Dat K H d n x S R) : S = [] ∧ R = [] ∧ ∀ k, Dat K H d k x [] [] := by
  cases d with
  | tup l =>
    unfold Dat at h
    obtain ⟨a, xs, rfl, q, hd⟩ := h
    obtain ⟨rfl, rfl, g⟩ := Dats.still f hd
    exact ⟨rfl, rfl, fun k => by unfold Dat; exact ⟨a, xs, rfl, q, g _⟩⟩
  | _ => exact h.flat f
def mStill (m : Rho → Res D) : Rho → Res D := fun ρ => (m ρ).bind fun d => if d.still then .ok d else .stuck
theorem len_nil (ρ : Rho) (ds : List D) (h : mA0 ρ = .ok ds) : ds.length = 0 := by
  cases h; rfl
theorem len_cons {n : Nat} {a : Rho → Res D} {r : Rho → Res (List D)} (hr : ∀ ρ ds, r ρ = .ok ds → ds.length = n) (ρ : Rho) (ds : List D) (h : mA1 a r ρ = .ok ds) : ds.length = n + 1 := by
  unfold mA1 at h
  cases e : a ρ with
  | ok d =>
    rw [e, Res.bind_ok] at h
    cases e2 : r ρ with
    | ok l =>
      rw [e2, Res.bind_ok] at h
      cases h
      rw [List.length_cons, hr ρ l e2]
    | exn c => rw [e2] at h; cases h
    | stuck => rw [e2] at h; cases h
  | exn c => rw [e] at h; cases h
  | stuck => rw [e] at h; cases h
section
variable {X : Cx} {W : WX} {Γ : List Nat} {n nf k ar : Nat} {e : Expr} {es : List Expr} {x : Str} {p pos : Pos} {ma : Rho → Res (List D)} {m : List D → Res D}
theorem re_callL (h : FnG X.prog X.w X.K X.mg X.base x k nf ar m) (hr : Room k X.A) (tk : Takes X W) (ha : RAB X W Γ (e :: es) ma) (har : ∀ ρ ds, ma ρ = .ok ds → ds.length = ar) (hg : Gl X x := by rfl)
    (hdb : (x == ("__debug__" : Str)) = false := by decide) (he : starEach (e :: es) X.env = (false, eval e X.env) :: starEach es X.env := by rfl) (hpl : (backTo pos (starEach es X.env)).any (·.1) = false := by rfl) :
    RE X W Γ n true (.Call (.Name x p) (e :: es) [] pos) (mStill (mArgs m ma)) := by
  obtain ⟨f, fd, ps, F, hm, hk, hb⟩ := h.ex
  obtain ⟨ta, pa, qa⟩ := ha
  refine ⟨_, pe_callS F hr hg hm hk hb (fun σ => passAt tk σ) pa hdb he hpl, fun F' H0 ρ σ H S R Q st po => ?_⟩
  unfold mStill at po
  have po := (PostE.iff.mp po).bind
  unfold mArgs at po
  refine qa F' H0 ρ σ H S R _ st (po.bind.imp fun ds eds po => ?_)
  intro xs H1 B s1 d1
  refine ⟨by rw [d1.length]; exact har ρ ds eds, ds, fun _ => False, B, fun _ z => z.elim, d1, fun _ _ z => z, ?_⟩
  cases em : m ds with
  | ok d =>
    rw [em] at po
    intro y H' A' B' s2 d2 _ _
    by_cases f : d.still = true
    · dsimp only [PostX] at po
      rw [if_pos f] at po
      obtain ⟨rfl, rfl, g⟩ := d2.still f
      exact po y H' [] [] (s1.trans s2) (g n) (fun a z => by simp at z) fun _ => ⟨List.nodup_nil, fun a z => by simp at z⟩
    · dsimp only [PostX] at po
      rw [if_neg f] at po
      exact po.elim
  | exn c => rw [em] at po; exact fun C H' hc s2 => po C H' hc (s1.trans s2)
  | stuck => rw [em] at po; exact po
def gListL (ds : List D) : Option D := (gList ds).bind fun z => match z with
  | .lst l => if l.all D.flat then some (.lst l) else none
  | _ => none
theorem re_listL (hm : X.mg "list" = none) (ha : RAB X W Γ [e] ma) (hn : n ≤ 1 := by decide) (hg : Gl X "list" := by rfl)
    (he : starEach (e :: []) X.env = (false, eval e X.env) :: starEach [] X.env := by rfl) (hpl : (backTo pos (starEach [] X.env)).any (·.1) = false := by rfl) : RE X W Γ n true (.Call (.Name "list" p) [e] [] pos) (mL gListL ma) := by
  refine RE.w (n := 1) ?_ hn
  obtain ⟨ta, pa, qa⟩ := ha
  refine ⟨_, pe_callTy call_list_of hg hm boot_list pa (by decide) (by decide) he hpl, fun F H0 ρ σ H S R Q st po => ?_⟩
  refine qa F H0 ρ σ H S R _ st ((PostE.iff.mp po).bind.imp fun d _ po => ?_)
  intro xs H1 B s1 d1
  obtain ⟨z, ez, po⟩ := PostA.ofO po
  unfold gListL at ez
  obtain ⟨y, ey, ez⟩ := Option.bind_eq_some_iff.mp ez
  refine cv_list (n := 1) (Nat.le_refl 1) (fun _ => False) xs d y H1 B Q (fun _ z => z.elim) d1 (fun _ _ z => z) ey ?_
  intro v H' A' B' s2 d2 _ nw
  cases y with
  | lst l =>
    dsimp only at ez
    by_cases f : l.all D.flat = true
    · rw [if_pos f] at ez
      cases ez
      have d3 := d2
      unfold Dat at d3
      obtain ⟨a, ys, S', rfl, q, rfl, hd⟩ := d3
      obtain ⟨rfl, rfl, _⟩ := Dats.still f hd
      exact PostV.later po s1 _ H' [a] [] s2 d2 (fun a z => by simp at z) nw
    · rw [if_neg f] at ez
      cases ez
  | _ => cases ez
end
end TW

-- TWSet
namespace TW
open PySem PySem.Spec PyProof.Rows L2
theorem units65 {k : Nat} {A : Around} (r : Room k A) : A.units + 65 < cLine := by have := r.un; omega
def sDead : Rho → Out := fun _ => .stuck
theorem rs_dead {X : Cx} {W : WX} {n : Nat} {Γ Γ' : List Nat} {st : Stmt} : RS X W n Γ Γ' st sDead :=
  ⟨fun _ _ _ => False, ⟨fun _ _ _ _ _ _ h => h.elim⟩, fun _ _ _ _ _ _ _ _ _ h => h⟩
def strsOf : List D → Option (List Str)
  | [] => some []
  | .str i :: r => (strsOf r).map fun l => i :: l
  | _ :: _ => none
theorem strsOf_eq : ∀ {l : List D} {ss : List Str}, strsOf l = some ss → l = ss.map D.str
  | [], ss, h => by cases h; rfl
  | d :: r, ss, h => by
    cases d with
    | str i =>
      simp only [strsOf, Option.map_eq_some_iff] at h
      obtain ⟨l, e, rfl⟩ := h
      rw [strsOf_eq e]; rfl
    | _ => cases h
@[simp] theorem strsOf_map (ss : List Str) : strsOf (ss.map D.str) = some ss := by
  induction ss with
  | nil => rfl
  | cons a l ih => simp [strsOf, ih]
theorem dats_strs {K : PySem.W.Frag} {H : Hp} : ∀ {ds : List D} {ss : List Str} {n : Nat} {xs : List V} {A B : List Addr}, strsOf ds = some ss → Dats K H ds n xs A B → xs = ss.map V.str
  | [], _, _, _, _, _, e, h => by cases e; simp only [Dats] at h; rw [h.1]; rfl
  | d :: ds, _, _, _, _, _, e, h => by
    unfold Dats at h
    obtain ⟨x, xs', S1, S2, R1, R2, rfl, rfl, rfl, h1, h2⟩ := h
    cases d with
    | str i =>
      simp only [strsOf, Option.map_eq_some_iff] at e
      obtain ⟨l, e, rfl⟩ := e
      rw [dat_str h1, dats_strs e h2]; rfl
    | _ => cases e
theorem dats_of_strs {K : PySem.W.Frag} {H : Hp} {n : Nat} : ∀ l : List Str, Dats K H (l.map D.str) n (l.map V.str) [] []
  | [] => .nil
  | a :: l => Dats.cons (S1 := []) (R1 := []) (dat_of_str n) (dats_of_strs l)
def gIn (d e : D) : Option D := match e with
  | .lst l => (toPy d).bind fun p => (toPys l).bind fun q => if SeqAt.shaped p = true ∧ SeqAt.shaped (.list q) = true then some (.bl (q.any fun z => PyData.eqv z p)) else none
  | .tup l => match d with
    | .str z => (strsOf l).map fun ss => .bl (ss.any (· == z))
    | _ => none
  | .ftup l => match d with
    | .str z => (strsOf l).map fun ss => .bl (ss.any (· == z))
    | _ => none
  | .str t => match d with
    | .str ⟨⟨[c]⟩⟩ => some (.bl (decide (c ∈ t.cps.toList)))
    | _ => none
  | .dK ks vs => (lookD (.dK ks vs) d).map fun o => .bl o.isSome
  | .dT ks vs => (lookD (.dT ks vs) d).map fun o => .bl o.isSome
  | _ => none
def gNin (d e : D) : Option D := (gIn d e).bind fun z => match z with
  | .bl b => some (.bl (!b))
  | _ => none
def rInAll (K : PySem.W.Frag) (k : Bool) : R2 := fun x y H Q => ((∃ d ds, Dp K H x d ∧ Dp K H y (.list ds) ∧ SeqAt.shaped d = true ∧ SeqAt.shaped (.list ds) = true ∧ Q (.bl (if k = true then ds.any (fun z => PyData.eqv z d) else !ds.any (fun z => PyData.eqv z d))) H) ∨ rInDict k x y H Q) ∨
  (∃ (c : Nat) (z : Str), x = .str ⟨#[c]⟩ ∧ y = .str z ∧ Q (.bl (if k = true then decide (c ∈ z.cps.toList) else !decide (c ∈ z.cps.toList))) H) ∨ rIn K (!k) x y H Q
theorem op_inAll {X : Cx} (hu : X.A.units + 65 < cLine) : OpR X (compareOp .In) (rInAll X.K true) := OpR.or (OpR.or (fun pins s σ H x y v u Q I rx ry ⟨d, ds, h⟩ => op_inD hu pins s σ H x y v u Q I rx ry ⟨d, ds, h⟩) (op_inDict (by omega))) (OpR.or (fun pins s σ H x y v u Q I rx ry ⟨c, z, h⟩ => op_in_sign pins s σ H x y v u Q I rx ry ⟨c, z, h⟩) op_in_seq)
theorem op_ninAll {X : Cx} (hu : X.A.units + 65 < cLine) : OpR X (compareOp .NotIn) (rInAll X.K false) := OpR.or (OpR.or (fun pins s σ H x y v u Q I rx ry ⟨d, ds, h⟩ => op_notInD hu pins s σ H x y v u Q I rx ry ⟨d, ds, h⟩) (op_notInDict (by omega))) (OpR.or (fun pins s σ H x y v u Q I rx ry ⟨c, z, h⟩ => op_notIn_sign pins s σ H x y v u Q I rx ry ⟨c, z, h⟩) op_notIn_seq)
section
variable {K : PySem.W.Frag}
theorem inV_str (z : Str) : ∀ ss : List Str, inV (.str z) (ss.map V.str) = ss.any (· == z)
  | [] => rfl
  | a :: l => by
    have := inV_str z l
    unfold inV at this ⊢
    rw [List.map_cons, List.any_cons, List.any_cons, this]; rfl
theorem all_flat_strs (ys : List Str) : (ys.map V.str).all flatV = true := by
  rw [List.all_map]
  exact List.all_eq_true.mpr fun _ _ => rfl
theorem in_all (k : Bool) {x y : V} {d e : D} {b : Bool} {H : Hp} {B1 B2 : List Addr} {Q : VK} (h1 : Dat K H d 0 x [] B1) (h2 : Dat K H e 0 y [] B2) (ez : gIn d e = some (.bl b)) (q : Q (.bl (if k = true then b else !b)) H) : rInAll K k x y H Q := by
  have tup : ∀ (l : List D) (p : Addr) (xs : List V) (B : List Addr) (z : Str), y = .ref p → SqT K H p xs → Dats K H l 0 xs [] B → x = .str z → ((strsOf l).map fun ss => D.bl (ss.any (· == z))) = some (.bl b) → rInAll K k x y H Q := by
    intro l p xs B z ey sq hd ex e
    obtain ⟨ss, e1, e2⟩ := Option.map_eq_some_iff.mp e
    cases e2
    rw [dats_strs e1 hd] at sq
    refine .inr (.inr ⟨p, _, ey, .inr sq, by rw [ex]; rfl, all_flat_strs ss, ?_⟩)
    rw [ex, inV_str]
    cases k <;> exact q
  unfold gIn at ez
  cases e with
  | lst l =>
    dsimp only at ez
    cases ep : toPy d with
    | none => rw [ep] at ez; cases ez
    | some p =>
      cases eq : toPys l with
      | none => rw [ep, eq] at ez; cases ez
      | some ps =>
        rw [ep, eq] at ez
        simp only [Option.bind_some] at ez
        split at ez
        · rename_i hs
          cases ez
          refine .inl (.inl ⟨p, ps, h1.dp ep, h2.dp (by simp [toPy, eq]), hs.1, hs.2, ?_⟩)
          cases k <;> exact q
        · cases ez
  | tup l =>
    obtain ⟨p, xs, ey, sq, hd⟩ := dat_tup0 h2
    cases d with
    | str z => exact tup l p xs _ z ey (.of sq) hd (dat_str h1) ez
    | _ => cases ez
  | ftup l =>
    obtain ⟨p, xs, ey, sq, hd⟩ := dat_ftup0 h2
    cases d with
    | str z => exact tup l p xs _ z ey (sqt_frz sq) hd (dat_str h1) ez
    | _ => cases ez
  | str t =>
    dsimp only at ez
    split at ez
    · rename_i c
      cases ez
      refine .inr (.inl ⟨c, t, dat_str h1, dat_str h2, ?_⟩)
      cases k <;> exact q
    · cases ez
  | dK ks vs =>
    obtain ⟨o, e1, e2⟩ := Option.map_eq_some_iff.mp (show ((lookD (.dK ks vs) d).map fun o => D.bl o.isSome) = some (.bl b) from ez)
    cases e2
    obtain ⟨a, r, rfl, g, f⟩ := look_at h2 h1 e1
    refine .inl (.inr ⟨a, r, rfl, g, ?_⟩)
    have : r.isSome = o.isSome := by
      cases o with
      | none => rw [show r = none from f]; rfl
      | some z => obtain ⟨v, _, _, rfl, _⟩ := f; rfl
    rw [this]
    exact q
  | dT ks vs =>
    obtain ⟨o, e1, e2⟩ := Option.map_eq_some_iff.mp (show ((lookD (.dT ks vs) d).map fun o => D.bl o.isSome) = some (.bl b) from ez)
    cases e2
    obtain ⟨a, r, rfl, g, f⟩ := look_at h2 h1 e1
    refine .inl (.inr ⟨a, r, rfl, g, ?_⟩)
    have : r.isSome = o.isSome := by
      cases o with
      | none => rw [show r = none from f]; rfl
      | some z => obtain ⟨v, _, _, rfl, _⟩ := f; rfl
    rw [this]
    exact q
  | _ => cases ez
theorem gIn_bl {d e z : D} (h : gIn d e = some z) : ∃ b, z = .bl b := by
  unfold gIn at h
  cases e with
  | lst l =>
    dsimp only at h
    obtain ⟨p, _, h⟩ := Option.bind_eq_some_iff.mp h
    obtain ⟨q, _, h⟩ := Option.bind_eq_some_iff.mp h
    split at h
    · cases h; exact ⟨_, rfl⟩
    · cases h
  | tup l =>
    cases d with
    | str z => obtain ⟨_, _, rfl⟩ := Option.map_eq_some_iff.mp h; exact ⟨_, rfl⟩
    | _ => cases h
  | ftup l =>
    cases d with
    | str z => obtain ⟨_, _, rfl⟩ := Option.map_eq_some_iff.mp h; exact ⟨_, rfl⟩
    | _ => cases h
  | str t =>
    dsimp only at h
    split at h
    · cases h; exact ⟨_, rfl⟩
    · cases h
  | dK ks vs => obtain ⟨_, _, rfl⟩ := Option.map_eq_some_iff.mp h; exact ⟨_, rfl⟩
  | dT ks vs => obtain ⟨_, _, rfl⟩ := Option.map_eq_some_iff.mp h; exact ⟨_, rfl⟩
  | _ => cases h
theorem bf_in : BinF K (rInAll K true) gIn := by
  intro x y d e z H B1 B2 Q h1 h2 ez po
  obtain ⟨b, rfl⟩ := gIn_bl ez
  exact in_all true h1 h2 ez (po rfl _ dat_of_bl)
theorem bf_nin : BinF K (rInAll K false) gNin := by
  intro x y d e z H B1 B2 Q h1 h2 ez po
  obtain ⟨y', e1, e2⟩ := Option.bind_eq_some_iff.mp ez
  obtain ⟨b, rfl⟩ := gIn_bl e1
  cases e2
  exact in_all false h1 h2 e1 (po rfl _ dat_of_bl)
end
section
variable {X : Cx} {W : WX} {Γ : List Nat} {n n1 n2 : Nat} {f1 f2 : Bool} {a b : Expr} {p p2 q pos : Pos} {ma mb : Rho → Res D}
theorem re_in (hu : X.A.units + 65 < cLine) (ha : RE X W Γ n1 f1 a ma) (hb : RE X W Γ n2 f2 b mb) (hm : behindInMarks .In b = false := by rfl) : RE X W Γ n true (.Compare a [.In] [b] pos) (m2 gIn ma mb) := re_cmp (op_inAll hu) bf_in hm ha hb
theorem re_nin (hu : X.A.units + 65 < cLine) (ha : RE X W Γ n1 f1 a ma) (hb : RE X W Γ n2 f2 b mb) (hm : behindInMarks .NotIn b = false := by rfl) : RE X W Γ n true (.Compare a [.NotIn] [b] pos) (m2 gNin ma mb) := re_cmp (op_ninAll hu) bf_nin hm ha hb
theorem rt_in (hu : X.A.units + 65 < cLine) (ha : RE X W Γ n1 f1 a ma) (hb : RE X W Γ n2 f2 b mb) (hm : behindInMarks .In b = false := by rfl) : RT X W Γ (.Compare a [.In] [b] pos) (mT (m2 gIn ma mb)) := rt_cmp (op_inAll hu) bf_in hm ha hb
theorem rt_nin (hu : X.A.units + 65 < cLine) (ha : RE X W Γ n1 f1 a ma) (hb : RE X W Γ n2 f2 b mb) (hm : behindInMarks .NotIn b = false := by rfl) : RT X W Γ (.Compare a [.NotIn] [b] pos) (mT (m2 gNin ma mb)) := rt_cmp (op_ninAll hu) bf_nin hm ha hb
def gLenSet : D → Option D
  | .lst l => (intsOf l).bind fun ns => if ns.Nodup ∧ ns.length ≤ 4000 then some (.int ns.length) else none
  | _ => none
theorem dats_ints {K : PySem.W.Frag} {H : Hp} : ∀ {ds : List D} {ns : List Int} {xs : List V} {B : List Addr}, intsOf ds = some ns → Dats K H ds 0 xs [] B → xs = ns.map V.int
  | [], ns, xs, B, e, h => by
    cases e
    unfold Dats at h
    exact h.1
  | d :: ds, ns, xs, B, e, h => by
    cases d with
    | int i =>
      unfold intsOf at e
      rw [Option.map_eq_some_iff] at e
      obtain ⟨r, e, rfl⟩ := e
      unfold Dats at h
      obtain ⟨x, xs', S1, S2, R1, R2, rfl, e0, rfl, h1, h2⟩ := h
      obtain ⟨rfl, rfl⟩ := List.append_eq_nil_iff.mp e0.symm
      obtain rfl := dat_int h1
      rw [dats_ints e h2]
      rfl
    | _ => cases e
theorem re_lenSet (hm : X.mg "len" = none) (hm2 : X.mg "set" = none) (ha : RE X W Γ 0 true a ma) (hg : Gl X "len" := by rfl) (hg2 : Gl X "set" := by rfl) (hc : X.calm = true := by rfl)
    (na : starEach [a] X.env = (false, eval a X.env) :: starEach [] X.env := by rfl) : RE X W Γ n true (.Call (.Name "len" p) [.Call (.Name "set" p2) [a] [] q] [] pos) (m1 gLenSet ma) := by
  obtain ⟨ta, pa, qa⟩ := ha
  refine ⟨_, RZ.pe_lenSetI hg hm hg2 hm2 pa hc na, fun F H0 ρ σ H S R Q st po => ?_⟩
  refine qa F H0 ρ σ H S R _ st (PostE.iff.mpr ((PostE.iff.mp po).bind.imp fun d _ po => ?_))
  intro x H1 A B s1 d1 _ _
  obtain rfl : A = [] := Dat.noS d1
  obtain ⟨z, ez, po⟩ := PostE.ofO (PostE.iff.mpr po)
  cases d with
  | lst l =>
    unfold gLenSet at ez
    dsimp only at ez
    cases ei : intsOf l with
    | none => rw [ei] at ez; cases ez
    | some ns =>
      rw [ei] at ez
      simp only [Option.bind_some] at ez
      split at ez
      · rename_i hs
        cases ez
        obtain ⟨a, xs, R', rfl, hp, rfl, hd⟩ := dat_lst0 d1
        refine ⟨a, ns, rfl, ?_, hs.1, hs.2, po (.int _) H1 [] [] s1 (dat_of_int n) (fun a z => by simp at z) fun _ => New.nil⟩
        rw [← dats_ints ei hd]
        exact .of hp
      · cases ez
  | _ => cases ez
end
end TW

-- TWRg
namespace TW
open PySem PySem.Spec PyProof.Rows L2
def gListRg : D → Option D
  | .int j => if 0 ≤ j ∧ j ≤ 16777216 then some (.lst ((List.range j.toNat).map fun k : Nat => .int k)) else none
  | _ => none
theorem dats_of_ints {K : PySem.W.Frag} {H : Hp} {n : Nat} : ∀ l : List Int, Dats K H (l.map D.int) n (l.map V.int) [] []
  | [] => by simp only [List.map_nil]; unfold Dats; exact ⟨rfl, rfl, rfl⟩
  | i :: l => by
    have := Dats.cons (K := K) (H := H) (dat_of_int (i := i) n) (dats_of_ints l)
    simpa using this
section
variable {X : Cx} {W : WX} {Γ : List Nat} {n : Nat} {a : Expr} {p p2 q pos : Pos} {ma : Rho → Res D}
theorem re_listRg (hc : X.calm = true) (hm : X.mg "list" = none) (hm2 : X.mg "range" = none) (ha : RE X W Γ 0 true a ma) (hg : Gl X "list" := by rfl) (hg2 : Gl X "range" := by rfl)
    (na2 : starEach [a] X.env = (false, eval a X.env) :: starEach [] X.env := by rfl) (na : starEach [.Call (.Name "range" p2) [a] [] q] X.env = (false, eval (.Call (.Name "range" p2) [a] [] q) X.env) :: starEach [] X.env := by rfl) :
    RE X W Γ n true (.Call (.Name "list" p) [.Call (.Name "range" p2) [a] [] q] [] pos) (m1 gListRg ma) := by
  obtain ⟨ta, pa, qa⟩ := ha
  refine ⟨_, pe_listRg hc hg hm (prg_1 hg2 hm2 pa na2) na, fun F H0 ρ σ H S R Q st po => ?_⟩
  refine qa F H0 ρ σ H S R _ st (PostE.iff.mpr ((PostE.iff.mp po).bind.imp fun d _ po => ?_))
  intro x H1 A B s1 d1 _ _
  obtain rfl : A = [] := Dat.noS d1
  obtain ⟨z, ez, po⟩ := PostE.ofO (PostE.iff.mpr po)
  cases d with
  | int j =>
    unfold gListRg at ez
    dsimp only at ez
    split at ez
    · rename_i hj
      cases ez
      refine ⟨j, dat_int d1, RgOk.of_le (Int.le_refl 0) hj.2 (by decide) hj.1, fun r hr => ?_⟩
      have e : rgV 0 j = ((List.range j.toNat).map fun k : Nat => (k : Int)).map V.int := by
        unfold rgV
        rw [List.map_map, Int.sub_zero]
        refine List.map_congr_left fun k _ => ?_
        simp
      have e2 : ((List.range j.toNat).map fun k : Nat => D.int k) = ((List.range j.toNat).map fun k : Nat => (k : Int)).map D.int := by rw [List.map_map]; rfl
      rw [e]
      rw [e2] at po
      exact new_lst (PostV.later po s1) hr (dats_of_ints _) (fun a z => by simp at z) (st.grow s1).avd
    · cases ez
  | _ => cases ez
def gIsB : D → D → Option D
  | .bl a, .bl b => some (.bl (decide (a = b)))
  | _, _ => none
theorem bf_isB {K : PySem.W.Frag} : BinF K (fun x y H Q => ∃ a b, x = .bl a ∧ y = .bl b ∧ Q (.bl (decide (a = b))) H) gIsB := by
  intro x y d e z H B1 B2 Q h1 h2 ez po
  unfold gIsB at ez
  split at ez
  · cases ez
    exact ⟨_, _, dat_bl h1, dat_bl h2, po rfl _ dat_of_bl⟩
  · cases ez
theorem re_isB {b : Expr} {mb : Rho → Res D} (ha : RE X W Γ 0 true a ma) (hb : RE X W Γ 0 true b mb) (hm : behindInMarks .Is b = false := by rfl) : RE X W Γ n true (.Compare a [.Is] [b] pos) (m2 gIsB ma mb) := re_cmp op_is_bl bf_isB hm ha hb
theorem rt_isB {b : Expr} {mb : Rho → Res D} (ha : RE X W Γ 0 true a ma) (hb : RE X W Γ 0 true b mb) (hm : behindInMarks .Is b = false := by rfl) : RT X W Γ (.Compare a [.Is] [b] pos) (mT (m2 gIsB ma mb)) := rt_cmp op_is_bl bf_isB hm ha hb
end
end TW

-- TWGlob
namespace TW
open PySem PySem.Spec PyProof.Rows L2
inductive CstV : D → Value → Prop
  | int {i : Int} {u : Value} (r : RelV (.int i) u) : CstV (.int i) u
  | str {s : Str} {u : Value} (r : RelV (.str s) u) : CstV (.str s) u
def CstG (mg : Str → Option Value) (x : Str) (d : D) : Prop := ∃ u, mg x = some u ∧ CstV d u
theorem re_glob {X : Cx} {W : WX} {Γ : List Nat} {n : Nat} {x : Str} {d : D} {pos : Pos} (h : CstG X.mg x d) (hg : Gl X x := by rfl) (hd : (x == ("__debug__" : Str)) = false := by decide) : RE X W Γ n true (.Name x pos) (mC d) := by
  obtain ⟨u, hm, c⟩ := h
  cases c with
  | int r =>
    refine ⟨_, pe_glob hg hm r hd, fun F H0 ρ σ H S R Q st po => ?_⟩
    exact po _ H [] [] (Same.refl H) (dat_of_int n) (fun a z => by simp at z) fun _ => New.nil
  | str r =>
    refine ⟨_, pe_glob hg hm r hd, fun F H0 ρ σ H S R Q st po => ?_⟩
    exact po _ H [] [] (Same.refl H) (dat_of_str n) (fun a z => by simp at z) fun _ => New.nil
end TW

-- TWSetS
namespace TW
open PySem PySem.Spec PyProof.Rows L2
def addU (l : List Str) (z : Str) : List Str := if l.any (· == z) = true then l else l ++ [z]
def unlike (l : List Str) : List Str := l.foldl addU []
theorem addU_any (l : List Str) (z y : Str) : (addU l z).any (· == y) = (l.any (· == y) || decide (y = z)) := by
  unfold addU
  by_cases h : l.any (· == z) = true
  · rw [if_pos h]
    by_cases e : y = z
    · subst e; rw [h]; simp
    · simp [e]
  · rw [if_neg h, List.any_append]
    congr 1
    by_cases e : y = z
    · subst e; simp
    · have : (z == y) = false := beq_eq_false_iff_ne.mpr fun q => e q.symm
      simp [this, e]
theorem addU_length (l : List Str) (z : Str) : (addU l z).length = if l.any (· == z) = true then l.length else l.length + 1 := by
  unfold addU
  split <;> simp
theorem unlike_snoc (l : List Str) (z : Str) : unlike (l ++ [z]) = addU (unlike l) z := by unfold unlike; rw [List.foldl_append]; rfl
theorem unlike_le : ∀ l : List Str, (unlike l).length ≤ l.length := by
  have : ∀ (l m : List Str), (l.foldl addU m).length ≤ m.length + l.length := by
    intro l
    induction l with
    | nil => intro m; simp
    | cons z l ih =>
      intro m
      have := ih (addU m z)
      have := addU_length m z
      simp only [List.foldl_cons, List.length_cons]
      split at this <;> omega
  intro l
  have := this l []
  unfold unlike
  simpa using this
section
variable {pr : Program} {wd : World} {A : Around} {RR : Result → Shared → Prop} {it : Addr} {fp wr : List Addr} {GG : Array GenState → Array GenState → Prop} {m : Nat} {PP : Nat → Value → Prop} {SS : Nat → Shared → Prop}
theorem loop_texts (wk : WalksS pr wd A.in1 it fp wr GG m PP SS) (z : Addr) (hz : z ∉ fp) (l : List Str) (hm : l.length = m) (hb : m + 1 < scanBound)
    (at' : ∀ i v, PP i v → ∃ t, v = .str (l.getD i Str.empty) t) : ∀ (left i : Nat) (s : Shared), m - i = left → i ≤ m → SS i s →
      s.heap.SetOf (PySem.strKind pr wd) z (fun y => (unlike (l.take i)).any (· == y)) (unlike (l.take i)).length →
      (∀ s2, Moved (z :: wr) GG s s2 → s2.heap.SetOf (PySem.strKind pr wd) z (fun y => (unlike l).any (· == y)) (unlike l).length → RR (.ok (.ret .none)) s2) →
      codeAny (model pr wd) A (.builtin "set.update.loop" ⟨[.ref z, .ref it], []⟩) RR s := by
  have zw : z ∉ wr := fun q => hz (wk.sub _ q)
  have more : ∀ b ∈ wr, b ∈ z :: wr := fun b q => List.mem_cons_of_mem _ q
  intro left
  induction left with
  | zero =>
    intro i s e1 e2 here set go
    obtain rfl : i = m := by omega
    refine codeAny_builtin PyProof.Rows.F.entry_set_update_loop ?_
    rw [Around.under_plainId PyProof.Rows.F.plain_set_update_loop _]
    refine wpAny_bind (m := pyNext (.ref it)) (wk.done s _ _ here fun s2 mv => ?_)
    refine wpAny_pure (go s2 (mv.mono more) ?_)
    rw [← hm, List.take_length] at set
    obtain ⟨o, es, ep, t, ho, q⟩ := set
    exact ⟨o, es, ep, t, mv.heap z _ zw ho, q⟩
  | succ left ih =>
    intro i s e1 e2 here set go
    have lt : i < m := by omega
    refine codeAny_builtin PyProof.Rows.F.entry_set_update_loop ?_
    rw [Around.under_plainId PyProof.Rows.F.plain_set_update_loop _]
    refine wpAny_bind (m := pyNext (.ref it)) (wk.item i s _ _ lt here fun v s2 hv here2 mv => ?_)
    obtain ⟨t, rfl⟩ := at' i v hv
    have set2 : s2.heap.SetOf (PySem.strKind pr wd) z (fun y => (unlike (l.take i)).any (· == y)) (unlike (l.take i)).length := by
      obtain ⟨o, es, ep, tb, ho, q⟩ := set
      exact ⟨o, es, ep, tb, mv.heap z _ zw ho, q⟩
    have room : (unlike (l.take i)).length + 1 < scanBound := by
      have := unlike_le (l.take i)
      rw [List.length_take] at this
      omega
    have il : i < l.length := by omega
    have eg : l.getD i Str.empty = l[i] := by rw [List.getD_eq_getElem?_getD, List.getElem?_eq_getElem il]; rfl
    have et : l.take (i + 1) = l.take i ++ [l.getD i Str.empty] := by rw [eg, List.take_add_one, List.getElem?_eq_getElem il]; rfl
    refine wpAny_bind (m := holding [Value.str (l.getD i Str.empty) t] (setAdd z (.str (l.getD i Str.empty) t))) (wpAny_holding ?_)
    unfold setAdd
    refine wpAny_holding (wpAny_bind ((PySem.strKind pr wd).pyHash (k := l.getD i Str.empty) (strKind_is _ _ _ _) ?_))
    refine wpAny_setAddHashed_of (knd := PySem.strKind pr wd) (s := { s2 with toks := s2.toks + 1 }) (strKind_is _ _ _ _) rfl set2 room fun h2 but set3 => ?_
    have set4 : h2.SetOf (PySem.strKind pr wd) z (fun y => (unlike (l.take (i + 1))).any (· == y)) (unlike (l.take (i + 1))).length :=
      SetOf_congr set3 (fun y => by rw [et, unlike_snoc, addU_any]) (by rw [et, unlike_snoc, addU_length])
    refine wpAny_pure ⟨plainId_quiet PyProof.Rows.F.plain_set_update_loop _, ih (i + 1) _ (by omega) lt (wk.frame _ s2 _ _ here2 (Nat.le_succ _) fun b q o e => ?_) set4 fun s3 mv2 q => ?_⟩
    · rw [but.2 b fun c : b = z => hz (c ▸ q)]; exact e
    · refine go s3 (Moved.trans wk.gtrans ((mv.mono more).then_heap (Nat.le_succ _) fun b o hb e => ?_) mv2) q
      rw [but.2 b fun c : b = z => hb (c ▸ List.mem_cons_self)]; exact e
end
section
variable {pr : Program} {wd : World} {A : Around} {EE : Value → Shared → Prop} {s : Shared}
set_option maxHeartbeats 3200000 in
theorem call_set_texts {a : Addr} {items : Array Value} {l : List Str} {Q : Value → Shared → Prop} (noH : A.handled = none) (isl : s.heap.IsList a items) (are : PyProof.Rows.StrsAre items.toList l) (hb : l.length + 1 < scanBound)
    (q : ∀ (h2 : Heap) (tk : Nat), h2.SetOf (PySem.strKind pr wd) s.heap.objs.size (fun y => (unlike l).any (· == y)) (unlike l).length →
      (∀ b o, b < s.heap.objs.size → s.heap.get? b = some o → h2.get? b = some o) → Q (.ref s.heap.objs.size) { s with heap := h2, toks := tk }) :
    wpAny (model pr wd) A (call (.type "set") [.ref a]) Q EE s := by
  obtain ⟨cc, tl, hmro⟩ := PySem.F.called_set.mro
  have hmade := PySem.F.called_set.made
  have hsub := PySem.F.called_set.sub
  refine wpAny_call (codeAny_of_tree (wpAny_pure ⟨Code.quiet_builtin _ (by decide +kernel), codeAny_builtin PySem.F.entry_type_call ?_⟩))
  rw [Around.under_plain (weight_type_call_type "set" [.ref a] []) rfl]
  have k1 := PySem.F.called_set.notType
  have k2 := PySem.F.called_set.canCreate
  have k3 := PySem.F.typeCall_set_1 (.ref a)
  repeat (any_goals (first | assumption | wp_step))
  refine codeAny_mono (code_set_new_1 (.ref a) (E := EE) (Q₁ := fun u s1 => ∃ led : Bool, u = .ref s.heap.objs.size ∧ s1 = { s with heap := s.heap.push { cls := .type "set", dict := none, data := .set #[] 0 (.fresh 0 0 led) } }) fun led => ⟨led, rfl, rfl⟩) fun r s1 hr => ?_
  cases r with
  | error e => exact hr
  | ok fl =>
    cases fl with
    | ret u =>
      obtain ⟨led, rfl, rfl⟩ := hr
      have got : (s.heap.push { cls := .type "set", dict := none, data := .set #[] 0 (.fresh 0 0 led) }).get? s.heap.objs.size = some { cls := .type "set", dict := none, data := .set #[] 0 (.fresh 0 0 led) } := Heap.get?_push_size _ rfl
      have kind : Shared.TypeIs { s with heap := s.heap.push { cls := .type "set", dict := none, data := .set #[] 0 (.fresh 0 0 led) } } (.ref s.heap.objs.size) "set" := ⟨_, got, rfl⟩
      have k4 := PySem.F.called_set.init.lookup
      have k5 := PySem.F.called_set.init.bind (.ref s.heap.objs.size)
      repeat (any_goals (first | assumption | wp_step))
      refine codeAny_mono (codeAny_call_builtin (R := wants (fun r s2 => r = .none ∧ ∃ h2 tk, s2 = { s with heap := h2, toks := tk } ∧ h2.SetOf (PySem.strKind pr wd) s.heap.objs.size (fun y => (unlike l).any (· == y)) (unlike l).length ∧
          (∀ b o, b < s.heap.objs.size → s.heap.get? b = some o → h2.get? b = some o)) EE) PySem.F.called_set.init.plain PySem.F.entry_set_init (check_set_init_1 kind ?_)) fun r2 s2 hr2 => ?_
      · obtain ⟨ob, hob, hc, nn, hd⟩ := isl
        obtain ⟨c1, c2, c3, c4⟩ := ob
        simp only at hc hd
        subst hc hd
        have hob2 : (s.heap.push { cls := .type "set", dict := none, data := .set #[] 0 (.fresh 0 0 led) }).get? a = some { cls := .type "list", dict := c2, data := .seq items nn, slots := c4 } := Heap.get?_push_of_some _ hob
        have k6 := PySem.F.sub_list_set
        have k7 := PySem.F.sub_list_frozenset
        have k8 : (Value.type "list" == Value.type "dict") = false := by decide
        have isl2 : (s.heap.push { cls := .type "set", dict := none, data := .set #[] 0 (.fresh 0 0 led) }).IsList a items := ⟨_, hob2, rfl, nn, rfl⟩
        unfold Builtin.«set.__init__» noKeywords Builtin.Frozenset.updateFrom
        generalize hPI : pyIter = PI
        wp_walk
        subst hPI
        refine wpAny_pyIter_list isl2 (wpAny_bind (wpAny_runValue ?_))
        have lt : a < s.heap.objs.size := Heap.lt_size hob
        have noH3 : A.in1.in1.in1.handled = none := by simp [noH]
        have ne : a ≠ (s.heap.push { cls := .type "set", dict := none, data := .set #[] 0 (.fresh 0 0 led) }).objs.size := by
          rw [Heap.size_push]; exact Nat.ne_of_lt (Nat.lt_succ_of_lt lt)
        have apart : s.heap.objs.size ∉ [(s.heap.push { cls := .type "set", dict := none, data := .set #[] 0 (.fresh 0 0 led) }).objs.size, a] := by
          rw [Heap.size_push]
          intro z
          rcases List.mem_cons.mp z with z | z
          · exact Nat.ne_of_lt (Nat.lt_succ_self _) z
          · exact Nat.ne_of_gt lt (List.mem_singleton.mp z)
        have hsz : l.length = items.size := by rw [← StrsAre.len_eq are, Array.length_toList]
        have val : ∀ (i : Nat) (v : Value), items[i]? = some v → ∃ t, v = .str (l.getD i Str.empty) t := fun i v e => SS.strs_at are i v (by rw [Array.getElem?_toList]; exact e)
        refine loop_texts ((Walks.list noH3 _ a ne items).toS) s.heap.objs.size apart l hsz (by rw [← hsz]; exact hb) val (items.size - 0) 0 _ (by omega) (Nat.zero_le _) ⟨⟨_, Heap.get?_push_size _ rfl, rfl, rfl⟩, (isl2.push _)⟩ ?st ?go
        case st =>
          have g2 : ((s.heap.push { cls := .type "set", dict := none, data := .set #[] 0 (.fresh 0 0 led) }).push { cls := .type "list_iterator", data := .fields #[.ref a, .int 0 0] }).get? s.heap.objs.size
              = some { cls := .type "set", dict := none, data := .set #[] 0 (.fresh 0 0 led) } := Heap.get?_push_of_some _ got
          exact SetOf_congr ((setObjOf_fresh (knd := PySem.strKind pr wd) led).setOf g2 (by unfold scanBound; omega)) (fun _ => rfl) rfl
        case go =>
          intro s3 mv st3
          obtain ⟨h3, g3, d3, t3, o3⟩ := s3
          have eg : g3 = s.gens := mv.gens
          have ed : d3 = s.drawn := mv.drawn
          have eo : o3 = s.os := mv.os
          subst eg ed eo
          refine wpAny_pure ?_
          show wpAny _ _ (ret Value.none) _ _ _
          refine wpAny_pure ⟨rfl, h3, t3, rfl, st3, fun b o hb e => ?_⟩
          refine mv.heap b o ?_ (Heap.get?_push_of_some _ (Heap.get?_push_of_some _ e))
          rw [Heap.size_push]
          intro z
          rcases List.mem_cons.mp z with z | z
          · exact Nat.ne_of_lt hb z
          · exact Nat.ne_of_lt (Nat.lt_succ_of_lt hb) (List.mem_singleton.mp z)
      · cases r2 with
        | error e => exact hr2
        | ok f2 =>
          cases f2 with
          | ret r =>
            obtain ⟨rfl, h2, tk, rfl, st2, kp⟩ := hr2
            repeat (any_goals (first | assumption | wp_step))
            exact q _ _ st2 kp
          | _ => exact hr2.elim
    | _ => exact hr.elim
end
def tLenSetT (K : PySem.W.Frag) (ta : TE) : TE := fun σ H Q => ta σ H fun x H1 => ∃ (p : Addr) (l : List Str), x = .ref p ∧ SqL K H1 p (l.map V.str) ∧ l.length ≤ 4000 ∧ Q (.int (unlike l).length) H1
theorem pe_lenSetT {X : Cx} {a : Expr} {ta : TE} {p p2 q pos : Pos} (hg : Gl X "len") (hm : X.mg "len" = none) (hg2 : Gl X "set") (hm2 : X.mg "set" = none) (ha : PE X a ta) (hc : X.calm = true := by rfl)
    (na : starEach [a] X.env = (false, eval a X.env) :: starEach [] X.env := by rfl) : PE X (.Call (.Name "len" p) [.Call (.Name "set" p2) [a] [] q] [] pos) (tLenSetT X.K ta) := by
  refine ⟨fun pins s σ H Q I h => Call_ (ld_blt I hg hm boot_len ?_)⟩
  refine PyProof.Rows.callWith_builtin1 (PyProof.Rows.args_cons (Call_ (ld_blt I hg2 hm2 boot_set ?_)) rfl) rfl rfl
  refine PyProof.Rows.callWith_type1 (PyProof.Rows.args_cons (thn (ha.run pins s σ H _ I h) fun v s1 ⟨x, H1, I1, r1, w⟩ => PyProof.Rows.args_nil ?_) na) na rfl
  obtain ⟨u, l, rfl, sq, hl, w⟩ := w
  cases r1
  obtain ⟨its, r, pl, _⟩ := I1.list sq
  refine call_set_texts (I1.ok.hd hc) pl.isList (by simpa using strsAre_of r) (by unfold scanBound; omega) fun h2 tk st kp => PyProof.Rows.args_nil ?_
  obtain ⟨o, es, ep, t, ho, hex, hd, _, _, _, hf, hn⟩ := st
  have I2 : Inv X pins σ H1 { s1 with heap := h2, toks := tk } := I1.kept fun b o e => kp b o (Heap.lt_size e) e
  have := unlike_le l
  exact call_len_set ho hex hd hf (by rw [hn]; omega) ⟨.int (unlike l).length, H1, I2.tok _, ⟨_, by rw [hn]⟩, w⟩
end TW

-- TWMeth
namespace TW
open PySem PySem.Spec PyProof.Rows L2

theorem PE.or {X : Cx} {e : Expr} {t1 t2 : TE} (h1 : PE X e t1) (h2 : PE X e t2) : PE X e (fun σ H Q => t1 σ H Q ∨ t2 σ H Q) :=
  ⟨fun pins s σ H Q I h => h.elim (h1.run pins s σ H Q I) (h2.run pins s σ H Q I)⟩
theorem countP_eqU {y : V} : ∀ {ys : List V} {us : List Value}, Vals ys us → ys.all flatV = true → us.countP (eqU y) = ys.countP fun z => eqV z y
  | [], _, .nil, _ => rfl
  | z :: ys, u :: us, .cons r t, f => by
    rw [List.all_cons, Bool.and_eq_true] at f
    rw [List.countP_cons, List.countP_cons, countP_eqU t f.2, eqU_of r f.1]
def rCntL (K : PySem.W.Frag) : V → List V → Hp → VK → Prop := fun x xs H Q => ∃ (p : Addr) (ys : List V) (y : V), x = .ref p ∧ xs = [y] ∧ SqL K H p ys ∧ flatV y = true ∧ ys.all flatV = true ∧ Q (.int (ys.countP fun z => eqV z y : Nat)) H
def rCntT (K : PySem.W.Frag) : V → List V → Hp → VK → Prop := fun x xs H Q => ∃ (p : Addr) (ys : List V) (y : V), x = .ref p ∧ xs = [y] ∧ SqT K H p ys ∧ flatV y = true ∧ ys.all flatV = true ∧ Q (.int (ys.countP fun z => eqV z y : Nat)) H
section
variable {X : Cx}
theorem mt_cntL : MtR X "list.count" (rCntL X.K) := by
  intro pins s σ H x xs v us Q I rx rxs h
  obtain ⟨p, ys, y, rfl, rfl, hs, fy, fs, q⟩ := h
  cases rx
  obtain ⟨u, rfl, ru⟩ := rxs.one
  obtain ⟨its, rv, ⟨⟨cls, dd, data, sl⟩, n, ho, hc, hdn, hd⟩, hlen⟩ := I.list hs
  simp only at hc hd
  subst hc hd
  refine call_meets PySem.F.slot_list_count ⟨_, ho, rfl⟩ PySem.F.entry_list_count (PySem.F.args_list_count_2 _ _)
    (SeqAt.list_countAt p its.toArray n dd sl u (eqU y)) ⟨ho, fun w hw => mem_eqAt ru fy rv fs w (by simpa using hw), ?_⟩
  exact ⟨.int (ys.countP fun z => eqV z y : Nat), H, I.tok _, ⟨s.toks, by rw [show its.toArray.toList = its by simp, countP_eqU rv fs]⟩, q⟩
theorem mt_cntT : MtR X "tuple.count" (rCntT X.K) := by
  intro pins s σ H x xs v us Q I rx rxs h
  obtain ⟨p, ys, y, rfl, rfl, hs, fy, fs, q⟩ := h
  cases rx
  obtain ⟨u, rfl, ru⟩ := rxs.one
  obtain ⟨its, rv, ⟨⟨cls, dd, data, sl⟩, ho, hc, n, hd⟩, hlen⟩ := I.tuple hs
  simp only at hc hd
  subst hc hd
  refine call_meets PySem.F.slot_tuple_count ⟨_, ho, rfl⟩ PySem.F.entry_tuple_count (PySem.F.args_tuple_count_2 _ _)
    (SeqAt.tuple_countAt p its.toArray n dd sl u (eqU y)) ⟨ho, fun w hw => mem_eqAt ru fy rv fs w (by simpa using hw), ?_⟩
  exact ⟨.int (ys.countP fun z => eqV z y : Nat), H, I.tok _, ⟨s.toks, by rw [show its.toArray.toList = its by simp, countP_eqU rv fs]⟩, q⟩
def tTM (r : V → List V → Hp → VK → Prop) (to : TE) (t : TA) : TE := fun σ H Q => to σ H fun x H1 => (∃ (p : Addr) (xs : List V) (o : Obj), x = .ref p ∧ o.dict = none ∧ H1 p = some (.frz o (.tup xs))) ∧ t σ H1 fun xs H2 => r x xs H2 Q
theorem pe_tm {o e : Expr} {es : List Expr} {to : TE} {t : TA} {name : Str} {apos cpos : Pos} {id : String} {r : V → List V → Hp → VK → Prop} (pa : PlainAttrs "tuple") (slot : Slot "tuple" name id) (hty : typeOf (.builtin id) = pure (.type "method_descriptor")) (hm : MtR X id r) (ho : PE X o to) (ha : PA X (e :: es) t)
    (hbase : attributeBase o name X.env (eval o X.env) = eval o X.env := by rfl)
    (hfew : ((backTo cpos (starEach (e :: es) X.env)).all (fun x => !x.1) && (backToKw cpos (keywordEach [] X.env)).all (fun x => x.1.isSome) && decide ((e :: es).length + ([] : List Keyword).length + (if ([] : List Keyword).isEmpty then 0 else 1) < 30)) = true := by rfl)
    (hline : (apos.endLine == cpos.line) = true := by rfl) (hs : starEach (e :: es) X.env = (false, eval e X.env) :: starEach es X.env := by rfl) (hplain : (backTo cpos (starEach es X.env)).any (·.1) = false := by rfl) :
    PE X (.Call (.Attribute o name apos) (e :: es) [] cpos) (tTM r to t) := by
  refine ⟨fun pins s σ H Q I h => wpAny_Call_method_late hbase hfew hline rfl (thn (ho.run pins s σ H _ I h) fun v s1 w => ?_)⟩
  obtain ⟨x, H1, I1, r1, ⟨p, xs, ob, rfl, hdn, hp⟩, q1⟩ := w
  cases r1
  obtain ⟨hget, _⟩ := I1.hok p _ hp
  obtain ⟨its, rv, pl, hlen⟩ := I1.tuple (a := p) (xs := xs) (.inl (.inr ⟨ob, hp⟩))
  refine ⟨"tuple", id, pa, slot, hty, pl.typeIs, fun a e => ?_, ?_⟩
  · cases e
    exact ⟨ob, hget, hdn⟩
  have hA := ha.run cpos pins s1 σ H1 _ I1 q1
  rw [hs] at hA ⊢
  refine Calls.callWith_builtin (by show (false || (backTo cpos (starEach es X.env)).any fun x => x.1) = false; rw [hplain]; rfl) (Calls.evalArgs_plain ?_)
  exact thn hA fun us s2 ⟨vs, H2, I2, r2, q2⟩ => hm pins s2 σ H2 (.ref p) vs (.ref p) us Q I2 rfl r2 q2
end
def mMeth (g : D → D → Option D) (mo me : Rho → Res D) : Rho → Res D := fun ρ => (mo ρ).bind fun x => (noX (me ρ)).bind fun y => ofO (g x y)
@[simp] theorem mMeth_eq {g : D → D → Option D} {mo me : Rho → Res D} {ρ : Rho} : mMeth g mo me ρ = (mo ρ).bind fun x => (noX (me ρ)).bind fun y => ofO (g x y) := id rfl
def MetV (K : PySem.W.Frag) (r : V → List V → Hp → VK → Prop) (g : D → D → Option D) (n : Nat) (P : D → Prop) : Prop :=
  ∀ x y d e z H B1 B2 (Q : VK), P d → Dat K H d 0 x [] B1 → Dat K H e 0 y [] B2 → g d e = some z → (∀ v H' A, Same H H' → Dat K H' z n v A [] → A.Nodup → (∀ a ∈ A, H a = none) → Q v H') → r x [y] H Q
section
variable {X : Cx} {W : WX} {Γ : List Nat} {n : Nat} {o e : Expr} {mo me : Rho → Res D} {g : D → D → Option D} {r : V → List V → Hp → VK → Prop} {C : V → Hp → Prop} {P : D → Prop}
theorem meth_run {to : TE} {te : TA} {F : Fr} {H0 : Hp} {ρ : Rho} {σ : L2.St} {H : Hp} {S R : Nat → List Addr} {Q : VK}
    (qo : ∀ F H0 ρ σ H S R Q, Sto X.K F H0 Γ ρ σ H S R → PostX X W σ H (fun d => ∀ x H' B, Same H H' → Dat X.K H' d 0 x [] B → Q x H') (mo ρ) → to σ H Q)
    (qe : ∀ F H0 ρ σ H S R Q, Sto X.K F H0 Γ ρ σ H S R → PostX X W σ H (fun ds => ∀ xs H' B, Same H H' → Dats X.K H' ds 0 xs [] B → Q xs H') (mA1 me mA0 ρ) → te σ H Q)
    (hC : ∀ d x H B, P d → Dat X.K H d 0 x [] B → C x H) (hv : MetV X.K r g n P) (hP : ∀ d e z, mo ρ = .ok d → g d e = some z → P d) (st : Sto X.K F H0 Γ ρ σ H S R) (po : PostE X W (Av F S) n true σ H Q (mMeth g mo me ρ)) :
    to σ H fun x H1 => C x H1 ∧ te σ H1 fun xs H2 => r x xs H2 Q := by
  refine qo F H0 ρ σ H S R _ st ((PostE.iff.mp po).bind.imp fun d ed po => ?_)
  intro x H1 B1 s1 d1
  obtain ⟨y, ey, z, ez, po⟩ : ∃ y, me ρ = .ok y ∧ ∃ z, g d y = some z ∧ PostV X.K (Av F S) n true H Q z := by
    cases h : me ρ with
    | ok y =>
      rw [h] at po
      obtain ⟨z, ez, po⟩ := PostE.ofO (PostE.iff.mpr po)
      exact ⟨y, rfl, z, ez, po⟩
    | exn c => rw [h] at po; exact po.elim
    | stuck => rw [h] at po; exact po.elim
  have hp := hP d y z ed ez
  refine ⟨hC d x H1 B1 hp d1, qe F H0 ρ σ H1 S R _ (st.grow s1) ?_⟩
  have : mA1 me mA0 ρ = .ok [y] := by show (me ρ).bind _ = _; rw [ey]; rfl
  rw [this]
  intro xs H2 B2 s2 d2
  obtain ⟨v, rfl, d2'⟩ := dats1 d2
  refine hv x v d y z H2 B1 B2 Q hp (d1.same s2) d2' ez fun u H' A s3 gz nd nw => po u H' A [] ((s1.trans s2).trans s3) gz (fun a z => by simp at z) fun _ => ⟨nd, fun a ha => ⟨(s1.trans s2).free (nw a ha), by simp⟩⟩
end
def gIndex (d e : D) : Option D := match d, e with
  | .lst l, .int k => (intsOf l).bind fun ns => (ns.findIdx? (· == k)).map fun j : Nat => .int j
  | .lst l, .str z => (strsOf l).bind fun ss => (ss.findIdx? (· == z)).map fun j : Nat => .int j
  | .ftup l, .str z => (strsOf l).bind fun ss => (ss.findIdx? (· == z)).map fun j : Nat => .int j
  | _, _ => none
def gCount (d e : D) : Option D := match d, e with
  | .lst l, .int k => (intsOf l).map fun ns => .int (ns.count k : Nat)
  | .lst l, .str z => (strsOf l).map fun ss => .int (ss.count z : Nat)
  | .ftup l, .str z => (strsOf l).map fun ss => .int (ss.count z : Nat)
  | _, _ => none
def D.isLst : D → Prop
  | .lst _ => True
  | _ => False
def D.isFt : D → Prop
  | .ftup _ => True
  | _ => False
section
variable {K : PySem.W.Frag}
theorem first_int {ns : List Int} {k : Int} {j : Nat} (h : ns.findIdx? (· == k) = some j) : (ns.map V.int)[j]? = some (.int k) ∧ ∀ (m : Nat) (z : V), m < j → (ns.map V.int)[m]? = some z → eqV z (.int k) = false := by
  obtain ⟨hj, e, hno⟩ := List.findIdx?_eq_some_iff_getElem.mp h
  refine ⟨by rw [List.getElem?_map, List.getElem?_eq_getElem hj, eq_of_beq e]; rfl, fun m z hm ez => ?_⟩
  rw [List.getElem?_map, List.getElem?_eq_getElem (by omega)] at ez
  cases ez
  show (ns[m] == k) = false
  simpa using hno m hm
theorem first_str {ns : List Str} {k : Str} {j : Nat} (h : ns.findIdx? (· == k) = some j) : ns[j]? = some k ∧ ∀ m, m < j → ns[m]? ≠ some k := by
  obtain ⟨hj, e, hno⟩ := List.findIdx?_eq_some_iff_getElem.mp h
  refine ⟨by rw [List.getElem?_eq_getElem hj, eq_of_beq e], fun m hm ez => ?_⟩
  rw [List.getElem?_eq_getElem (by omega)] at ez
  have := hno m hm
  simp at ez this
  exact this ez
theorem flat_ints (ns : List Int) : (ns.map V.int).all flatV = true := by
  rw [List.all_map]
  exact List.all_eq_true.mpr fun _ _ => rfl
theorem mv_indexL {n : Nat} : MetV K (rIndex K) gIndex n D.isLst := by
  intro x y d e z H B1 B2 Q hp h1 h2 ez po
  cases d with
  | lst l =>
    obtain ⟨a, xs, R', rfl, q, rfl, hd⟩ := dat_lst0 h1
    cases e with
    | int k =>
      obtain ⟨ns, e1, e2⟩ := Option.bind_eq_some_iff.mp (show ((intsOf l).bind fun ns => (ns.findIdx? (· == k)).map fun j : Nat => D.int j) = some z from ez)
      obtain ⟨j, e3, rfl⟩ := Option.map_eq_some_iff.mp e2
      obtain ⟨f1, f2⟩ := first_int e3
      rw [dats_ints e1 hd] at q
      exact ⟨a, _, .int k, j, .int k, rfl, by rw [dat_int h2], .of q, rfl, flat_ints ns, f1, beq_self_eq_true k, f2, po _ H [] (Same.refl H) (dat_of_int n) List.nodup_nil (fun a z => by simp at z)⟩
    | str k =>
      obtain ⟨ns, e1, e2⟩ := Option.bind_eq_some_iff.mp (show ((strsOf l).bind fun ns => (ns.findIdx? (· == k)).map fun j : Nat => D.int j) = some z from ez)
      obtain ⟨j, e3, rfl⟩ := Option.map_eq_some_iff.mp e2
      obtain ⟨f1, f2⟩ := first_str e3
      rw [dats_strs e1 hd] at q
      refine ⟨a, _, .str k, j, .str k, rfl, by rw [dat_str h2], .of q, rfl, flat_strs ns, by rw [List.getElem?_map, f1]; rfl, beq_self_eq_true k, fun m z hm ez => ?_, po _ H [] (Same.refl H) (dat_of_int n) List.nodup_nil (fun a z => by simp at z)⟩
      rw [List.getElem?_map] at ez
      cases em : ns[m]? with
      | none => rw [em] at ez; cases ez
      | some u =>
        rw [em] at ez
        cases ez
        exact beq_eq_false_iff_ne.mpr fun q => f2 m hm (by rw [em, q])
    | _ => cases ez
  | _ => exact hp.elim
theorem mv_indexT {n : Nat} : MetV K (fun x xs H Q => ∃ p, ∃ ys : List Str, ∃ z j, x = .ref p ∧ xs = [.str z] ∧ SqT K H p (ys.map V.str) ∧ ys[j]? = some z ∧ (∀ m, m < j → ys[m]? ≠ some z) ∧ Q (.int (j : Nat)) H) gIndex n D.isFt := by
  intro x y d e z H B1 B2 Q hp h1 h2 ez po
  cases d with
  | ftup l =>
    obtain ⟨a, xs, rfl, q, hd⟩ := dat_ftup0 h1
    cases e with
    | str k =>
      obtain ⟨ns, e1, e2⟩ := Option.bind_eq_some_iff.mp (show ((strsOf l).bind fun ns => (ns.findIdx? (· == k)).map fun j : Nat => D.int j) = some z from ez)
      obtain ⟨j, e3, rfl⟩ := Option.map_eq_some_iff.mp e2
      obtain ⟨f1, f2⟩ := first_str e3
      rw [dats_strs e1 hd] at q
      exact ⟨a, ns, k, j, rfl, by rw [dat_str h2], sqt_frz q, f1, f2, po _ H [] (Same.refl H) (dat_of_int n) List.nodup_nil (fun a z => by simp at z)⟩
    | _ => cases ez
  | _ => exact hp.elim
theorem count_int (k : Int) : ∀ ns : List Int, (ns.map V.int).countP (fun z => eqV z (.int k)) = ns.count k
  | [] => rfl
  | a :: l => by rw [List.map_cons, List.countP_cons, List.count_cons, count_int k l]; rfl
theorem count_str (k : Str) : ∀ ns : List Str, (ns.map V.str).countP (fun z => eqV z (.str k)) = ns.count k
  | [] => rfl
  | a :: l => by rw [List.map_cons, List.countP_cons, List.count_cons, count_str k l]; rfl
theorem mv_countL {n : Nat} : MetV K (rCntL K) gCount n D.isLst := by
  intro x y d e z H B1 B2 Q hp h1 h2 ez po
  cases d with
  | lst l =>
    obtain ⟨a, xs, R', rfl, q, rfl, hd⟩ := dat_lst0 h1
    cases e with
    | int k =>
      obtain ⟨ns, e1, rfl⟩ := Option.map_eq_some_iff.mp (show ((intsOf l).map fun ns => D.int (ns.count k : Nat)) = some z from ez)
      rw [dats_ints e1 hd] at q
      exact ⟨a, _, .int k, rfl, by rw [dat_int h2], .of q, rfl, flat_ints ns, by rw [count_int]; exact po _ H [] (Same.refl H) (dat_of_int n) List.nodup_nil (fun a z => by simp at z)⟩
    | str k =>
      obtain ⟨ns, e1, rfl⟩ := Option.map_eq_some_iff.mp (show ((strsOf l).map fun ns => D.int (ns.count k : Nat)) = some z from ez)
      rw [dats_strs e1 hd] at q
      exact ⟨a, _, .str k, rfl, by rw [dat_str h2], .of q, rfl, flat_strs ns, by rw [count_str]; exact po _ H [] (Same.refl H) (dat_of_int n) List.nodup_nil (fun a z => by simp at z)⟩
    | _ => cases ez
  | _ => exact hp.elim
theorem mv_countT {n : Nat} : MetV K (rCntT K) gCount n D.isFt := by
  intro x y d e z H B1 B2 Q hp h1 h2 ez po
  cases d with
  | ftup l =>
    obtain ⟨a, xs, rfl, q, hd⟩ := dat_ftup0 h1
    cases e with
    | str k =>
      obtain ⟨ns, e1, rfl⟩ := Option.map_eq_some_iff.mp (show ((strsOf l).map fun ns => D.int (ns.count k : Nat)) = some z from ez)
      rw [dats_strs e1 hd] at q
      exact ⟨a, _, .str k, rfl, by rw [dat_str h2], sqt_frz q, rfl, flat_strs ns, by rw [count_str]; exact po _ H [] (Same.refl H) (dat_of_int n) List.nodup_nil (fun a z => by simp at z)⟩
    | _ => cases ez
  | _ => exact hp.elim
theorem ty_lst {d : D} {x : V} {H : Hp} {B : List Addr} (p : d.isLst) (h : Dat K H d 0 x [] B) : tyV K "list" x H := by
  cases d with
  | lst l =>
    obtain ⟨a, xs, R', rfl, q, _⟩ := dat_lst0 h
    exact .inl ⟨rfl, xs, .of q⟩
  | _ => exact p.elim
theorem ty_ft {d : D} {x : V} {H : Hp} {B : List Addr} (p : d.isFt) (h : Dat K H d 0 x [] B) : ∃ (p : Addr) (xs : List V) (o : Obj), x = .ref p ∧ o.dict = none ∧ H p = some (.frz o (.tup xs)) := by
  cases d with
  | ftup l =>
    obtain ⟨a, xs, rfl, ⟨o, h1, h2⟩, _⟩ := dat_ftup0 h
    exact ⟨a, xs, o, rfl, h1, h2⟩
  | _ => exact p.elim
end
section
variable {X : Cx} {W : WX} {Γ : List Nat} {n : Nat} {o e : Expr} {mo me : Rho → Res D} {apos cpos : Pos}
theorem re_seqM {name : Str} {idL idT : String} {rL rT : V → List V → Hp → VK → Prop} {g : D → D → Option D} (sL : Slot "list" name idL) (tL : typeOf (.builtin idL) = pure (.type "method_descriptor")) (mL : MtR X idL rL) (sT : Slot "tuple" name idT) (tT : typeOf (.builtin idT) = pure (.type "method_descriptor")) (mT : MtR X idT rT)
    (vL : MetV X.K rL g n D.isLst) (vT : MetV X.K rT g n D.isFt) (hg : ∀ d e z, g d e = some z → d.isLst ∨ d.isFt) (ho : RB X W Γ o mo) (he : RB X W Γ e me)
    (hbase : attributeBase o name X.env (eval o X.env) = eval o X.env) (hfew : ((backTo cpos (starEach [e] X.env)).all (fun x => !x.1) && (backToKw cpos (keywordEach [] X.env)).all (fun x => x.1.isSome) && decide ([e].length + ([] : List Keyword).length + (if ([] : List Keyword).isEmpty then 0 else 1) < 30)) = true)
    (hline : (apos.endLine == cpos.line) = true) (hs : starEach (e :: []) X.env = (false, eval e X.env) :: starEach [] X.env) (hplain : (backTo cpos (starEach [] X.env)).any (·.1) = false) :
    RE X W Γ n true (.Call (.Attribute o name apos) [e] [] cpos) (mMeth g mo me) := by
  obtain ⟨to, po', qo⟩ := ho
  obtain ⟨te, pe', qe⟩ := rab_cons (es := []) he rab_nil hs
  refine ⟨_, PE.or (pe_bm PySem.F.plainAttrs_list sL tL mL po' pe' hbase hfew hline hs hplain) (pe_tm PySem.F.plainAttrs_tuple sT tT mT po' pe' hbase hfew hline hs hplain), fun F H0 ρ σ H S R Q st po => ?_⟩
  by_cases hd : ∃ d, mo ρ = .ok d ∧ d.isFt
  · obtain ⟨d, ed, hd⟩ := hd
    exact .inr (meth_run qo qe (fun d x H B p h => ty_ft p h) vT (fun d' e z q _ => by rw [ed] at q; cases q; exact hd) st po)
  · exact .inl (meth_run qo qe (fun d x H B p h => ty_lst p h) vL (fun d' e z q ez => (hg d' e z ez).resolve_right fun w => hd ⟨d', q, w⟩) st po)
theorem gIndex_ty {d e z : D} (h : gIndex d e = some z) : d.isLst ∨ d.isFt := by
  cases d with
  | lst l => exact .inl trivial
  | ftup l => exact .inr trivial
  | _ => cases e <;> cases h
theorem gCount_ty {d e z : D} (h : gCount d e = some z) : d.isLst ∨ d.isFt := by
  cases d with
  | lst l => exact .inl trivial
  | ftup l => exact .inr trivial
  | _ => cases e <;> cases h
theorem re_index (ho : RB X W Γ o mo) (he : RB X W Γ e me)
    (hbase : attributeBase o "index" X.env (eval o X.env) = eval o X.env := by rfl) (hfew : ((backTo cpos (starEach [e] X.env)).all (fun x => !x.1) && (backToKw cpos (keywordEach [] X.env)).all (fun x => x.1.isSome) && decide ([e].length + ([] : List Keyword).length + (if ([] : List Keyword).isEmpty then 0 else 1) < 30)) = true := by rfl)
    (hline : (apos.endLine == cpos.line) = true := by rfl) (hs : starEach (e :: []) X.env = (false, eval e X.env) :: starEach [] X.env := by rfl) (hplain : (backTo cpos (starEach [] X.env)).any (·.1) = false := by rfl) :
    RE X W Γ n true (.Call (.Attribute o "index" apos) [e] [] cpos) (mMeth gIndex mo me) :=
  re_seqM PySem.F.slot_list_index PySem.F.type_list_index mt_index PySem.F.slot_tuple_index PySem.F.type_tuple_index mt_tup_index mv_indexL mv_indexT (fun _ _ _ => gIndex_ty) ho he hbase hfew hline hs hplain
theorem re_count (ho : RB X W Γ o mo) (he : RB X W Γ e me)
    (hbase : attributeBase o "count" X.env (eval o X.env) = eval o X.env := by rfl) (hfew : ((backTo cpos (starEach [e] X.env)).all (fun x => !x.1) && (backToKw cpos (keywordEach [] X.env)).all (fun x => x.1.isSome) && decide ([e].length + ([] : List Keyword).length + (if ([] : List Keyword).isEmpty then 0 else 1) < 30)) = true := by rfl)
    (hline : (apos.endLine == cpos.line) = true := by rfl) (hs : starEach (e :: []) X.env = (false, eval e X.env) :: starEach [] X.env := by rfl) (hplain : (backTo cpos (starEach [] X.env)).any (·.1) = false := by rfl) :
    RE X W Γ n true (.Call (.Attribute o "count" apos) [e] [] cpos) (mMeth gCount mo me) :=
  re_seqM PySem.F.slot_list_count PySem.F.type_list_count mt_cntL PySem.F.slot_tuple_count PySem.F.type_tuple_count mt_cntT mv_countL mv_countT (fun _ _ _ => gCount_ty) ho he hbase hfew hline hs hplain
end
end TW

-- TWText
namespace TW
open PySem PySem.Spec PyProof.Rows L2
def D.isStr : D → Prop
  | .str _ => True
  | _ => False
theorem ty_str {K : PySem.W.Frag} {d : D} {x : V} {H : Hp} {B : List Addr} (p : d.isStr) (h : Dat K H d 0 x [] B) : tyV K "str" x H := by
  cases d with
  | str s => rw [dat_str h]; rfl
  | _ => exact p.elim
def rJoin (K : PySem.W.Frag) : V → List V → Hp → VK → Prop := fun x xs H Q => ∃ a p, ∃ ys : List Str, x = .str a ∧ xs = [.ref p] ∧ (SqL K H p (ys.map V.str) ∨ SqT K H p (ys.map V.str)) ∧ (ys.map (·.length)).sum + ys.length * a.length ≤ 16777216 ∧ Q (.str (Txt.join a ys)) H
def joinO (a : Str) (ys : List Str) : Option D := if (ys.map (·.length)).sum + ys.length * a.length ≤ 16777216 then some (.str (Txt.join a ys)) else none
def gJoin (d e : D) : Option D := match d, e with
  | .str a, .lst l => (strsOf l).bind (joinO a)
  | .str a, .tup l => (strsOf l).bind (joinO a)
  | .str a, .ftup l => (strsOf l).bind (joinO a)
  | _, _ => none
def rSplit : V → List V → Hp → VK → Prop := fun x xs H Q => ∃ a b, x = .str a ∧ xs = [.str b] ∧ (b.length == 0) = false ∧ a.length + 2 ≤ sizeLine ∧ rNewStrs (Txt.split a b) H Q
def gSplit (d e : D) : Option D := match d, e with
  | .str a, .str b => if (b.length == 0) = false ∧ a.length + 2 ≤ sizeLine then some (.lst ((Txt.split a b).map .str)) else none
  | _, _ => none
def rPart : V → List V → Hp → VK → Prop := fun x xs H Q => ∃ a b, x = .str a ∧ xs = [.str b] ∧ (b.length == 0) = false ∧ a.length ≤ sizeLine ∧ ∀ p, H p = none → Q (.ref p) (upd H p (.tup [.str (Txt.partition a b).1, .str (Txt.partition a b).2.1, .str (Txt.partition a b).2.2]))
def gPart (d e : D) : Option D := match d, e with
  | .str a, .str b => if (b.length == 0) = false ∧ a.length ≤ sizeLine then some (.tup [.str (Txt.partition a b).1, .str (Txt.partition a b).2.1, .str (Txt.partition a b).2.2]) else none
  | _, _ => none
section
variable {K : PySem.W.Frag}
theorem mv_join {n : Nat} : MetV K (rJoin K) gJoin n D.isStr := by
  intro x y d e z H B1 B2 Q hp h1 h2 ez po
  cases d with
  | str a =>
    have fin : ∀ (l : List D) (p : Addr) (xs : List V) (B : List Addr), y = .ref p → (SqL K H p xs ∨ SqT K H p xs) → Dats K H l 0 xs [] B → (strsOf l).bind (joinO a) = some z → rJoin K x [y] H Q := by
      intro l p xs B ey sq hd e
      obtain ⟨ys, e1, e2⟩ := Option.bind_eq_some_iff.mp e
      unfold joinO at e2
      split at e2
      · rename_i hl
        cases e2
        rw [dats_strs e1 hd] at sq
        exact ⟨a, p, ys, dat_str h1, by rw [ey], sq, hl, po _ H [] (Same.refl H) (dat_of_str n) List.nodup_nil (fun a z => by simp at z)⟩
      · cases e2
    cases e with
    | lst l =>
      obtain ⟨p, xs, R', ey, q, _, hd⟩ := dat_lst0 h2
      exact fin l p xs R' ey (.inl (.of q)) hd ez
    | tup l =>
      obtain ⟨p, xs, ey, q, hd⟩ := dat_tup0 h2
      exact fin l p xs _ ey (.inr (.of q)) hd ez
    | ftup l =>
      obtain ⟨p, xs, ey, q, hd⟩ := dat_ftup0 h2
      exact fin l p xs _ ey (.inr (sqt_frz q)) hd ez
    | _ => cases ez
  | _ => exact hp.elim
theorem mv_split {n : Nat} : MetV K rSplit gSplit (n + 1) D.isStr := by
  intro x y d e z H B1 B2 Q hp h1 h2 ez po
  cases d with
  | str a =>
    cases e with
    | str b =>
      replace ez : (if (b.length == 0) = false ∧ a.length + 2 ≤ sizeLine then some (D.lst ((Txt.split a b).map .str)) else none) = some z := ez
      split at ez
      · rename_i hc
        cases ez
        refine ⟨a, b, dat_str h1, by rw [dat_str h2], hc.1, hc.2, fun p hp => po _ _ [p] (same_new hp) ?_ (by simp) (fun a z => by simp at z; rw [z]; exact hp)⟩
        unfold Dat
        exact ⟨p, _, [], rfl, upd_same, rfl, dats_of_strs _⟩
      · cases ez
    | _ => cases ez
  | _ => exact hp.elim
theorem mv_part {n : Nat} : MetV K rPart gPart n D.isStr := by
  intro x y d e z H B1 B2 Q hp h1 h2 ez po
  cases d with
  | str a =>
    cases e with
    | str b =>
      replace ez : (if (b.length == 0) = false ∧ a.length ≤ sizeLine then some (D.tup [.str (Txt.partition a b).1, .str (Txt.partition a b).2.1, .str (Txt.partition a b).2.2]) else none) = some z := ez
      split at ez
      · rename_i hc
        cases ez
        refine ⟨a, b, dat_str h1, by rw [dat_str h2], hc.1, hc.2, fun p hp => po _ _ [] (same_new hp) ?_ List.nodup_nil (fun a z => by simp at z)⟩
        unfold Dat
        exact ⟨p, _, rfl, upd_same, dats_of_strs [_, _, _]⟩
      · cases ez
    | _ => cases ez
  | _ => exact hp.elim
end
section
variable {X : Cx} {W : WX} {Γ : List Nat} {n : Nat} {o e : Expr} {mo me : Rho → Res D} {apos cpos : Pos}
theorem re_strM {name : Str} {id : String} {r : V → List V → Hp → VK → Prop} {g : D → D → Option D} (sl : Slot "str" name id) (ty : typeOf (.builtin id) = pure (.type "method_descriptor")) (m : MtR X id r) (hv : MetV X.K r g n D.isStr) (hg : ∀ d e z, g d e = some z → d.isStr) (ho : RB X W Γ o mo) (he : RB X W Γ e me)
    (hbase : attributeBase o name X.env (eval o X.env) = eval o X.env) (hfew : ((backTo cpos (starEach [e] X.env)).all (fun x => !x.1) && (backToKw cpos (keywordEach [] X.env)).all (fun x => x.1.isSome) && decide ([e].length + ([] : List Keyword).length + (if ([] : List Keyword).isEmpty then 0 else 1) < 30)) = true)
    (hline : (apos.endLine == cpos.line) = true) (hs : starEach (e :: []) X.env = (false, eval e X.env) :: starEach [] X.env) (hplain : (backTo cpos (starEach [] X.env)).any (·.1) = false) :
    RE X W Γ n true (.Call (.Attribute o name apos) [e] [] cpos) (mMeth g mo me) := by
  obtain ⟨to, po', qo⟩ := ho
  obtain ⟨te, pe', qe⟩ := rab_cons (es := []) he rab_nil hs
  exact ⟨_, pe_bm PySem.F.plainAttrs_str sl ty m po' pe' hbase hfew hline hs hplain, fun F H0 ρ σ H S R Q st po => meth_run qo qe (fun d x H B p h => ty_str p h) hv (fun d e z _ => hg d e z) st po⟩
theorem gJoin_ty {d e z : D} (h : gJoin d e = some z) : d.isStr := by
  cases d with
  | str l => trivial
  | _ => cases e <;> cases h
theorem gSplit_ty {d e z : D} (h : gSplit d e = some z) : d.isStr := by
  cases d with
  | str l => trivial
  | _ => cases e <;> cases h
theorem gPart_ty {d e z : D} (h : gPart d e = some z) : d.isStr := by
  cases d with
  | str l => trivial
  | _ => cases e <;> cases h
theorem re_join (ho : RB X W Γ o mo) (he : RB X W Γ e me)
    (hbase : attributeBase o "join" X.env (eval o X.env) = eval o X.env := by rfl) (hfew : ((backTo cpos (starEach [e] X.env)).all (fun x => !x.1) && (backToKw cpos (keywordEach [] X.env)).all (fun x => x.1.isSome) && decide ([e].length + ([] : List Keyword).length + (if ([] : List Keyword).isEmpty then 0 else 1) < 30)) = true := by rfl)
    (hline : (apos.endLine == cpos.line) = true := by rfl) (hs : starEach (e :: []) X.env = (false, eval e X.env) :: starEach [] X.env := by rfl) (hplain : (backTo cpos (starEach [] X.env)).any (·.1) = false := by rfl) :
    RE X W Γ n true (.Call (.Attribute o "join" apos) [e] [] cpos) (mMeth gJoin mo me) := re_strM PySem.F.slot_str_join PySem.F.type_str_join mt_join mv_join (fun _ _ _ => gJoin_ty) ho he hbase hfew hline hs hplain
theorem re_split (ho : RB X W Γ o mo) (he : RB X W Γ e me) (hn : n ≤ 1 := by decide)
    (hbase : attributeBase o "split" X.env (eval o X.env) = eval o X.env := by rfl) (hfew : ((backTo cpos (starEach [e] X.env)).all (fun x => !x.1) && (backToKw cpos (keywordEach [] X.env)).all (fun x => x.1.isSome) && decide ([e].length + ([] : List Keyword).length + (if ([] : List Keyword).isEmpty then 0 else 1) < 30)) = true := by rfl)
    (hline : (apos.endLine == cpos.line) = true := by rfl) (hs : starEach (e :: []) X.env = (false, eval e X.env) :: starEach [] X.env := by rfl) (hplain : (backTo cpos (starEach [] X.env)).any (·.1) = false := by rfl) :
    RE X W Γ n true (.Call (.Attribute o "split" apos) [e] [] cpos) (mMeth gSplit mo me) := RE.w (n := 1) (re_strM PySem.F.slot_str_split PySem.F.type_str_split mt_split (mv_split (n := 0)) (fun _ _ _ => gSplit_ty) ho he hbase hfew hline hs hplain) hn
theorem re_part (ho : RB X W Γ o mo) (he : RB X W Γ e me)
    (hbase : attributeBase o "partition" X.env (eval o X.env) = eval o X.env := by rfl) (hfew : ((backTo cpos (starEach [e] X.env)).all (fun x => !x.1) && (backToKw cpos (keywordEach [] X.env)).all (fun x => x.1.isSome) && decide ([e].length + ([] : List Keyword).length + (if ([] : List Keyword).isEmpty then 0 else 1) < 30)) = true := by rfl)
    (hline : (apos.endLine == cpos.line) = true := by rfl) (hs : starEach (e :: []) X.env = (false, eval e X.env) :: starEach [] X.env := by rfl) (hplain : (backTo cpos (starEach [] X.env)).any (·.1) = false := by rfl) :
    RE X W Γ n true (.Call (.Attribute o "partition" apos) [e] [] cpos) (mMeth gPart mo me) := re_strM PySem.F.slot_str_partition PySem.F.type_str_partition mt_partition mv_part (fun _ _ _ => gPart_ty) ho he hbase hfew hline hs hplain
end
def gStr : List D → Option D
  | [.int i] => if i.natAbs.log2 < 1920 then some (.str (toString i)) else none
  | _ => none
def gIntS : List D → Option D
  | [.str a] => if a.length ≤ 640 then (PySem.intText? a).map .int else none
  | _ => none
section
variable {K : PySem.W.Frag}
theorem cf_str : CallF K (fun xs H Q => ∃ i, xs = [.int i] ∧ i.natAbs.log2 < 1920 ∧ Q (.str (toString i)) H) gStr := by
  intro vs ds z H B Q h ez po
  unfold gStr at ez
  split at ez
  · rename_i i
    split at ez
    · rename_i hl
      cases ez
      obtain ⟨v, rfl, h9⟩ := dats1 h
      exact ⟨i, by rw [dat_int h9], hl, po rfl _ dat_of_str⟩
    · cases ez
  · cases ez
theorem cf_intS : CallF K (fun xs H Q => ∃ a n, xs = [.str a] ∧ PySem.intText? a = some n ∧ a.length ≤ 640 ∧ Q (.int n) H) gIntS := by
  intro vs ds z H B Q h ez po
  unfold gIntS at ez
  split at ez
  · rename_i a
    split at ez
    · rename_i hl
      obtain ⟨k, ek, rfl⟩ := Option.map_eq_some_iff.mp ez
      obtain ⟨v, rfl, h9⟩ := dats1 h
      exact ⟨a, k, by rw [dat_str h9], ek, hl, po rfl _ dat_of_int⟩
    · cases ez
  · cases ez
end
section
variable {X : Cx} {W : WX} {Γ : List Nat} {n : Nat} {e a : Expr} {es : List Expr} {p p2 q pos : Pos} {ma : Rho → Res (List D)} {me : Rho → Res D}
theorem re_strC (hm : X.mg "str" = none) (ha : RAB X W Γ [e] ma) (hg : Gl X "str" := by rfl)
    (he : starEach (e :: []) X.env = (false, eval e X.env) :: starEach [] X.env := by rfl) (hpl : (backTo pos (starEach [] X.env)).any (·.1) = false := by rfl) : RE X W Γ n true (.Call (.Name "str" p) [e] [] pos) (mL gStr ma) := re_callTF call_str_int cf_str hm boot_str ha hg (by decide) (by decide) he hpl
theorem re_intS (hm : X.mg "int" = none) (ha : RAB X W Γ [e] ma) (hg : Gl X "int" := by rfl)
    (he : starEach (e :: []) X.env = (false, eval e X.env) :: starEach [] X.env := by rfl) (hpl : (backTo pos (starEach [] X.env)).any (·.1) = false := by rfl) : RE X W Γ n true (.Call (.Name "int" p) [e] [] pos) (mL gIntS ma) := re_callTF call_int_str cf_intS hm boot_int ha hg (by decide) (by decide) he hpl
def gLenSetT : D → Option D
  | .lst l => (strsOf l).bind fun ss => if ss.length ≤ 4000 then some (.int (unlike ss).length) else none
  | _ => none
theorem re_lenSetT (hm : X.mg "len" = none) (hm2 : X.mg "set" = none) (ha : RB X W Γ a me) (hg : Gl X "len" := by rfl) (hg2 : Gl X "set" := by rfl) (hc : X.calm = true := by rfl)
    (na : starEach [a] X.env = (false, eval a X.env) :: starEach [] X.env := by rfl) : RE X W Γ n true (.Call (.Name "len" p) [.Call (.Name "set" p2) [a] [] q] [] pos) (m1 gLenSetT me) := by
  obtain ⟨ta, pa, qa⟩ := ha
  refine ⟨_, pe_lenSetT hg hm hg2 hm2 pa hc na, fun F H0 ρ σ H S R Q st po => ?_⟩
  refine qa F H0 ρ σ H S R _ st ((PostE.iff.mp po).bind.imp fun d _ po => ?_)
  intro x H1 B s1 d1
  obtain ⟨z, ez, po⟩ := PostE.ofO (PostE.iff.mpr po)
  cases d with
  | lst l =>
    obtain ⟨ss, e1, e2⟩ := Option.bind_eq_some_iff.mp (show ((strsOf l).bind fun ss => if ss.length ≤ 4000 then some (D.int (unlike ss).length) else none) = some z from ez)
    split at e2
    · rename_i hl
      cases e2
      obtain ⟨u, xs, R', rfl, q, _, hd⟩ := dat_lst0 d1
      rw [dats_strs e1 hd] at q
      exact ⟨u, ss, rfl, .of q, hl, PostV.flat (PostV.later po s1) rfl dat_of_int⟩
    · cases e2
  | _ => cases ez
end
def rTupF (K : PySem.W.Frag) : List V → Hp → VK → Prop := fun xs H Q => ∃ p ys, xs = [.ref p] ∧ SqL K H p ys ∧ ∀ l o, H l = none → o.dict = none → Q (.ref l) (upd H l (.frz o (.tup ys)))
theorem call_tupF {X : Cx} : CallR X (.type "tuple") (rTupF X.K) := by
  intro pins s σ H xs us Q I r h
  obtain ⟨p, ys, rfl, sq, q⟩ := h
  obtain ⟨u, rfl, rx⟩ := vals1 r
  cases rx
  obtain ⟨its, rv, pl, hz⟩ := I.list sq
  have hlen := rv.length
  refine call_tuple_list pl.isList (fun h2 kp => ?_) (by simp only [List.size_toArray] <;> omega)
  have I1 : Inv X pins σ H { s with heap := h2 } := I.kept (t' := s.toks) kp
  refine ⟨.ref h2.objs.size, _, I1.laid (o := .frz { cls := .type "tuple", data := .seq its.toArray } (.tup ys)) (t' := s.toks) (fun b o e => Heap.get?_push_of_some _ e) (Nat.le_refl _) ⟨Heap.get?_push_size _ rfl, hz, its, rv, IsTup.new _ _⟩, rfl, q _ _ (I1.hok.fresh (Nat.le_refl _)) rfl⟩
def gTupF : List D → Option D
  | [.lst l] => some (.ftup l)
  | _ => none
theorem new_ftup {K : PySem.W.Frag} {Z : Addr → Prop} {H : Hp} {Q : VK} {ds : List D} {xs : List V} {B : List Addr} {p : Addr} {o : Obj} {n : Nat} (po : PostV K Z n true H Q (.ftup ds)) (hp : H p = none) (ho : o.dict = none) (hd : Dats K H ds (n - 1) xs [] B) (hb : ∀ a ∈ B, ¬ Z a) : Q (.ref p) (upd H p (.frz o (.tup xs))) := by
  refine po (.ref p) _ [] B (same_new hp) ?_ hb fun _ => New.nil
  unfold Dat
  exact ⟨p, xs, rfl, ⟨o, ho, upd_same⟩, hd.same (same_new hp)⟩
theorem cv_tupF {K : PySem.W.Frag} {n : Nat} (hn : n ≤ 1 := by decide) : CallV K (rTupF K) gTupF n := by
  intro Z vs ds z H B Q hz h hb ez po
  have e0 : n - 1 = 0 := by omega
  unfold gTupF at ez
  split at ez
  · cases ez
    obtain ⟨v, rfl, h9⟩ := dats1 h
    obtain ⟨a, xs, R', rfl, q, rfl, hd⟩ := dat_lst0 h9
    exact ⟨a, xs, rfl, .of q, fun l o hl ho => new_ftup po hl ho (B := R') (by rw [e0]; exact hd) fun b hb' => hb b (List.mem_cons_of_mem _ hb')⟩
  · cases ez
section
variable {X : Cx} {W : WX} {Γ : List Nat} {n : Nat} {e a : Expr} {es : List Expr} {p p2 q pos : Pos} {ma : Rho → Res (List D)} {me : Rho → Res D}
theorem re_tupleF (hm : X.mg "tuple" = none) (ha : RA X W Γ 0 true [e] ma) (hn : n ≤ 1 := by decide) (hg : Gl X "tuple" := by rfl)
    (he : starEach (e :: []) X.env = (false, eval e X.env) :: starEach [] X.env := by rfl) (hpl : (backTo pos (starEach [] X.env)).any (·.1) = false := by rfl) : RE X W Γ n true (.Call (.Name "tuple" p) [e] [] pos) (mL gTupF ma) := re_callT call_tupF (cv_tupF hn) hm boot_tuple ha hg (by decide) (by decide) he hpl
end
end TW

-- TWDict
namespace TW
open PySem PySem.Spec PyProof.Rows L2
section
variable {X : Cx} {W : WX} {Γ : List Nat} {n : Nat} {a b : Expr} {pos : Pos} {ma mb : Rho → Res D}
theorem re_dK0 : RE X W Γ n true (.Dict [] [] pos) (mC (.dK [] [])) := by
  refine ⟨_, pe_dnewK, fun F H0 ρ σ H S R Q st po p hp => ?_⟩
  cases n with
  | zero =>
    refine po (.ref p) _ [] [p] (same_new hp) ?_ (fun a ha z => ?_) fun _ => New.nil
    · unfold Dat
      exact ⟨p, [], [], rfl, .of upd_same, rfl, rfl, rfl, .nil⟩
    · simp at ha; subst ha; exact st.avd _ z hp
  | succ n =>
    refine po (.ref p) _ [p] [] (same_new hp) ?_ (fun a z => by simp at z) fun _ => ⟨by simp, fun a z => by simp at z; rw [z]; exact ⟨hp, by simp⟩⟩
    show Dat X.K _ (.dK [] []) (n + 1) _ _ _
    unfold Dat
    exact ⟨p, [], [], rfl, upd_same, rfl, rfl, .nil⟩
theorem re_dT0 : RE X W Γ n true (.Dict [] [] pos) (mC (.dT [] [])) := by
  refine ⟨_, pe_dnewT, fun F H0 ρ σ H S R Q st po p hp => ?_⟩
  cases n with
  | zero =>
    refine po (.ref p) _ [] [p] (same_new hp) ?_ (fun a ha z => ?_) fun _ => New.nil
    · unfold Dat
      exact ⟨p, [], [], rfl, .of upd_same, rfl, rfl, rfl, .nil⟩
    · simp at ha; subst ha; exact st.avd _ z hp
  | succ n =>
    refine po (.ref p) _ [p] [] (same_new hp) ?_ (fun a z => by simp at z) fun _ => ⟨by simp, fun a z => by simp at z; rw [z]; exact ⟨hp, by simp⟩⟩
    show Dat X.K _ (.dT [] []) (n + 1) _ _ _
    unfold Dat
    exact ⟨p, [], [], rfl, upd_same, rfl, rfl, .nil⟩
end
def putL {κ : Type} [DecidableEq κ] (ks : List κ) (vs : List D) (k : κ) (v : D) : List κ × List D := match ks.idxOf? k with
  | some i => (ks, vs.set i v)
  | none => (ks ++ [k], vs ++ [v])
def putD (d k v : D) : Option D := match d with
  | .dK ks vs => if ks.length < sizeLine then (keyD k).map fun k => .dK (putL ks vs k v).1 (putL ks vs k v).2 else none
  | .dT ks vs => match k with
    | .tup l => if ks.length < sizeLine then (keysD l).map fun k => .dT (putL ks vs k v).1 (putL ks vs k v).2 else none
    | _ => none
  | _ => none
theorem putK_keys {κ : Type} [DecidableEq κ] (k : κ) (y : V) : ∀ (ws : List (κ × V)), (ws.map (·.1)).Nodup → putK ws k y = match (ws.map (·.1)).idxOf? k with
    | some i => (ws.map (·.1)).zip ((ws.map (·.2)).set i y)
    | none => ws ++ [(k, y)] := by
  intro ws nd
  have rep : ∀ ws : List (κ × V), (ws.map (·.1)).Nodup → ∀ i, (ws.map (·.1)).idxOf? k = some i → ws.map (fun kv => if kv.1 = k then (kv.1, y) else kv) = (ws.map (·.1)).zip ((ws.map (·.2)).set i y) := by
    intro ws
    induction ws with
    | nil => intro _ i h; simp at h
    | cons w ws ih =>
      intro nd i h
      rw [List.map_cons, List.nodup_cons] at nd
      rw [List.map_cons, List.idxOf?_cons] at h
      by_cases e : w.1 = k
      · simp only [e, beq_self_eq_true, if_true] at h
        cases h
        have : ws.map (fun kv => if kv.1 = k then (kv.1, y) else kv) = ws := by
          have : ∀ kv ∈ ws, (if kv.1 = k then (kv.1, y) else kv) = kv := fun kv hkv => if_neg fun q => nd.1 (by rw [e, ← q]; exact List.mem_map_of_mem hkv)
          rw [List.map_congr_left this, List.map_id']
        simp only [List.map_cons, if_pos e, this, List.set_cons_zero, List.zip_cons_cons]
        congr 1
        exact (List.zip_of_prod rfl rfl).symm ▸ rfl
      · have ne : (w.1 == k) = false := beq_eq_false_iff_ne.mpr e
        simp only [ne, if_false, Bool.false_eq_true, Option.map_eq_some_iff] at h
        obtain ⟨j, hj, rfl⟩ := h
        simp only [List.map_cons, if_neg e, List.set_cons_succ, List.zip_cons_cons]
        rw [ih nd.2 j hj]
  unfold putK
  cases q : (ws.map (·.1)).idxOf? k with
  | none =>
    have : ¬ k ∈ ws.map (·.1) := List.idxOf?_eq_none_iff.mp q
    rw [if_neg]
    simp only [List.any_eq_true, decide_eq_true_eq, not_exists, not_and]
    intro w hw e
    exact this (e ▸ List.mem_map_of_mem hw)
  | some i =>
    have : k ∈ ws.map (·.1) := by
      by_cases h : k ∈ ws.map (·.1)
      · exact h
      · rw [List.idxOf?_eq_none_iff.mpr h] at q; cases q
    rw [if_pos]
    · exact rep ws nd i q
    · simp only [List.any_eq_true, decide_eq_true_eq]
      obtain ⟨w, hw, e⟩ := List.mem_map.mp this
      exact ⟨w, hw, e⟩
theorem put_dats {κ : Type} [DecidableEq κ] {K : PySem.W.Frag} {H : Hp} {ws : List (κ × V)} {vs : List D} {n : Nat} {S R A B : List Addr} {k : κ} {v : D} {y : V} (h : Dats K H vs n (ws.map (·.2)) S R) (g : Dat K H v n y A B) (nd : (ws.map (·.1)).Nodup) :
    (putK ws k y).map (·.1) = (putL (ws.map (·.1)) vs k v).1 ∧ ∃ S2 R2, Dats K H (putL (ws.map (·.1)) vs k v).2 n ((putK ws k y).map (·.2)) S2 R2 ∧ (∀ b ∈ S2, b ∈ S ∨ b ∈ A) ∧ (S.Nodup → A.Nodup → (∀ b ∈ A, b ∉ S) → S2.Nodup) ∧ ∀ b ∈ R2, b ∈ R ∨ b ∈ B := by
  rw [putK_keys k y ws nd]
  unfold putL
  have hlen := h.length
  cases q : (ws.map (·.1)).idxOf? k with
  | none =>
    refine ⟨by simp, S ++ A, R ++ B, ?_, fun b hb => List.mem_append.mp hb, fun n1 n2 n3 => List.nodup_append.mpr ⟨n1, n2, fun a ha b hb e => n3 b hb (e ▸ ha)⟩, fun b hb => List.mem_append.mp hb⟩
    dsimp only
    rw [List.map_append]
    exact h.append (Dats.one g)
  | some i =>
    have hi : i < ws.length := by
      have := (List.idxOf?_eq_some_iff.mp q).1
      simpa using this
    obtain ⟨S2, R2, a1, a2, a3, a4⟩ := Dats.put (j := i) h (by rw [← hlen, List.length_map]; exact hi) g
    refine ⟨by dsimp only; rw [List.map_fst_zip (by simp)], S2, R2, ?_, a2, a3, a4⟩
    dsimp only
    rw [List.map_snd_zip (by simp)]
    exact a1
def rSetDN : TSet := fun o i v H Q => (∃ a kvs k, o = .ref a ∧ H a = some (.dK kvs) ∧ i = kV k ∧ kvs.length < sizeLine ∧ ((kvs.map (·.1)).Nodup → Q (L2.upd H a (.dK (putK kvs k v))))) ∨
  ∃ a kvs k b, o = .ref a ∧ H a = some (.dT kvs) ∧ i = .ref b ∧ H b = some (.tup (k.map kV)) ∧ kvs.length < sizeLine ∧ ((kvs.map (·.1)).Nodup → Q (L2.upd H a (.dT (putK kvs k v))))
theorem paired_keys {α β γ : Type} {R : γ × α → γ × β → Prop} {l : List (γ × α)} {m : List (γ × β)} (h : Paired R l m) (e : ∀ p q, R p q → p.1 = q.1) : l.map (·.1) = m.map (·.1) := by
  induction h with
  | nil => rfl
  | cons h t ih => rw [List.map_cons, List.map_cons, e _ _ h, ih]
theorem set_dictN {X : Cx} (hu : X.A.units + 1 < cLine) : PSet X rSetDN := by
  intro pins s σ H o i v ov iv u Q I ro ri rv h
  rcases h with ⟨a, kvs, k, rfl, e, rfl, hl, q⟩ | ⟨a, kvs, k, b, rfl, e, rfl, eb, hl, q⟩
  · obtain ⟨_, _, vs, rel, _, _, _, _, _, _, _, _, nd⟩ := dk_of I.hok e
    rw [← rel.keys] at nd
    exact set_dict hu pins s σ H (.ref a) (kV k) v ov iv u Q I ro ri rv ⟨a, _, rfl, DPut.k e hl, q nd⟩
  · obtain ⟨_, _, xs, rel, o, es, ep, _, _, _, _, nd⟩ := (show ObjOk X.prog X.w H s.heap a (.dT kvs) from I.hok a _ e)
    have ek := paired_keys rel fun _ _ z => z.1
    rw [← ek] at nd
    exact set_dict hu pins s σ H (.ref a) (.ref b) v ov iv u Q I ro ri rv ⟨a, _, rfl, DPut.t e eb hl, q nd⟩
def sPutD (i : Nat) (mp : Rho → Res (List D)) (mj me : Rho → Res D) : Rho → Out := atS i fun ρ => (me ρ).out ρ fun v => (mp ρ).out ρ fun p => (noX (mj ρ)).out ρ fun j => mutO i ρ p fun c => putD c j v
@[simp] theorem sPutD_eq {i : Nat} {mp : Rho → Res (List D)} {mj me : Rho → Res D} {ρ : Rho} : sPutD i mp mj me ρ = atS i (fun ρ => (me ρ).out ρ fun v => (mp ρ).out ρ fun p => (noX (mj ρ)).out ρ fun j => mutO i ρ p fun c => putD c j v) ρ := id rfl
section
variable {X : Cx} {W : WX} {Γ : List Nat} {n i len : Nat} {e a b o : Expr} {pos pos' : Pos} {mp : Rho → Res (List D)} {mb me mi : Rho → Res D}
theorem rs_putD (hu : X.A.units + 1 < cLine) (hp : RP X W Γ i len o mp) (hj : RE X W Γ 0 true b mi) (he : RE X W Γ (Γ.getD i 0 - len - 1) true e me) (hk : len < Γ.getD i 0 := by decide)
    (ha : ∀ v, assign (.Subscript o b pos') X.env v = (do
      let ov ← holding [v] (eval o X.env)
      let iv ← holding [v, ov] (eval b X.env)
      standAt pos'
      holding [v, ov, iv] (setItem ov iv v)
      release [v, ov, iv] []) := by intro _; rfl)
    (hs : swapsWithSole [.Subscript o b pos'] e pos.line X.env = pure false := by rfl) (hw : swappedStores [.Subscript o b pos'] e X.env = pure none := by rfl)
    (h1 : (assignEach [.Subscript o b pos'] X.env).map (·.2) = [assign (.Subscript o b pos') X.env] := by rfl) :
    RS X W n Γ Γ (.Assign [.Subscript o b pos'] e pos) (sPutD i mp mi me) := by
  obtain ⟨ta, pa, qa⟩ := hp
  obtain ⟨tb, pb, qb⟩ := he
  obtain ⟨tc, pc, qc⟩ := hj
  refine ⟨_, ps_asg pb (pg_sub pa pc (set_dictN hu) ha) hs hw h1, fun F H0 ρ σ H S R E st po => ?_⟩
  obtain ⟨d, hd, po⟩ := atS_ok po
  obtain ⟨x, hx, _⟩ := st.slot i d hd
  refine qb F H0 ρ σ H S R _ st (PostE.iff.mpr ((PostS.ofR st po).imp fun v0 ev po => ?_))
  intro y H1 A B s1 d1 v1 f1
  have wA := f1 rfl
  have st1 := st.grow s1
  refine qa F H0 ρ σ H1 S R _ d x st1 hd hx ((PostS.ofR st1 po).imp fun p ep po => ?_)
  obtain ⟨j0, ej0, po0⟩ := noX_out po
  obtain ⟨d', c, c', d2, hd', hc, hf, hs', po2⟩ := mutO_ok po0
  rw [hd] at hd'
  cases hd'
  refine ⟨c, hc, fun v H2 Se Re s2 foc => ?_⟩
  obtain ⟨kk, hkk⟩ : ∃ kk, Γ.getD i 0 - len = kk + 1 := ⟨Γ.getD i 0 - len - 1, by omega⟩
  rw [hkk] at foc
  have hkk2 : Γ.getD i 0 - len - 1 = kk := by omega
  rw [hkk2] at d1
  have st2 := st1.grow s2
  refine qc F H0 ρ σ H2 S R _ st2 ?_
  rw [ej0]
  intro u H3 A3 B3 s3 d3 _ _
  obtain rfl : A3 = [] := Dat.noS d3
  have st3 := st2.grow s3
  have s13 := s2.trans s3
  have foc3 := foc.same s3
  obtain ⟨hcd, P, Q', P', Q'', eS, eR, rep⟩ := id foc3
  have ndS := st3.nd i
  rw [eS] at ndS
  have key : ∀ (aa : Addr) (S' : List Addr), Se = aa :: S' → aa ∈ S i ∧ aa ∉ S' ∧ aa ∉ Re ∧ S'.Nodup ∧ ∀ b ∈ S', b ∈ S i := fun aa S' e => by
    subst e
    have nd2 : (aa :: S').Nodup := (List.nodup_append.mp (List.nodup_append.mp ndS).1).2.1
    exact ⟨by rw [eS]; simp, (List.nodup_cons.mp nd2).1, fun z => st3.rs i i aa (by rw [eR]; simp [z]) (by rw [eS]; simp), (List.nodup_cons.mp nd2).2, fun b hb => by rw [eS]; simp [hb]⟩
  have fin : ∀ (aa : Addr) (S' : List Addr) (o' : HO) (S2 R2 : List Addr), Se = aa :: S' → Dat X.K (L2.upd H3 aa o') c' (kk + 1) v (aa :: S2) R2 → (∀ b ∈ S2, b ∈ S' ∨ b ∈ A) → S2.Nodup → aa ∉ S2 → (∀ b ∈ R2, b ∈ Re ∨ b ∈ B) → E.nx σ (L2.upd H3 aa o') := by
    intro aa S' o' S2 R2 eSe g h2 nd na hR
    subst eSe
    obtain ⟨d3', S'', R'', ed, st4, kp, gr⟩ := st3.node (A := A) (B := B) hd hx foc3 g (List.nodup_cons.mpr ⟨na, nd⟩) h2 (fun b hb => ⟨st.same.free (wA.2 b hb).1, fun z => st.fd b z (wA.2 b hb).1, fun j z => st.domS j b z (wA.2 b hb).1, fun j z => st.domR j b z (wA.2 b hb).1⟩) hR fun b hb => ⟨v1 b hb, fun z => (wA.2 b z).2 hb⟩
    rw [hs'] at ed
    cases ed
    exact po2 σ _ S'' R'' st4 ((Keep.of_same (s1.trans s13)).trans Grow.refl kp) fun j b hb => (gr j b hb).imp id fun z => (wA.2 b z).1
  have d1' := d1.same s13
  unfold putD at hf
  cases c with
  | dK ks vs =>
    dsimp only at hf
    split at hf
    · rename_i hl
      obtain ⟨k, ek, rfl⟩ := Option.map_eq_some_iff.mp hf
      unfold Dat at hcd
      obtain ⟨aa, ws, S', rfl, haa, rfl, eSe, dd⟩ := hcd
      obtain ⟨haS, haS', haR, ndS', subS⟩ := key aa S' eSe
      have haA : aa ∉ A := fun z => st.domS i aa haS (wA.2 aa z).1
      have haB : aa ∉ B := fun z => v1 aa z (.inr ⟨i, haS⟩)
      refine .inl ⟨aa, ws, k, rfl, haa, dat_key d3 ek, by rw [← List.length_map (as := ws) (·.1)]; exact hl, fun nd => ?_⟩
      obtain ⟨p1, S2, R2, p2, p3, p4, p5⟩ := put_dats (k := k) dd d1' nd
      have na : aa ∉ S2 := fun z => (p3 aa z).elim haS' haA
      have nR : aa ∉ R2 := fun z => (p5 aa z).elim haR haB
      refine fin aa S' _ S2 R2 eSe ?_ p3 (p4 ndS' wA.1 fun b hb hb' => st.domS i b (subS b hb') (wA.2 b hb).1) na p5
      unfold Dat
      exact ⟨aa, _, S2, rfl, upd_same, p1, rfl, Dats.stay _ _ _ _ _ (sub_stay (K := X.K) haa trivial na nR) p2⟩
    · cases hf
  | dT ks vs =>
    dsimp only at hf
    cases j0 with
    | tup l =>
      dsimp only at hf
      split at hf
      · rename_i hl
        obtain ⟨k, ek, rfl⟩ := Option.map_eq_some_iff.mp hf
        unfold Dat at hcd
        obtain ⟨aa, ws, S', rfl, haa, rfl, eSe, dd⟩ := hcd
        obtain ⟨haS, haS', haR, ndS', subS⟩ := key aa S' eSe
        have haA : aa ∉ A := fun z => st.domS i aa haS (wA.2 aa z).1
        have haB : aa ∉ B := fun z => v1 aa z (.inr ⟨i, haS⟩)
        obtain ⟨bb, xs, rfl, hbb, hl2⟩ := dat_tup0 d3
        obtain rfl := dats_keys hl2 ek
        refine .inr ⟨aa, ws, k, bb, rfl, haa, rfl, hbb, by rw [← List.length_map (as := ws) (·.1)]; exact hl, fun nd => ?_⟩
        obtain ⟨p1, S2, R2, p2, p3, p4, p5⟩ := put_dats (k := k) dd d1' nd
        have na : aa ∉ S2 := fun z => (p3 aa z).elim haS' haA
        have nR : aa ∉ R2 := fun z => (p5 aa z).elim haR haB
        refine fin aa S' _ S2 R2 eSe ?_ p3 (p4 ndS' wA.1 fun b hb hb' => st.domS i b (subS b hb') (wA.2 b hb).1) na p5
        unfold Dat
        exact ⟨aa, _, S2, rfl, upd_same, p1, rfl, Dats.stay _ _ _ _ _ (sub_stay (K := X.K) haa trivial na nR) p2⟩
      · cases hf
    | _ => cases hf
  | _ => cases hf
end
def mD1 (a b : Rho → Res D) : Rho → Res D := fun ρ => (a ρ).bind fun k => (b ρ).bind fun v => ofO ((keyD k).map fun k => .dK [k] [v])
@[simp] theorem mD1_eq {a b : Rho → Res D} {ρ : Rho} : mD1 a b ρ = (a ρ).bind fun k => (b ρ).bind fun v => ofO ((keyD k).map fun k => .dK [k] [v]) := id rfl
end TW

-- TWPop
namespace TW
open PySem PySem.Spec PyProof.Rows L2
def sAsg (f : D → Rho → Option Rho) (m : Rho → Res D) : Rho → Out := fun ρ => (m ρ).out ρ fun d => match f d ρ with
  | some ρ' => .nx ρ'
  | none => .stuck
@[simp] theorem sAsg_eq {f : D → Rho → Option Rho} {m : Rho → Res D} {ρ : Rho} : sAsg f m ρ = (m ρ).out ρ fun d => match f d ρ with
  | some ρ' => .nx ρ'
  | none => .stuck := id rfl
@[simp] theorem tgT_tup {is : List Nat} {ds : List D} {ρ : Rho} : tgT is (.tup ds) ρ = tgNs is ds ρ := id rfl
@[simp] theorem tgNs_cons {i : Nat} {is : List Nat} {d : D} {ds : List D} {ρ : Rho} : tgNs (i :: is) (d :: ds) ρ = tgNs is ds (ρ.set i (some d)) := id rfl
@[simp] theorem tgNs_nil {ρ : Rho} : tgNs [] [] ρ = some ρ := id rfl
section
variable {X : Cx} {W : WX} {Γ : List Nat} {n i j len : Nat} {e o tg : Expr} {pos pos' : Pos} {m : Rho → Res D} {f : D → Rho → Option Rho}
theorem rs_asg (he : RE X W Γ 0 true e m) (hg : RG X Γ tg f) (hs : swapsWithSole [tg] e pos.line X.env = pure false := by rfl) (hw : swappedStores [tg] e X.env = pure none := by rfl)
    (h1 : (assignEach [tg] X.env).map (·.2) = [assign tg X.env] := by rfl) : RS X W n Γ Γ (.Assign [tg] e pos) (sAsg f m) := by
  obtain ⟨te, pe, qe⟩ := he
  obtain ⟨g, pg, qg⟩ := hg
  refine ⟨_, ps_asg pe pg hs hw h1, fun F H0 ρ σ H S R E st po => ?_⟩
  refine qe F H0 ρ σ H S R _ st (PostE.iff.mpr ((PostS.ofR st po).imp fun d _ po => ?_))
  intro x H1 A B s1 d1 v1 _
  obtain rfl : A = [] := Dat.noS d1
  cases ef : f d ρ with
  | none => rw [ef] at po; exact po.elim
  | some ρ' =>
    rw [ef] at po
    exact qg F H0 ρ σ H1 S R d x B ρ' _ (st.grow s1) d1 v1 ef fun σ' R' st' => po σ' H1 S R' st' (Keep.of_same s1) Grow.refl
end
theorem Dats.reverse {K : PySem.W.Frag} {H : Hp} : ∀ {ds : List D} {n : Nat} {xs : List V} {S R : List Addr}, Dats K H ds n xs S R → ∃ S2 R2, Dats K H ds.reverse n xs.reverse S2 R2 ∧ S2.Perm S ∧ ∀ a ∈ R2, a ∈ R
  | [], _, _, _, _, h => by
    simp only [Dats] at h
    obtain ⟨rfl, rfl, rfl⟩ := h
    exact ⟨[], [], .nil, .refl _, fun _ z => z⟩
  | d :: ds, n, _, _, _, h => by
    unfold Dats at h
    obtain ⟨x, xs', S1, S2, R1, R2, rfl, rfl, rfl, h1, h2⟩ := h
    obtain ⟨S3, R3, g, p, r⟩ := Dats.reverse h2
    refine ⟨S3 ++ S1, R3 ++ R1, by rw [List.reverse_cons, List.reverse_cons]; exact g.append (Dats.one h1), (p.append_right S1).trans List.perm_append_comm, fun a ha => ?_⟩
    rcases List.mem_append.mp ha with ha | ha
    · exact List.mem_append_right _ (r a ha)
    · exact List.mem_append_left _ ha
theorem Dats.init {K : PySem.W.Frag} {H : Hp} : ∀ {ds : List D} {n : Nat} {xs : List V} {S R : List Addr}, Dats K H ds n xs S R → ∃ S2 R2, Dats K H ds.dropLast n xs.dropLast S2 R2 ∧ S2.Sublist S ∧ ∀ a ∈ R2, a ∈ R
  | [], _, _, _, _, h => by
    simp only [Dats] at h
    obtain ⟨rfl, rfl, rfl⟩ := h
    exact ⟨[], [], .nil, .refl _, fun _ z => z⟩
  | [d], n, _, _, _, h => by
    unfold Dats at h
    obtain ⟨x, xs', S1, S2, R1, R2, rfl, rfl, rfl, h1, h2⟩ := h
    simp only [Dats] at h2
    obtain ⟨rfl, _, _⟩ := h2
    exact ⟨[], [], .nil, List.nil_sublist _, fun _ z => by simp at z⟩
  | d :: e :: ds, n, _, _, _, h => by
    unfold Dats at h
    obtain ⟨x, xs', S1, S2, R1, R2, rfl, rfl, rfl, h1, h2⟩ := h
    obtain ⟨S3, R3, g, p, r⟩ := Dats.init h2
    have hl := h2.length
    obtain ⟨y, ys, rfl⟩ : ∃ y ys, xs' = y :: ys := by
      cases xs' with
      | nil => simp at hl
      | cons y ys => exact ⟨y, ys, rfl⟩
    refine ⟨S1 ++ S3, R1 ++ R3, Dats.cons h1 g, p.append_left S1 |>.trans (.refl _), fun a ha => ?_⟩
    rcases List.mem_append.mp ha with ha | ha
    · exact List.mem_append_left _ ha
    · exact List.mem_append_right _ (r a ha)
theorem Dats.erase {K : PySem.W.Frag} {H : Hp} : ∀ {ds : List D} {n : Nat} {xs : List V} {S R : List Addr} (k : Nat), Dats K H ds n xs S R → ∃ S2 R2, Dats K H (ds.eraseIdx k) n (xs.eraseIdx k) S2 R2 ∧ S2.Sublist S ∧ ∀ a ∈ R2, a ∈ R
  | [], _, _, _, _, k, h => by
    simp only [Dats] at h
    obtain ⟨rfl, rfl, rfl⟩ := h
    exact ⟨[], [], by simpa using Dats.nil, .refl _, fun _ z => z⟩
  | d :: ds, n, _, _, _, 0, h => by
    unfold Dats at h
    obtain ⟨x, xs', S1, S2, R1, R2, rfl, rfl, rfl, h1, h2⟩ := h
    exact ⟨S2, R2, by simpa using h2, List.sublist_append_right _ _, fun a z => List.mem_append_right _ z⟩
  | d :: ds, n, _, _, _, k + 1, h => by
    unfold Dats at h
    obtain ⟨x, xs', S1, S2, R1, R2, rfl, rfl, rfl, h1, h2⟩ := h
    obtain ⟨S3, R3, g, p, r⟩ := Dats.erase k h2
    refine ⟨S1 ++ S3, R1 ++ R3, by simpa using Dats.cons h1 g, p.append_left S1, fun a ha => ?_⟩
    rcases List.mem_append.mp ha with ha | ha
    · exact List.mem_append_left _ ha
    · exact List.mem_append_right _ (r a ha)
def nClr : D → Option D
  | .lst _ => some (.lst [])
  | _ => none
def nRev : D → Option D
  | .lst l => some (.lst l.reverse)
  | _ => none
def nPop : D → Option D
  | .lst l => if l.isEmpty = true then none else some (.lst l.dropLast)
  | _ => none
def sMut (i : Nat) (mp : Rho → Res (List D)) (f : D → Option D) : Rho → Out := atS i fun ρ => (mp ρ).out ρ fun p => mutO i ρ p f
@[simp] theorem sMut_eq {i : Nat} {mp : Rho → Res (List D)} {f : D → Option D} {ρ : Rho} : sMut i mp f ρ = atS i (fun ρ => (mp ρ).out ρ fun p => mutO i ρ p f) ρ := id rfl
def MutR (r : V → List V → Hp → VK → Prop) (f : D → Option D) : Prop :=
  ∀ (K : PySem.W.Frag) (l : List D) (c : D) (n : Nat) (xs : List V) (S R : List Addr) (H : Hp), f (.lst l) = some c → Dats K H l n xs S R → ∃ l', c = .lst l' ∧ ∃ xs' S2 R2, Dats K H l' n xs' S2 R2 ∧ (S.Nodup → S2.Nodup) ∧ (∀ a ∈ S2, a ∈ S) ∧ (∀ a ∈ R2, a ∈ R) ∧
    ∀ (a : Addr) (Q : VK), H a = some (.lst xs) → (∀ y, Q y (L2.upd H a (.lst xs'))) → r (.ref a) [] H Q
theorem mr_clr : MutR rClear nClr := by
  intro K l c n xs S R H e h
  cases e
  exact ⟨[], rfl, [], [], [], .nil, fun _ => List.nodup_nil, fun a z => by simp at z, fun a z => by simp at z, fun a Q ha q => ⟨a, xs, rfl, rfl, ha, q _⟩⟩
theorem mr_rev : MutR rReverse nRev := by
  intro K l c n xs S R H e h
  cases e
  obtain ⟨S2, R2, g, p, r⟩ := h.reverse
  exact ⟨_, rfl, _, S2, R2, g, fun nd => p.nodup_iff.mpr nd, fun a ha => p.subset ha, r, fun a Q ha q => ⟨a, xs, rfl, rfl, ha, q _⟩⟩
theorem mr_pop : MutR rPop nPop := by
  intro K l c n xs S R H e h
  replace e : (if l.isEmpty = true then none else some (D.lst l.dropLast)) = some c := e
  split at e
  · cases e
  · rename_i hl
    cases e
    obtain ⟨S2, R2, g, p, r⟩ := h.init
    have hlen := h.length
    have : xs.length ≠ 0 := fun z => hl (by rw [hlen] at z; simpa using List.length_eq_zero_iff.mp z)
    exact ⟨_, rfl, _, S2, R2, g, fun nd => nd.sublist p, fun a ha => p.subset ha, r, fun a Q ha q => ⟨a, xs, xs[xs.length - 1], rfl, rfl, ha, List.getElem?_eq_getElem (by omega), q _⟩⟩
section
variable {X : Cx} {W : WX} {Γ : List Nat} {n i j len : Nat} {e o o2 tg : Expr} {pos pos' apos cpos apos2 cpos2 pos2 : Pos} {mp mp2 : Rho → Res (List D)} {me : Rho → Res D}
theorem rs_mut0 {name : Str} {id : String} {r : V → List V → Hp → VK → Prop} {f : D → Option D} (slot : Slot "list" name id) (hty : typeOf (.builtin id) = pure (.type "method_descriptor")) (hm : MtR X id r) (hr : MutR r f) (hl : ∀ c z, f c = some z → ∃ l, c = .lst l) (hp : RP X W Γ i len o mp) (hk : len < Γ.getD i 0)
    (hbase : attributeBase o name X.env (eval o X.env) = eval o X.env) (hline : (apos.endLine == cpos.line) = true) (hw : swapsWith (.Call (.Attribute o name apos) [] [] cpos) none pos2.line X.env = pure false) :
    RS X W n Γ Γ (.Expr (.Call (.Attribute o name apos) [] [] cpos) pos2) (sMut i mp f) := by
  obtain ⟨ta, pa, qa⟩ := hp
  refine ⟨_, ps_expr (pe_bm0 PySem.F.plainAttrs_list slot hty hm pa hbase hline) hw, fun F H0 ρ σ H S R E st po => ?_⟩
  obtain ⟨d, hd, po⟩ := atS_ok po
  obtain ⟨x, hx, _⟩ := st.slot i d hd
  refine qa F H0 ρ σ H S R _ d x st hd hx ((PostS.ofR st po).imp fun p ep po => ?_)
  obtain ⟨d', c, c', d2, hd', hc, hf, hs', po2⟩ := mutO_ok po
  rw [hd] at hd'
  cases hd'
  refine ⟨c, hc, fun v H1 Se Re s1 foc => ?_⟩
  obtain ⟨kk, hkk⟩ : ∃ kk, Γ.getD i 0 - len = kk + 1 := ⟨Γ.getD i 0 - len - 1, by omega⟩
  rw [hkk] at foc
  have st1 := st.grow s1
  obtain ⟨l, rfl⟩ := hl c c' hf
  obtain ⟨a, xs, S', rfl, ha, rfl, dd, haS, haS', haR, ndS', subS, subR⟩ := node_lst st1 foc
  obtain ⟨l', rfl, xs', S2, R2, g, nd, hS, hR, run⟩ := hr X.K l c' kk xs S' Re H1 hf dd
  refine ⟨.inl ⟨rfl, _, .of ha⟩, run a _ ha fun y => ?_⟩
  obtain ⟨S'', R'', st2, kp, gr⟩ := lst_write (A := []) (B := []) st1 hd hx foc ha (Same.refl _) (New.nil) (st1.domS i a haS) st1 (fun b z => by simp at z) haS haS' haR subS g (fun b hb => .inl (hS b hb)) (fun b hb => .inl (hR b hb)) (nd ndS') hs'
  exact po2 σ _ S'' R'' st2 ((Keep.of_same s1).trans Grow.refl kp) fun k b hb => (gr k b hb).imp (fun z => z) fun z => s1.free z
theorem rs_clear (hp : RP X W Γ i len o mp) (hk : len < Γ.getD i 0 := by decide) (hbase : attributeBase o "clear" X.env (eval o X.env) = eval o X.env := by rfl) (hline : (apos.endLine == cpos.line) = true := by rfl) (hw : swapsWith (.Call (.Attribute o "clear" apos) [] [] cpos) none pos2.line X.env = pure false := by rfl) :
    RS X W n Γ Γ (.Expr (.Call (.Attribute o "clear" apos) [] [] cpos) pos2) (sMut i mp nClr) := rs_mut0 PySem.F.slot_list_clear PySem.F.type_list_clear mt_clear mr_clr (fun c z e => by cases c <;> first | exact ⟨_, rfl⟩ | cases e) hp hk hbase hline hw
theorem rs_reverse (hp : RP X W Γ i len o mp) (hk : len < Γ.getD i 0 := by decide) (hbase : attributeBase o "reverse" X.env (eval o X.env) = eval o X.env := by rfl) (hline : (apos.endLine == cpos.line) = true := by rfl) (hw : swapsWith (.Call (.Attribute o "reverse" apos) [] [] cpos) none pos2.line X.env = pure false := by rfl) :
    RS X W n Γ Γ (.Expr (.Call (.Attribute o "reverse" apos) [] [] cpos) pos2) (sMut i mp nRev) := rs_mut0 PySem.F.slot_list_reverse PySem.F.type_list_reverse mt_reverse mr_rev (fun c z e => by cases c <;> first | exact ⟨_, rfl⟩ | cases e) hp hk hbase hline hw
theorem rs_pop (hp : RP X W Γ i len o mp) (hk : len < Γ.getD i 0 := by decide) (hbase : attributeBase o "pop" X.env (eval o X.env) = eval o X.env := by rfl) (hline : (apos.endLine == cpos.line) = true := by rfl) (hw : swapsWith (.Call (.Attribute o "pop" apos) [] [] cpos) none pos2.line X.env = pure false := by rfl) :
    RS X W n Γ Γ (.Expr (.Call (.Attribute o "pop" apos) [] [] cpos) pos2) (sMut i mp nPop) := rs_mut0 PySem.F.slot_list_pop PySem.F.type_list_pop mt_pop mr_pop (fun c z e => by cases c <;> first | exact ⟨_, rfl⟩ | cases e) hp hk hbase hline hw
end
def RM (X : Cx) (W : WX) (Γ : List Nat) (e : Expr) (m : Rho → Option (D × Rho)) : Prop :=
  ∃ t, PE X e t ∧ ∀ F H0 ρ σ H S R (Q : VK), Sto X.K F H0 Γ ρ σ H S R →
    (∃ d ρ', m ρ = some (d, ρ') ∧ ∀ x H' S' R' B, Sto X.K F H0 Γ ρ' σ H' S' R' → Keep S H H' → Grow S H S' → Dat X.K H' d 0 x [] B → (∀ a ∈ B, ¬ Av F S' a) → Q x H') → t σ H Q
def lstAt (ρ : Rho) (i : Nat) : Option (List D) := match ρ[i]? with
  | some (some (.lst l)) => some l
  | _ => none
def mPop (i : Nat) : Rho → Option (D × Rho) := fun ρ => (lstAt ρ i).bind fun l => l.getLast?.map fun d => (d, ρ.set i (some (.lst l.dropLast)))
def mPopAt (i : Nat) (me : Rho → Res D) : Rho → Option (D × Rho) := fun ρ => (lstAt ρ i).bind fun l => match me ρ with
  | .ok (.int k) => if -(2 ^ 62) ≤ k ∧ k < 2 ^ 62 then (ixN l.length k).bind fun j => l[j]?.map fun d => (d, ρ.set i (some (.lst (l.eraseIdx j)))) else none
  | _ => none
theorem lstAt_eq {ρ : Rho} {i : Nat} {l : List D} (h : lstAt ρ i = some l) : ρ[i]? = some (some (.lst l)) := by
  unfold lstAt at h
  split at h
  · rename_i e; cases h; exact e
  · cases h
section
variable {K : PySem.W.Frag} {F : Fr} {H0 H : Hp} {Γ : List Nat} {ρ : Rho} {σ : L2.St} {S R : Nat → List Addr}
theorem take_out {i j : Nat} {l l' : List D} {d : D} {x : V} {a : Addr} {xs xs' : List V} {y : V} {S2 R2 : List Addr} (st : Sto K F H0 Γ ρ σ H S R) (hi : Γ.getD i 0 = 1) (hd : ρ[i]? = some (some (.lst l))) (hx : σ[i]? = some (some x)) (ex : x = .ref a) (ha : H a = some (.lst xs)) (dd : Dats K H l 0 xs [] (R i)) (eS : S i = [a]) (hj : l[j]? = some d) (hy : xs[j]? = some y)
    (g : Dats K H l' 0 xs' S2 R2) (hS : S2 = []) (hR : ∀ b ∈ R2, b ∈ R i) :
    ∃ S' R' B, Sto K F H0 Γ (ρ.set i (some (.lst l'))) σ (L2.upd H a (.lst xs')) S' R' ∧ Keep S H (L2.upd H a (.lst xs')) ∧ Grow S H S' ∧ Dat K (L2.upd H a (.lst xs')) d 0 y [] B ∧ ∀ b ∈ B, ¬ Av F S' b := by
  subst hS ex
  have foc : Foc K H (.lst l) (Γ.getD i 0) (.ref a) (S i) (R i) [] (.lst l) (0 + 1) (.ref a) (a :: []) (R i) := by
    rw [hi, ← eS]
    refine Foc.nil ?_
    rw [eS]
    unfold Dat
    exact ⟨a, xs, [], rfl, ha, rfl, dd⟩
  have haS : a ∈ S i := by rw [eS]; simp
  have haR : a ∉ R i := fun z => st.rs i i a z haS
  obtain ⟨S'', R'', st2, kp, gr⟩ := lst_write (A := []) (B := []) (l' := l') (xs' := xs') st hd hx foc ha (Same.refl _) New.nil (st.domS i a haS) st (fun b z => by simp at z) haS (by simp) haR (fun b hb => by simp at hb) g (fun b hb => by simp at hb) (fun b hb => .inl (hR b hb)) List.nodup_nil rfl
  obtain ⟨y', S3, R3, e3, g3, sl, r3⟩ := dd.get hj
  rw [hy] at e3
  cases e3
  obtain rfl : S3 = [] := Dat.noS g3
  refine ⟨S'', R'', R3, st2, kp, gr, Dat.stay _ _ _ _ _ (sub_stay (K := K) ha trivial (by simp) fun z => haR (r3 a z)) g3, fun b hb z => ?_⟩
  rcases z with z | ⟨j, z⟩
  · exact st.rf i b (r3 b hb) z
  · rcases gr j b z with ⟨k, q⟩ | q
    · exact st.rs i k b (r3 b hb) q
    · exact st.domR i b (r3 b hb) q
end
section
variable {X : Cx} {W : WX} {Γ : List Nat} {n i j len : Nat} {e o o2 tg : Expr} {pos pos' apos cpos apos2 cpos2 pos2 : Pos} {mp mp2 : Rho → Res (List D)} {me : Rho → Res D} {m : Rho → Option (D × Rho)} {f : D → Rho → Option Rho}
theorem rm_pop (ho : PE X o (tVar i)) (hi : Γ.getD i 0 = 1 := by rfl) (hbase : attributeBase o "pop" X.env (eval o X.env) = eval o X.env := by rfl) (hline : (apos.endLine == cpos.line) = true := by rfl) :
    RM X W Γ (.Call (.Attribute o "pop" apos) [] [] cpos) (mPop i) := by
  refine ⟨_, pe_bm0 PySem.F.plainAttrs_list PySem.F.slot_list_pop PySem.F.type_list_pop mt_pop ho hbase hline, fun F H0 ρ σ H S R Q st po => ?_⟩
  obtain ⟨d, ρ', em, po⟩ := po
  obtain ⟨l, el, em⟩ := Option.bind_eq_some_iff.mp em
  obtain ⟨d', ed, em⟩ := Option.map_eq_some_iff.mp em
  cases em
  have hd := lstAt_eq el
  obtain ⟨x, hx, g⟩ := st.slot i _ hd
  rw [hi] at g
  unfold Dat at g
  obtain ⟨a, xs, S', rfl, ha, eS, dd⟩ := g
  obtain rfl : S' = [] := Dats.noS dd
  obtain ⟨S2, R2, g2, p2, r2⟩ := dd.init
  have hlen := dd.length
  have hne : l.length ≠ 0 := fun z => by rw [List.length_eq_zero_iff.mp z] at ed; cases ed
  have hj : l[l.length - 1]? = some d := by rw [← ed, List.getLast?_eq_getElem?]
  have hy : xs[l.length - 1]? = some xs[xs.length - 1] := by rw [← hlen]; exact List.getElem?_eq_getElem (by omega)
  obtain ⟨S', R', B, st2, kp, gr, gd, hB⟩ := take_out st hi hd hx rfl ha dd eS hj hy g2 (List.sublist_nil.mp p2) r2
  exact ⟨_, hx, .inl ⟨rfl, _, .of ha⟩, a, xs, xs[xs.length - 1], rfl, rfl, ha, List.getElem?_eq_getElem (by omega), po _ _ S' R' B st2 kp gr gd hB⟩
theorem rm_popAt (ho : PE X o (tVar i)) (he : RE X W Γ 0 true e me) (hi : Γ.getD i 0 = 1 := by rfl) (hbase : attributeBase o "pop" X.env (eval o X.env) = eval o X.env := by rfl)
    (hfew : ((backTo cpos (starEach [e] X.env)).all (fun x => !x.1) && (backToKw cpos (keywordEach [] X.env)).all (fun x => x.1.isSome) && decide ([e].length + ([] : List Keyword).length + (if ([] : List Keyword).isEmpty then 0 else 1) < 30)) = true := by rfl)
    (hline : (apos.endLine == cpos.line) = true := by rfl) (hs : starEach (e :: []) X.env = (false, eval e X.env) :: starEach [] X.env := by rfl) (hplain : (backTo cpos (starEach [] X.env)).any (·.1) = false := by rfl) :
    RM X W Γ (.Call (.Attribute o "pop" apos) [e] [] cpos) (mPopAt i me) := by
  obtain ⟨te, pe, qe⟩ := he
  refine ⟨_, pe_bm PySem.F.plainAttrs_list PySem.F.slot_list_pop PySem.F.type_list_pop mt_popAt ho (pa_cons pe pa_nil hs) hbase hfew hline hs hplain, fun F H0 ρ σ H S R Q st po => ?_⟩
  obtain ⟨d, ρ', em, po⟩ := po
  obtain ⟨l, el, em⟩ := Option.bind_eq_some_iff.mp em
  have hd := lstAt_eq el
  obtain ⟨x, hx, g⟩ := st.slot i _ hd
  rw [hi] at g
  unfold Dat at g
  obtain ⟨a, xs, S', rfl, ha, eS, dd⟩ := g
  obtain rfl : S' = [] := Dats.noS dd
  cases ek : me ρ with
  | exn c => rw [ek] at em; cases em
  | stuck => rw [ek] at em; cases em
  | ok kd =>
    rw [ek] at em
    cases kd with
    | int k =>
      dsimp only at em
      split at em
      rotate_left
      · cases em
      rename_i hk
      obtain ⟨j, ej, em⟩ := Option.bind_eq_some_iff.mp em
      obtain ⟨d', ed, em⟩ := Option.map_eq_some_iff.mp em
      cases em
      refine ⟨_, hx, .inl ⟨rfl, _, .of ha⟩, qe F H0 ρ σ H S R _ st ?_⟩
      rw [ek]
      intro u H1 A B s1 d1 _ _
      have st1 := st.grow s1
      have dd1 := dd.same s1
      obtain ⟨S2, R2, g2, p2, r2⟩ := dd1.erase j
      have hlen := dd.length
      obtain ⟨h1, h2, h3, h4⟩ := ixN_seq ej
      obtain ⟨y, _, _, hy, _⟩ := dd.get ed
      obtain ⟨S', R', B', st2, kp, gr, gd, hB⟩ := take_out st1 hi hd hx rfl (s1 _ _ ha) dd1 eS ed hy g2 (List.sublist_nil.mp p2) r2
      refine ⟨a, xs, k, j, y, rfl, by rw [dat_int d1], s1 _ _ ha, by omega, by omega, by rw [hlen]; exact h1, hy, po _ _ S' R' B' st2 ((Keep.of_same s1).trans Grow.refl kp) (fun q b hb => (gr q b hb).imp (fun z => z) fun z => s1.free z) gd hB⟩
    | _ => cases em
def sAsgM (f : D → Rho → Option Rho) (m : Rho → Option (D × Rho)) : Rho → Out := fun ρ => match m ρ with
  | some (d, ρ') => match f d ρ' with
    | some ρ2 => .nx ρ2
    | none => .stuck
  | none => .stuck
theorem rs_asgM (he : RM X W Γ e m) (hg : RG X Γ tg f) (hs : swapsWithSole [tg] e pos.line X.env = pure false := by rfl) (hw : swappedStores [tg] e X.env = pure none := by rfl)
    (h1 : (assignEach [tg] X.env).map (·.2) = [assign tg X.env] := by rfl) : RS X W n Γ Γ (.Assign [tg] e pos) (sAsgM f m) := by
  obtain ⟨te, pe, qe⟩ := he
  obtain ⟨g, pg, qg⟩ := hg
  refine ⟨_, ps_asg pe pg hs hw h1, fun F H0 ρ σ H S R E st po => qe F H0 ρ σ H S R _ st ?_⟩
  unfold sAsgM at po
  cases em : m ρ with
  | none => rw [em] at po; exact po.elim
  | some q =>
    obtain ⟨d, ρ'⟩ := q
    rw [em] at po
    dsimp only at po
    cases ef : f d ρ' with
    | none => rw [ef] at po; exact po.elim
    | some ρ2 =>
      rw [ef] at po
      exact ⟨d, ρ', rfl, fun x H' S' R' B st' kp gr gd hB => qg F H0 ρ' σ H' S' R' d x B ρ2 _ st' gd hB ef fun σ2 R2 st2 => po σ2 H' S' R2 st2 kp gr⟩
def sAppM (i : Nat) (m : Rho → Option (D × Rho)) : Rho → Out := atS i fun ρ => match m ρ with
  | some (d, ρ') => mutO i ρ' [] (nApp d)
  | none => .stuck
theorem rs_appM (ho : PE X o (tVar i)) (he : RM X W Γ e m) (hi : Γ.getD i 0 = 1 := by rfl) (hm : ∀ ρ d ρ', m ρ = some (d, ρ') → ρ'[i]? = ρ[i]?)
    (hbase : attributeBase o "append" X.env (eval o X.env) = eval o X.env := by rfl)
    (hfew : ((backTo cpos (starEach (e :: []) X.env)).all (fun x => !x.1) && (backToKw cpos (keywordEach [] X.env)).all (fun x => x.1.isSome)
      && decide ((e :: []).length + ([] : List Keyword).length + (if ([] : List Keyword).isEmpty then 0 else 1) < 30)) = true := by rfl)
    (hline : (apos.endLine == cpos.line) = true := by rfl) (hs : starEach (e :: []) X.env = (false, eval e X.env) :: starEach [] X.env := by rfl) (hplain : (backTo cpos (starEach [] X.env)).any (·.1) = false := by rfl)
    (hw : swapsWith (.Call (.Attribute o "append" apos) [e] [] cpos) none pos2.line X.env = pure false := by rfl) :
    RS X W n Γ Γ (.Expr (.Call (.Attribute o "append" apos) [e] [] cpos) pos2) (sAppM i m) := by
  obtain ⟨te, pe, qe⟩ := he
  refine ⟨_, ps_expr (pe_bm PySem.F.plainAttrs_list PySem.F.slot_list_append PySem.F.type_list_append mt_append ho (pa_cons pe pa_nil hs) hbase hfew hline hs hplain) hw, fun F H0 ρ σ H S R E st po => ?_⟩
  obtain ⟨d0, hd0, po⟩ := atS_ok po
  cases em : m ρ with
  | none => rw [em] at po; exact po.elim
  | some q =>
    obtain ⟨d, ρ'⟩ := q
    rw [em] at po
    dsimp only at po
    obtain ⟨x, hx, g0⟩ := st.slot i d0 hd0
    obtain ⟨d', c, c', d2, hd', hc, hf, hs', po2⟩ := mutO_ok po
    rw [hm ρ d ρ' em, hd0] at hd'
    cases hd'
    cases hc
    unfold nApp at hf
    split at hf
    · rename_i l
      split at hf
      · rename_i hlen
        cases hf
        rw [hi] at g0
        unfold Dat at g0
        obtain ⟨a, xs, S0, rfl, ha, eS, dd⟩ := g0
        refine ⟨_, hx, .inl ⟨rfl, _, .of ha⟩, qe F H0 ρ σ H S R _ st ⟨d, ρ', em, fun y H' S' R' B st' kp gr gd hB => ?_⟩⟩
        have hd' : ρ'[i]? = some (some (.lst l)) := by rw [hm ρ d ρ' em, hd0]
        obtain ⟨x', hx', g1⟩ := st'.slot i _ hd'
        rw [hx] at hx'
        cases hx'
        rw [hi] at g1
        have foc : Foc X.K H' (.lst l) (Γ.getD i 0) (.ref a) (S' i) (R' i) [] (.lst l) (0 + 1) (.ref a) (S' i) (R' i) := by rw [hi]; exact Foc.nil g1
        obtain ⟨a', xs', S1, ea, ha', eS', dd', haS, haS', haR, ndS', subS, subR⟩ := node_lst st' foc
        cases ea
        have foc2 : Foc X.K H' (.lst l) (Γ.getD i 0) (.ref a) (S' i) (R' i) [] (.lst l) (0 + 1) (.ref a) (a :: S1) (R' i) := by rw [← eS']; exact foc
        refine ⟨a, xs', y, rfl, rfl, ha', by rw [dd'.length]; exact hlen, ?_⟩
        obtain rfl : S1 = [] := Dats.noS dd'
        obtain ⟨S'', R'', st2, kp2, gr2⟩ := lst_write (A := []) (B := B) st' hd' hx foc2 ha' (Same.refl _) ⟨List.nodup_nil, fun b z => by simp at z⟩ (st'.domS i a haS) st' hB haS haS' haR subS (dd'.append (Dats.one gd)) (fun b hb => by simp at hb) (fun b hb => List.mem_append.mp hb) List.nodup_nil hs'
        exact po2 σ _ S'' R'' st2 (kp.trans gr kp2) (gr.trans kp gr2)
      · cases hf
    · cases hf
theorem popAt_other {i j : Nat} (h : j ≠ i) : ∀ ρ d ρ', mPopAt j me ρ = some (d, ρ') → ρ'[i]? = ρ[i]? := by
  intro ρ d ρ' e
  obtain ⟨l, el, e⟩ := Option.bind_eq_some_iff.mp e
  cases ek : me ρ with
  | exn c => rw [ek] at e; cases e
  | stuck => rw [ek] at e; cases e
  | ok kd =>
    rw [ek] at e
    cases kd with
    | int k =>
      dsimp only at e
      split at e
      · obtain ⟨j', _, e⟩ := Option.bind_eq_some_iff.mp e
        obtain ⟨d', _, e⟩ := Option.map_eq_some_iff.mp e
        cases e
        rw [List.getElem?_set_ne h]
      · cases e
    | _ => cases e
end
def iR3 (a b c : Rho → Res D) : Rho → Res (List D) := fun ρ => (a ρ).bind fun x => (b ρ).bind fun y => (c ρ).bind fun z => match x, y, z with
  | .int i, .int j, .int k => if k ≠ 0 ∧ k.natAbs < 1073741824 ∧ Builtin.Range.small i j k = true ∧ 0 ≤ Builtin.Range.rangeSize i j k then .ok ((List.range (Builtin.Range.rangeSize i j k).toNat).map fun m : Nat => .int (i + m * k)) else .stuck
  | _, _, _ => .stuck
theorem iter_rangeC {K : PySem.W.Frag} {H : Hp} {lo c : Int} {n : Nat} : Iter K (Itc lo c n) H [] ((List.range n).map fun k : Nat => D.int (lo + k * c)) := by
  intro H' _ i
  refine ⟨fun h => by (show n ≤ i); simpa using h, fun d e => ?_⟩
  rw [List.getElem?_map] at e
  by_cases hi : i < n
  · rw [List.getElem?_range hi] at e
    cases e
    refine ⟨hi, fun x H3 h => ?_⟩
    obtain ⟨rfl, rfl⟩ := h
    exact ⟨Same.refl _, [], dat_of_int 0, fun a z => z⟩
  · rw [List.getElem?_eq_none (by simpa using hi)] at e
    cases e
section
variable {X : Cx} {W : WX} {Γ : List Nat} {n : Nat} {tg e a b c : Expr} {p pos : Pos} {ma mb mc : Rho → Res D} {mes : Rho → Res (List D)}
theorem ri_r3 (hm : X.mg "range" = none) (ha : RE X W Γ 0 true a ma) (hb : RE X W Γ 0 true b mb) (hc : RE X W Γ 0 true c mc) (hg : Gl X "range" := by rfl)
    (s1 : starEach (a :: [b, c]) X.env = (false, eval a X.env) :: starEach [b, c] X.env := by rfl) (s2 : starEach (b :: [c]) X.env = (false, eval b X.env) :: starEach [c] X.env := by rfl) (s3 : starEach (c :: []) X.env = (false, eval c X.env) :: starEach [] X.env := by rfl)
    (hpl : (backTo pos (starEach [b, c] X.env)).any (·.1) = false := by rfl) : RI X W Γ tg (.Call (.Name "range" p) [a, b, c] [] pos) (iR3 ma mb mc) := by
  obtain ⟨ta, pa, qa⟩ := ha
  obtain ⟨tb, pb, qb⟩ := hb
  obtain ⟨tc, pc, qc⟩ := hc
  refine ⟨_, pi_range3 hg hm (pa_cons pa (pa_cons pb (pa_cons pc pa_nil s3) s2) s1) s1 hpl, fun F H0 ρ σ H S R Rk st po => ?_⟩
  refine qa F H0 ρ σ H S R _ st (PostE.iff.mpr (po.bind.imp fun d _ po => ?_))
  intro x H1 A B e1 d1 _ _
  refine qb F H0 ρ σ H1 S R _ (st.grow e1) (PostE.iff.mpr (po.bind.later e1 fun e _ po => ?_))
  intro y H2 A2 B2 e2 d2 _ _
  refine qc F H0 ρ σ H2 S R _ ((st.grow e1).grow e2) (PostE.iff.mpr (po.bind.later (e1.trans e2) fun f _ po => ?_))
  intro z H3 A3 B3 e3 d3 _ _
  cases d with
  | int i =>
    cases e with
    | int j =>
      cases f with
      | int k =>
        dsimp only at po
        split at po
        · rename_i h
          refine ⟨i, j, k, (Builtin.Range.rangeSize i j k).toNat, by rw [dat_int d1, dat_int d2, dat_int d3], ⟨h.1, h.2.1, h.2.2.1, by omega⟩, po _ H3 [] ((e1.trans e2).trans e3) (fun a z => by simp at z) (fun a z => by simp at z) iter_rangeC⟩
        · exact po.elim
      | _ => exact po.elim
    | _ => exact po.elim
  | _ => exact po.elim
def gDivmod : List D → Option D
  | [.int i, .int j] => if 0 < j ∧ Builtin.divisionGoesByPylong i j = false then some (.tup [.int (i / j), .int (i % j)]) else none
  | _ => none
theorem cv_divmod {K : PySem.W.Frag} : CallV K (fun xs H Q => ∃ i j, xs = [.int i, .int j] ∧ CDivP i j ∧ ∀ p, H p = none → Q (.ref p) (L2.upd H p (.tup [.int (i / j), .int (i % j)]))) gDivmod n := by
  intro Z vs ds z H B Q hz h hb ez po
  unfold gDivmod at ez
  split at ez
  · rename_i i j
    split at ez
    · rename_i hc
      cases ez
      obtain ⟨v, w, B1, B2, rfl, h1, h2, _⟩ := dats2 h
      exact ⟨i, j, by rw [dat_int h1, dat_int h2], hc, fun p hp => new_tup po hp (B := []) (Dats.cons (S1 := []) (R1 := []) (S2 := []) (R2 := []) (dat_of_int _) (Dats.one (dat_of_int _))) (fun a z => by simp at z)⟩
    · cases ez
  · cases ez
theorem re_divmod (hm : X.mg "divmod" = none) (ha : RA X W Γ 0 true [a, b] mes) (hg : Gl X "divmod" := by rfl)
    (he : starEach (a :: [b]) X.env = (false, eval a X.env) :: starEach [b] X.env := by rfl) (hpl : (backTo pos (starEach [b] X.env)).any (·.1) = false := by rfl) : RE X W Γ n true (.Call (.Name "divmod" p) [a, b] [] pos) (mL gDivmod mes) := re_callB call_divmodW cv_divmod hm (by decide +kernel) ha hg (by decide) (by decide) he hpl
end
end TW

-- TWTry
namespace TW
open PySem PySem.Spec PyProof.Rows L2
def ExcG (K : PySem.W.Frag) (mg : Str → Option Value) (x : Str) : Prop :=
  ∃ C, PySem.W.excIn K C [.type "ValueError", .type "Exception", .type "BaseException", .type "object"] "ValueError.__new__" = true ∧ mg x = some (.ref C) ∧ PySem.W.keepIn K (.ref C) = true ∧ PySem.W.subIn K (.ref C) (.type "BaseException") = some true ∧ PySem.W.typeIn K (.ref C) = some (.type "type")
def sRaise (c : Str) : Rho → Out := fun ρ => .ex c ρ
@[simp] theorem sRaise_eq {c : Str} {ρ : Rho} : sRaise c ρ = .ex c ρ := id rfl
section
variable {X : Cx} {W : WX} {n : Nat} {Γ Γ1 : List Nat}
theorem rs_raise {x m : Str} {j : Nat} {p p2 pos pos' : Pos} (hc : X.calm = true) (G : ExcG X.K X.mg x) (tk : Takes X W) (hg : Gl X x := by rfl) (hdb : (x == ("__debug__" : Str)) = false := by decide) :
    RS X W n Γ Γ1 (.Raise (some (.Call (.Name x p) [.Constant (.str m) j p2] [] pos)) none pos') (sRaise x) := by
  obtain ⟨C, xP, gP, kP, bP, tP⟩ := G
  refine ⟨_, ps_raise hc tk (pmk_own PySem.F.excBase_ValueError xP gP kP (raises_own bP tP) hg hdb), fun F H0 ρ σ H S R E st po => ?_⟩
  exact (PostS.ofR (m := (Res.exn x : Res D)) (f := fun _ => .stuck) st po) C H gP (Same.refl H)
def sTry (cs : List (Str × Bool)) (mb : Rho → Out) (ms : Str → Rho → Out) : Rho → Out := fun ρ => match mb ρ with
  | .ex c ρ' => match cs.lookup c with
    | some true => ms c ρ'
    | some false => .ex c ρ'
    | none => .stuck
  | o => o
def CatG (K : PySem.W.Frag) (mg : Str → Option Value) (x : Str) (cs : List (Str × Bool)) : Prop :=
  ∃ T, mg x = some (.ref T) ∧ ∀ c b, cs.lookup c = some b → ∀ C, mg c = some (.ref C) → PySem.W.exmOne K (.ref C) (.ref T) = some b
theorem Sto.nopin {K : PySem.W.Frag} {F : Fr} {H0 H : Hp} {ρ : Rho} {σ : L2.St} {S R : Nat → List Addr} (st : Sto K F H0 Γ ρ σ H S R) (hz : ∀ v ∈ Γ, v ≠ 99) : F.un = F := by
  have : F.pin = fun _ => none := by
    funext i
    cases e : F.pin i with
    | none => rfl
    | some v =>
      have h := (st.pin i v e).1
      rw [List.getD_eq_getElem?_getD] at h
      cases e2 : Γ[i]? with
      | none => rw [e2] at h; cases h
      | some g =>
        rw [e2] at h
        exact absurd h (hz g (List.mem_of_getElem? e2))
  cases F with
  | mk no pin => simp only at this; subst this; rfl
theorem zeros_get (h1 : ∀ v ∈ Γ1, v = 0) (i : Nat) : ([] : List Nat).getD i 0 = Γ1.getD i 0 := by
  rw [List.getD_eq_getElem?_getD, List.getD_eq_getElem?_getD]
  cases e : Γ1[i]? with
  | none => rfl
  | some v => rw [h1 v (List.mem_of_getElem? e)]; rfl
theorem rs_try {T : Str} {cs : List (Str × Bool)} {body suite : List Stmt} {b₀ : Stmt} {np pos pos' : Pos} {mb : Rho → Out} {ms : Str → Rho → Out} (G : CatG X.K X.mg T cs) (tk : Takes X W)
    (hb : ∀ (W' : WX) (pn : List (Addr × Obj)) (xe : Value → Shared → Prop), Takes (X.tr pn xe) W' → PassesOwn (model X.prog X.w) X.A X.env xe → RSs (X.tr pn xe) W' n Γ Γ1 body mb)
    (hsu : ∀ (a : Addr) (oe : Obj) (pn : List (Addr × Obj)) (c : Str) (C : Addr), Zc (.ref C) none oe → (∃ vs, oe.data = .fields vs) → X.mg c = some (.ref C) → RSs (X.suite a ((a, oe) :: pn)) W n Γ1 Γ1 (b₀ :: suite) (ms c))
    (hz : ∀ v ∈ Γ, v ≠ 99 := by decide) (h1 : ∀ v ∈ Γ1, v = 0 := by decide) (hs : X.stack = X.env :: X.outer := by rfl) (hf : X.env.frame = some X.env.locals := by rfl) (hg : Gl X T := by rfl) (hdb : (T == ("__debug__" : Str)) = false := by decide) :
    RS X W n Γ Γ1 (.Try body [.ExceptHandler (some (.Name T np)) none (b₀ :: suite) pos'] [] [] pos) (sTry cs mb ms) := by
  obtain ⟨CT, gT, cat⟩ := G
  refine ⟨_, ps_try_only (c := .ref CT) (tb := fun W' E σ H => ∃ F H0 ρ S R, Sto X.K F H0 Γ ρ σ H S R ∧ PostS X W' F H0 Γ1 n S H E (mb ρ))
    (ts := fun a cls d E σ H => ∃ C c F H0 ρ S R, cls = .ref C ∧ d = none ∧ X.mg c = some (.ref C) ∧ Sto X.K F H0 Γ1 ρ σ H S R ∧ PostS X W F H0 Γ1 n S H E (ms c ρ)) hs hf ⟨hg, hdb, .inl gT⟩ tk (fun W' pn xe tk' ps => ?_) (fun a oe cls d pn hzc hfl => ?_), fun F H0 ρ σ H S R E st po => ?_⟩
  · obtain ⟨t, p, q⟩ := hb W' pn xe tk' ps
    exact ⟨fun pins s σ H D I ⟨F, H0, ρ, S, R, st, po⟩ => p.run pins s σ H D I (q F H0 ρ σ H S R D st po)⟩
  · refine ⟨fun pins s σ H D I ⟨C, c, F, H0, ρ, S, R, e1, e2, hc, st, po⟩ => ?_⟩
    subst e1 e2
    obtain ⟨t, p, q⟩ := hsu a oe pn c C hzc hfl hc
    exact p.run pins s σ H D I (q F H0 ρ σ H S R D st po)
  · refine ⟨F, H0, ρ, S, R, st, ?_⟩
    unfold sTry at po
    cases em : mb ρ with
    | nx ρ' => rw [em] at po; exact po
    | rt d => rw [em] at po; exact po
    | stuck => rw [em] at po; exact po
    | ex c ρ' =>
      rw [em] at po
      dsimp only at po
      intro C σ' H' S' R' hc st' kp gr
      have hF := st.nopin hz
      cases el : cs.lookup c with
      | none => rw [el] at po; exact po.elim
      | some b =>
        rw [el] at po
        refine ⟨b, cat c b el C hc, fun hb a ha => ?_, fun hb => ?_⟩
        · subst hb
          rw [hF] at st'
          exact ⟨C, c, F, H0, ρ', S', R', rfl, rfl, hc, st'.cong (zeros_get h1), PostS.later po kp gr⟩
        · subst hb
          exact po C σ' H' S' R' hc st' kp gr
end
theorem catG_one {K : PySem.W.Frag} {mg : Str → Option Value} {T c : Str} {b : Bool} {A C : Addr} (h : mg T = some (.ref A)) (hc : mg c = some (.ref C)) (e : PySem.W.exmOne K (.ref C) (.ref A) = some b) : CatG K mg T [(c, b)] := by
  refine ⟨A, h, fun c' b' hl C' hC => ?_⟩
  simp only [List.lookup] at hl
  split at hl
  · rename_i q
    have q := eq_of_beq q
    subst q
    cases hl
    rw [hc] at hC
    cases hC
    exact e
  · cases hl
@[simp] theorem sTry_eq {cs : List (Str × Bool)} {mb : Rho → Out} {ms : Str → Rho → Out} {ρ : Rho} : sTry cs mb ms ρ = match mb ρ with
  | .ex c ρ' => match cs.lookup c with
    | some true => ms c ρ'
    | some false => .ex c ρ'
    | none => .stuck
  | o => o := id rfl
end TW

-- TWDisp
namespace TW
open PySem PySem.Spec PyProof.Rows L2
theorem flat_any {K : PySem.W.Frag} {H H' : Hp} {d : D} {y : V} (f : d.flat = true) (h : Dat K H d 0 y [] []) : Dat K H' d 0 y [] [] := by
  cases d <;> first | (exact absurd f Bool.false_ne_true) | (unfold Dat at h ⊢; exact h)
section
variable {X : Cx} {W : WX} {Γ : List Nat} {a b : Expr} {pos : Pos} {ma mb : Rho → Res D}
theorem re_d1 (ha : RE X W Γ 0 true a ma) (hb : RE X W Γ 0 true b mb) : RE X W Γ 0 true (.Dict [some a] [b] pos) (mD1 ma (mFlat mb)) := by
  obtain ⟨ta, pa, qa⟩ := ha
  obtain ⟨tb, pb, qb⟩ := hb
  refine ⟨_, pe_disp (pps_cons pa pb pps_nil) rfl rfl (by simp) (by simp), fun F H0 ρ σ H S R Q st po p hp => ?_⟩
  have s1 : Same H (L2.upd H p (.dK [])) := same_new hp
  have st1 := st.grow s1
  refine qa F H0 ρ σ _ S R _ st1 ?_
  unfold mD1 at po
  cases em : ma ρ with
  | stuck => rw [em] at po; exact po.elim
  | exn c =>
    rw [em] at po
    intro C H' hC s
    exact po C H' hC fun x o e => s x o (s1 x o e)
  | ok k =>
    rw [em, Res.bind_ok] at po
    intro x H2 A B s2 d2 _ _
    have st2 := st1.grow s2
    refine qb F H0 ρ σ H2 S R _ st2 ?_
    cases eb : mb ρ with
    | stuck =>
      rw [show mFlat mb ρ = (mb ρ).bind fun d => if d.flat then .ok d else .stuck from rfl, eb] at po
      exact po.elim
    | exn c =>
      rw [show mFlat mb ρ = (mb ρ).bind fun d => if d.flat then .ok d else .stuck from rfl, eb] at po
      intro C H' hC s
      exact po C H' hC fun x o e => s x o (s2 x o (s1 x o e))
    | ok v =>
      rw [show mFlat mb ρ = (mb ρ).bind fun d => if d.flat then .ok d else .stuck from rfl, eb, Res.bind_ok] at po
      intro y H3 A3 B3 s3 d3 _ _
      by_cases fv : v.flat = true
      · rw [if_pos fv, Res.bind_ok] at po
        cases ek : keyD k with
        | none => rw [ek] at po; exact po.elim
        | some kk =>
          rw [ek] at po
          have hp3 : H3 p = some (.dK []) := s3 p _ (s2 p _ upd_same)
          refine ⟨hp3, [(kk, y)], ?_, by simp, ?_⟩
          · rw [dat_key d2 ek]; rfl
          · have s13 : Same H (L2.upd H3 p (.dK (mergeK [] [(kk, y)]))) := fun x o e => by
              have hx : x ≠ p := fun q => by rw [q, hp] at e; cases e
              rw [upd_ne hx]
              exact s3 x o (s2 x o (s1 x o e))
            refine po (.ref p) _ [] [p] s13 ?_ (fun q hq z => ?_) fun _ => New.nil
            · unfold Dat
              refine ⟨p, [(kk, y)], [], rfl, .of upd_same, rfl, rfl, rfl, ?_⟩
              have d0 := (d3.flat fv).2.2 0
              exact Dats.one (flat_any fv d0)
            · simp at hq; subst hq; exact st.avd _ z hp
      · rw [if_neg fv] at po; exact po.elim
end
end TW

-- TWLendN
namespace TW
open PySem PySem.Spec PyProof.Rows L2
def D.shal : Nat → D → Bool
  | n + 1, .lst l => l.all (D.shal n)
  | _, d => d.flat
theorem shal_dats {K : PySem.W.Frag} {H : Hp} {n : Nat} (ih : ∀ {d : D} {x : V} {S R : List Addr}, D.shal n d = true → Dat K H d n x S R → R = []) : ∀ {ds : List D} {xs : List V} {S R : List Addr}, ds.all (D.shal n) = true → Dats K H ds n xs S R → R = []
  | [], xs, S, R, _, h => by
    unfold Dats at h
    exact h.2.2
  | d :: ds, xs, S, R, f, h => by
    simp only [List.all_cons, Bool.and_eq_true] at f
    unfold Dats at h
    obtain ⟨x, xs', S1, S2, R1, R2, rfl, rfl, rfl, h1, h2⟩ := h
    rw [ih f.1 h1, shal_dats ih f.2 h2]; rfl
theorem shal_dat {K : PySem.W.Frag} {H : Hp} : ∀ {n : Nat} {d : D} {x : V} {S R : List Addr}, D.shal n d = true → Dat K H d n x S R → R = []
  | 0, d, x, S, R, f, h => by
    have f' : d.flat = true := by cases d <;> exact f
    exact (h.flat f').2.1
  | n + 1, .lst l, x, S, R, f, h => by
    unfold Dat at h
    obtain ⟨a, xs, S', rfl, q, rfl, hd⟩ := h
    exact shal_dats (fun f h => shal_dat f h) f hd
  | n + 1, .tup l, x, S, R, f, h => (h.flat f).2.1
  | n + 1, .int _, x, S, R, f, h => (h.flat f).2.1
  | n + 1, .str _, x, S, R, f, h => (h.flat f).2.1
  | n + 1, .bl _, x, S, R, f, h => (h.flat f).2.1
  | n + 1, .non, x, S, R, f, h => (h.flat f).2.1
  | n + 1, .dK _ _, x, S, R, f, h => (h.flat f).2.1
  | n + 1, .dT _ _, x, S, R, f, h => (h.flat f).2.1
  | n + 1, .scr _, x, S, R, f, h => (h.flat f).2.1
  | n + 1, .junk, x, S, R, f, h => (h.flat f).2.1
  | n + 1, .ftup _, x, S, R, f, h => (h.flat f).2.1
def mShal (n : Nat) (m : Rho → Res D) : Rho → Res D := fun ρ => (m ρ).bind fun d => if d.shal n then .ok d else .stuck
@[simp] theorem mShal_eq {n : Nat} {m : Rho → Res D} {ρ : Rho} : mShal n m ρ = (m ρ).bind fun d => if d.shal n then .ok d else .stuck := id rfl
section
variable {X : Cx} {W : WX} {Γ : List Nat} {nf k ar : Nat} {e : Expr} {es : List Expr} {x : Str} {p pos : Pos} {ma : Rho → Res (List D)} {m : List D → Res D}
theorem re_callN (h : FnG X.prog X.w X.K X.mg X.base x k nf ar m) (hr : Room k X.A) (tk : Takes X W) (ha : RAB X W Γ (e :: es) ma) (har : ∀ ρ ds, ma ρ = .ok ds → ds.length = ar) (hg : Gl X x := by rfl)
    (hdb : (x == ("__debug__" : Str)) = false := by decide) (he : starEach (e :: es) X.env = (false, eval e X.env) :: starEach es X.env := by rfl) (hpl : (backTo pos (starEach es X.env)).any (·.1) = false := by rfl) :
    RE X W Γ nf true (.Call (.Name x p) (e :: es) [] pos) (mShal nf (mArgs m ma)) := by
  obtain ⟨f, fd, ps, F, hm, hk, hb⟩ := h.ex
  obtain ⟨ta, pa, qa⟩ := ha
  refine ⟨_, pe_callS F hr hg hm hk hb (fun σ => passAt tk σ) pa hdb he hpl, fun F' H0 ρ σ H S R Q st po => ?_⟩
  unfold mShal at po
  have po := (PostE.iff.mp po).bind
  unfold mArgs at po
  refine qa F' H0 ρ σ H S R _ st (po.bind.imp fun ds eds po => ?_)
  intro xs H1 B s1 d1
  refine ⟨by rw [d1.length]; exact har ρ ds eds, ds, fun _ => False, B, fun _ z => z.elim, d1, fun _ _ z => z, ?_⟩
  cases em : m ds with
  | ok d =>
    rw [em] at po
    intro y H' A' B' s2 d2 _ nw
    by_cases f : d.shal nf = true
    · dsimp only [PostX] at po
      rw [if_pos f] at po
      have := shal_dat f d2
      subst this
      exact po y H' A' [] (s1.trans s2) d2 (fun a z => by simp at z) fun _ => ⟨(nw rfl).1, fun a ha => ⟨s1.free ((nw rfl).2 a ha).1, by simp⟩⟩
    · dsimp only [PostX] at po
      rw [if_neg f] at po
      exact po.elim
  | exn c => rw [em] at po; exact fun C H' hc s2 => po C H' hc (s1.trans s2)
  | stuck => rw [em] at po; exact po
end
end TW

-- TWRevD
namespace TW
open PySem PySem.Spec PyProof.Rows L2
def gRevL : D → Option D
  | .lst l => some (.lst l.reverse)
  | _ => none
theorem gRevL_lst {l : List D} : gRevL (.lst l) = some (.lst l.reverse) := id rfl
theorem avd_of {K : PySem.W.Frag} {F : Fr} {H0 : Hp} {Γ : List Nat} {ρ : Rho} {σ : L2.St} {H : Hp} {S R : Nat → List Addr} (st : Sto K F H0 Γ ρ σ H S R) : ∀ a, Av F S a → H a ≠ none := fun a z => st.avd a z
section
variable {X : Cx} {W : WX} {Γ : List Nat} {n : Nat} {a : Expr} {p1 p2 p3 pos p q : Pos} {k : Nat} {ma : Rho → Res D} {mm : Rho → Res (List D)}
theorem re_revL (ha : RE X W Γ 0 true a ma) (hn : n ≤ 1 := by decide) : RE X W Γ n true (.Subscript a (.Slice none none (some (.UnaryOp .USub (.Constant (.int 1) k p1) p2)) p3) pos) (m1 gRevL ma) := by
  obtain ⟨ta, pa, qa⟩ := ha
  refine ⟨_, pe_revL pa, fun F H0 ρ σ H S R Q st po => ?_⟩
  refine qa F H0 ρ σ H S R _ st (PostE.iff.mpr ((PostE.iff.mp po).bind.imp fun d _ po => ?_))
  intro x H1 A B s1 d1 v1 _
  obtain ⟨z, ez, po⟩ := PostE.ofO (PostE.iff.mpr po)
  obtain rfl : A = [] := Dat.noS d1
  cases d with
  | lst l =>
    cases ez
    obtain ⟨b, xs, R', rfl, q, rfl, hd⟩ := dat_lst0 d1
    obtain ⟨S2, R2, g, p, r⟩ := hd.reverse
    have hS : S2 = [] := p.eq_nil
    subst hS
    have e0 : n - 1 = 0 := by omega
    have st1 := st.grow s1
    refine ⟨b, xs, rfl, .of q, fun l hl => new_lst (PostV.later po s1) hl (B := R2) (by rw [e0]; exact g) (fun c hc => v1 c (List.mem_cons_of_mem _ (r c hc))) (avd_of st1)⟩
  | _ => cases ez
end
def keyToD : Key → D
  | .inl i => .int i
  | .inr s => .str s
def gListDT : List D → Option D
  | [.dT ks _] => some (.lst (ks.map fun k => .tup (k.map keyToD)))
  | _ => none
theorem dats_keyD {K : PySem.W.Frag} {H : Hp} {n : Nat} : ∀ k : List Key, Dats K H (k.map keyToD) n (k.map kV) [] []
  | [] => Dats.nil
  | .inl i :: k => Dats.cons (S1 := []) (R1 := []) (S2 := []) (R2 := []) (dat_of_int n) (dats_keyD k)
  | .inr s :: k => Dats.cons (S1 := []) (R1 := []) (S2 := []) (R2 := []) (dat_of_str n) (dats_keyD k)
theorem dats_isKeys {K : PySem.W.Frag} {H : Hp} {kvs : List (List Key × V)} {bs : List Addr} (h : IsKeys H kvs bs) : Dats K H (kvs.map fun p => .tup (p.1.map keyToD)) 0 (bs.map V.ref) [] [] := by
  unfold IsKeys at h
  induction h with
  | nil => exact Dats.nil
  | cons h t ih =>
    refine Dats.cons (S1 := []) (R1 := []) (S2 := []) (R2 := []) ?_ ih
    unfold Dat
    exact ⟨_, _, rfl, h, dats_keyD _⟩
theorem cv_listDT {K : PySem.W.Frag} {n : Nat} (hn : n ≤ 1 := by decide) : CallV K (fun xs H Q => ∃ d kvs, xs = [V.ref d] ∧ Rd H d (.dT kvs) ∧ ∀ p bs, H p = none → IsKeys H kvs bs → Q (.ref p) (L2.upd H p (.lst (bs.map V.ref)))) gListDT n := by
  intro Z vs ds z H B Q hz h hb ez po
  have e0 : n - 1 = 0 := by omega
  unfold gListDT at ez
  split at ez
  · cases ez
    obtain ⟨v, rfl, h9⟩ := dats1 h
    unfold Dat at h9
    obtain ⟨a, ws, R', rfl, q, rfl, _⟩ := h9
    refine ⟨a, ws, rfl, q, fun p bs hp ik => new_lst po hp (B := []) ?_ (fun a z => by simp at z) hz⟩
    rw [e0]
    have := dats_isKeys (K := K) ik
    rw [List.map_map]
    exact this
  · cases ez
section
variable {X : Cx} {W : WX} {Γ : List Nat} {n : Nat} {e : Expr} {p pos : Pos} {ma : Rho → Res (List D)}
theorem re_listDT (hc : X.calm = true) (hm : X.mg "list" = none) (ha : RA X W Γ 0 true [e] ma) (hn : n ≤ 1 := by decide) (hg : Gl X "list" := by rfl)
    (he : starEach (e :: []) X.env = (false, eval e X.env) :: starEach [] X.env := by rfl) (hpl : (backTo pos (starEach [] X.env)).any (·.1) = false := by rfl) : RE X W Γ n true (.Call (.Name "list" p) [e] [] pos) (mL gListDT ma) := re_callT (call_list_dT hc) (cv_listDT hn) hm boot_list ha hg (by decide) (by decide) he hpl
theorem still_all {K : PySem.W.Frag} {H : Hp} : ∀ {ds : List D} {n : Nat} {xs : List V} {S R : List Addr}, ds.all D.still = true → Dats K H ds n xs S R → R = []
  | [], _, _, _, _, _, h => by
    unfold Dats at h
    exact h.2.2
  | d :: ds, _, _, _, _, f, h => by
    simp only [List.all_cons, Bool.and_eq_true] at f
    unfold Dats at h
    obtain ⟨x, xs', S1, S2, R1, R2, rfl, rfl, rfl, h1, h2⟩ := h
    rw [(h1.still f.1).2.1, still_all f.2 h2]; rfl
theorem keys_still (ks : List (List Key)) : (ks.map fun k => (.tup (k.map keyToD) : D)).all D.still = true := by
  rw [List.all_eq_true]
  intro d hd
  obtain ⟨k, _, rfl⟩ := List.mem_map.mp hd
  show (k.map keyToD).all D.flat = true
  rw [List.all_eq_true]
  intro d hd
  obtain ⟨z, _, rfl⟩ := List.mem_map.mp hd
  cases z <;> rfl
theorem re_listDTB (hc : X.calm = true) (hm : X.mg "list" = none) (ha : RAB X W Γ [e] ma) (hn : n ≤ 1 := by decide) (hg : Gl X "list" := by rfl)
    (he : starEach (e :: []) X.env = (false, eval e X.env) :: starEach [] X.env := by rfl) (hpl : (backTo pos (starEach [] X.env)).any (·.1) = false := by rfl) : RE X W Γ n true (.Call (.Name "list" p) [e] [] pos) (mL gListDT ma) := by
  refine RE.w (n := 1) ?_ hn
  obtain ⟨ta, pa, qa⟩ := ha
  refine ⟨_, pe_callTy (call_list_dT hc) hg hm boot_list pa (by decide) (by decide) he hpl, fun F H0 ρ σ H S R Q st po => ?_⟩
  refine qa F H0 ρ σ H S R _ st ((PostE.iff.mp po).bind.imp fun d _ po => ?_)
  intro xs H1 B s1 d1
  obtain ⟨z, ez, po⟩ := PostA.ofO po
  refine cv_listDT (n := 1) (Nat.le_refl 1) (fun _ => False) xs d z H1 B Q (fun _ z => z.elim) d1 (fun _ _ z => z) ez ?_
  intro v H' A' B' s2 d2 _ nw
  unfold gListDT at ez
  split at ez
  · cases ez
    have d3 := d2
    unfold Dat at d3
    obtain ⟨a, ys, S', rfl, q, rfl, hd⟩ := d3
    obtain rfl := still_all (keys_still _) hd
    exact PostV.later po s1 _ H' _ [] s2 d2 (fun a z => by simp at z) nw
  · cases ez
end
end TW

-- TWTryAs
namespace TW
open PySem PySem.Spec PyProof.Rows L2
theorem boot_ValueError : bootBuiltins "ValueError" = some (.type "ValueError") := by decide +kernel
def ExcK (K : PySem.W.Frag) (mg : Str → Option Value) (c : Str) : Prop := ∃ D, mg c = some (.ref D) ∧ ExcC K D
def TstG (K : PySem.W.Frag) (mg : Str → Option Value) (c T : Str) (b : Bool) : Prop :=
  ∃ D v u, mg c = some (.ref D) ∧ ClsV v u ∧ (mg T = some u ∨ (mg T = none ∧ bootBuiltins T = some u ∧ T ≠ "__name__")) ∧ RelV v u ∧ PySem.W.kitOne K (.ref D) u = some b
theorem tstG_own {K : PySem.W.Frag} {mg : Str → Option Value} {c T : Str} {b : Bool} {D C : Addr} (hc : mg c = some (.ref D)) (hT : mg T = some (.ref C)) (h : PySem.W.kitOne K (.ref D) (.ref C) = some b) : TstG K mg c T b :=
  ⟨D, .ref C, .ref C, hc, .own C, .inl hT, rfl, h⟩
theorem tstG_blt {K : PySem.W.Frag} {mg : Str → Option Value} {c T : Str} {U : String} {b : Bool} {D : Addr} (hc : mg c = some (.ref D)) (hT : mg T = none) (hb : bootBuiltins T = some (.type U)) (hn : T ≠ "__name__") (h : PySem.W.kitOne K (.ref D) (.type U) = some b) : TstG K mg c T b :=
  ⟨D, .ty U, .type U, hc, .ty U, .inr ⟨hT, hb, hn⟩, rfl, h⟩
theorem kit_self {K : PySem.W.Frag} {D : Addr} : PySem.W.kitOne K (.ref D) (.ref D) = some true := if_pos (by simp)
theorem kit_ref {K : PySem.W.Frag} {D C : Addr} {b : Bool} (hd : PySem.W.hasDictIn K C = true) (ht : PySem.W.typeIn K (.ref C) = some (.type "type")) (h : PySem.W.subIn K (.ref D) (.ref C) = some b) (hne : (D == C) = false) : PySem.W.kitOne K (.ref D) (.ref C) = some b := by
  obtain ⟨cd, hc, _⟩ := PySem.W.any_some hd
  have e1 : ((PySem.W.clsIn K C).isSome && PySem.W.typeIn K (.ref C) == some (.type "type")) = true := by rw [hc, ht] <;> rfl
  have e2 : ¬ ((Value.ref D == Value.ref C) = true) := fun z => by
    have := Value.ref.inj (beq_iff_eq.mp z)
    subst this
    simp at hne
  unfold PySem.W.kitOne
  rw [if_neg e2]
  show (if ((PySem.W.clsIn K C).isSome && PySem.W.typeIn K (.ref C) == some (.type "type")) = true then PySem.W.subIn K (.ref D) (.ref C) else none) = some b
  rw [if_pos e1]
  exact h
theorem kit_typ {K : PySem.W.Frag} {D : Addr} {U : String} {b : Bool} (hm : PySem.W.kitMeta U = true) (h : PySem.W.subIn K (.ref D) (.type U) = some b) : PySem.W.kitOne K (.ref D) (.type U) = some b := by
  unfold PySem.W.kitOne
  rw [if_neg (by simp)]
  show (if PySem.W.kitMeta U = true then PySem.W.subIn K (.ref D) (.type U) else none) = some b
  rw [if_pos hm]
  exact h
def rIsET (K : PySem.W.Frag) (D a : Addr) : List V → Hp → VK → Prop := fun xs H Q => ∃ (tp : Addr) (cs : List V) (us : List Value) (b : Bool), xs = [.ref a, .ref tp] ∧ H tp = some (.tup cs) ∧ Paired ClsV cs us ∧ PySem.W.kitAny K (.ref D) us = some b ∧ Q (.bl b) H
theorem call_isET {X : Cx} {a D : Addr} {oe : Obj} {pn : List (Addr × Obj)} (C : ExcC X.K D) (hz : Zc (.ref D) none oe) (hf : ∃ vs, oe.data = .fields vs) : CallR (X.suite a ((a, oe) :: pn)) (.builtin "isinstance") (rIsET X.K D a) := by
  intro pins s σ H xs us Q I r h
  obtain ⟨tp, cs, ws, b, rfl, hT, k, e, q⟩ := h
  obtain ⟨u1, u2, rfl, r1, r2⟩ := vals2 r
  cases (show u1 = Value.ref a from r1)
  cases (show u2 = Value.ref tp from r2)
  obtain ⟨hget, _⟩ := I.pin (a, oe) (List.mem_append.mpr (.inl List.mem_cons_self))
  obtain ⟨vs, hv⟩ := hf
  have J : PySem.W.InstAt s.heap a oe D none := by
    obtain ⟨oc, od, oda, osl⟩ := oe
    obtain ⟨h1, h2⟩ := hz
    dsimp only at h1 h2 hv
    subst h1 h2 hv
    exact ⟨hget, rfl, rfl, trivial⟩
  obtain ⟨_, its, rv, o, h1, h2, n, h3⟩ := (show ObjOk X.prog X.w H s.heap tp (.tup cs) from I.hok tp _ hT)
  have e3 := ClsV.all k rv
  subst e3
  obtain ⟨oc, od, dt, sl⟩ := o
  simp only at h2 h3
  subst h2 h3
  exact PySem.W.kia_tup (PySem.W.handS_kitx_exc C.hg C.hk C.hs C.hd C.ha C.hn C.ht C.hm) I.kIn J h1 e (fun z => nomatch z) fun tk => ⟨.bl b, H, I.kept (t' := tk) fun _ _ z => z, rfl, q⟩
def REp (i : Nat) (a : Addr) (X : Cx) (W : WX) (Γ : List Nat) (n : Nat) (fr : Bool) (e : Expr) (m : Rho → Res D) : Prop :=
  ∃ t, PE X e t ∧ ∀ F H0 ρ σ H S R Q, F.pin i = some (.ref a) → Sto X.K F H0 Γ ρ σ H S R → PostE X W (Av F S) n fr σ H Q (m ρ) → t σ H Q
def RAp (i : Nat) (a : Addr) (X : Cx) (W : WX) (Γ : List Nat) (n : Nat) (fr : Bool) (es : List Expr) (m : Rho → Res (List D)) : Prop :=
  ∃ t, PA X es t ∧ ∀ F H0 ρ σ H S R Q, F.pin i = some (.ref a) → Sto X.K F H0 Γ ρ σ H S R → PostA X W (Av F S) n fr σ H Q (m ρ) → t σ H Q
def RSp (i : Nat) (a : Addr) (X : Cx) (W : WX) (n : Nat) (Γ Γ' : List Nat) (st : Stmt) (m : Rho → Out) : Prop :=
  ∃ t, PS X st t ∧ ∀ F H0 ρ σ H S R E, F.pin i = some (.ref a) → Sto X.K F H0 Γ ρ σ H S R → PostS X W F H0 Γ' n S H E (m ρ) → t E σ H
def RSsp (i : Nat) (a : Addr) (X : Cx) (W : WX) (n : Nat) (Γ Γ' : List Nat) (st : List Stmt) (m : Rho → Out) : Prop :=
  ∃ t, PSs X st t ∧ ∀ F H0 ρ σ H S R E, F.pin i = some (.ref a) → Sto X.K F H0 Γ ρ σ H S R → PostS X W F H0 Γ' n S H E (m ρ) → t E σ H
section
variable {X : Cx} {W : WX} {Γ Γ1 Γ2 : List Nat} {n i k : Nat} {a : Addr} {fr : Bool} {e : Expr} {es : List Expr} {m me : Rho → Res D} {mes : Rho → Res (List D)} {p p2 pos pos' : Pos}
theorem RE.toP (h : RE X W Γ n fr e m) : REp i a X W Γ n fr e m := let ⟨t, p, q⟩ := h; ⟨t, p, fun F H0 ρ σ H S R Q _ st po => q F H0 ρ σ H S R Q st po⟩
theorem RS.toP {st : Stmt} {m : Rho → Out} (h : RS X W n Γ Γ1 st m) : RSp i a X W n Γ Γ1 st m := let ⟨t, p, q⟩ := h; ⟨t, p, fun F H0 ρ σ H S R Q _ st po => q F H0 ρ σ H S R Q st po⟩
theorem rap_nil : RAp i a X W Γ n true [] mA0 := by
  refine ⟨_, pa_nil, fun F H0 ρ σ H S R Q _ st po => ?_⟩
  exact po [] H [] [] (Same.refl H) .nil (fun a z => by simp at z) fun _ => New.nil
theorem rap_cons (he : REp i a X W Γ n true e me) (hes : RAp i a X W Γ n true es mes) (hs : starEach (e :: es) X.env = (false, eval e X.env) :: starEach es X.env := by rfl) : RAp i a X W Γ n true (e :: es) (mA1 me mes) := by
  obtain ⟨ta, pa, qa⟩ := he
  obtain ⟨tb, pb, qb⟩ := hes
  refine ⟨_, pa_cons pa pb hs, fun F H0 ρ σ H S R Q hp st po => ?_⟩
  refine qa F H0 ρ σ H S R _ hp st (PostE.iff.mpr ((PostA.iff.mp po).bind.imp fun d _ po => ?_))
  intro x H1 A B s1 d1 v1 f1
  obtain ⟨n1, w1⟩ := f1 rfl
  refine qb (F.plus A) H0 ρ σ H1 S R _ hp ((st.grow s1).more (fun a ha => Dat.dom d1 a ha) (fun a ha i hi => st.domS i a hi (w1 a ha).1) fun a ha i hi => st.domR i a hi (w1 a ha).1) (PostA.iff.mpr (po.bind.later s1 fun ds _ po => ?_))
  intro xs H2 A' B' s2 d2 v2 f2
  refine po (x :: xs) H2 (A ++ A') (B ++ B') (s1.trans s2) (.cons (d1.same s2) d2) (fun a ha => ?_) fun _ => ?_
  · rcases List.mem_append.mp ha with ha | ha
    · exact v1 a ha
    · exact fun z => v2 a ha (z.imp .inl id)
  · obtain ⟨n2, w2⟩ := f2 rfl
    refine ⟨List.nodup_append.mpr ⟨n1, n2, fun a ha b hb e => ?_⟩, fun a ha => ?_⟩
    · subst e
      exact Dat.dom d1 a ha (w2 a hb).1
    · rcases List.mem_append.mp ha with ha | ha
      · refine ⟨(w1 a ha).1, fun hB => ?_⟩
        rcases List.mem_append.mp hB with hB | hB
        · exact (w1 a ha).2 hB
        · exact v2 a hB (.inl (.inr ha))
      · refine ⟨s1.free (w2 a ha).1, fun hB => ?_⟩
        rcases List.mem_append.mp hB with hB | hB
        · exact Dat.domR d1 a hB (w2 a ha).1
        · exact (w2 a ha).2 hB
theorem rep_lst (he : RAp i a X W Γ n true es mes) : REp i a X W Γ (n + 1) true (.List es pos) (mL gLst mes) := by
  obtain ⟨ta, pa, qa⟩ := he
  refine ⟨_, pe_lst pa, fun F H0 ρ σ H S R Q hp st po => ?_⟩
  refine qa F H0 ρ σ H S R _ hp st (PostA.iff.mpr ((PostE.iff.mp po).bind.imp fun d _ po => ?_))
  intro xs H1 A B s1 d1 v1 f1
  obtain ⟨z, ez, po⟩ := PostA.ofO po
  unfold gLst at ez
  split at ez
  · rename_i hl
    cases ez
    obtain ⟨nd, nw⟩ := f1 rfl
    refine ⟨by rw [d1.length]; exact hl, fun p hp => ?_⟩
    refine po (.ref p) _ (p :: A) B (s1.trans (same_new hp)) ?_ v1 fun _ => ⟨List.nodup_cons.mpr ⟨fun z => Dats.dom d1 p z hp, nd⟩, fun a ha => ?_⟩
    · unfold Dat
      exact ⟨p, xs, A, rfl, upd_same, rfl, d1.same (same_new hp)⟩
    · rcases List.mem_cons.mp ha with rfl | ha
      · exact ⟨s1.free hp, fun hB => Dats.domR d1 _ hB hp⟩
      · exact nw a ha
  · cases ez
theorem rep_tup {j} (he : RAp i a X W Γ (n - 1) true es mes) : REp i a X W Γ n true (.Tuple es j pos) (mL gTup mes) := by
  obtain ⟨ta, pa, qa⟩ := he
  refine ⟨_, pe_tup pa, fun F H0 ρ σ H S R Q hp st po => ?_⟩
  refine qa F H0 ρ σ H S R _ hp st (PostA.iff.mpr ((PostE.iff.mp po).bind.imp fun d _ po => ?_))
  intro xs H1 A B s1 d1 v1 f1
  obtain ⟨z, ez, po⟩ := PostA.ofO po
  unfold gTup at ez
  split at ez
  · rename_i hl
    cases ez
    refine ⟨by rw [d1.length]; exact hl, fun p hp => ?_⟩
    refine po (.ref p) _ A B (s1.trans (same_new hp)) ?_ v1 f1
    unfold Dat
    exact ⟨p, xs, rfl, upd_same, d1.same (same_new hp)⟩
  · cases ez
theorem rep_w (h : REp i a X W Γ n true e m) (hk : k ≤ n) : REp i a X W Γ k true e m := by
  obtain ⟨t, p, q⟩ := h
  refine ⟨t, p, fun F H0 ρ σ H S R Q hp st po => q F H0 ρ σ H S R Q hp st ?_⟩
  cases e : m ρ with
  | stuck => rw [e] at po; exact po
  | exn c => rw [e] at po; exact po
  | ok d =>
    rw [e] at po
    refine fun x H' A B s d' v f => ?_
    obtain ⟨A', B', g, snd, sl, hb, ap⟩ := Dat.weakS hk d'
    obtain ⟨nd, new⟩ := f rfl
    refine po x H' A' B' s g (fun a ha => ?_) fun _ => ⟨snd nd, fun a ha => ⟨(new a (sl a ha)).1, ap nd (fun a ha => (new a ha).2) a ha⟩⟩
    rcases hb a ha with ha | ha
    · exact fun z => st.avd a z (new a ha).1
    · exact v a ha
theorem rsp_set {j : Nat} {x : Str} (h : REp i a X W Γ k true e m) (hN : X.N.Nodup) (hx : Loc X.env.scope x) (hi : X.N[j]? = some x := by rfl) (hl : j < Γ.length := by decide)
    (hs : swapsWith e (some (.Name x pos')) pos.line X.env = pure false := by rfl) (hf : X.fn x = true ∨ X.env.scope.names.lookup x = some .local := by first | exact .inl rfl | exact .inr rfl | assumption) (hp : Γ.getD j 0 ≠ 99 := by decide) (hΓ : Γ.set j k = Γ1 := by rfl) : RSp i a X W n Γ Γ1 (.Assign [.Name x pos'] e pos) (sSet j m) := by
  subst hΓ
  obtain ⟨t, p, q⟩ := h
  refine ⟨_, ps_set hN hi hx p hs hf, fun F H0 ρ σ H S R E hpin st po => ?_⟩
  refine q F H0 ρ σ H S R _ hpin st (PostE.iff.mpr ((PostS.ofR (f := fun d => .nx (ρ.set j (some d))) st po).imp fun d _ po => ?_))
  intro v H1 A B s1 d1 v1 f1
  obtain ⟨nd, nw⟩ := f1 rfl
  have st1 := st.grow s1
  obtain ⟨S', R', st2, gr⟩ := st1.set (i := j) (n := k) (.inl hl) d1 v1 nd (fun a ha => st.same.free (nw a ha).1) (fun a ha z => st.fd a z (nw a ha).1) (fun a ha j hj => st.domS j a hj (nw a ha).1) (fun a ha j hj => st.domR j a hj (nw a ha).1) (fun a ha hb => (nw a ha).2 hb) hp
  exact po _ H1 S' R' st2 (Keep.of_same s1) fun j a ha => (gr j a ha).imp (fun z => ⟨j, z⟩) fun z => (nw a z).1
theorem rssp_nil : RSsp i a X W n Γ Γ [] sNil := by
  refine ⟨_, pss_nil, fun F H0 ρ σ H S R E _ st po => ?_⟩
  exact po σ H S R st Keep.refl Grow.refl
theorem rssp_cons {st : Stmt} {rest : List Stmt} {m m' : Rho → Out} (h1 : RSp i a X W n Γ Γ1 st m) (h2 : RSsp i a X W n Γ1 Γ2 rest m') : RSsp i a X W n Γ Γ2 (st :: rest) (sSeq m m') := by
  obtain ⟨ta, pa, qa⟩ := h1
  obtain ⟨tb, pb, qb⟩ := h2
  refine ⟨_, pss_cons pa pb, fun F H0 ρ σ H S R E hp st po => ?_⟩
  refine qa F H0 ρ σ H S R _ hp st ?_
  unfold sSeq at po
  cases e : m ρ with
  | nx ρ' =>
    rw [e] at po
    exact fun σ' H' S' R' st' k g => qb F H0 ρ' σ' H' S' R' E hp st' (PostS.later po k g)
  | rt d => rw [e] at po; exact po
  | ex c ρ' => rw [e] at po; exact po
  | stuck => rw [e] at po; exact po
theorem rssp_one {st : Stmt} {m : Rho → Out} (h : RSp i a X W n Γ Γ1 st m) : RSsp i a X W n Γ Γ1 [st] m := by
  obtain ⟨t, p, q⟩ := h
  exact ⟨t, pss_one p, q⟩
end
def PCs (X : Cx) (c : Str) (es : List Expr) (bs : List Bool) : Prop := ∃ D vs us t, X.mg c = some (.ref D) ∧ Paired ClsV vs us ∧ PySem.W.kitAny X.K (.ref D) us = some (bs.any id) ∧ vs.length = bs.length ∧ PA X es t ∧ ∀ σ H Q, Q vs H → t σ H Q
theorem pe_tst {X : Cx} {c T : Str} {b : Bool} {p : Pos} (h : TstG X.K X.mg c T b) (hg : Gl X T := by rfl) (hd : (T == ("__debug__" : Str)) = false := by decide) : ∃ D v u, X.mg c = some (.ref D) ∧ ClsV v u ∧ PySem.W.kitOne X.K (.ref D) u = some b ∧ PE X (.Name T p) (tC v) := by
  obtain ⟨D, v, u, hc, k, hm, r, e⟩ := h
  refine ⟨D, v, u, hc, k, e, ?_⟩
  rcases hm with hm | ⟨hm, hv, hn⟩
  · exact pe_glob hg hm r hd
  · exact pe_bltn hg hm hv r hn hd
theorem pcs_nil {X : Cx} {c : Str} {D : Addr} (hc : X.mg c = some (.ref D)) : PCs X c [] [] := ⟨D, [], [], _, hc, .nil, rfl, rfl, pa_nil, fun _ _ _ h => h⟩
theorem pcs_cons {X : Cx} {c T : Str} {b : Bool} {p : Pos} {es : List Expr} {bs : List Bool} (h : TstG X.K X.mg c T b) (r : PCs X c es bs) (hg : Gl X T := by rfl) (hd : (T == ("__debug__" : Str)) = false := by decide)
    (hs : starEach (.Name T p :: es) X.env = (false, eval (.Name T p) X.env) :: starEach es X.env := by rfl) : PCs X c (.Name T p :: es) (b :: bs) := by
  obtain ⟨D, v, u, hc, k, e, pe⟩ := pe_tst (p := p) h hg hd
  obtain ⟨D', vs, us, t, hc', ks, e', hl, pa, q⟩ := r
  rw [hc] at hc'
  cases hc'
  refine ⟨D, v :: vs, u :: us, _, hc, .cons k ks, ?_, by simp [hl], pa_cons pe pa hs, fun σ H Q h => ?_⟩
  · refine kitAny_cons e (fun hb => ?_) (fun hb => ?_)
    · subst hb; simpa using e'
    · subst hb; rfl
  · exact q σ H _ h
section
variable {X : Cx} {W : WX} {Γ : List Nat} {n i : Nat} {a : Addr} {oe : Obj} {pn : List (Addr × Obj)} {C : Addr} {c : Str} {p p2 p3 pos : Pos}
theorem rep_isE {x : Expr} {T : Str} {b : Bool} (hz : Zc (.ref C) none oe) (hf : ∃ vs, oe.data = .fields vs) (hC : X.mg c = some (.ref C)) (hK : ExcK X.K X.mg c) (hT : TstG X.K X.mg c T b) (hm : X.mg "isinstance" = none) (hv : PE (X.suite a ((a, oe) :: pn)) x (tVar i)) (hg : Gl X "isinstance" := by rfl) (hgT : Gl X T := by rfl) (hdT : (T == ("__debug__" : Str)) = false := by decide)
    (he : starEach (x :: [.Name T p2]) X.env = (false, eval x X.env) :: starEach [.Name T p2] X.env := by rfl) (he2 : starEach (.Name T p2 :: []) X.env = (false, eval (.Name T p2) X.env) :: starEach [] X.env := by rfl) (hpl : (backTo pos (starEach [.Name T p2] X.env)).any (·.1) = false := by rfl) :
    REp i a (X.suite a ((a, oe) :: pn)) W Γ n true (.Call (.Name "isinstance" p) [x, .Name T p2] [] pos) (mC (.bl b)) := by
  obtain ⟨D, v, u, hc, k, e, pe⟩ := pe_tst (X := X.suite a ((a, oe) :: pn)) (p := p2) hT hgT hdT
  obtain ⟨D', hc', ex⟩ := hK
  have hc : X.mg c = some (.ref D) := hc
  rw [hC] at hc hc'
  cases hc
  cases hc'
  refine ⟨_, pe_callB (call_isE ex hz hf) hg hm boot_isinstance (pa_cons hv (pa_cons pe pa_nil he2) he) (by decide) (by decide) he hpl, fun F H0 ρ σ H S R Q hp st po => ?_⟩
  have hs := (st.pin i _ hp).2
  exact ⟨_, hs, v, u, b, rfl, fun w r => k.eq r, e, PostV.flat po rfl dat_of_bl⟩
theorem rep_isET {x : Expr} {es : List Expr} {bs : List Bool} {b : Bool} {j} (hz : Zc (.ref C) none oe) (hf : ∃ vs, oe.data = .fields vs) (hC : X.mg c = some (.ref C)) (hK : ExcK X.K X.mg c) (hT : PCs (X.suite a ((a, oe) :: pn)) c es bs) (hm : X.mg "isinstance" = none) (hv : PE (X.suite a ((a, oe) :: pn)) x (tVar i)) (hb : bs.any id = b := by rfl) (hl : bs.length ≤ sizeLine := by decide) (hg : Gl X "isinstance" := by rfl)
    (he : starEach (x :: [.Tuple es j p2]) X.env = (false, eval x X.env) :: starEach [.Tuple es j p2] X.env := by rfl) (he2 : starEach (.Tuple es j p2 :: []) X.env = (false, eval (.Tuple es j p2) X.env) :: starEach [] X.env := by rfl) (hpl : (backTo pos (starEach [.Tuple es j p2] X.env)).any (·.1) = false := by rfl) :
    REp i a (X.suite a ((a, oe) :: pn)) W Γ n true (.Call (.Name "isinstance" p) [x, .Tuple es j p2] [] pos) (mC (.bl b)) := by
  subst hb
  obtain ⟨D, vs, us, t, hc, k, e, hlen, pa, qa⟩ := hT
  obtain ⟨D', hc', ex⟩ := hK
  have hc : X.mg c = some (.ref D) := hc
  rw [hC] at hc hc'
  cases hc
  cases hc'
  refine ⟨_, pe_callB (call_isET ex hz hf) hg hm boot_isinstance (pa_cons hv (pa_cons (pe_tup pa) pa_nil he2) he) (by decide) (by decide) he hpl, fun F H0 ρ σ H S R Q hp st po => ?_⟩
  have hs := (st.pin i _ hp).2
  refine ⟨_, hs, ?_⟩
  refine qa σ H _ ⟨by omega, fun q hq => ?_⟩
  refine ⟨q, vs, us, _, rfl, upd_same, k, e, ?_⟩
  exact po (.bl _) _ [] [] (same_new hq) (dat_of_bl _) (fun a z => by simp at z) fun _ => New.nil
end
section
variable {K : PySem.W.Frag} {F : Fr} {H0 H : Hp} {Γ : List Nat} {ρ : Rho} {σ : L2.St} {S R : Nat → List Addr}
theorem getD_set_ne {i j : Nat} {v : Nat} (h : j ≠ i) : (Γ.set i v).getD j 0 = Γ.getD j 0 := by
  rw [List.getD_eq_getElem?_getD, List.getD_eq_getElem?_getD, List.getElem?_set_ne (Ne.symm h)]
theorem Sto.jpin (h : Sto K F H0 Γ ρ σ H S R) (i : Nat) (v : V) (hp : ∀ j, F.pin j = none) (hi : i < Γ.length) (hl : i < ρ.length) :
    Sto K ⟨F.no, fun j => if j = i then some v else none⟩ H0 (Γ.set i 99) (ρ.set i (some .junk)) (σ.set i (some v)) H (fun j => if j = i then [] else S j) (fun j => if j = i then [] else R j) := by
  refine ⟨h.same, by simp [h.len], fun j e q => ?_, fun j q => ?_, fun j a ha => ?_, fun j => ?_, fun j k hjk a ha hk => ?_, fun j k a ha hk => ?_, fun j a ha => ?_, fun j a ha => ?_, h.fd, fun j w q => ?_⟩
  · by_cases hj : j = i
    · subst hj
      rw [List.getElem?_set_self hl] at q
      cases q
      exact ⟨v, by rw [List.getElem?_set_self (by rw [h.len]; exact hl)], by simp [Dat]⟩
    · rw [List.getElem?_set_ne (Ne.symm hj)] at q
      obtain ⟨y, e1, e2⟩ := h.slot j e q
      refine ⟨y, by rw [List.getElem?_set_ne (Ne.symm hj)]; exact e1, ?_⟩
      rw [if_neg hj, if_neg hj, getD_set_ne hj]
      exact e2
  · by_cases hj : j = i
    · rw [if_pos hj, if_pos hj]; exact ⟨rfl, rfl⟩
    · rw [if_neg hj, if_neg hj]
      refine h.emp j fun e q' => q e ?_
      rw [List.getElem?_set_ne (Ne.symm hj)]
      exact q'
  · try dsimp only at ha
    split at ha
    · simp at ha
    · exact h.new j a ha
  · try dsimp only
    split
    · exact List.nodup_nil
    · exact h.nd j
  · try dsimp only at ha hk
    split at ha
    · simp at ha
    · split at hk
      · simp at hk
      · exact h.dj j k hjk a ha hk
  · try dsimp only at ha hk
    split at ha
    · simp at ha
    · split at hk
      · simp at hk
      · exact h.rs j k a ha hk
  · try dsimp only at ha
    split at ha
    · simp at ha
    · exact h.rf j a ha
  · try dsimp only at ha
    split at ha
    · simp at ha
    · exact h.sf j a ha
  · try dsimp only at q
    split at q
    · rename_i hj
      cases q
      subst hj
      exact ⟨by rw [List.getD_eq_getElem?_getD, List.getElem?_set_self hi]; rfl, by rw [List.getElem?_set_self (by rw [h.len]; exact hl)]⟩
    · cases q
theorem Sto.jgone {Γ1 : List Nat} {i : Nat} (h : Sto K ⟨F.no, F.pin⟩ H0 (Γ1.set i 99) ρ σ H S R) : ∃ S' R', Sto K F.un H0 Γ1 (ρ.set i none) (σ.set i none) H S' R' ∧ ∀ j a, a ∈ S' j → a ∈ S j := by
  refine ⟨fun j => if j = i then [] else S j, fun j => if j = i then [] else R j, ⟨h.same, by simp [h.len], fun j e q => ?_, fun j q => ?_, fun j a ha => ?_, fun j => ?_, fun j k hjk a ha hk => ?_, fun j k a ha hk => ?_, fun j a ha => ?_, fun j a ha => ?_, h.fd, fun j w q => ?_⟩, fun j a ha => ?_⟩
  · by_cases hj : j = i
    · subst hj
      by_cases hl : j < ρ.length
      · rw [List.getElem?_set_self hl] at q; cases q
      · rw [List.getElem?_eq_none (by simp; omega)] at q; cases q
    · rw [List.getElem?_set_ne (Ne.symm hj)] at q
      obtain ⟨y, e1, e2⟩ := h.slot j e q
      refine ⟨y, by rw [List.getElem?_set_ne (Ne.symm hj)]; exact e1, ?_⟩
      rw [if_neg hj, if_neg hj, ← getD_set_ne (Γ := Γ1) (v := 99) hj]
      exact e2
  · by_cases hj : j = i
    · rw [if_pos hj, if_pos hj]; exact ⟨rfl, rfl⟩
    · rw [if_neg hj, if_neg hj]
      refine h.emp j fun e q' => q e ?_
      rw [List.getElem?_set_ne (Ne.symm hj)]
      exact q'
  · try dsimp only at ha
    split at ha
    · simp at ha
    · exact h.new j a ha
  · try dsimp only
    split
    · exact List.nodup_nil
    · exact h.nd j
  · try dsimp only at ha hk
    split at ha
    · simp at ha
    · split at hk
      · simp at hk
      · exact h.dj j k hjk a ha hk
  · try dsimp only at ha hk
    split at ha
    · simp at ha
    · split at hk
      · simp at hk
      · exact h.rs j k a ha hk
  · try dsimp only at ha
    split at ha
    · simp at ha
    · exact h.rf j a ha
  · try dsimp only at ha
    split at ha
    · simp at ha
    · exact h.sf j a ha
  · cases q
  · try dsimp only at ha
    split at ha
    · simp at ha
    · exact ha
end
def sTryA (i : Nat) (c0 : Str) (mb ms : Rho → Out) : Rho → Out := fun ρ => match mb ρ with
  | .ex c ρ' => if c = c0 ∧ i < ρ'.length then match ms (ρ'.set i (some .junk)) with
    | .nx ρ'' => .nx (ρ''.set i none)
    | .rt d => .rt d
    | _ => .stuck
    else .stuck
  | o => o
@[simp] theorem sTryA_eq {i : Nat} {c0 : Str} {mb ms : Rho → Out} {ρ : Rho} : sTryA i c0 mb ms ρ = match mb ρ with
  | .ex c ρ' => if c = c0 ∧ i < ρ'.length then match ms (ρ'.set i (some .junk)) with
    | .nx ρ'' => .nx (ρ''.set i none)
    | .rt d => .rt d
    | _ => .stuck
    else .stuck
  | o => o := id rfl
section
variable {X : Cx} {W : WX} {n : Nat} {Γ Γ1 : List Nat}
theorem rs_tryA {T x c0 : Str} {i : Nat} {body suite : List Stmt} {b₀ : Stmt} {np pos pos' : Pos} {mb ms : Rho → Out} (G : CatG X.K X.mg T [(c0, true)]) (tk : Takes X W)
    (hb : ∀ (W' : WX) (pn : List (Addr × Obj)) (xe : Value → Shared → Prop), Takes (X.tr pn xe) W' → PassesOwn (model X.prog X.w) X.A X.env xe → RSs (X.tr pn xe) W' n Γ Γ1 body mb)
    (hsu : ∀ (a : Addr) (oe : Obj) (pn : List (Addr × Obj)) (C : Addr), Zc (.ref C) none oe → (∃ vs, oe.data = .fields vs) → X.mg c0 = some (.ref C) → RSsp i a (X.suite a ((a, oe) :: pn)) W n (Γ1.set i 99) (Γ1.set i 99) (b₀ :: suite) ms)
    (hN : X.N.Nodup) (hz : ∀ v ∈ Γ, v ≠ 99 := by decide) (h1 : ∀ v ∈ Γ1, v = 0 := by decide) (hl : i < Γ1.length := by decide) (hi : X.N[i]? = some x := by rfl) (hln : X.env.kindOf x = some .local := by rfl) (hs : X.stack = X.env :: X.outer := by rfl) (hf : X.env.frame = some X.env.locals := by rfl) (hg : Gl X T := by rfl) (hdb : (T == ("__debug__" : Str)) = false := by decide) :
    RS X W n Γ Γ1 (.Try body [.ExceptHandler (some (.Name T np)) (some x) (b₀ :: suite) pos'] [] [] pos) (sTryA i c0 mb ms) := by
  obtain ⟨CT, gT, cat⟩ := G
  refine ⟨_, ps_try_as (c := .ref CT) (i := i) (tb := fun W' E σ H => ∃ F H0 ρ S R, Sto X.K F H0 Γ ρ σ H S R ∧ PostS X W' F H0 Γ1 n S H E (mb ρ))
    (ts := fun a cls d E σ H => ∃ C F H0 ρ S R, cls = .ref C ∧ d = none ∧ X.mg c0 = some (.ref C) ∧ F.pin i = some (.ref a) ∧ Sto X.K F H0 (Γ1.set i 99) ρ σ H S R ∧ PostS X W F H0 (Γ1.set i 99) n S H E (ms ρ)) hs hf hN hi hln ⟨hg, hdb, .inl gT⟩ tk (fun W' pn xe tk' ps => ?_) (fun a oe cls d pn hzc hfl => ?_), fun F H0 ρ σ H S R E st po => ?_⟩
  · obtain ⟨t, p, q⟩ := hb W' pn xe tk' ps
    exact ⟨fun pins s σ H D I ⟨F, H0, ρ, S, R, st, po⟩ => p.run pins s σ H D I (q F H0 ρ σ H S R D st po)⟩
  · refine ⟨fun pins s σ H D I ⟨C, F, H0, ρ, S, R, e1, e2, hc, hpin, st, po⟩ => ?_⟩
    subst e1 e2
    obtain ⟨t, p, q⟩ := hsu a oe pn C hzc hfl hc
    exact p.run pins s σ H D I (q F H0 ρ σ H S R D hpin st po)
  · refine ⟨F, H0, ρ, S, R, st, ?_⟩
    unfold sTryA at po
    cases em : mb ρ with
    | nx ρ' => rw [em] at po; exact po
    | rt d => rw [em] at po; exact po
    | stuck => rw [em] at po; exact po
    | ex c ρ' =>
      rw [em] at po
      dsimp only at po
      intro C σ' H' S' R' hc st' kp gr
      have hF := st.nopin hz
      split at po
      · rename_i hcl
        obtain ⟨rfl, hlr⟩ := hcl
        refine ⟨true, cat c true (by simp [List.lookup]) C hc, fun _ a ha => ?_, fun hb => by cases hb⟩
        rw [hF] at st'
        have st1 := st'.cong (zeros_get h1)
        have pn0 : ∀ j, F.pin j = none := fun j => by rw [← hF]; rfl
        have st2 := st1.jpin i (.ref a) pn0 hl hlr
        refine ⟨C, _, H0, _, _, _, rfl, rfl, hc, if_pos rfl, st2, ?_⟩
        have sub : ∀ j b, b ∈ (fun j => if j = i then [] else S' j) j → b ∈ S' j := fun j b hb => by
          dsimp only at hb
          split at hb
          · simp at hb
          · exact hb
        cases es : ms (ρ'.set i (some .junk)) with
        | nx ρ'' =>
          rw [es] at po
          intro σ2 H2 S2 R2 st3 k3 g3
          obtain ⟨S4, R4, st4, sub4⟩ := st3.jgone (F := ⟨F.no, fun j => if j = i then some (.ref a) else none⟩)
          have eF : (Fr.un ⟨F.no, fun j => if j = i then some (V.ref a) else none⟩) = F := hF
          rw [eF] at st4
          have kk : Keep S H H2 := fun b o hb hn => by
            refine k3 b o (kp b o hb hn) fun j hj => ?_
            rcases gr j b (sub j b hj) with ⟨l, z⟩ | z
            · exact hn l z
            · rw [hb] at z; cases z
          refine po _ H2 S4 R4 st4 kk fun j b hb => ?_
          rcases g3 j b (sub4 j b hb) with ⟨l, z⟩ | z
          · exact gr l b (sub l b z)
          · cases hb : H b with
            | none => exact .inr rfl
            | some o =>
              by_cases hq : ∃ l, b ∈ S l
              · exact .inl hq
              · rw [kp b o hb fun l hl => hq ⟨l, hl⟩] at z; cases z
        | rt d => rw [es] at po; exact po
        | ex c ρ'' => rw [es] at po; exact po.elim
        | stuck => rw [es] at po; exact po.elim
      · exact po.elim
end
def sDoM (m : Rho → Option (D × Rho)) : Rho → Out := fun ρ => match m ρ with
  | some r => .nx r.2
  | none => .stuck
@[simp] theorem sDoM_eq {m : Rho → Option (D × Rho)} {ρ : Rho} : sDoM m ρ = match m ρ with
  | some r => .nx r.2
  | none => .stuck := id rfl
theorem rs_doM {X : Cx} {W : WX} {Γ : List Nat} {n : Nat} {e : Expr} {pos : Pos} {m : Rho → Option (D × Rho)} (h : RM X W Γ e m) (hs : swapsWith e none pos.line X.env = pure false := by rfl) : RS X W n Γ Γ (.Expr e pos) (sDoM m) := by
  obtain ⟨t, p, q⟩ := h
  refine ⟨_, ps_expr p hs, fun F H0 ρ σ H S R E st po => ?_⟩
  refine q F H0 ρ σ H S R _ st ?_
  unfold sDoM at po
  cases em : m ρ with
  | none => rw [em] at po; exact po.elim
  | some r =>
    rw [em] at po
    exact ⟨r.1, r.2, rfl, fun x H' S' R' B st' kp gr _ _ => po σ H' S' R' st' kp gr⟩
end TW

-- TWForD
namespace TW
open PySem PySem.Spec PyProof.Rows L2
structure Trd (H H' : Hp) (S : List Addr) : Prop where
  lst : ∀ b xs, H b = some (.lst xs) → H' b = some (.lst xs)
  tup : ∀ b xs, H b = some (.tup xs) → H' b = some (.tup xs)
  ft : ∀ b o xs, H b = some (.frz o (.tup xs)) → H' b = some (.frz o (.tup xs))
  fl : ∀ b o xs, H b = some (.frz o (.lst xs)) → H' b = some (.frz o (.lst xs))
  rK : ∀ b ws, Rd H b (.dK ws) → Rd H' b (.dK ws)
  rT : ∀ b ws, Rd H b (.dT ws) → Rd H' b (.dT ws)
  oK : ∀ b ∈ S, ∀ ws, H b = some (.dK ws) → H' b = some (.dK ws)
  oT : ∀ b ∈ S, ∀ ws, H b = some (.dT ws) → H' b = some (.dT ws)
theorem Trd.mono {H H' : Hp} {S S' : List Addr} (h : Trd H H' S) (hs : ∀ b ∈ S', b ∈ S) : Trd H H' S' := ⟨h.lst, h.tup, h.ft, h.fl, h.rK, h.rT, fun b hb => h.oK b (hs b hb), fun b hb => h.oT b (hs b hb)⟩
section
variable {K : PySem.W.Frag} {H H' : Hp}
mutual
theorem Dat.trd : ∀ (d : D) (n : Nat) (v : V) (S R : List Addr), Trd H H' S → Dat K H d n v S R → Dat K H' d n v S R
  | .non, _, _, _, _, _, h => by simpa [Dat] using h
  | .bl b, _, _, _, _, _, h => by simpa [Dat] using h
  | .int i, _, _, _, _, _, h => by simpa [Dat] using h
  | .str s, _, _, _, _, _, h => by simpa [Dat] using h
  | .junk, _, _, _, _, _, h => by simpa [Dat] using h
  | .scr l, _, _, _, _, st, h => by
    simp only [Dat] at h ⊢
    obtain ⟨⟨a, e, q⟩, h⟩ := h
    exact ⟨⟨a, e, q.imp (fun ⟨o, q⟩ => ⟨o, st.fl _ _ _ q⟩) id⟩, h⟩
  | .lst ds, 0, v, S, R, st, h => by
    simp only [Dat] at h ⊢
    obtain ⟨a, xs, R', rfl, q, rfl, rfl, hd⟩ := h
    exact ⟨a, xs, R', rfl, st.lst _ _ q, rfl, rfl, Dats.trd ds 0 xs [] R' st hd⟩
  | .lst ds, n + 1, v, S, R, st, h => by
    simp only [Dat] at h ⊢
    obtain ⟨a, xs, S', rfl, q, rfl, hd⟩ := h
    exact ⟨a, xs, S', rfl, st.lst _ _ q, rfl, Dats.trd ds n xs S' R (st.mono fun b z => List.mem_cons_of_mem _ z) hd⟩
  | .tup ds, n, v, S, R, st, h => by
    simp only [Dat] at h ⊢
    obtain ⟨a, xs, rfl, q, hd⟩ := h
    exact ⟨a, xs, rfl, st.tup _ _ q, Dats.trd ds (n - 1) xs S R st hd⟩
  | .ftup ds, n, v, S, R, st, h => by
    simp only [Dat] at h ⊢
    obtain ⟨a, xs, rfl, q, hd⟩ := h
    exact ⟨a, xs, rfl, q.imp fun o q => ⟨q.1, st.ft _ _ _ q.2⟩, Dats.trd ds (n - 1) xs S R st hd⟩
  | .dK ks ds, 0, v, S, R, st, h => by
    simp only [Dat] at h ⊢
    obtain ⟨a, ws, R', rfl, q, hk, rfl, rfl, hd⟩ := h
    exact ⟨a, ws, R', rfl, st.rK _ _ q, hk, rfl, rfl, Dats.trd ds 0 _ [] R' st hd⟩
  | .dK ks ds, n + 1, v, S, R, st, h => by
    simp only [Dat] at h ⊢
    obtain ⟨a, ws, S', rfl, q, hk, rfl, hd⟩ := h
    exact ⟨a, ws, S', rfl, st.oK _ List.mem_cons_self _ q, hk, rfl, Dats.trd ds n _ S' R (st.mono fun b z => List.mem_cons_of_mem _ z) hd⟩
  | .dT ks ds, 0, v, S, R, st, h => by
    simp only [Dat] at h ⊢
    obtain ⟨a, ws, R', rfl, q, hk, rfl, rfl, hd⟩ := h
    exact ⟨a, ws, R', rfl, st.rT _ _ q, hk, rfl, rfl, Dats.trd ds 0 _ [] R' st hd⟩
  | .dT ks ds, n + 1, v, S, R, st, h => by
    simp only [Dat] at h ⊢
    obtain ⟨a, ws, S', rfl, q, hk, rfl, hd⟩ := h
    exact ⟨a, ws, S', rfl, st.oT _ List.mem_cons_self _ q, hk, rfl, Dats.trd ds n _ S' R (st.mono fun b z => List.mem_cons_of_mem _ z) hd⟩
theorem Dats.trd : ∀ (ds : List D) (n : Nat) (xs : List V) (S R : List Addr), Trd H H' S → Dats K H ds n xs S R → Dats K H' ds n xs S R
  | [], _, _, _, _, _, h => by simpa [Dats] using h
  | d :: ds, n, xs, S, R, st, h => by
    simp only [Dats] at h ⊢
    obtain ⟨x, xs', S1, S2, R1, R2, rfl, rfl, rfl, h1, h2⟩ := h
    exact ⟨x, xs', S1, S2, R1, R2, rfl, rfl, rfl, Dat.trd d n x S1 R1 (st.mono fun b z => List.mem_append_left _ z) h1, Dats.trd ds n xs' S2 R2 (st.mono fun b z => List.mem_append_right _ z) h2⟩
end
def IsDic : HO → Prop
  | .dK _ => True
  | .dT _ => True
  | _ => False
theorem trd_lock {a : Addr} {u : HO} {od : Obj} {S : List Addr} (hu : IsDic u) (h : H a = some u) (hS : a ∉ S) : Trd H (L2.upd H a (.frz od u)) S := by
  have nd : ∀ {b o}, H b = some o → ¬ IsDic o → b ≠ a := fun {b o} e hn z => by subst z; rw [h] at e; cases e; exact hn hu
  refine ⟨fun b xs e => ?_, fun b xs e => ?_, fun b o xs e => ?_, fun b o xs e => ?_, fun b ws e => ?_, fun b ws e => ?_, fun b hb ws e => ?_, fun b hb ws e => ?_⟩
  · rw [upd_ne (nd e id)]; exact e
  · rw [upd_ne (nd e id)]; exact e
  · rw [upd_ne (nd e id)]; exact e
  · rw [upd_ne (nd e id)]; exact e
  · rcases e with e | ⟨o, e⟩
    · by_cases hb : b = a
      · subst hb; rw [h] at e; cases e; exact .inr ⟨od, upd_same⟩
      · exact .inl (by rw [upd_ne hb]; exact e)
    · exact .inr ⟨o, by rw [upd_ne (nd e id)]; exact e⟩
  · rcases e with e | ⟨o, e⟩
    · by_cases hb : b = a
      · subst hb; rw [h] at e; cases e; exact .inr ⟨od, upd_same⟩
      · exact .inl (by rw [upd_ne hb]; exact e)
    · exact .inr ⟨o, by rw [upd_ne (nd e id)]; exact e⟩
  · rw [upd_ne (fun z : b = a => hS (by rw [← z]; exact hb))]; exact e
  · rw [upd_ne (fun z : b = a => hS (by rw [← z]; exact hb))]; exact e
theorem trd_unlock {a : Addr} {u : HO} {od : Obj} {S : List Addr} (hu : IsDic u) (h : H a = some (.frz od u)) : Trd H (L2.upd H a u) S := by
  have nd : ∀ {b o}, H b = some o → (∀ o' u', o = .frz o' u' → ¬ IsDic u') → b ≠ a := fun {b o} e hn z => by subst z; rw [h] at e; cases e; exact hn _ _ rfl hu
  refine ⟨fun b xs e => ?_, fun b xs e => ?_, fun b o xs e => ?_, fun b o xs e => ?_, fun b ws e => ?_, fun b ws e => ?_, fun b hb ws e => ?_, fun b hb ws e => ?_⟩
  · rw [upd_ne (nd e (fun _ _ z => nomatch z))]; exact e
  · rw [upd_ne (nd e (fun _ _ z => nomatch z))]; exact e
  · rw [upd_ne (nd e (fun _ _ z => by cases z; exact id))]; exact e
  · rw [upd_ne (nd e (fun _ _ z => by cases z; exact id))]; exact e
  · rcases e with e | ⟨o, e⟩
    · exact .inl (by rw [upd_ne (nd e (fun _ _ z => nomatch z))]; exact e)
    · by_cases hb : b = a
      · subst hb; rw [h] at e; cases e; exact .inl upd_same
      · exact .inr ⟨o, by rw [upd_ne hb]; exact e⟩
  · rcases e with e | ⟨o, e⟩
    · exact .inl (by rw [upd_ne (nd e (fun _ _ z => nomatch z))]; exact e)
    · by_cases hb : b = a
      · subst hb; rw [h] at e; cases e; exact .inl upd_same
      · exact .inr ⟨o, by rw [upd_ne hb]; exact e⟩
  · rw [upd_ne (nd e (fun _ _ z => nomatch z))]; exact e
  · rw [upd_ne (nd e (fun _ _ z => nomatch z))]; exact e
theorem Sto.trd {F : Fr} {H0 H0' : Hp} {Γ : List Nat} {ρ : Rho} {σ : L2.St} {S R : Nat → List Addr} (h : Sto K F H0 Γ ρ σ H S R) (t : ∀ i, Trd H H' (S i)) (s : Same H0' H') (n : ∀ i, ∀ a ∈ S i, H0' a = none) (f : ∀ a, F a → H' a ≠ none) : Sto K F H0' Γ ρ σ H' S R :=
  ⟨s, h.len, fun i d e => let ⟨x, e1, e2⟩ := h.slot i d e; ⟨x, e1, Dat.trd d _ x _ _ (t i) e2⟩, h.emp, n, h.nd, h.dj, h.rs, h.rf, h.sf, f, h.pin⟩
end
theorem iter_keysT {K : PySem.W.Frag} {H : Hp} {a : Addr} {o : Obj} {ws : List (List Key × V)} (h : H a = some (.frz o (.dT ws))) : Iter K (Itkt a o ws) H [a] ((ws.map (·.1)).map fun k => .tup (k.map keyToD)) := by
  intro H' st i
  have h' := st.res a (by simp) _ h
  refine ⟨fun hl => ⟨h', by simpa using hl⟩, fun d e => ?_⟩
  rw [List.getElem?_map, List.getElem?_map] at e
  cases ew : ws[i]? with
  | none => rw [ew] at e; cases e
  | some p =>
    rw [ew] at e
    cases e
    refine ⟨⟨h', (List.getElem?_eq_some_iff.mp ew).1⟩, fun x H3 hy => ?_⟩
    obtain ⟨rfl, k, v, q, e1, rfl, e2⟩ := hy
    rw [ew] at e1
    cases e1
    refine ⟨Same.refl _, [], ?_, fun a z => by simp at z⟩
    unfold Dat
    exact ⟨q, _, rfl, e2, dats_keyD _⟩
theorem iter_keysK {K : PySem.W.Frag} {H : Hp} {a : Addr} {o : Obj} {ws : List (Key × V)} (h : H a = some (.frz o (.dK ws))) : Iter K (Itk a o ws) H [a] ((ws.map (·.1)).map keyToD) := by
  intro H' st i
  have h' := st.res a (by simp) _ h
  refine ⟨fun hl => ⟨h', by simpa using hl⟩, fun d e => ?_⟩
  rw [List.getElem?_map, List.getElem?_map] at e
  cases ew : ws[i]? with
  | none => rw [ew] at e; cases e
  | some p =>
    rw [ew] at e
    cases e
    refine ⟨⟨h', (List.getElem?_eq_some_iff.mp ew).1⟩, fun x H3 hy => ?_⟩
    obtain ⟨rfl, k, v, e1, rfl⟩ := hy
    rw [ew] at e1
    cases e1
    refine ⟨Same.refl _, [], ?_, fun a z => by simp at z⟩
    cases k with
    | inl z => exact dat_of_int 0
    | inr z => exact dat_of_str 0
def dicKeys : D → Option (List D)
  | .dT ks _ => some (ks.map fun k => .tup (k.map keyToD))
  | .dK ks _ => some (ks.map keyToD)
  | _ => none
def outX : Out → Out
  | .ex _ _ => .stuck
  | o => o
def sForD (i : Nat) (f : D → Rho → Option Rho) (b : Rho → Out) : Rho → Out := fun ρ => match ρ[i]? with
  | some (some d) => match dicKeys d with
    | some ds => outX (forL f b ds ρ)
    | none => .stuck
  | _ => .stuck
section
variable {X : Cx} {W : WX} {n : Nat} {Γ : List Nat}
theorem for_core {F : Fr} {S R : Nat → List Addr} {H1 H0 : Hp} {σ : L2.St} {E : Ends} {ρ : Rho} {J : It} {B : List Addr} {ds : List D} {wi : TI} {g : TG} {tb : TS} {f : D → Rho → Option Rho} {mb : Rho → Out}
    (qg : ∀ F H0 ρ σ H S R d x B ρ' (Q : L2.St → Hp → Prop), Sto X.K F H0 Γ ρ σ H S R → Dat X.K H d 0 x [] B → (∀ a ∈ B, ¬ Av F S a) → f d ρ = some ρ' → (∀ σ' R', Sto X.K F H0 Γ ρ' σ' H S R' → Q σ' H) → g x σ H Q)
    (qb : ∀ F H0 ρ σ H S R E, Sto X.K F H0 Γ ρ σ H S R → PostS X W F H0 Γ n S H E (mb ρ) → tb E σ H)
    (hwi : ∀ Rk : It → Hp → Prop, Rk J H1 → wi σ H1 Rk) (st1 : Sto X.K F H0 Γ ρ σ H1 S R) (v1 : ∀ a ∈ B, ¬ Av F S a) (dm : ∀ a ∈ B, H1 a ≠ none) (it1 : Iter X.K J H1 B ds) (po1 : PostS X W F H0 Γ n S H1 E (forL f mb ds ρ)) : tFor wi g tb E σ H1 := by
  refine hwi _ ?_
  refine ⟨fun i m σ' H' => ∃ ρ' S' R', Sto X.K F H0 Γ ρ' σ' H' S' R' ∧ Keep S H1 H' ∧ Grow S H1 S' ∧ PostS X W F H0 Γ n S' H' E (forL f mb (ds.drop i) ρ') ∧ m = ds.length - i ∧ i ≤ ds.length,
    ⟨ds.length, ρ, S, R, st1, Keep.refl, Grow.refl, by simpa using po1, by omega, Nat.zero_le _⟩, ?_⟩
  rintro i m σ' H' ⟨ρ', S', R', st', k', g', po', rfl, hi'⟩
  have stay : Stay H1 H' [] B := st1.stay k' v1
  have v' : ∀ a ∈ B, ¬ Av F S' a := fun a ha z => by
    rcases z with z | ⟨j, z⟩
    · exact v1 a ha (.inl z)
    · rcases g' j a z with ⟨l, z⟩ | z
      · exact v1 a ha (.inr ⟨l, z⟩)
      · exact dm a ha z
  by_cases hlt : i < ds.length
  · have ed : ds[i]? = some ds[i] := List.getElem?_eq_getElem hlt
    obtain ⟨go, yld⟩ := (it1 H' stay i).2 _ ed
    rw [List.drop_eq_getElem_cons hlt] at po'
    refine .inr ⟨go, fun σ2 H2 => ∃ m', m' < ds.length - i ∧ ∃ ρ' S' R', Sto X.K F H0 Γ ρ' σ2 H2 S' R' ∧ Keep S H1 H2 ∧ Grow S H1 S' ∧ PostS X W F H0 Γ n S' H2 E (forL f mb (ds.drop (i + 1)) ρ') ∧ m' = ds.length - (i + 1) ∧ i + 1 ≤ ds.length, fun _ _ h => h, fun x H3 hy => ?_⟩
    obtain ⟨s3, B', d3, sub⟩ := yld x H3 hy
    unfold forL at po'
    cases ef : f ds[i] ρ' with
    | none => rw [ef] at po'; exact po'.elim
    | some ρ2 =>
      rw [ef] at po'
      dsimp only at po'
      have k3 : Keep S' H' H3 := Keep.of_same s3
      refine qg F H0 ρ' σ' H3 S' R' ds[i] x B' ρ2 _ (st'.grow s3) d3 (fun a ha => v' a (sub a ha)) ef fun σ4 R4 st4 => ?_
      refine qb F H0 ρ2 σ4 H3 S' R4 _ st4 (PostS.bind (PostS.later po' k3 Grow.refl) fun ρ5 σ5 H5 S5 R5 e5 st5 k5 g5 => ?_)
      have k35 : Keep S' H' H5 := k3.trans Grow.refl k5
      have g35 : Grow S' H' S5 := Grow.trans Grow.refl k3 g5
      refine ⟨ds.length - (i + 1), by omega, ρ5, S5, R5, st5, k'.trans g' k35, g'.trans k' g35, ?_, rfl, hlt⟩
      rw [e5] at po'
      exact PostS.later po' k35 g35
  · have e : i = ds.length := by omega
    subst e
    refine .inl ⟨(it1 H' stay _).1 (Nat.le_refl _), ?_⟩
    rw [List.drop_length] at po'
    exact po' σ' H' S' R' st' Keep.refl Grow.refl
theorem lock_post {F : Fr} {S R : Nat → List Addr} {H H0 : Hp} {σ : L2.St} {E : Ends} {ρ : Rho} {a : Addr} {u : HO} {od : Obj} {o : Out} (hu : IsDic u) (st : Sto X.K F H0 Γ ρ σ H S R) (h : H a = some u) (hS : ∀ j, a ∉ S j) (hF : ¬ F a) (po : PostS X W F H0 Γ n S H E (outX o)) :
    PostS X W F (L2.upd H0 a (.frz od u)) Γ n S (L2.upd H a (.frz od u)) ⟨fun σ' H' => H' a = some (.frz od u) ∧ E.nx σ' (L2.upd H' a u), fun v H' => H' a = some (.frz od u) ∧ E.rt v (L2.upd H' a u), fun σ' H' => H' a = some (.frz od u) ∧ E.bk σ' (L2.upd H' a u), fun σ' H' => H' a = some (.frz od u) ∧ E.ct σ' (L2.upd H' a u)⟩ o := by
  have sameBack : ∀ {H' : Hp}, Same (L2.upd H0 a (.frz od u)) H' → Same H0 (L2.upd H' a u) := fun {H'} s b x e => by
    by_cases hb : b = a
    · subst hb
      have := st.same _ _ e
      rw [h] at this
      cases this
      exact upd_same
    · rw [upd_ne hb]
      exact s b x (by rw [upd_ne hb]; exact e)
  cases o with
  | nx ρ' =>
    intro σ' H' S' R' st' kp gr
    have ha : H' a = some (.frz od u) := kp a _ upd_same hS
    refine ⟨ha, po σ' (L2.upd H' a u) S' R' (st'.trd (fun i => trd_unlock hu ha) (sameBack st'.same) (fun i b hb => ?_) (fun b hb => ?_)) (fun b x e hn => ?_) (fun i b hb => ?_)⟩
    · have := st'.new i b hb
      by_cases hb2 : b = a
      · subst hb2; rw [upd_same] at this; cases this
      · rw [upd_ne hb2] at this; exact this
    · by_cases hb2 : b = a
      · subst hb2; rw [upd_same]; simp
      · rw [upd_ne hb2]; exact st'.fd b hb
    · by_cases hb2 : b = a
      · subst hb2; rw [h] at e; cases e; exact upd_same
      · rw [upd_ne hb2]; exact kp b x (by rw [upd_ne hb2]; exact e) hn
    · rcases gr i b hb with z | z
      · exact .inl z
      · by_cases hb2 : b = a
        · subst hb2; rw [upd_same] at z; cases z
        · rw [upd_ne hb2] at z; exact .inr z
  | rt d =>
    intro x H' A B s d1 nw av
    have ha : H' a = some (.frz od u) := s a _ upd_same
    refine ⟨ha, po x (L2.upd H' a u) A B (sameBack s) (Dat.trd d n x A B (trd_unlock hu ha) d1) ⟨nw.1, fun b hb => ⟨?_, (nw.2 b hb).2⟩⟩ av⟩
    have := (nw.2 b hb).1
    by_cases hb2 : b = a
    · subst hb2; rw [upd_same] at this; cases this
    · rw [upd_ne hb2] at this; exact this
  | ex c ρ' => exact po.elim
  | stuck => exact po.elim
theorem lock_sto {F : Fr} {S R : Nat → List Addr} {H H0 : Hp} {σ : L2.St} {ρ : Rho} {a : Addr} {u : HO} {od : Obj} (hu : IsDic u) (st : Sto X.K F H0 Γ ρ σ H S R) (h : H a = some u) (hS : ∀ j, a ∉ S j) : Sto X.K F (L2.upd H0 a (.frz od u)) Γ ρ σ (L2.upd H a (.frz od u)) S R := by
  refine st.trd (fun i => trd_lock hu h (hS i)) (fun b x e => ?_) (fun i b hb => ?_) (fun b hb => ?_)
  · by_cases hb : b = a
    · subst hb; rw [upd_same] at e ⊢; exact e
    · rw [upd_ne hb] at e ⊢; exact st.same b x e
  · rw [upd_ne (fun z : b = a => hS i (by rw [← z]; exact hb))]
    exact st.new i b hb
  · by_cases hb2 : b = a
    · subst hb2; rw [upd_same]; simp
    · rw [upd_ne hb2]; exact st.fd b hb
theorem rs_forD {tg it : Expr} {body : List Stmt} {pos : Pos} {i : Nat} {f : D → Rho → Option Rho} {mb : Rho → Out} (hp : PassesOwn (model X.prog X.w) X.A X.env X.xe) (hc : X.calm = true) (hv : PE X it (tVar i)) (hg : RG X Γ tg f) (hb : RSs X W n Γ Γ body mb) (hi : Γ.getD i 0 = 0 := by rfl)
    (hs : ∀ x, foldedSetIterable it X.env x = pure x := by intro _; rfl) : RS X W n Γ Γ (.For tg it body [] pos) (sForD i f mb) := by
  obtain ⟨g, pg, qg⟩ := hg
  obtain ⟨tb, pb, qb⟩ := hb
  have P := ps_for (pos := pos) hp hc (pi_keys (tg := tg) hv) pg pb hs
  have PL := ps_lock P
  refine ⟨fun E σ H => tFor (iKeys (tVar i)) g tb E σ H ∨ tLock (tFor (iKeys (tVar i)) g tb) E σ H, ⟨fun pins s σ H E I h => h.elim (P.run pins s σ H E I) (PL.run pins s σ H E I)⟩, fun F H0 ρ σ H S R E st po => ?_⟩
  unfold sForD at po
  cases e1 : ρ[i]? with
  | none => rw [e1] at po; exact po.elim
  | some od =>
    cases od with
    | none => rw [e1] at po; exact po.elim
    | some d =>
      rw [e1] at po
      dsimp only at po
      obtain ⟨x, hx, q⟩ := st.slot i d e1
      rw [hi] at q
      have core : ∀ (H0 H : Hp) (E : Ends) (a : Addr) (J : It) (ds : List D), Sto X.K F H0 Γ ρ σ H S R → (∀ Rk : It → Hp → Prop, Rk J H → iKeys (tVar i) σ H Rk) → H a ≠ none → a ∈ R i → Iter X.K J H [a] ds → PostS X W F H0 Γ n S H E (forL f mb ds ρ) → tFor (iKeys (tVar i)) g tb E σ H := fun H0 H E a J ds st hw hn hR hit po => by
        have va : ¬ Av F S a := fun z => z.elim (st.rf i a hR) fun ⟨j, z⟩ => st.rs i j a hR z
        exact for_core (B := [a]) qg qb hw st (fun b hb => by rw [List.mem_singleton.mp hb]; exact va) (fun b hb => by rw [List.mem_singleton.mp hb]; exact hn) hit po
      have outx : ∀ o : Out, PostS X W F H0 Γ n S H E (outX o) → PostS X W F H0 Γ n S H E o := fun o h => by
        cases o with
        | ex c ρ' => exact h.elim
        | _ => exact h
      cases d with
      | dT ks vs =>
        unfold Dat at q
        obtain ⟨a, ws, R', rfl, hr, rfl, hS, hR, hd⟩ := q
        have haR : a ∈ R i := by rw [hR]; simp
        have haS : ∀ j, a ∉ S j := fun j z => st.rs i j a haR z
        have po : PostS X W F H0 Γ n S H E (outX (forL f mb ((ws.map (·.1)).map fun k => .tup (k.map keyToD)) ρ)) := po
        rcases hr with hr | ⟨o, hr⟩
        · refine .inr ⟨a, .dT ws, hr, trivial, fun od => ?_⟩
          refine core _ _ _ a (Itkt a od ws) _ (lock_sto trivial st hr haS) (fun Rk h => ⟨_, hx, a, od, rfl, .inr ⟨ws, upd_same, h⟩⟩) (by rw [upd_same]; simp) haR (iter_keysT upd_same) (lock_post trivial st hr haS (st.rf i a haR) po)
        · exact .inl (core _ _ _ a (Itkt a o ws) _ st (fun Rk h => ⟨_, hx, a, o, rfl, .inr ⟨ws, hr, h⟩⟩) (by rw [hr]; simp) haR (iter_keysT hr) (outx _ po))
      | dK ks vs =>
        unfold Dat at q
        obtain ⟨a, ws, R', rfl, hr, rfl, hS, hR, hd⟩ := q
        have haR : a ∈ R i := by rw [hR]; simp
        have haS : ∀ j, a ∉ S j := fun j z => st.rs i j a haR z
        have po : PostS X W F H0 Γ n S H E (outX (forL f mb ((ws.map (·.1)).map keyToD) ρ)) := po
        rcases hr with hr | ⟨o, hr⟩
        · refine .inr ⟨a, .dK ws, hr, trivial, fun od => ?_⟩
          refine core _ _ _ a (Itk a od ws) _ (lock_sto trivial st hr haS) (fun Rk h => ⟨_, hx, a, od, rfl, .inl ⟨ws, upd_same, h⟩⟩) (by rw [upd_same]; simp) haR (iter_keysK upd_same) (lock_post trivial st hr haS (st.rf i a haR) po)
        · exact .inl (core _ _ _ a (Itk a o ws) _ st (fun Rk h => ⟨_, hx, a, o, rfl, .inl ⟨ws, hr, h⟩⟩) (by rw [hr]; simp) haR (iter_keysK hr) (outx _ po))
      | _ => exact po.elim
end
@[simp] theorem sForD_eq {i : Nat} {f : D → Rho → Option Rho} {b : Rho → Out} {ρ : Rho} : sForD i f b ρ = match ρ[i]? with
  | some (some d) => match dicKeys d with
    | some ds => outX (forL f b ds ρ)
    | none => .stuck
  | _ => .stuck := id rfl
end TW

-- TWMv
namespace TW
open PySem PySem.Spec PyProof.Rows L2
def sMv (i j : Nat) : Rho → Out := fun ρ => match ρ[j]? with
  | some (some d) => .nx ((ρ.set j none).set i (some d))
  | _ => .stuck
@[simp] theorem sMv_eq {i j : Nat} {ρ : Rho} : sMv i j ρ = match ρ[j]? with
  | some (some d) => .nx ((ρ.set j none).set i (some d))
  | _ => .stuck := id rfl
theorem rs_mv {X : Cx} {W : WX} {Γ Γ1 : List Nat} {n i j k : Nat} {x : Str} {e : Expr} {pos pos' : Pos} (hy : PE X e (tVar j)) (hN : X.N.Nodup) (hx : Loc X.env.scope x) (hi : X.N[i]? = some x := by rfl) (hj : Γ.getD j 0 = k := by rfl) (hij : i ≠ j := by decide) (hl : i < Γ.length := by decide)
    (hs : swapsWith e (some (.Name x pos')) pos.line X.env = pure false := by rfl) (hf : X.fn x = true ∨ X.env.scope.names.lookup x = some .local := by first | exact .inl rfl | exact .inr rfl | assumption) (hp : Γ.getD i 0 ≠ 99 := by decide) (hΓ : Γ.set i k = Γ1 := by rfl) : RS X W n Γ Γ1 (.Assign [.Name x pos'] e pos) (sMv i j) := by
  subst hΓ hj
  refine ⟨_, ps_set hN hi hx hy hs hf, fun F H0 ρ σ H S R E st po => ?_⟩
  unfold sMv at po
  cases ej : ρ[j]? with
  | none => rw [ej] at po; exact po.elim
  | some oj =>
    cases oj with
    | none => rw [ej] at po; exact po.elim
    | some d =>
      rw [ej] at po
      obtain ⟨y, hyσ, gy⟩ := st.slot j d ej
      refine ⟨y, hyσ, ?_⟩
      have stD := st.drop j
      obtain ⟨S', R', st2, gr⟩ := stD.set (i := i) (n := Γ.getD j 0) (A := S j) (B := R j) (.inl hl) gy (fun a ha z => by
          rcases z with z | ⟨l, z⟩
          · exact st.rf j a ha z
          · dsimp only at z
            split at z
            · simp at z
            · exact st.rs j l a ha z) (st.nd j) (fun a ha => st.new j a ha) (fun a ha => st.sf j a ha) (fun a ha l z => by
          split at z
          · simp at z
          · rename_i hlj
            exact st.dj j l (Ne.symm hlj) a ha z) (fun a ha l z => by
          split at z
          · simp at z
          · exact st.rs l j a z ha) (fun a ha z => st.rs j j a z ha) hp
      refine po _ H S' R' st2 Keep.refl fun l a ha => ?_
      rcases gr l a ha with z | z
      · split at z
        · simp at z
        · exact .inl ⟨l, z⟩
      · exact .inl ⟨j, z⟩
end TW

-- TWDefs
namespace TW
open PySem PySem.Spec PyProof.Rows L2
def b_turn : Rho → Out := sRet (m2 gSub (m2 gIx (m2 gIx (mVar 0) (mVar 2)) (mVar 2)) (m2 gIx (m2 gIx (mVar 0) (mVar 2)) (mVar 1)))
def m_turn : List D → Res D := callM 3 b_turn
def b__law_cell : Rho → Out := sSeq (sIf (mT (m2 gLt (mVar 1) (mL gLen (mA1 (mVar 0) (mA0))))) (sRet (m2 gIx (mVar 0) (mVar 1))) (sNil)) (sRet (mC (.int 0)))
def m__law_cell : List D → Res D := callM 2 b__law_cell
def b__law_number : Rho → Out := sSeq (sIf (mT (m2 gEq (m2 gMod (mVar 0) (mC (.int 4))) (mC (.int 0)))) (sRet (m2 gSub (m2 gMod (m2 gDiv (mVar 0) (mC (.int 4))) (mC (.int 19))) (mC (.int 9)))) (sNil)) (sSeq (sIf (mT (m2 gEq (m2 gMod (mVar 0) (mC (.int 4))) (mC (.int 1)))) (sRet (m2 gSub (m2 gMod (m2 gDiv (mVar 0) (mC (.int 4))) (mC (.int 3))) (mC (.int 1)))) (sNil)) (sSeq (sIf (mT (m2 gEq (m2 gMod (mVar 0) (mC (.int 4))) (mC (.int 2)))) (sRet (m2 gSub (m2 gMod (m2 gDiv (mVar 0) (mC (.int 4))) (m2 gMul (mC (.int 2)) (m2 gPow (mC (.int 10)) (mC (.int 18))))) (m2 gPow (mC (.int 10)) (mC (.int 18))))) (sNil)) (sRet (m2 gSub (m2 gMod (m2 gDiv (mVar 0) (mC (.int 4))) (m2 gAdd (m2 gMul (mC (.int 2)) (mVar 1)) (mC (.int 1)))) (mVar 1)))))
def m__law_number : List D → Res D := callM 2 b__law_number
def b__law_free : Rho → Out := sSeq (sSet 2 (mL gLst (mA0))) (sSeq (sFor (tgN 3) (iR1 (mVar 1)) (sSeq (sSet 4 (mLc [5] (tgN 5) (iR1 (mVar 1)) (tYesM) (mArgs m__law_cell (mA1 (mVar 0) (mA1 (m2 gAdd (m2 gAdd (mC (.int 2)) (m2 gMul (mVar 3) (mVar 1))) (mVar 5)) (mA0)))))) (sApp 2 (pNil) (mLc [6] (tgN 6) (iAny (mVar 4)) (tYesM) (mArgs m__law_number (mA1 (mVar 6) (mA1 (m2 gSub (m2 gPow (mC (.int 10)) (mC (.int 60))) (mC (.int 2))) (mA0)))))))) (sRet (mVar 2)))
def m__law_free : List D → Res D := callM 7 b__law_free
def b__law_pays : Rho → Out := sRet (mLc [2] (tgN 2) (iR1 (mVar 1)) (tYesM) (mArgs m__law_number (mA1 (mArgs m__law_cell (mA1 (mVar 0) (mA1 (m2 gAdd (mC (.int 51)) (mVar 2)) (mA0)))) (mA1 (m2 gPow (mC (.int 10)) (mC (.int 58))) (mA0)))))
def m__law_pays : List D → Res D := callM 3 b__law_pays
def b__law_priced : Rho → Out := sSeq (sSet 2 (mArgs m__law_pays (mA1 (mVar 0) (mA1 (mVar 1) (mA0))))) (sSeq (sSet 3 (mL gLst (mA0))) (sSeq (sFor (tgN 4) (iR1 (mVar 1)) (sSeq (sSet 5 (mArgs m__law_cell (mA1 (mVar 0) (mA1 (m2 gAdd (m2 gAdd (mC (.int 2)) (m2 gMul (mVar 4) (mVar 1))) (mVar 4)) (mA0))))) (sSeq (sSet 6 (mArgs m__law_number (mA1 (mVar 5) (mA1 (m2 gPow (mC (.int 10)) (mC (.int 58))) (mA0))))) (sSeq (sSet 7 (mL gLst (mA0))) (sSeq (sFor (tgN 8) (iR1 (mVar 1)) (sSeq (sSet 5 (mArgs m__law_cell (mA1 (mVar 0) (mA1 (m2 gAdd (m2 gAdd (mC (.int 2)) (m2 gMul (mVar 4) (mVar 1))) (mVar 8)) (mA0))))) (sSeq (sSet 9 (mL gMax (mA1 (mC (.int 0)) (mA1 (mArgs m__law_number (mA1 (mVar 5) (mA1 (m2 gPow (mC (.int 10)) (mC (.int 58))) (mA0)))) (mA0))))) (sSeq (sSet 10 (m2 gAdd (m2 gSub (mVar 6) (m2 gIx (mVar 2) (mVar 4))) (m2 gIx (mVar 2) (mVar 8)))) (sApp 7 (pNil) (m2 gSub (mVar 10) (m2 gMul (mVar 9) (mL gInt (mA1 (m2 gNe (mVar 8) (mVar 4)) (mA0)))))))))) (sAppMv 3 (pNil) 7)))))) (sRet (mVar 3))))
def m__law_priced : List D → Res D := callM 11 b__law_priced
def b__law_grid : Rho → Out := sSeq (sSet 2 (m2 gAdd (mC (.int 1)) (m2 gMod (mArgs m__law_cell (mA1 (mVar 0) (mA1 (mC (.int 0)) (mA0)))) (mVar 1)))) (sSeq (sSet 3 (m2 gMod (m2 gDiv (mArgs m__law_cell (mA1 (mVar 0) (mA1 (mC (.int 0)) (mA0)))) (mC (.int 7))) (mC (.int 4)))) (sSeq (sIf (mT (m2 gEq (mVar 3) (mC (.int 0)))) (sRet (mArgs m__law_free (mA1 (mVar 0) (mA1 (mVar 2) (mA0))))) (sNil)) (sSeq (sSet 4 (mArgs m__law_priced (mA1 (mVar 0) (mA1 (mVar 2) (mA0))))) (sSeq (sIf (mT (m2 gEq (mVar 3) (mC (.int 3)))) (sSeq (sSet 5 (mArgs m__law_cell (mA1 (mVar 0) (mA1 (mC (.int 1)) (mA0))))) (sAug 4 gAddI (pSnoc (pNil) (m2 gMod (mVar 5) (mVar 2))) (m2 gMod (m2 gDiv (mVar 5) (mC (.int 7))) (mVar 2)) (m2 gMod (m2 gDiv (mVar 5) (mC (.int 49))) (mC (.int 5))))) (sNil)) (sRet (mVar 4))))))
def m__law_grid : List D → Res D := callM 6 b__law_grid
def b_law_k01 : Rho → Out := sSeq (sSet 1 (mArgs m__law_grid (mA1 (mVar 0) (mA1 (mC (.int 7)) (mA0))))) (sSeq (sSet 2 (mLc [6] (tgN 6) (iAny (mVar 1)) (tYesM) (mL gList (mA1 (mVar 6) (mA0))))) (sSeq (sFor (tgN 3) (iR1 (mL gLen (mA1 (mVar 1) (mA0)))) (sFor (tgN 4) (iR1 (mL gLen (mA1 (mVar 1) (mA0)))) (sSeq (sSet 5 (mArgs m_turn (mA1 (mVar 2) (mA1 (mVar 3) (mA1 (mVar 4) (mA0)))))) (sIf (tOrM (tNotM (mT (m1 (gIsi "int") (mVar 5)))) (tOrM (mT (m1 (gIsi "bool") (mVar 5))) (mT (m2 gNe (mVar 5) (m2 gSub (m2 gIx (m2 gIx (mVar 1) (mVar 4)) (mVar 4)) (m2 gIx (m2 gIx (mVar 1) (mVar 4)) (mVar 3))))))) (sRet (mC (.bl false))) (sNil))))) (sRet (m2 gEq (mVar 2) (mVar 1)))))
def m_law_k01 : List D → Res D := callM 7 b_law_k01
def b_along : Rho → Out := sSeq (sSet 2 (mC (.int 0))) (sSeq (sFor (tgN 3) (iR2 (mC (.int 1)) (mL gLen (mA1 (mVar 1) (mA0)))) (sAugN 2 (mArgs m_turn (mA1 (mVar 0) (mA1 (m2 gIx (mVar 1) (m2 gSub (mVar 3) (mC (.int 1)))) (mA1 (m2 gIx (mVar 1) (mVar 3)) (mA0))))))) (sRet ((mFlat (mVar 2)))))
def m_along : List D → Res D := callM 4 b_along
def b_round_sum : Rho → Out := sRet ((mFlat (m2 gAdd (mArgs m_along (mA1 (mVar 0) (mA1 (mVar 1) (mA0)))) (mArgs m_turn (mA1 (mVar 0) (mA1 (m2 gIx (mVar 1) (m1 gNeg (mC (.int 1)))) (mA1 (m2 gIx (mVar 1) (mC (.int 0))) (mA0))))))))
def m_round_sum : List D → Res D := callM 2 b_round_sum
def b__law_along : Rho → Out := sSeq (sSet 2 (mC (.int 0))) (sSeq (sSet 3 (m2 gIx (mVar 1) (mC (.int 0)))) (sSeq (sFor (tgN 4) (iAny (mVar 1)) (sSeq (sSet 2 (m2 gSub (m2 gAdd (mVar 2) (m2 gIx (m2 gIx (mVar 0) (mVar 4)) (mVar 4))) (m2 gIx (m2 gIx (mVar 0) (mVar 4)) (mVar 3)))) (sSet 3 (mVar 4)))) (sRet ((mFlat (mVar 2))))))
def m__law_along : List D → Res D := callM 5 b__law_along
def b__law_whole : Rho → Out := sRet (mAnd (m1 (gIsi "int") (mVar 0)) (m1 gNot (m1 (gIsi "bool") (mVar 0))))
def m__law_whole : List D → Res D := callM 1 b__law_whole
def b_law_k02 : Rho → Out := sSeq (sSet 1 (mArgs m__law_grid (mA1 (mVar 0) (mA1 (mC (.int 7)) (mA0))))) (sSeq (sSet 2 (m2 gAdd (mLc [6] (tgN 6) (iAny (mSl (mVar 0) (oNo) (oYes (mC (.int 63))))) (tYesM) (m2 gMod (mVar 6) (mL gLen (mA1 (mVar 1) (mA0))))) (m2 gMul (mL gLst (mA1 (mC (.int 0)) (mA0))) (mL gInt (mA1 (m2 gEq (mL gLen (mA1 (mVar 0) (mA0))) (mC (.int 0))) (mA0)))))) (sSeq (sSet 3 (mL gList (mA1 (mVar 2) (mA0)))) (sSeq (sSet 4 (mLc [7] (tgN 7) (iAny (mVar 1)) (tYesM) (mL gList (mA1 (mVar 7) (mA0))))) (sSeq (sSet 5 (mArgs m_along (mA1 (mVar 4) (mA1 (mVar 3) (mA0))))) (sSeq (sIf (tOrM (tNotM (mT (mArgs m__law_whole (mA1 (mVar 5) (mA0))))) (mT (m2 gNe (mVar 5) (mArgs m__law_along (mA1 (mVar 1) (mA1 (mVar 2) (mA0))))))) (sRet (mC (.bl false))) (sNil)) (sSeq (sSet 5 (mArgs m_round_sum (mA1 (mVar 4) (mA1 (mVar 3) (mA0))))) (sSeq (sIf (tOrM (tNotM (mT (mArgs m__law_whole (mA1 (mVar 5) (mA0))))) (mT (m2 gNe (mVar 5) (mArgs m__law_along (mA1 (mVar 1) (mA1 (m2 gAdd (mVar 2) (mL gLst (mA1 (m2 gIx (mVar 2) (mC (.int 0))) (mA0)))) (mA0))))))) (sRet (mC (.bl false))) (sNil)) (sSeq (sIf (tOrM (mT (m2 gNe (mArgs m_along (mA1 (mVar 4) (mA1 (mL gLst (mA1 (m2 gIx (mVar 2) (m1 gNeg (mC (.int 1)))) (mA0))) (mA0)))) (mC (.int 0)))) (mT (m2 gNe (mArgs m_round_sum (mA1 (mVar 4) (mA1 (mL gLst (mA1 (m2 gIx (mVar 2) (m1 gNeg (mC (.int 1)))) (mA0))) (mA0)))) (mC (.int 0))))) (sRet (mC (.bl false))) (sNil)) (sRet (mAnd (m2 gEq (mVar 3) (mVar 2)) (m2 gEq (mVar 4) (mVar 1))))))))))))
def m_law_k02 : List D → Res D := callM 8 b_law_k02
def b_beyond : Rho → Out := sRet (mLc [2] (tgN 2) (iR1 (mL gLen (mA1 (mVar 0) (mA0)))) (mT (m2 gGt (m2 gIx (mVar 1) (mVar 2)) (m2 gIx (m2 gIx (mVar 0) (mVar 2)) (mVar 2)))) (mVar 2))
def m_beyond : List D → Res D := callM 3 b_beyond
def b_law_k05 : Rho → Out := sSeq (sSet 1 (mArgs m__law_grid (mA1 (mVar 0) (mA1 (mC (.int 7)) (mA0))))) (sSeq (sSet 2 (mLc [8] (tgN 8) (iAny (mVar 1)) (tYesM) (mL gList (mA1 (mVar 8) (mA0))))) (sSeq (sSet 3 (mArgs m__law_pays (mA1 (mVar 0) (mA1 (mL gLen (mA1 (mVar 1) (mA0))) (mA0))))) (sSeq (sFor (tgN 4) (iR1 (mL gLen (mA1 (mVar 1) (mA0)))) (sSeq (sSet 5 (mArgs m__law_cell (mA1 (mVar 0) (mA1 (m2 gAdd (mC (.int 56)) (m2 gMod (mVar 4) (mC (.int 7)))) (mA0))))) (sIf (mT (m2 gGt (m2 gMod (mVar 5) (mC (.int 3))) (mC (.int 0)))) (sPut 3 (pNil) (mVar 4) (m2 gSub (m2 gAdd (m2 gIx (m2 gIx (mVar 1) (mVar 4)) (mVar 4)) (m2 gMod (m2 gDiv (mVar 5) (m2 gAdd (mC (.int 3)) (mVar 4))) (mC (.int 3)))) (mC (.int 1)))) (sNil)))) (sSeq (sSet 6 (mL gList (mA1 (mVar 3) (mA0)))) (sSeq (sSet 7 (mArgs m_beyond (mA1 (mVar 2) (mA1 (mVar 6) (mA0))))) (sSeq (sIf (tOrM (tNotM (mT (m1 (gIsi "list") (mVar 7)))) (tOrM (mT (m2 gNe (mVar 6) (mVar 3))) (mT (m2 gNe (mVar 2) (mVar 1))))) (sRet (mC (.bl false))) (sNil)) (sSeq (sIf (mT (m2 gNe (mLc [9] (tgN 9) (iAny (mVar 7)) (tYesM) (m1 (gIsi "bool") (mVar 9))) (m2 gMul (mL gLst (mA1 (mC (.bl false)) (mA0))) (mL gLen (mA1 (mVar 7) (mA0)))))) (sRet (mC (.bl false))) (sNil)) (sRet (m2 gEq (mVar 7) (mLc [10] (tgN 10) (iR1 (mL gLen (mA1 (mVar 1) (mA0)))) (mT (m2 gGt (m2 gIx (mVar 3) (mVar 10)) (m2 gIx (m2 gIx (mVar 1) (mVar 10)) (mVar 10)))) (mVar 10)))))))))))
def m_law_k05 : List D → Res D := callM 11 b_law_k05
def b_first_gain : Rho → Out := sSeq (sFor (tgN 2) (iR1 (mL gLen (mA1 (mVar 0) (mA0)))) (sFor (tgN 3) (iR1 (mL gLen (mA1 (mVar 0) (mA0)))) (sSeq (sSet 4 (m2 gAdd (m2 gSub (m2 gSub (m2 gIx (m2 gIx (mVar 0) (mVar 2)) (mVar 3)) (m2 gIx (mVar 1) (mVar 3))) (m2 gIx (m2 gIx (mVar 0) (mVar 2)) (mVar 2))) (m2 gIx (mVar 1) (mVar 2)))) (sIf (mT (m2 gGt (mVar 4) (mC (.int 0)))) (sRet (mL gTup (mA1 (mVar 2) (mA1 (mVar 3) (mA1 (mVar 4) (mA0)))))) (sNil))))) (sRet (mC .non))
def m_first_gain : List D → Res D := callM 5 b_first_gain
def b_law_k06 : Rho → Out := sSeq (sSet 1 (m2 gAdd (mC (.int 1)) (m2 gMod (mArgs m__law_cell (mA1 (mVar 0) (mA1 (mC (.int 0)) (mA0)))) (mC (.int 6))))) (sSeq (sSet 2 (mLc [5] (tgN 5) (iR1 (mVar 1)) (tYesM) (mArgs m__law_number (mA1 (mArgs m__law_cell (mA1 (mVar 0) (mA1 (m2 gAdd (mC (.int 2)) (mVar 5)) (mA0)))) (mA1 (m2 gPow (mC (.int 10)) (mC (.int 58))) (mA0)))))) (sSeq (sSet 3 (mLc [5] (tgN 5) (iR1 (mVar 1)) (tYesM) (mArgs m__law_number (mA1 (mArgs m__law_cell (mA1 (mVar 0) (mA1 (m2 gAdd (mC (.int 8)) (mVar 5)) (mA0)))) (mA1 (m2 gPow (mC (.int 10)) (mC (.int 58))) (mA0)))))) (sSeq (sSet 4 (mL gLst (mA0))) (sSeq (sFor (tgN 5) (iR1 (mVar 1)) (sSeq (sSet 6 (mArgs m__law_number (mA1 (mArgs m__law_cell (mA1 (mVar 0) (mA1 (m2 gAdd (mC (.int 14)) (mVar 5)) (mA0)))) (mA1 (m2 gPow (mC (.int 10)) (mC (.int 58))) (mA0))))) (sSeq (sSet 7 (mL gLst (mA0))) (sSeq (sFor (tgN 8) (iR1 (mVar 1)) (sSeq (sSet 9 (m2 gMul (mL gMax (mA1 (mC (.int 0)) (mA1 (mArgs m__law_number (mA1 (mArgs m__law_cell (mA1 (mVar 0) (mA1 (m2 gAdd (m2 gAdd (mC (.int 20)) (m2 gMul (mVar 1) (mVar 5))) (mVar 8)) (mA0)))) (mA1 (m2 gPow (mC (.int 10)) (mC (.int 58))) (mA0)))) (mA0)))) (mL gInt (mA1 (m2 gNe (mVar 8) (mVar 5)) (mA0))))) (sApp 7 (pNil) (m2 gSub (m2 gAdd (mVar 6) (mL gMin (mA1 (m2 gSub (m2 gIx (mVar 2) (mVar 8)) (m2 gIx (mVar 2) (mVar 5))) (mA1 (m2 gSub (m2 gIx (mVar 3) (mVar 8)) (m2 gIx (mVar 3) (mVar 5))) (mA0))))) (mVar 9))))) (sApp 4 (pNil) (mVar 7)))))) (sSeq (sSet 10 (mArgs m__law_number (mA1 (mArgs m__law_cell (mA1 (mVar 0) (mA1 (mC (.int 1)) (mA0)))) (mA1 (m2 gPow (mC (.int 10)) (mC (.int 58))) (mA0))))) (sSeq (sSet 11 (mL gLst (mA1 (mVar 2) (mA1 (mVar 3) (mA1 (mLc [13, 14] (tgT [13, 14]) (iZipM (mVar 2) (mVar 3)) (tYesM) (mL gMin (mA1 (mVar 13) (mA1 (mVar 14) (mA0))))) (mA1 (mLc [13, 14] (tgT [13, 14]) (iZipM (mVar 2) (mVar 3)) (tYesM) (mL gMax (mA1 (mVar 13) (mA1 (mVar 14) (mA0))))) (mA0))))))) (sSeq (sFor (tgN 12) (iAny (m2 gAdd (mVar 11) (mL gLst (mA1 (mLc [13] (tgN 13) (iAny (mVar 2)) (tYesM) (m2 gAdd (mVar 13) (mVar 10))) (mA1 (mLc [14] (tgN 14) (iAny (mVar 3)) (tYesM) (m2 gAdd (mVar 14) (mVar 10))) (mA0)))))) (sIf (mT (m1 (fun d => gNotN d .non) (mArgs m_first_gain (mA1 (mVar 4) (mA1 (mVar 12) (mA0)))))) (sRet (mC (.bl false))) (sNil))) (sRet (mC (.bl true))))))))))
def m_law_k06 : List D → Res D := callM 15 b_law_k06
def b__law_due : Rho → Out := sSeq (sFor (tgN 2) (iR1 (mL gLen (mA1 (mVar 0) (mA0)))) (sFor (tgN 3) (iR1 (mL gLen (mA1 (mVar 0) (mA0)))) (sSeq (sSet 4 (m2 gSub (m2 gIx (m2 gIx (mVar 0) (mVar 2)) (mVar 2)) (m2 gIx (mVar 1) (mVar 2)))) (sSeq (sSet 5 (m2 gSub (m2 gSub (m2 gIx (m2 gIx (mVar 0) (mVar 2)) (mVar 3)) (m2 gIx (mVar 1) (mVar 3))) (mVar 4))) (sIf (mT (m2 gGt (mVar 5) (mC (.int 0)))) (sRet (mL gTup (mA1 (mVar 2) (mA1 (mVar 3) (mA1 (mVar 5) (mA0)))))) (sNil)))))) (sRet (mC .non))
def m__law_due : List D → Res D := callM 6 b__law_due
def b_law_k04 : Rho → Out := sSeq (sSet 1 (mArgs m__law_grid (mA1 (mVar 0) (mA1 (mC (.int 7)) (mA0))))) (sSeq (sSet 2 (mLc [8] (tgN 8) (iAny (mVar 1)) (tYesM) (mL gList (mA1 (mVar 8) (mA0))))) (sSeq (sSet 3 (mArgs m__law_pays (mA1 (mVar 0) (mA1 (mL gLen (mA1 (mVar 1) (mA0))) (mA0))))) (sSeq (sFor (tgN 4) (iAny (mL gLst (mA1 (mC (.int 0)) (mA1 (m2 gMod (m2 gDiv (mArgs m__law_cell (mA1 (mVar 0) (mA1 (mC (.int 59)) (mA0)))) (mC (.int 7))) (mC (.int 5))) (mA0))))) (sSeq (sAug 3 gAddI (pNil) (m2 gMod (mArgs m__law_cell (mA1 (mVar 0) (mA1 (mC (.int 59)) (mA0)))) (mL gLen (mA1 (mVar 1) (mA0)))) (mVar 4)) (sSeq (sSet 5 (mStill (mArgs m__law_due (mA1 (mVar 1) (mA1 (mVar 3) (mA0)))))) (sSeq (sSet 6 (mL gListL (mA1 (mVar 3) (mA0)))) (sSeq (sSet 7 (mArgs m_first_gain (mA1 (mVar 2) (mA1 (mVar 6) (mA0))))) (sSeq (sIf (tOrM (mT (m2 gNe (mVar 6) (mVar 3))) (mT (m2 gNe (mVar 2) (mVar 1)))) (sRet (mC (.bl false))) (sNil)) (sIf (mT (m1 (fun d => gIsN d .non) (mVar 5))) (sIf (mT (m1 (fun d => gNotN d .non) (mVar 7))) (sRet (mC (.bl false))) (sNil)) (sIf (tOrM (tNotM (mT (m1 (gIsi "tuple") (mVar 7)))) (tOrM (mT (m2 gNe (mVar 7) (mVar 5))) (tOrM (mT (m1 (gIsi "bool") (m2 gIx (mVar 7) (mC (.int 0))))) (mT (m1 (gIsi "bool") (m2 gIx (mVar 7) (mC (.int 1)))))))) (sRet (mC (.bl false))) (sNil))))))))) (sRet (mC (.bl true))))))
def m_law_k04 : List D → Res D := callM 9 b_law_k04
def b_law_k03 : Rho → Out := sSeq (sSet 1 (mArgs m__law_grid (mA1 (mVar 0) (mA1 (mC (.int 7)) (mA0))))) (sSeq (sSet 2 (m2 gAdd (mLc [10] (tgN 10) (iAny (mSl (mVar 0) (oNo) (oYes (mC (.int 63))))) (tYesM) (m2 gMod (mVar 10) (mL gLen (mA1 (mVar 1) (mA0))))) (m2 gMul (mL gLst (mA1 (mC (.int 0)) (mA0))) (mL gInt (mA1 (m2 gEq (mL gLen (mA1 (mVar 0) (mA0))) (mC (.int 0))) (mA0)))))) (sSeq (sSet 3 (m2 gMod (mArgs m__law_cell (mA1 (mVar 0) (mA1 (mC (.int 1)) (mA0)))) (mL gLen (mA1 (mVar 2) (mA0))))) (sSeq (sSet 4 (mArgs m_along (mA1 (mVar 1) (mA1 (mVar 2) (mA0))))) (sSeq (sIf (mT (m2 gNe (m2 gAdd (mArgs m_along (mA1 (mVar 1) (mA1 (mSl (mVar 2) (oNo) (oYes (m2 gAdd (mVar 3) (mC (.int 1))))) (mA0)))) (mArgs m_along (mA1 (mVar 1) (mA1 (mSl (mVar 2) (oYes (mVar 3)) (oNo)) (mA0))))) (mVar 4))) (sRet (mC (.bl false))) (sNil)) (sSeq (sSet 5 (m2 gAdd (mSl (mVar 2) (oYes (mVar 3)) (oNo)) (mSl (mVar 2) (oNo) (oYes (mVar 3))))) (sSeq (sIf (mT (m2 gNe (mArgs m_round_sum (mA1 (mVar 1) (mA1 (mVar 5) (mA0)))) (mArgs m_round_sum (mA1 (mVar 1) (mA1 (mVar 2) (mA0)))))) (sRet (mC (.bl false))) (sNil)) (sSeq (sSet 6 (mL gLst (mA0))) (sSeq (sFor (tgN 7) (iR1 (mL gLen (mA1 (mVar 1) (mA0)))) (sSeq (sSet 8 (m2 gDiv (mArgs m__law_number (mA1 (mArgs m__law_cell (mA1 (mVar 0) (mA1 (m2 gAdd (mC (.int 51)) (mVar 7)) (mA0)))) (mA1 (m2 gPow (mC (.int 10)) (mC (.int 58))) (mA0)))) (mC (.int 10)))) (sApp 6 (pNil) (mLc [11] (tgN 11) (iAny (m2 gIx (mVar 1) (mVar 7))) (tYesM) (m2 gAdd (m2 gDiv (mVar 11) (mC (.int 10))) (mVar 8)))))) (sSeq (sSet 9 (mLc [12] (tgN 12) (iAny (mVar 1)) (tYesM) (mLc [11] (tgN 11) (iAny (mVar 12)) (tYesM) (m2 gDiv (mVar 11) (mC (.int 10)))))) (sRet (mAnd (m2 gEq (mArgs m_along (mA1 (mVar 6) (mA1 (mVar 2) (mA0)))) (mArgs m_along (mA1 (mVar 9) (mA1 (mVar 2) (mA0))))) (m2 gEq (mArgs m_round_sum (mA1 (mVar 6) (mA1 (mVar 2) (mA0)))) (mArgs m_round_sum (mA1 (mVar 9) (mA1 (mVar 2) (mA0))))))))))))))))
def m_law_k03 : List D → Res D := callM 13 b_law_k03
def b_within : Rho → Out := sRet (mAnd (m1 (fun d => gIsN d .non) (mArgs m_first_gain (mA1 (mVar 0) (mA1 (mVar 1) (mA0))))) (mAnd (m2 gEq (mArgs m_beyond (mA1 (mVar 0) (mA1 (mVar 1) (mA0)))) (mL gLst (mA0))) (m2 gGe (mL gMin (mA1 (mVar 1) (mA0))) (mC (.int 0)))))
def m_within : List D → Res D := callM 2 b_within
def b__law_honest : Rho → Out := sSeq (sFor (tgN 2) (iR1 (mL gLen (mA1 (mVar 0) (mA0)))) (sFor (tgN 3) (iR1 (mL gLen (mA1 (mVar 0) (mA0)))) (sSeq (sSet 4 (m2 gSub (m2 gIx (m2 gIx (mVar 0) (mVar 2)) (mVar 3)) (m2 gIx (m2 gIx (mVar 0) (mVar 2)) (mVar 2)))) (sIf (mT (m2 gGt (mVar 4) (m2 gSub (m2 gIx (mVar 1) (mVar 3)) (m2 gIx (mVar 1) (mVar 2))))) (sRet (mC (.bl false))) (sNil))))) (sRet (mC (.bl true)))
def m__law_honest : List D → Res D := callM 5 b__law_honest
def b_law_k21 : Rho → Out := sSeq (sSet 1 (mArgs m__law_grid (mA1 (mVar 0) (mA1 (mC (.int 7)) (mA0))))) (sSeq (sIf (mT (m2 gEq (m2 gMod (m2 gDiv (mArgs m__law_cell (mA1 (mVar 0) (mA1 (mC (.int 0)) (mA0)))) (mC (.int 7))) (mC (.int 4))) (mC (.int 0)))) (sSet 1 (mLc [13] (tgN 13) (iAny (mVar 1)) (tYesM) (mLc [14] (tgN 14) (iAny (mVar 13)) (tYesM) (m2 gDiv (mVar 14) (mC (.int 100)))))) (sNil)) (sSeq (sSet 2 (mL gLen (mA1 (mVar 1) (mA0)))) (sSeq (sSet 3 (mArgs m__law_pays (mA1 (mVar 0) (mA1 (mVar 2) (mA0))))) (sSeq (sSet 4 (mArgs m__law_cell (mA1 (mVar 0) (mA1 (mC (.int 60)) (mA0))))) (sSeq (sSet 5 (mL gLst (mA1 (mL gMin (mA1 (mLc [9] (tgN 9) (iR1 (mVar 2)) (tYesM) (m2 gSub (m2 gIx (m2 gIx (mVar 1) (mVar 9)) (mVar 9)) (m2 gIx (mVar 3) (mVar 9)))) (mA0))) (mA1 (m2 gSub (mC (.int 0)) (mL gMin (mA1 (mVar 3) (mA0)))) (mA0))))) (sSeq (sSet 5 (m2 gAdd (mVar 5) (mL gLst (mA1 (mArgs m__law_number (mA1 (m2 gDiv (mVar 4) (mC (.int 3))) (mA1 (m2 gPow (mC (.int 10)) (mC (.int 58))) (mA0)))) (mA1 (mC (.int 0)) (mA0)))))) (sSeq (sFor (tgN 6) (iAny (m2 gAdd (mVar 5) (mL gLst (mA1 (m2 gAdd (m2 gIx (mVar 5) (m2 gMod (mVar 4) (mC (.int 2)))) (mC (.int 1))) (mA1 (m2 gSub (m2 gIx (mVar 5) (m2 gMod (mVar 4) (mC (.int 2)))) (mC (.int 1))) (mA0)))))) (sSeq (sSet 7 (mLc [14] (tgN 14) (iAny (mVar 3)) (tYesM) (m2 gAdd (mVar 14) (mVar 6)))) (sSeq (sSet 8 (mAnd (mArgs m__law_honest (mA1 (mVar 1) (mA1 (mVar 7) (mA0)))) (m2 gGe (mL gMin (mA1 (mVar 7) (mA0))) (mC (.int 0))))) (sSeq (sFor (tgN 9) (iR1 (mVar 2)) (sIf (mT (m2 gGt (m2 gIx (mVar 7) (mVar 9)) (m2 gIx (m2 gIx (mVar 1) (mVar 9)) (mVar 9)))) (sSet 8 (mC (.bl false))) (sNil))) (sSeq (sSet 10 (mL gList (mA1 (mVar 7) (mA0)))) (sSeq (sSet 11 (mLc [13] (tgN 13) (iAny (mVar 1)) (tYesM) (mL gList (mA1 (mVar 13) (mA0))))) (sSeq (sSet 12 (mArgs m_within (mA1 (mVar 11) (mA1 (mVar 10) (mA0))))) (sIf (tOrM (tNotM (mT (m1 (gIsi "bool") (mVar 12)))) (tOrM (mT (m2 gNe (mVar 12) (mVar 8))) (tOrM (mT (m2 gNe (mVar 10) (mVar 7))) (mT (m2 gNe (mVar 11) (mVar 1)))))) (sRet (mC (.bl false))) (sNil))))))))) (sRet (mC (.bl true))))))))))
def m_law_k21 : List D → Res D := callM 15 b_law_k21
def b_begun_sums : Rho → Out := sSeq (sSet 1 (mL gLen (mA1 (mVar 0) (mA0)))) (sRet (mLc [2] (tgN 2) (iR1 (mVar 1)) (tYesM) (mLc [3] (tgN 3) (iR1 (mVar 1)) (tYesM) (mArgs m_turn (mA1 (mVar 0) (mA1 (mVar 2) (mA1 (mVar 3) (mA0))))))))
def m_begun_sums : List D → Res D := callM 4 b_begun_sums
def b_begun_ways : Rho → Out := sSeq (sSet 1 (mL gLst (mA0))) (sSeq (sFor (tgN 2) (iR1 (mL gLen (mA1 (mVar 0) (mA0)))) (sApp 1 (pNil) (mLc [3] (tgN 3) (iR1 (mL gLen (mA1 (mVar 0) (mA0)))) (tYesM) (m2 gAdd (mL gLst (mA1 (mVar 2) (mA0))) (m2 gMul (mL gLst (mA1 (mVar 3) (mA0))) (mL gInt (mA1 (m2 gNe (mVar 2) (mVar 3)) (mA0)))))))) (sRet (mVar 1)))
def m_begun_ways : List D → Res D := callM 4 b_begun_ways
def b_closed : Rho → Out := sSeq (sFor (tgN 3) (iR1 (mL gLen (mA1 (mVar 0) (mA0)))) (sFor (tgN 4) (iR1 (mL gLen (mA1 (mVar 0) (mA0)))) (sIf (mT (m2 gLt (m2 gAdd (m2 gIx (m2 gIx (mVar 1) (mVar 3)) (mVar 4)) (mArgs m_turn (mA1 (mVar 0) (mA1 (mVar 4) (mA1 (mVar 3) (mA0)))))) (mC (.int 0)))) (sRet (m2 gIx (m2 gIx (mVar 2) (mVar 3)) (mVar 4))) (sNil)))) (sRet (mC .non))
def m_closed : List D → Res D := callM 5 b_closed
def b_best_last : Rho → Out := sSeq (sSet 4 (mVar 3)) (sSeq (sFor (tgN 5) (iR1 (mL gLen (mA1 (mVar 0) (mA0)))) (sIf (mT (m2 gLt (m2 gAdd (m2 gIx (m2 gIx (mVar 1) (mVar 2)) (mVar 5)) (mArgs m_turn (mA1 (mVar 0) (mA1 (mVar 5) (mA1 (mVar 3) (mA0)))))) (m2 gAdd (m2 gIx (m2 gIx (mVar 1) (mVar 2)) (mVar 4)) (mArgs m_turn (mA1 (mVar 0) (mA1 (mVar 4) (mA1 (mVar 3) (mA0)))))))) (sSet 4 (mVar 5)) (sNil))) (sRet ((mFlat (mVar 4)))))
def m_best_last : List D → Res D := callM 6 b_best_last
def b_longer : Rho → Out := sSeq (sSet 3 (mL gLst (mA0))) (sSeq (sSet 4 (mL gLst (mA0))) (sSeq (sFor (tgN 5) (iR1 (mL gLen (mA1 (mVar 0) (mA0)))) (sSeq (sSet 6 (mL gLst (mA0))) (sSeq (sSet 7 (mL gLst (mA0))) (sSeq (sFor (tgN 8) (iR1 (mL gLen (mA1 (mVar 0) (mA0)))) (sSeq (sSet 9 (mArgs m_best_last (mA1 (mVar 0) (mA1 (mVar 1) (mA1 (mVar 5) (mA1 (mVar 8) (mA0))))))) (sSeq (sApp 6 (pNil) (m2 gAdd (m2 gIx (m2 gIx (mVar 1) (mVar 5)) (mVar 9)) (mArgs m_turn (mA1 (mVar 0) (mA1 (mVar 9) (mA1 (mVar 8) (mA0))))))) (sApp 7 (pNil) (m2 gAdd (m2 gIx (m2 gIx (mVar 2) (mVar 5)) (mVar 9)) (m2 gMul (mL gLst (mA1 (mVar 8) (mA0))) (mL gInt (mA1 (m2 gNe (mVar 9) (mVar 8)) (mA0))))))))) (sSeq (sApp 3 (pNil) (mVar 6)) (sApp 4 (pNil) (mVar 7))))))) (sRet (mL gTup (mA1 (mVar 3) (mA1 (mVar 4) (mA0)))))))
def m_longer : List D → Res D := callM 10 b_longer
def b_ring : Rho → Out := sSeq (sSet 1 (mArgs m_begun_sums (mA1 (mVar 0) (mA0)))) (sSeq (sSet 2 (mArgs m_begun_ways (mA1 (mVar 0) (mA0)))) (sSeq (sFor (tgN 3) (iR2 (mC (.int 2)) (m2 gAdd (mL gLen (mA1 (mVar 0) (mA0))) (mC (.int 1)))) (sSeq (sSet 4 (mArgs m_closed (mA1 (mVar 0) (mA1 (mVar 1) (mA1 (mVar 2) (mA0)))))) (sSeq (sIf (mT (m1 (fun d => gNotN d .non) (mVar 4))) (sRet (mL gList (mA1 (mVar 4) (mA0)))) (sNil)) (sSeq (sSet 5 (mArgs m_longer (mA1 (mVar 0) (mA1 (mVar 1) (mA1 (mVar 2) (mA0)))))) (sSeq (sSet 1 (m2 gIx (mVar 5) (mC (.int 0)))) (sSet 2 (m2 gIx (mVar 5) (mC (.int 1))))))))) (sRet (mC .non))))
def m_ring : List D → Res D := callM 6 b_ring
def b_settled : Rho → Out := sSeq (sSet 1 (mL gList (mA1 (mVar 1) (mA0)))) (sSeq (sSet 2 (mL gList (mA1 (mVar 2) (mA0)))) (sSeq (sSet 3 (mC (.bl true))) (sSeq (whileF (mT (mVar 3)) (sSeq (sSet 3 (mC (.bl false))) (sFor (tgN 4) (iR1 (mL gLen (mA1 (mVar 0) (mA0)))) (sFor (tgN 5) (iR1 (mL gLen (mA1 (mVar 0) (mA0)))) (sIf (mT (m2 gLt (m2 gAdd (m2 gIx (mVar 1) (mVar 4)) (mArgs m_turn (mA1 (mVar 0) (mA1 (mVar 4) (mA1 (mVar 5) (mA0)))))) (m2 gIx (mVar 1) (mVar 5)))) (sSeq (sPut 1 (pNil) (mVar 5) (m2 gAdd (m2 gIx (mVar 1) (mVar 4)) (mArgs m_turn (mA1 (mVar 0) (mA1 (mVar 4) (mA1 (mVar 5) (mA0))))))) (sSeq (sPut 2 (pNil) (mVar 5) (m2 gAdd (m2 gIx (mVar 2) (mVar 4)) (mL gLst (mA1 (mVar 5) (mA0))))) (sSet 3 (mC (.bl true))))) (sNil))))) 100) (sRet (mL gTup (mA1 (mVar 1) (mA1 (mVar 2) (mA0))))))))
def m_settled : List D → Res D := callM 6 b_settled
def b_greatest : Rho → Out := sSeq (sIf (mT (m1 (fun d => gNotN d .non) (mArgs m_ring (mA1 (mVar 0) (mA0))))) (sDead) (sNil)) (sSeq (sSet 1 (mL gLen (mA1 (mVar 0) (mA0)))) (sRet (mArgs m_settled (mA1 (mVar 0) (mA1 (mLc [2] (tgN 2) (iR1 (mVar 1)) (tYesM) (m2 gIx (m2 gIx (mVar 0) (mVar 2)) (mVar 2))) (mA1 (mLc [2] (tgN 2) (iR1 (mVar 1)) (tYesM) (mL gLst (mA1 (mVar 2) (mA0)))) (mA0)))))))
def m_greatest : List D → Res D := callM 3 b_greatest
def b__law_words : Rho → Out := sSeq (sIf (tOrM (tNotM (mT (m1 (gIsi "list") (mVar 0)))) (mT (m2 gEq (mVar 0) (mL gLst (mA0))))) (sRet (mC (.bl false))) (sNil)) (sSeq (sFor (tgN 2) (iAny (mVar 0)) (sIf (tOrM (tNotM (mT (m1 (gIsi "int") (mVar 2)))) (tOrM (mT (m1 (gIsi "bool") (mVar 2))) (tOrM (mT (m2 gLt (mVar 2) (mC (.int 0)))) (mT (m2 gGe (mVar 2) (mVar 1)))))) (sRet (mC (.bl false))) (sNil))) (sRet (m2 gEq (m1 gLenSet (mVar 0)) (mL gLen (mA1 (mVar 0) (mA0))))))
def m__law_words : List D → Res D := callM 3 b__law_words
def b__law_numbers : Rho → Out := sSeq (sIf (tOrM (tNotM (mT (m1 (gIsi "list") (mVar 0)))) (mT (m2 gNe (mL gLen (mA1 (mVar 0) (mA0))) (mVar 1)))) (sRet (mC (.bl false))) (sNil)) (sSeq (sFor (tgN 2) (iAny (mVar 0)) (sIf (tOrM (tNotM (mT (m1 (gIsi "int") (mVar 2)))) (mT (m1 (gIsi "bool") (mVar 2)))) (sRet (mC (.bl false))) (sNil))) (sRet (mC (.bl true))))
def m__law_numbers : List D → Res D := callM 3 b__law_numbers
def b__law_ring : Rho → Out := sSeq (sIf (tOrM (tNotM (mT (mArgs m__law_words (mA1 (mVar 1) (mA1 (mL gLen (mA1 (mVar 0) (mA0))) (mA0)))))) (mT (m2 gLt (mL gLen (mA1 (mVar 1) (mA0))) (mC (.int 2))))) (sRet (mC (.bl false))) (sNil)) (sRet (m2 gLt (mArgs m__law_along (mA1 (mVar 0) (mA1 (m2 gAdd (mVar 1) (mL gLst (mA1 (m2 gIx (mVar 1) (mC (.int 0))) (mA0)))) (mA0)))) (mC (.int 0))))
def m__law_ring : List D → Res D := callM 2 b__law_ring
def b_law_k11 : Rho → Out := sSeq (sSet 1 (mArgs m__law_grid (mA1 (mVar 0) (mA1 (mC (.int 7)) (mA0))))) (sSeq (sSet 2 (mLc [5] (tgN 5) (iAny (mVar 1)) (tYesM) (mL gList (mA1 (mVar 5) (mA0))))) (sSeq (sSet 3 (mArgs m_ring (mA1 (mVar 2) (mA0)))) (sSeq (sIf (mT (m2 gNe (mVar 2) (mVar 1))) (sRet (mC (.bl false))) (sNil)) (sSeq (sIf (mT (m1 (fun d => gIsN d .non) (mVar 3))) (sSeq (sSet 4 (m2 gIx (mArgs m_greatest (mA1 (mVar 2) (mA0))) (mC (.int 0)))) (sRet (mAnd (mArgs m__law_numbers (mA1 (mVar 4) (mA1 (mL gLen (mA1 (mVar 1) (mA0))) (mA0)))) (mArgs m__law_honest (mA1 (mVar 1) (mA1 (mVar 4) (mA0))))))) (sNil)) (sRet (mAnd (mArgs m__law_ring (mA1 (mVar 1) (mA1 (mVar 3) (mA0)))) (m1 gNot (mArgs m__law_honest (mA1 (mVar 1) (mA1 (mArgs m__law_pays (mA1 (mVar 0) (mA1 (mL gLen (mA1 (mVar 1) (mA0))) (mA0)))) (mA0)))))))))))
def m_law_k11 : List D → Res D := callM 6 b_law_k11
def b_law_k12 : Rho → Out := sSeq (sSet 1 (mArgs m__law_grid (mA1 (mVar 0) (mA1 (mC (.int 5)) (mA0))))) (sSeq (sSet 2 (mL gLen (mA1 (mVar 1) (mA0)))) (sSeq (sSet 3 (mArgs m_ring (mA1 (mVar 1) (mA0)))) (sSeq (sSet 4 (mVar 2)) (sSeq (sIf (mT (m1 (fun d => gNotN d .non) (mVar 3))) (sSeq (sIf (tNotM (mT (mArgs m__law_ring (mA1 (mVar 1) (mA1 (mVar 3) (mA0)))))) (sRet (mC (.bl false))) (sNil)) (sSet 4 (m2 gSub (mL gLen (mA1 (mVar 3) (mA0))) (mC (.int 1))))) (sNil)) (sSeq (sSet 5 (mLc [10] (tgN 10) (iR1 (mVar 2)) (tYesM) (mL gLst (mA1 (mVar 10) (mA0))))) (sSeq (sFor (tgN 6) (iR2 (mC (.int 2)) (m2 gAdd (mVar 4) (mC (.int 1)))) (sSeq (sSet 7 (mL gLst (mA0))) (sSeq (sFor (tgN 8) (iAny (mVar 5)) (sFor (tgN 9) (iR1 (mVar 2)) (sIf (mT (m2 gNin (mVar 9) (mVar 8))) (sApp 7 (pNil) (m2 gAdd (mVar 8) (mL gLst (mA1 (mVar 9) (mA0))))) (sNil)))) (sSeq (sSet 5 (mVar 7)) (sFor (tgN 8) (iAny (mVar 5)) (sIf (mT (m2 gLt (mArgs m__law_along (mA1 (mVar 1) (mA1 (m2 gAdd (mVar 8) (mL gLst (mA1 (m2 gIx (mVar 8) (mC (.int 0))) (mA0)))) (mA0)))) (mC (.int 0)))) (sRet (mC (.bl false))) (sNil))))))) (sRet (mC (.bl true)))))))))
def m_law_k12 : List D → Res D := callM 11 b_law_k12
def b_least : Rho → Out := sSeq (sIf (mT (m1 (fun d => gNotN d .non) (mArgs m_ring (mA1 (mVar 0) (mA0))))) (sDead) (sNil)) (sSeq (sSet 1 (m2 gMul (mL gLst (mA1 (mC (.int 0)) (mA0))) (mL gLen (mA1 (mVar 0) (mA0))))) (sSeq (sSet 2 (mLc [4] (tgN 4) (iR1 (mL gLen (mA1 (mVar 0) (mA0)))) (tYesM) (mL gLst (mA1 (mVar 4) (mA0))))) (sSeq (sSet 3 (mC (.bl true))) (sSeq (whileF (mT (mVar 3)) (sSeq (sSet 3 (mC (.bl false))) (sFor (tgN 4) (iR1 (mL gLen (mA1 (mVar 0) (mA0)))) (sFor (tgN 5) (iR1 (mL gLen (mA1 (mVar 0) (mA0)))) (sIf (mT (m2 gGt (m2 gSub (m2 gIx (mVar 1) (mVar 5)) (mArgs m_turn (mA1 (mVar 0) (mA1 (mVar 4) (mA1 (mVar 5) (mA0)))))) (m2 gIx (mVar 1) (mVar 4)))) (sSeq (sPut 1 (pNil) (mVar 4) (m2 gSub (m2 gIx (mVar 1) (mVar 5)) (mArgs m_turn (mA1 (mVar 0) (mA1 (mVar 4) (mA1 (mVar 5) (mA0))))))) (sSeq (sPut 2 (pNil) (mVar 4) (m2 gAdd (mL gLst (mA1 (mVar 4) (mA0))) (m2 gIx (mVar 2) (mVar 5)))) (sSet 3 (mC (.bl true))))) (sNil))))) 100) (sRet (mL gTup (mA1 (mVar 1) (mA1 (mVar 2) (mA0)))))))))
def m_least : List D → Res D := callM 6 b_least
def b_room : Rho → Out := sSeq (sSet 1 (mArgs m_ring (mA1 (mVar 0) (mA0)))) (sSeq (sIf (mT (m1 (fun d => gNotN d .non) (mVar 1))) (sRet (mL gTup (mA1 (mC (.str "ring")) (mA1 (mVar 1) (mA0))))) (sNil)) (sSeq (sSet 2 (mArgs m_greatest (mA1 (mVar 0) (mA0)))) (sSeq (sFor (tgN 3) (iR1 (mL gLen (mA1 (mVar 0) (mA0)))) (sIf (mT (m2 gLt (m2 gIx (m2 gIx (mVar 2) (mC (.int 0))) (mVar 3)) (mC (.int 0)))) (sRet (mL gTup (mA1 (mC (.str "short")) (mA1 (m2 gIx (m2 gIx (mVar 2) (mC (.int 1))) (mVar 3)) (mA0))))) (sNil))) (sRet (mL gTup (mA1 (mC (.str "room")) (mA1 (m2 gIx (mArgs m_least (mA1 (mVar 0) (mA0))) (mC (.int 0))) (mA1 (m2 gIx (mVar 2) (mC (.int 0))) (mA0)))))))))
def m_room : List D → Res D := callM 4 b_room
def b__law_fits : Rho → Out := sSeq (sFor (tgN 2) (iR1 (mL gLen (mA1 (mVar 0) (mA0)))) (sIf (tOrM (mT (m2 gLt (m2 gIx (mVar 1) (mVar 2)) (mC (.int 0)))) (mT (m2 gGt (m2 gIx (mVar 1) (mVar 2)) (m2 gIx (m2 gIx (mVar 0) (mVar 2)) (mVar 2))))) (sRet (mC (.bl false))) (sNil))) (sRet (mArgs m__law_honest (mA1 (mVar 0) (mA1 (mVar 1) (mA0)))))
def m__law_fits : List D → Res D := callM 3 b__law_fits
def b__law_raised : Rho → Out := sSeq (sIf (mT (m2 gEq (m2 gMod (m2 gDiv (mArgs m__law_cell (mA1 (mVar 0) (mA1 (mC (.int 0)) (mA0)))) (mC (.int 7))) (mC (.int 4))) (mC (.int 0)))) (sSet 1 (mLc [5] (tgN 5) (iAny (mVar 1)) (tYesM) (mLc [6] (tgN 6) (iAny (mVar 5)) (tYesM) (m2 gDiv (mVar 6) (mC (.int 100)))))) (sNil)) (sSeq (sSet 3 (mL gMin (mA1 (mVar 2) (mA0)))) (sSeq (sSet 4 (mL gMax (mA1 (mLc [7] (tgN 7) (iR1 (mL gLen (mA1 (mVar 1) (mA0)))) (tYesM) (m2 gSub (m2 gSub (m2 gIx (mVar 2) (mVar 7)) (mVar 3)) (m2 gIx (m2 gIx (mVar 1) (mVar 7)) (mVar 7)))) (mA0)))) (sSeq (sIf (tOrM (mT (m2 gEq (m2 gMod (mArgs m__law_cell (mA1 (mVar 0) (mA1 (mC (.int 60)) (mA0)))) (mC (.int 2))) (mC (.int 0)))) (mT (m2 gLe (mVar 4) (mC (.int 0))))) (sRet (mVar 1)) (sNil)) (sRet (mLc [5] (tgN 5) (iAny (mVar 1)) (tYesM) (mLc [6] (tgN 6) (iAny (mVar 5)) (tYesM) (m2 gAdd (mVar 6) (mVar 4))))))))
def m__law_raised : List D → Res D := callM 8 b__law_raised
def b__law_told : Rho → Out := sSeq (sIf (mT (m2 gEq (m2 gIx (mVar 1) (mC (.int 0))) (mC (.str "short")))) (sSeq (sIf (tOrM (mT (m1 (fun d => gNotN d .non) (mArgs m_ring (mA1 (mVar 0) (mA0))))) (tNotM (mT (mArgs m__law_words (mA1 (m2 gIx (mVar 1) (mC (.int 1))) (mA1 (mL gLen (mA1 (mVar 0) (mA0))) (mA0))))))) (sRet (mC (.bl false))) (sNil)) (sRet (m2 gLt (m2 gAdd (m2 gIx (m2 gIx (mVar 0) (m2 gIx (m2 gIx (mVar 1) (mC (.int 1))) (mC (.int 0)))) (m2 gIx (m2 gIx (mVar 1) (mC (.int 1))) (mC (.int 0)))) (mArgs m__law_along (mA1 (mVar 0) (mA1 (m2 gIx (mVar 1) (mC (.int 1))) (mA0))))) (mC (.int 0))))) (sNil)) (sSeq (sSet 4 (m2 gIx (mVar 1) (mC (.int 1)))) (sSeq (sSet 5 (m2 gIx (mVar 1) (mC (.int 2)))) (sSeq (sIf (tOrM (tNotM (mT (mArgs m__law_numbers (mA1 (mVar 4) (mA1 (mL gLen (mA1 (mVar 0) (mA0))) (mA0)))))) (tNotM (mT (mArgs m__law_numbers (mA1 (mVar 5) (mA1 (mL gLen (mA1 (mVar 0) (mA0))) (mA0))))))) (sRet (mC (.bl false))) (sNil)) (sSeq (sIf (tOrM (tNotM (mT (mArgs m__law_fits (mA1 (mVar 0) (mA1 (mVar 4) (mA0)))))) (tNotM (mT (mArgs m__law_fits (mA1 (mVar 0) (mA1 (mVar 5) (mA0))))))) (sRet (mC (.bl false))) (sNil)) (sSeq (sIf (tOrM (mT (m2 gNe (mVar 4) (m2 gIx (mArgs m_least (mA1 (mVar 0) (mA0))) (mC (.int 0))))) (mT (m2 gNe (mVar 5) (m2 gIx (mArgs m_greatest (mA1 (mVar 0) (mA0))) (mC (.int 0)))))) (sRet (mC (.bl false))) (sNil)) (sSeq (sSet 6 (mLc [7] (tgN 7) (iR1 (mL gLen (mA1 (mVar 0) (mA0)))) (tYesM) (mL gMin (mA1 (m2 gIx (mVar 5) (mVar 7)) (mA1 (m2 gAdd (m2 gIx (mVar 4) (mVar 7)) (mVar 3)) (mA0)))))) (sSeq (sFor (tgN 7) (iR1 (mL gLen (mA1 (mVar 0) (mA0)))) (sSeq (sIf (mT (m2 gGt (m2 gIx (mVar 4) (mVar 7)) (m2 gIx (mVar 5) (mVar 7)))) (sRet (mC (.bl false))) (sNil)) (sIf (tAndM (mT (mArgs m__law_fits (mA1 (mVar 0) (mA1 (mVar 2) (mA0))))) (tOrM (mT (m2 gLt (m2 gIx (mVar 2) (mVar 7)) (m2 gIx (mVar 4) (mVar 7)))) (mT (m2 gGt (m2 gIx (mVar 2) (mVar 7)) (m2 gIx (mVar 5) (mVar 7)))))) (sRet (mC (.bl false))) (sNil)))) (sRet (mAnd (m2 gIsB (mArgs m_within (mA1 (mVar 0) (mA1 (mVar 6) (mA0)))) (mC (.bl true))) (mArgs m__law_fits (mA1 (mVar 0) (mA1 (mVar 6) (mA0)))))))))))))
def m__law_told : List D → Res D := callM 8 b__law_told
def b_law_k22 : Rho → Out := sSeq (sSet 1 (mArgs m__law_grid (mA1 (mVar 0) (mA1 (mC (.int 7)) (mA0))))) (sSeq (sSet 2 (mArgs m__law_pays (mA1 (mVar 0) (mA1 (mL gLen (mA1 (mVar 1) (mA0))) (mA0))))) (sSeq (sSet 1 (mArgs m__law_raised (mA1 (mVar 0) (mA1 (mVar 1) (mA1 (mVar 2) (mA0)))))) (sSeq (sSet 3 (mL gMin (mA1 (mVar 2) (mA0)))) (sSeq (sSet 2 (mLc [6] (tgN 6) (iAny (mVar 2)) (tYesM) (m2 gSub (mVar 6) (mVar 3)))) (sSeq (sSet 4 (mLc [7] (tgN 7) (iAny (mVar 1)) (tYesM) (mL gList (mA1 (mVar 7) (mA0))))) (sSeq (sSet 5 (mArgs m_room (mA1 (mVar 4) (mA0)))) (sSeq (sIf (tOrM (mT (m2 gNe (mVar 4) (mVar 1))) (tOrM (tNotM (mT (m1 (gIsi "tuple") (mVar 5)))) (mT (m2 gLt (mL gLen (mA1 (mVar 5) (mA0))) (mC (.int 2)))))) (sRet (mC (.bl false))) (sNil)) (sSeq (sIf (mT (m2 gEq (m2 gIx (mVar 5) (mC (.int 0))) (mC (.str "ring")))) (sSeq (sIf (tOrM (mT (m2 gNe (mL gLen (mA1 (mVar 5) (mA0))) (mC (.int 2)))) (tOrM (tNotM (mT (mArgs m__law_ring (mA1 (mVar 1) (mA1 (m2 gIx (mVar 5) (mC (.int 1))) (mA0)))))) (mT (mArgs m__law_fits (mA1 (mVar 1) (mA1 (mVar 2) (mA0))))))) (sRet (mC (.bl false))) (sNil)) (sRet (m2 gEq (mL gLen (mA1 (m2 gIx (mVar 5) (mC (.int 1))) (mA0))) (mL gLen (mA1 (mArgs m_ring (mA1 (mVar 1) (mA0))) (mA0)))))) (sNil)) (sSeq (sIf (tAndM (mT (m2 gEq (m2 gIx (mVar 5) (mC (.int 0))) (mC (.str "short")))) (tOrM (mT (m2 gNe (mL gLen (mA1 (mVar 5) (mA0))) (mC (.int 2)))) (mT (mArgs m__law_fits (mA1 (mVar 1) (mA1 (mVar 2) (mA0))))))) (sRet (mC (.bl false))) (sNil)) (sSeq (sIf (tAndM (mT (m2 gNe (m2 gIx (mVar 5) (mC (.int 0))) (mC (.str "short")))) (tOrM (mT (m2 gNe (m2 gIx (mVar 5) (mC (.int 0))) (mC (.str "room")))) (mT (m2 gNe (mL gLen (mA1 (mVar 5) (mA0))) (mC (.int 3)))))) (sRet (mC (.bl false))) (sNil)) (sRet (mArgs m__law_told (mA1 (mVar 1) (mA1 (mVar 5) (mA1 (mVar 2) (mA1 (mL gMax (mA1 (mC (.int 0)) (mA1 (mArgs m__law_number (mA1 (mArgs m__law_cell (mA1 (mVar 0) (mA1 (mC (.int 61)) (mA0)))) (mA1 (m2 gPow (mC (.int 10)) (mC (.int 58))) (mA0)))) (mA0)))) (mA0)))))))))))))))))
def m_law_k22 : List D → Res D := callM 8 b_law_k22
def b_law_k13 : Rho → Out := sSeq (sSet 1 (mArgs m__law_grid (mA1 (mVar 0) (mA1 (mC (.int 7)) (mA0))))) (sSeq (sSet 2 (mL gLen (mA1 (mVar 1) (mA0)))) (sSeq (sSet 3 (m1 gListRg (mVar 2))) (sSeq (sSet 4 (mL gLst (mA0))) (sSeq (sFor (tgN 5) (iR1 (mVar 2)) (sAppM 4 (mPopAt 3 (m2 gMod (m2 gDiv (mArgs m__law_cell (mA1 (mVar 0) (mA1 (m2 gAdd (mC (.int 52)) (mVar 5)) (mA0)))) (mC (.int 3))) (mL gLen (mA1 (mVar 3) (mA0))))))) (sSeq (sSet 6 (mLc [11] (tgN 11) (iAny (mVar 4)) (tYesM) (mLc [12] (tgN 12) (iAny (mVar 4)) (tYesM) (m2 gIx (m2 gIx (mVar 1) (mVar 11)) (mVar 12))))) (sSeq (sSet 7 (mArgs m_ring (mA1 (mVar 1) (mA0)))) (sSeq (sSet 8 (mArgs m_ring (mA1 (mVar 6) (mA0)))) (sSeq (sIf (mT (m1 (fun d => gNotN d .non) (mVar 7))) (sRet (mAnd (m1 (fun d => gNotN d .non) (mVar 8)) (m2 gEq (mL gLen (mA1 (mVar 7) (mA0))) (mL gLen (mA1 (mVar 8) (mA0)))))) (sNil)) (sSeq (sIf (mT (m1 (fun d => gNotN d .non) (mVar 8))) (sRet (mC (.bl false))) (sNil)) (sSeq (sSet 9 (m2 gIx (mArgs m_greatest (mA1 (mVar 1) (mA0))) (mC (.int 0)))) (sSeq (sSet 10 (m2 gIx (mArgs m_least (mA1 (mVar 1) (mA0))) (mC (.int 0)))) (sSeq (sIf (mT (m2 gNe (m2 gIx (mArgs m_greatest (mA1 (mVar 6) (mA0))) (mC (.int 0))) (mLc [11] (tgN 11) (iAny (mVar 4)) (tYesM) (m2 gIx (mVar 9) (mVar 11))))) (sRet (mC (.bl false))) (sNil)) (sRet (m2 gEq (m2 gIx (mArgs m_least (mA1 (mVar 6) (mA0))) (mC (.int 0))) (mLc [11] (tgN 11) (iAny (mVar 4)) (tYesM) (m2 gIx (mVar 10) (mVar 11)))))))))))))))))
def m_law_k13 : List D → Res D := callM 13 b_law_k13
def b_is_number : Rho → Out := sRet (mAnd (m1 (gIsi "int") (mVar 0)) (mAnd (m1 gNot (m1 (gIsi "bool") (mVar 0))) (mChain gLt gLt (m1 gNeg (mC (.int 1000000000000000000000000000000000000000000000000000000000000))) (mVar 0) (mC (.int 1000000000000000000000000000000000000000000000000000000000000)))))
def m_is_number : List D → Res D := callM 1 b_is_number
def b_is_name : Rho → Out := sSeq (sIf (tOrM (tNotM (mT (m1 (gIsi "str") (mVar 0)))) (tNotM (mT (mChain gLe gLe (mC (.int 1)) (mL gLen (mA1 (mVar 0) (mA0))) (mC (.int 8)))))) (sRet (mC (.bl false))) (sNil)) (sSeq (sFor (tgN 1) (iAny (mVar 0)) (sIf (mT (m2 gNin (mVar 1) (mC (.str "abcdefghijklmnopqrstuvwxyz")))) (sRet (mC (.bl false))) (sNil))) (sRet (mC (.bl true))))
def m_is_name : List D → Res D := callM 2 b_is_name
def b_is_worth : Rho → Out := sRet (mAnd (m1 (gIsi "int") (mVar 0)) (mAnd (m1 gNot (m1 (gIsi "bool") (mVar 0))) (mChain gLt gLt (m2 gSub (mC (.int 0)) (m2 gPow (mC (.int 10)) (mC (.int 60)))) (mVar 0) (m2 gPow (mC (.int 10)) (mC (.int 60))))))
def m_is_worth : List D → Res D := callM 1 b_is_worth
def b_are_worths : Rho → Out := sSeq (sIf (tOrM (tNotM (mT (m1 (gIsi "list") (mVar 0)))) (mT (m2 gNe (mL gLen (mA1 (mVar 0) (mA0))) (mVar 1)))) (sRet (mC (.bl false))) (sNil)) (sSeq (sFor (tgN 3) (iAny (mVar 0)) (sSeq (sIf (tOrM (tNotM (mT (m1 (gIsi "list") (mVar 3)))) (mT (m2 gNe (mL gLen (mA1 (mVar 3) (mA0))) (mVar 2)))) (sRet (mC (.bl false))) (sNil)) (sFor (tgN 4) (iAny (mVar 3)) (sIf (tNotM (mT (mArgs m_is_worth (mA1 (mVar 4) (mA0))))) (sRet (mC (.bl false))) (sNil))))) (sRet (mC (.bl true))))
def m_are_worths : List D → Res D := callM 5 b_are_worths
def b_look : Rho → Out := sSeq (sIf (tOrM (tNotM (mT (m1 (gIsi "list") (mVar 1)))) (mT (m2 gNe (mL gLen (mA1 (mVar 1) (mA0))) (mL gLen (mA1 (m2 gIx (mVar 0) (mC (.int 1))) (mA0)))))) (sDead) (sNil)) (sSeq (sFor (tgN 3) (iAny (mVar 1)) (sIf (tOrM (tNotM (mT (mArgs m_is_number (mA1 (mVar 3) (mA0))))) (mT (m2 gLt (mVar 3) (mC (.int 1))))) (sDead) (sNil))) (sSeq (sIf (tOrM (tNotM (mT (m1 (gIsi "list") (mVar 2)))) (mT (m2 gNe (mL gLen (mA1 (mVar 2) (mA0))) (mL gLen (mA1 (m2 gIx (mVar 0) (mC (.int 0))) (mA0)))))) (sDead) (sNil)) (sFor (tgN 4) (iAny (mVar 2)) (sIf (tNotM (mT (mArgs m_is_number (mA1 (mVar 4) (mA0))))) (sDead) (sNil)))))
def m_look : List D → Res D := callM 5 b_look
def b_parts : Rho → Out := sSeq (sSet 4 (m2 gIx (m2 gIx (mVar 0) (mC (.int 1))) (mVar 3))) (sSeq (sSet 5 (m2 gIx (m2 gIx (mVar 4) (mC (.int 2))) (mMeth gIndex (m2 gIx (mVar 4) (mC (.int 1))) (m2 gIx (mVar 2) (mVar 3))))) (sRet (mLc [6] (tgN 6) (iAny (mVar 5)) (tYesM) (m2 gMul (m2 gIx (mVar 1) (mVar 3)) (mVar 6)))))
def m_parts : List D → Res D := callM 7 b_parts
def b_summed : Rho → Out := sSeq (sSet 4 (mL gList (mA1 (mVar 2) (mA0)))) (sSeq (sFor (tgN 5) (iR1 (mL gLen (mA1 (m2 gIx (mVar 0) (mC (.int 1))) (mA0)))) (sSet 4 (mLc [6, 7] (tgT [6, 7]) (iZipM (mVar 4) (mArgs m_parts (mA1 (mVar 0) (mA1 (mVar 1) (mA1 (mVar 3) (mA1 (mVar 5) (mA0))))))) (tYesM) (m2 gAdd (mVar 6) (mVar 7))))) (sRet (mVar 4)))
def m_summed : List D → Res D := callM 8 b_summed
def b_scores : Rho → Out := sSeq (sDo (mArgs m_look (mA1 (mVar 0) (mA1 (mVar 1) (mA1 (mVar 2) (mA0)))))) (sRet (mArgs m_summed (mA1 (mVar 0) (mA1 (mVar 1) (mA1 (mVar 2) (mA1 (mVar 3) (mA0)))))))
def m_scores : List D → Res D := callM 4 b_scores
def b__law_names : Rho → Out := sSeq (sSet 2 (mC (.str "abcdefghijklmnopqrstuvwxyz"))) (sSeq (sIf (mT (m2 gEq (m2 gMod (mVar 0) (mC (.int 3))) (mC (.int 0)))) (sRet (mLc [5] (tgN 5) (iR1 (mVar 1)) (tYesM) (m2 gMul (m2 gIx (mVar 2) (m2 gMod (m2 gDiv (mVar 0) (mC (.int 3))) (mC (.int 26)))) (m2 gAdd (mVar 5) (mC (.int 1)))))) (sNil)) (sSeq (sSet 3 (m2 gIx (mVar 2) (m2 gMod (m2 gDiv (mVar 0) (mC (.int 468))) (mC (.int 26))))) (sSeq (sSet 4 (mL gLst (mA0))) (sSeq (sFor (tgN 5) (iR1 (mVar 1)) (sSeq (sSet 6 (m2 gIx (mVar 2) (m2 gMod (m2 gAdd (m2 gDiv (mVar 0) (mC (.int 3))) (m2 gMul (mVar 5) (m2 gAdd (mC (.int 1)) (m2 gMul (mC (.int 2)) (m2 gMod (m2 gDiv (mVar 0) (mC (.int 78))) (mC (.int 6))))))) (mC (.int 26))))) (sSeq (sSet 7 (m2 gMul (mVar 3) (m2 gMod (m2 gDiv (mVar 0) (mC (.int 5))) (mC (.int 4))))) (sApp 4 (pNil) (m2 gAdd (m2 gAdd (mVar 7) (mVar 6)) (m2 gMul (mVar 3) (m2 gMod (m2 gDiv (mVar 0) (mC (.int 7))) (mC (.int 4))))))))) (sRet (mVar 4))))))
def m__law_names : List D → Res D := callM 8 b__law_names
def b__law_hands : Rho → Out := sSeq (sSet 3 (m2 gAdd (mC (.int 1)) (m2 gMod (m2 gDiv (mArgs m__law_cell (mA1 (mVar 0) (mA1 (mC (.int 0)) (mA0)))) (mC (.int 4))) (mC (.int 3))))) (sSeq (sSet 4 (mArgs m__law_names (mA1 (mArgs m__law_cell (mA1 (mVar 0) (mA1 (mC (.int 6)) (mA0)))) (mA1 (mC (.int 3)) (mA0))))) (sSeq (sSet 5 (mL gLst (mA0))) (sSeq (sSet 6 (mC (.int 8))) (sSeq (sFor (tgN 7) (iR1 (mVar 3)) (sSeq (sSet 8 (m2 gAdd (mC (.int 1)) (m2 gMod (m2 gDiv (mArgs m__law_cell (mA1 (mVar 0) (mA1 (mC (.int 1)) (mA0)))) (m2 gIx (mL gLst (mA1 (mC (.int 1)) (mA1 (mC (.int 3)) (mA1 (mC (.int 9)) (mA0))))) (mVar 7))) (mC (.int 3))))) (sSeq (sSet 9 (mL gLst (mA0))) (sSeq (sFor (tgN 10) (iR1 (mVar 8)) (sSeq (sApp 9 (pNil) (mLc [11] (tgN 11) (iR1 (mVar 1)) (tYesM) (mArgs m__law_number (mA1 (mArgs m__law_cell (mA1 (mVar 0) (mA1 (m2 gAdd (mVar 6) (mVar 11)) (mA0)))) (mA1 (mVar 2) (mA0)))))) (sSet 6 (m2 gAdd (mVar 6) (mVar 1))))) (sApp 5 (pNil) (mL gTup (mA1 (m2 gIx (mVar 4) (mVar 7)) (mA1 (mArgs m__law_names (mA1 (mArgs m__law_cell (mA1 (mVar 0) (mA1 (m2 gAdd (mC (.int 3)) (mVar 7)) (mA0)))) (mA1 (mVar 8) (mA0)))) (mA1 (mVar 9) (mA0)))))))))) (sRet (mVar 5))))))
def m__law_hands : List D → Res D := callM 12 b__law_hands
def b__law_rows : Rho → Out := sSeq (sSet 1 (mL gLst (mA1 (mL gTup (mA0)) (mA0)))) (sSeq (sFor (tgN 2) (iAny (mVar 0)) (sSeq (sSet 3 (mL gLst (mA0))) (sSeq (sFor (tgN 4) (iAny (mVar 1)) (sFor (tgN 5) (iAny (m2 gIx (mVar 2) (mC (.int 1)))) (sApp 3 (pNil) (m2 gAdd (mVar 4) (mL gTup (mA1 (mVar 5) (mA0))))))) (sSet 1 (mVar 3))))) (sRet (mVar 1)))
def m__law_rows : List D → Res D := callM 6 b__law_rows
def b__law_worths : Rho → Out := sRet (m2 gIx (m2 gIx (mVar 0) (mC (.int 2))) (mMeth gIndex (m2 gIx (mVar 0) (mC (.int 1))) (mVar 1)))
def m__law_worths : List D → Res D := callM 2 b__law_worths
def b__law_weights : Rho → Out := sRet (mLc [2] (tgN 2) (iR1 (mVar 1)) (tYesM) (m2 gAdd (mC (.int 1)) (mL gAbs (mA1 (mArgs m__law_number (mA1 (mArgs m__law_cell (mA1 (mVar 0) (mA1 (m2 gAdd (mC (.int 44)) (mVar 2)) (mA0)))) (mA1 (m2 gPow (mC (.int 10)) (mC (.int 59))) (mA0)))) (mA0)))))
def m__law_weights : List D → Res D := callM 3 b__law_weights
def b__law_handicaps : Rho → Out := sRet (mLc [2] (tgN 2) (iR1 (mVar 1)) (tYesM) (mArgs m__law_number (mA1 (mArgs m__law_cell (mA1 (mVar 0) (mA1 (m2 gAdd (mC (.int 47)) (mVar 2)) (mA0)))) (mA1 (m2 gPow (mC (.int 10)) (mC (.int 59))) (mA0)))))
def m__law_handicaps : List D → Res D := callM 3 b__law_handicaps
def b__law_scores : Rho → Out := sSeq (sSet 4 (mL gList (mA1 (mVar 2) (mA0)))) (sSeq (sFor (tgN 5) (iR1 (mL gLen (mA1 (mVar 0) (mA0)))) (sSeq (sSet 6 (mArgs m__law_worths (mA1 (m2 gIx (mVar 0) (mVar 5)) (mA1 (m2 gIx (mVar 3) (mVar 5)) (mA0))))) (sFor (tgN 7) (iR1 (mL gLen (mA1 (mVar 4) (mA0)))) (sPut 4 (pNil) (mVar 7) (m2 gAdd (m2 gIx (mVar 4) (mVar 7)) (m2 gMul (m2 gIx (mVar 1) (mVar 5)) (m2 gIx (mVar 6) (mVar 7)))))))) (sRet (mVar 4)))
def m__law_scores : List D → Res D := callM 8 b__law_scores
def b_crossed : Rho → Out := sSeq (sSet 1 (mL gLst (mA1 (mL gTup (mA0)) (mA0)))) (sSeq (sFor (tgN 2) (iAny (mVar 0)) (sSeq (sSet 3 (mL gLst (mA0))) (sSeq (sFor (tgN 4) (iAny (mVar 1)) (sFor (tgN 5) (iAny (mVar 2)) (sApp 3 (pNil) (m2 gAdd (mVar 4) (mL gTup (mA1 (mVar 5) (mA0))))))) (sSet 1 (mVar 3))))) (sRet (mVar 1)))
def m_crossed : List D → Res D := callM 6 b_crossed
def b_rows_of : Rho → Out := sRet (mArgs m_crossed (mA1 (mLc [1] (tgN 1) (iAny (m2 gIx (mVar 0) (mC (.int 1)))) (tYesM) (m2 gIx (mVar 1) (mC (.int 1)))) (mA0)))
def m_rows_of : List D → Res D := callM 2 b_rows_of
def b_best_table : Rho → Out := sSeq (sDo (mArgs m_look (mA1 (mVar 0) (mA1 (mVar 1) (mA1 (mVar 2) (mA0)))))) (sSeq (sSet 3 (mC (.dT [] []))) (sSeq (sFor (tgN 4) (iAny (mArgs m_rows_of (mA1 (mVar 0) (mA0)))) (sSeq (sSet 5 (mArgs m_summed (mA1 (mVar 0) (mA1 (mVar 1) (mA1 (mVar 2) (mA1 (mVar 4) (mA0))))))) (sPutD 3 (pNil) (mVar 4) (m2 gIx (m2 gIx (mVar 0) (mC (.int 0))) (mMeth gIndex (mVar 5) (mL gMax (mA1 (mVar 5) (mA0)))))))) (sRet (mVar 3))))
def m_best_table : List D → Res D := callM 6 b_best_table
def b_pivots : Rho → Out := sSeq (sDo (mArgs m_look (mA1 (mVar 0) (mA1 (mVar 1) (mA1 (mVar 2) (mA0)))))) (sSeq (sSet 4 (mArgs m_summed (mA1 (mVar 0) (mA1 (mVar 1) (mA1 (mVar 2) (mA1 (mVar 3) (mA0))))))) (sSeq (sSet 5 (mMeth gIndex (mVar 4) (mL gMax (mA1 (mVar 4) (mA0))))) (sSeq (sSet 6 (mL gLst (mA0))) (sSeq (sFor (tgN 7) (iR1 (mL gLen (mA1 (m2 gIx (mVar 0) (mC (.int 1))) (mA0)))) (sSeq (sSet 8 (mLc [9, 10] (tgT [9, 10]) (iZipM (mVar 4) (mArgs m_parts (mA1 (mVar 0) (mA1 (mVar 1) (mA1 (mVar 3) (mA1 (mVar 7) (mA0))))))) (tYesM) (m2 gSub (mVar 9) (mVar 10)))) (sApp 6 (pNil) (m2 gSub (mL gMax (mA1 (mVar 8) (mA0))) (m2 gIx (mVar 8) (mVar 5)))))) (sRet (mVar 6))))))
def m_pivots : List D → Res D := callM 11 b_pivots
def b__law_pivot : Rho → Out := sSeq (sSet 5 (mC (.int 0))) (sSeq (sFor (tgN 6) (iR1 (mL gLen (mA1 (mVar 2) (mA0)))) (sIf (mT (m2 gGt (m2 gIx (mVar 2) (mVar 6)) (m2 gIx (mVar 2) (mVar 5)))) (sSet 5 (mVar 6)) (sNil))) (sSeq (sSet 7 (mArgs m__law_worths (mA1 (m2 gIx (mVar 0) (mVar 4)) (mA1 (m2 gIx (mVar 3) (mVar 4)) (mA0))))) (sSeq (sSet 8 (mLc [6] (tgN 6) (iR1 (mL gLen (mA1 (mVar 2) (mA0)))) (tYesM) (m2 gSub (m2 gIx (mVar 2) (mVar 6)) (m2 gMul (m2 gIx (mVar 1) (mVar 4)) (m2 gIx (mVar 7) (mVar 6)))))) (sRet (m2 gSub (mL gMax (mA1 (mVar 8) (mA0))) (m2 gIx (mVar 8) (mVar 5)))))))
def m__law_pivot : List D → Res D := callM 9 b__law_pivot
def b_row_with : Rho → Out := sRet (m2 gAdd (m2 gAdd (mSl (mVar 0) (oNo) (oYes (mVar 1))) (mL gTup (mA1 (mVar 2) (mA0)))) (mSl (mVar 0) (oYes (mVar 1)) (oNo)))
def m_row_with : List D → Res D := callM 3 b_row_with
def b_grid_of : Rho → Out := sSeq (sSet 4 (mLc [7] (tgN 7) (iAny (m2 gIx (m2 gIx (m2 gIx (mVar 0) (mC (.int 1))) (mVar 2)) (mC (.int 1)))) (tYesM) (mMeth gIndex (m2 gIx (mVar 0) (mC (.int 0))) (m2 gIx (mVar 1) (mArgs m_row_with (mA1 (mVar 3) (mA1 (mVar 2) (mA1 (mVar 7) (mA0))))))))) (sSeq (sSet 5 (mL gLst (mA0))) (sSeq (sFor (tgN 6) (iAny (m2 gIx (m2 gIx (m2 gIx (mVar 0) (mC (.int 1))) (mVar 2)) (mC (.int 2)))) (sApp 5 (pNil) (mLc [8] (tgN 8) (iAny (mVar 4)) (tYesM) (m2 gIx (mVar 6) (mVar 8))))) (sRet (mVar 5))))
def m_grid_of : List D → Res D := callM 9 b_grid_of
def b__law_column : Rho → Out := sSeq (sSet 5 (mLc [6] (tgN 6) (iAny (m2 gIx (m2 gIx (mVar 0) (mVar 3)) (mC (.int 1)))) (tYesM) (mMeth gIndex (mVar 1) (m2 gIx (mVar 2) (m2 gAdd (m2 gAdd (mSl (mVar 4) (oNo) (oYes (mVar 3))) (mL gTup (mA1 (mVar 6) (mA0)))) (mSl (mVar 4) (oYes (mVar 3)) (oNo))))))) (sRet (mLc [7] (tgN 7) (iAny (m2 gIx (m2 gIx (mVar 0) (mVar 3)) (mC (.int 2)))) (tYesM) (mLc [8] (tgN 8) (iAny (mVar 5)) (tYesM) (m2 gIx (mVar 7) (mVar 8)))))
def m__law_column : List D → Res D := callM 9 b__law_column
def b__law_honest_v2 : Rho → Out := sSeq (sFor (tgN 3) (iR1 (mL gLen (mA1 (mVar 0) (mA0)))) (sFor (tgN 4) (iR1 (mL gLen (mA1 (mVar 0) (mA0)))) (sSeq (sSet 5 (m2 gMul (mVar 1) (m2 gSub (m2 gIx (m2 gIx (mVar 0) (mVar 3)) (mVar 4)) (m2 gIx (m2 gIx (mVar 0) (mVar 3)) (mVar 3))))) (sIf (mT (m2 gGt (mVar 5) (m2 gSub (m2 gIx (mVar 2) (mVar 4)) (m2 gIx (mVar 2) (mVar 3))))) (sRet (mC (.bl false))) (sNil))))) (sRet (mC (.bl true)))
def m__law_honest_v2 : List D → Res D := callM 6 b__law_honest_v2
def b__law_low : Rho → Out := sRet (mL gMin (mA1 (mLc [1] (tgN 1) (iAny (m2 gIx (mVar 0) (mC (.int 2)))) (tYesM) (mL gMin (mA1 (mVar 1) (mA0)))) (mA0)))
def m__law_low : List D → Res D := callM 2 b__law_low
def b__law_bounded : Rho → Out := sSeq (sFor (tgN 4) (iR1 (mL gLen (mA1 (mVar 0) (mA0)))) (sIf (tOrM (mT (m2 gGt (m2 gIx (mVar 2) (mVar 4)) (m2 gMul (mVar 1) (m2 gIx (m2 gIx (mVar 0) (mVar 4)) (mVar 4))))) (mT (m2 gGt (m2 gIx (mVar 2) (mVar 4)) (m2 gMul (mVar 1) (m2 gIx (mVar 3) (mVar 4)))))) (sRet (mC (.bl false))) (sNil))) (sRet (mC (.bl true)))
def m__law_bounded : List D → Res D := callM 5 b__law_bounded
def b_others_of : Rho → Out := sRet (mArgs m_crossed (mA1 (mLc [2] (tgN 2) (iR1 (mL gLen (mA1 (m2 gIx (mVar 0) (mC (.int 1))) (mA0)))) (mT (m2 gNe (mVar 2) (mVar 1))) (m2 gIx (m2 gIx (m2 gIx (mVar 0) (mC (.int 1))) (mVar 2)) (mC (.int 1)))) (mA0)))
def m_others_of : List D → Res D := callM 3 b_others_of
def b_first_ring : Rho → Out := sSeq (sFor (tgN 2) (iR1 (mL gLen (mA1 (m2 gIx (mVar 0) (mC (.int 1))) (mA0)))) (sFor (tgN 3) (iAny (mArgs m_others_of (mA1 (mVar 0) (mA1 (mVar 2) (mA0))))) (sSeq (sSet 4 (mArgs m_ring (mA1 (mArgs m_grid_of (mA1 (mVar 0) (mA1 (mVar 1) (mA1 (mVar 2) (mA1 (mVar 3) (mA0)))))) (mA0)))) (sIf (mT (m1 (fun d => gNotN d .non) (mVar 4))) (sRet (mL gTup (mA1 (mC (.str "ring")) (mA1 (mVar 2) (mA1 (mVar 3) (mA1 (mVar 4) (mA0))))))) (sNil))))) (sRet (mC .non))
def m_first_ring : List D → Res D := callM 5 b_first_ring
def b_verdict : Rho → Out := sSeq (sSet 2 (mArgs m_first_ring (mA1 (mVar 0) (mA1 (mVar 1) (mA0))))) (sSeq (sIf (mT (m1 (fun d => gNotN d .non) (mVar 2))) (sRet (mVar 2)) (sNil)) (sSeq (sSet 3 (mL gLst (mA0))) (sSeq (sFor (tgN 4) (iR1 (mL gLen (mA1 (m2 gIx (mVar 0) (mC (.int 1))) (mA0)))) (sFor (tgN 5) (iAny (mArgs m_others_of (mA1 (mVar 0) (mA1 (mVar 4) (mA0))))) (sSeq (sAsg (tgT [6, 7]) (mArgs m_greatest (mA1 (mArgs m_grid_of (mA1 (mVar 0) (mA1 (mVar 1) (mA1 (mVar 4) (mA1 (mVar 5) (mA0)))))) (mA0)))) (sApp 3 (pNil) (mL gTup (mA1 (mVar 4) (mA1 (mVar 5) (mA1 (mVar 6) (mA1 (mVar 7) (mA0)))))))))) (sRet (mL gTup (mA1 (mC (.str "pays")) (mA1 (mVar 3) (mA0))))))))
def m_verdict : List D → Res D := callM 8 b_verdict
def b__law_fits_v2 : Rho → Out := sSeq (sFor (tgN 2) (iR1 (mL gLen (mA1 (mVar 0) (mA0)))) (sSeq (sIf (mT (m2 gGt (m2 gIx (mVar 1) (mVar 2)) (m2 gIx (m2 gIx (mVar 0) (mVar 2)) (mVar 2)))) (sRet (mC (.bl false))) (sNil)) (sFor (tgN 3) (iR1 (mL gLen (mA1 (mVar 0) (mA0)))) (sSeq (sSet 4 (m2 gSub (m2 gIx (m2 gIx (mVar 0) (mVar 2)) (mVar 3)) (m2 gIx (m2 gIx (mVar 0) (mVar 2)) (mVar 2)))) (sIf (mT (m2 gGt (mVar 4) (m2 gSub (m2 gIx (mVar 1) (mVar 3)) (m2 gIx (mVar 1) (mVar 2))))) (sRet (mC (.bl false))) (sNil)))))) (sRet (mC (.bl true)))
def m__law_fits_v2 : List D → Res D := callM 5 b__law_fits_v2
def b_look_v2 : Rho → Out := sSeq (sFor (tgN 1) (iAny (mVar 0)) (sIf (tOrM (tNotM (mT (m1 (gIsi "int") (mVar 1)))) (tOrM (mT (m1 (gIsi "bool") (mVar 1))) (mT (m2 gLt (mVar 1) (mC (.int 0)))))) (sDead) (sNil))) (sIf (mT (m2 gEq (mL gSum (mA1 (mVar 0) (mA0))) (mC (.int 0)))) (sDead) (sNil))
def m_look_v2 : List D → Res D := callM 2 b_look_v2
def b_look_list : Rho → Out := sSeq (sIf (tOrM (tNotM (mT (m1 (gIsi "list") (mVar 1)))) (mT (m2 gNe (mL gLen (mA1 (mVar 1) (mA0))) (mL gLen (mA1 (mVar 0) (mA0)))))) (sDead) (sNil)) (sDo (mArgs m_look_v2 (mA1 (mVar 1) (mA0))))
def m_look_list : List D → Res D := callM 2 b_look_list
def b_added : Rho → Out := sRet (mLc [3, 4] (tgT [3, 4]) (iZipM (mVar 0) (mVar 1)) (tYesM) (m2 gAdd (mVar 3) (m2 gMul (mVar 2) (mVar 4))))
def m_added : List D → Res D := callM 5 b_added
def b_summed_pays : Rho → Out := sSeq (sDo (mArgs m_look_list (mA1 (mVar 0) (mA1 (mVar 1) (mA0))))) (sSeq (sSet 2 (m2 gMul (mL gLst (mA1 (mC (.int 0)) (mA0))) (mL gLen (mA1 (m2 gIx (mVar 0) (mC (.int 0))) (mA0))))) (sSeq (sFor (tgT [3, 4]) (iZipM (mVar 0) (mVar 1)) (sSet 2 (mArgs m_added (mA1 (mVar 2) (mA1 (mVar 3) (mA1 (mVar 4) (mA0))))))) (sRet (mVar 2))))
def m_summed_pays : List D → Res D := callM 5 b_summed_pays
def b_summed_grids : Rho → Out := sSeq (sDo (mArgs m_look_list (mA1 (mVar 0) (mA1 (mVar 1) (mA0))))) (sSeq (sSet 2 (mL gLen (mA1 (m2 gIx (mVar 0) (mC (.int 0))) (mA0)))) (sRet (mLc [3] (tgN 3) (iR1 (mVar 2)) (tYesM) (mArgs m_summed_pays (mA1 (mLc [4] (tgN 4) (iAny (mVar 0)) (tYesM) (m2 gIx (mVar 4) (mVar 3))) (mA1 (mVar 1) (mA0)))))))
def m_summed_grids : List D → Res D := callM 5 b_summed_grids
def b__law_lists : Rho → Out := sSeq (sSet 3 (mL gLst (mA0))) (sSeq (sFor (tgN 4) (iR1 (mVar 2)) (sSeq (sSet 5 (mLc [6] (tgN 6) (iR1 (mVar 1)) (tYesM) (m2 gDiv (mArgs m__law_cell (mA1 (mVar 0) (mA1 (m2 gAdd (mC (.int 49)) (m2 gMod (m2 gAdd (m2 gMul (mC (.int 4)) (mVar 4)) (mVar 6)) (mC (.int 12)))) (mA0)))) (m2 gAdd (mC (.int 1)) (m2 gDiv (mVar 4) (mC (.int 3))))))) (sApp 3 (pNil) (mLc [7] (tgN 7) (iAny (mVar 5)) (tYesM) (mArgs m__law_number (mA1 (mVar 7) (mA1 (m2 gPow (mC (.int 10)) (mC (.int 57))) (mA0)))))))) (sRet (mVar 3)))
def m__law_lists : List D → Res D := callM 8 b__law_lists
def b__law_priced_v2 : Rho → Out := sSeq (sSet 3 (mL gLen (mA1 (mVar 1) (mA0)))) (sSeq (sSet 4 (mL gLst (mA0))) (sSeq (sFor (tgN 5) (iR1 (mVar 3)) (sSeq (sSet 6 (mArgs m__law_number (mA1 (mArgs m__law_cell (mA1 (mVar 0) (mA1 (m2 gAdd (m2 gAdd (mVar 2) (m2 gMul (mVar 5) (mVar 3))) (mVar 5)) (mA0)))) (mA1 (m2 gPow (mC (.int 10)) (mC (.int 57))) (mA0))))) (sSeq (sSet 7 (mL gLst (mA0))) (sSeq (sFor (tgN 8) (iR1 (mVar 3)) (sSeq (sSet 9 (mArgs m__law_cell (mA1 (mVar 0) (mA1 (m2 gAdd (m2 gAdd (mVar 2) (m2 gMul (mVar 5) (mVar 3))) (mVar 8)) (mA0))))) (sSeq (sSet 10 (m2 gMul (mL gMax (mA1 (mC (.int 0)) (mA1 (mArgs m__law_number (mA1 (mVar 9) (mA1 (m2 gPow (mC (.int 10)) (mC (.int 57))) (mA0)))) (mA0)))) (mL gInt (mA1 (m2 gNe (mVar 8) (mVar 5)) (mA0))))) (sApp 7 (pNil) (m2 gSub (m2 gAdd (m2 gSub (mVar 6) (m2 gIx (mVar 1) (mVar 5))) (m2 gIx (mVar 1) (mVar 8))) (mVar 10)))))) (sAppMv 4 (pNil) 7))))) (sRet (mVar 4))))
def m__law_priced_v2 : List D → Res D := callM 11 b__law_priced_v2
def b__law_shares : Rho → Out := sSeq (sSet 2 (mLc [3] (tgN 3) (iR1 (mVar 1)) (tYesM) (mL gAbs (mA1 (mArgs m__law_number (mA1 (m2 gDiv (mArgs m__law_cell (mA1 (mVar 0) (mA1 (mC (.int 2)) (mA0)))) (m2 gAdd (mC (.int 1)) (m2 gMul (mC (.int 5)) (mVar 3)))) (mA1 (m2 gPow (mC (.int 10)) (mC (.int 59))) (mA0)))) (mA0))))) (sSeq (sIf (mT (m2 gEq (mL gMax (mA1 (mVar 2) (mA0))) (mC (.int 0)))) (sPut 2 (pNil) (m1 gNeg (mC (.int 1))) (mC (.int 1))) (sNil)) (sRet (mVar 2)))
def m__law_shares : List D → Res D := callM 4 b__law_shares
def b__law_road : Rho → Out := sSeq (sIf (tOrM (tNotM (mT (mArgs m__law_words (mA1 (mVar 1) (mA1 (mL gLen (mA1 (mVar 0) (mA0))) (mA0)))))) (mT (m2 gNe (m2 gIx (mVar 1) (m1 gNeg (mC (.int 1)))) (mVar 2)))) (sRet (mC (.bl false))) (sNil)) (sRet (m2 gEq (m2 gAdd (m2 gIx (m2 gIx (mVar 0) (m2 gIx (mVar 1) (mC (.int 0)))) (m2 gIx (mVar 1) (mC (.int 0)))) (mArgs m__law_along (mA1 (mVar 0) (mA1 (mVar 1) (mA0))))) (mVar 3)))
def m__law_road : List D → Res D := callM 4 b__law_road
def b_law_k14 : Rho → Out := sSeq (sSet 1 (mArgs m__law_grid (mA1 (mVar 0) (mA1 (mC (.int 8)) (mA0))))) (sSeq (sSet 2 (mL gLen (mA1 (mVar 1) (mA0)))) (sSeq (sIf (mT (m1 (fun d => gNotN d .non) (mArgs m_ring (mA1 (mVar 1) (mA0))))) (sRet (mC (.bl true))) (sNil)) (sSeq (sSet 3 (mLc [12] (tgN 12) (iAny (mVar 1)) (tYesM) (mL gList (mA1 (mVar 12) (mA0))))) (sSeq (sSet 4 ((mFlat (mArgs m_greatest (mA1 (mVar 3) (mA0)))))) (sSeq (sIf (tOrM (mT (m2 gNe (mVar 3) (mVar 1))) (tOrM (tNotM (mT (m1 (gIsi "tuple") (mVar 4)))) (mT (m2 gNe (mL gLen (mA1 (mVar 4) (mA0))) (mC (.int 2)))))) (sRet (mC (.bl false))) (sNil)) (sSeq (sSet 5 ((mFlat (m2 gIx (mVar 4) (mC (.int 0)))))) (sSeq (sIf (tOrM (tNotM (mT (mArgs m__law_numbers (mA1 (mVar 5) (mA1 (mVar 2) (mA0)))))) (tOrM (tNotM (mT (m1 (gIsi "list") (m2 gIx (mVar 4) (mC (.int 1)))))) (mT (m2 gNe (mL gLen (mA1 (m2 gIx (mVar 4) (mC (.int 1))) (mA0))) (mVar 2))))) (sRet (mC (.bl false))) (sNil)) (sSeq (sIf (tNotM (mT (mArgs m__law_honest (mA1 (mVar 1) (mA1 (mVar 5) (mA0)))))) (sRet (mC (.bl false))) (sNil)) (sSeq (sSet 6 (mArgs m__law_pays (mA1 (mVar 0) (mA1 (mVar 2) (mA0))))) (sSeq (sSet 7 (mL gMax (mA1 (mLc [8] (tgN 8) (iR1 (mVar 2)) (tYesM) (m2 gSub (m2 gIx (mVar 6) (mVar 8)) (m2 gIx (m2 gIx (mVar 1) (mVar 8)) (mVar 8)))) (mA0)))) (sSeq (sFor (tgN 8) (iR1 (mVar 2)) (sSeq (sIf (tOrM (mT (m2 gGt (m2 gIx (mVar 5) (mVar 8)) (m2 gIx (m2 gIx (mVar 1) (mVar 8)) (mVar 8)))) (tNotM (mT (mArgs m__law_road (mA1 (mVar 1) (mA1 ((mFlat (m2 gIx (m2 gIx (mVar 4) (mC (.int 1))) (mVar 8)))) (mA1 (mVar 8) (mA1 (m2 gIx (mVar 5) (mVar 8)) (mA0))))))))) (sRet (mC (.bl false))) (sNil)) (sIf (tAndM (mT (mArgs m__law_honest (mA1 (mVar 1) (mA1 (mVar 6) (mA0))))) (mT (m2 gGt (m2 gSub (m2 gIx (mVar 6) (mVar 8)) (mVar 7)) (m2 gIx (mVar 5) (mVar 8))))) (sRet (mC (.bl false))) (sNil)))) (sSeq (sSet 9 (m2 gMod (mArgs m__law_cell (mA1 (mVar 0) (mA1 (mC (.int 60)) (mA0)))) (mVar 2))) (sSeq (sSet 10 (mLc [13] (tgN 13) (iAny ((mFlat (m2 gIx (mVar 4) (mC (.int 1)))))) (tYesM) (mL gList (mA1 (mVar 13) (mA0))))) (sSeq (sMut 4 (pSnoc (pSnoc (pNil) (mC (.int 1))) (mVar 9)) nClr) (sSeq (sSet 11 (m2 gAdd (mSl ((mFlat (m2 gIx (mVar 4) (mC (.int 1))))) (oNo) (oYes (mVar 9))) (mSl ((mFlat (m2 gIx (mVar 4) (mC (.int 1))))) (oYes (m2 gAdd (mVar 9) (mC (.int 1)))) (oNo)))) (sRet (m2 gEq (mVar 11) (m2 gAdd (mSl (mVar 10) (oNo) (oYes (mVar 9))) (mSl (mVar 10) (oYes (m2 gAdd (mVar 9) (mC (.int 1)))) (oNo))))))))))))))))))))
def m_law_k14 : List D → Res D := callM 14 b_law_k14
def b__law_road_v2 : Rho → Out := sSeq (sIf (tOrM (tNotM (mT (mArgs m__law_words (mA1 (mVar 1) (mA1 (mL gLen (mA1 (mVar 0) (mA0))) (mA0)))))) (mT (m2 gNe (m2 gIx (mVar 1) (mC (.int 0))) (mVar 2)))) (sRet (mC (.bl false))) (sNil)) (sRet (m2 gEq (m2 gSub (mC (.int 0)) (mArgs m__law_along (mA1 (mVar 0) (mA1 (mVar 1) (mA0))))) (mVar 3)))
def m__law_road_v2 : List D → Res D := callM 4 b__law_road_v2
def b_law_k15 : Rho → Out := sSeq (sSet 1 (mArgs m__law_grid (mA1 (mVar 0) (mA1 (mC (.int 8)) (mA0))))) (sSeq (sSet 2 (mL gLen (mA1 (mVar 1) (mA0)))) (sSeq (sIf (mT (m1 (fun d => gNotN d .non) (mArgs m_ring (mA1 (mVar 1) (mA0))))) (sRet (mC (.bl true))) (sNil)) (sSeq (sSet 3 (mLc [11] (tgN 11) (iAny (mVar 1)) (tYesM) (mL gList (mA1 (mVar 11) (mA0))))) (sSeq (sSet 4 ((mFlat (mArgs m_least (mA1 (mVar 3) (mA0)))))) (sSeq (sIf (tOrM (mT (m2 gNe (mVar 3) (mVar 1))) (tOrM (tNotM (mT (m1 (gIsi "tuple") (mVar 4)))) (mT (m2 gNe (mL gLen (mA1 (mVar 4) (mA0))) (mC (.int 2)))))) (sRet (mC (.bl false))) (sNil)) (sSeq (sSet 5 ((mFlat (m2 gIx (mVar 4) (mC (.int 0)))))) (sSeq (sIf (tOrM (tNotM (mT (mArgs m__law_numbers (mA1 (mVar 5) (mA1 (mVar 2) (mA0)))))) (tOrM (tNotM (mT (m1 (gIsi "list") (m2 gIx (mVar 4) (mC (.int 1)))))) (mT (m2 gNe (mL gLen (mA1 (m2 gIx (mVar 4) (mC (.int 1))) (mA0))) (mVar 2))))) (sRet (mC (.bl false))) (sNil)) (sSeq (sIf (tNotM (mT (mArgs m__law_honest (mA1 (mVar 1) (mA1 (mVar 5) (mA0)))))) (sRet (mC (.bl false))) (sNil)) (sSeq (sSet 6 (mArgs m__law_pays (mA1 (mVar 0) (mA1 (mVar 2) (mA0))))) (sSeq (sFor (tgN 7) (iR1 (mVar 2)) (sSeq (sIf (tOrM (mT (m2 gLt (m2 gIx (mVar 5) (mVar 7)) (mC (.int 0)))) (tNotM (mT (mArgs m__law_road_v2 (mA1 (mVar 1) (mA1 ((mFlat (m2 gIx (m2 gIx (mVar 4) (mC (.int 1))) (mVar 7)))) (mA1 (mVar 7) (mA1 (m2 gIx (mVar 5) (mVar 7)) (mA0))))))))) (sRet (mC (.bl false))) (sNil)) (sIf (tAndM (mT (mArgs m__law_honest (mA1 (mVar 1) (mA1 (mVar 6) (mA0))))) (mT (m2 gLt (m2 gSub (m2 gIx (mVar 6) (mVar 7)) (mL gMin (mA1 (mVar 6) (mA0)))) (m2 gIx (mVar 5) (mVar 7))))) (sRet (mC (.bl false))) (sNil)))) (sSeq (sSet 8 (m2 gMod (mArgs m__law_cell (mA1 (mVar 0) (mA1 (mC (.int 60)) (mA0)))) (mVar 2))) (sSeq (sSet 9 (mLc [12] (tgN 12) (iAny ((mFlat (m2 gIx (mVar 4) (mC (.int 1)))))) (tYesM) (mL gList (mA1 (mVar 12) (mA0))))) (sSeq (sMut 4 (pSnoc (pSnoc (pNil) (mC (.int 1))) (mVar 8)) nClr) (sSeq (sSet 10 (m2 gAdd (mSl ((mFlat (m2 gIx (mVar 4) (mC (.int 1))))) (oNo) (oYes (mVar 8))) (mSl ((mFlat (m2 gIx (mVar 4) (mC (.int 1))))) (oYes (m2 gAdd (mVar 8) (mC (.int 1)))) (oNo)))) (sRet (m2 gEq (mVar 10) (m2 gAdd (mSl (mVar 9) (oNo) (oYes (mVar 8))) (mSl (mVar 9) (oYes (m2 gAdd (mVar 8) (mC (.int 1)))) (oNo)))))))))))))))))))
def m_law_k15 : List D → Res D := callM 13 b_law_k15
def b_are_names : Rho → Out := sSeq (sIf (tOrM (tNotM (mT (m1 (gIsi "list") (mVar 0)))) (tNotM (mT (mChain gLe gLe (mC (.int 1)) (mL gLen (mA1 (mVar 0) (mA0))) (mVar 1))))) (sRet (mC (.bl false))) (sNil)) (sSeq (sFor (tgN 2) (iAny (mVar 0)) (sIf (tNotM (mT (mArgs m_is_name (mA1 (mVar 2) (mA0))))) (sRet (mC (.bl false))) (sNil))) (sRet (m2 gEq (m1 gLenSetT (mVar 0)) (mL gLen (mA1 (mVar 0) (mA0))))))
def m_are_names : List D → Res D := callM 3 b_are_names
def b_is_hand : Rho → Out := sSeq (sIf (tOrM (tNotM (mT (m1 (gIsi "tuple") (mVar 0)))) (mT (m2 gNe (mL gLen (mA1 (mVar 0) (mA0))) (mC (.int 3))))) (sRet (mC (.bl false))) (sNil)) (sSeq (sIf (tOrM (tNotM (mT (mArgs m_is_name (mA1 (m2 gIx (mVar 0) (mC (.int 0))) (mA0))))) (tNotM (mT (mArgs m_are_names (mA1 (m2 gIx (mVar 0) (mC (.int 1))) (mA1 (mC (.int 8)) (mA0))))))) (sRet (mC (.bl false))) (sNil)) (sRet (mArgs m_are_worths (mA1 (m2 gIx (mVar 0) (mC (.int 2))) (mA1 (mL gLen (mA1 (m2 gIx (mVar 0) (mC (.int 1))) (mA0))) (mA1 (mVar 1) (mA0)))))))
def m_is_hand : List D → Res D := callM 2 b_is_hand
def b_house_of : Rho → Out := sSeq (sIf (tNotM (mT (mArgs m_are_names (mA1 (mVar 0) (mA1 (mC (.int 8)) (mA0)))))) (sDead) (sNil)) (sSeq (sIf (tOrM (tNotM (mT (m1 (gIsi "list") (mVar 1)))) (tNotM (mT (mChain gLe gLe (mC (.int 1)) (mL gLen (mA1 (mVar 1) (mA0))) (mC (.int 4)))))) (sDead) (sNil)) (sSeq (sSet 2 (mC (.int 1))) (sSeq (sSet 3 (mL gLst (mA0))) (sSeq (sFor (tgN 4) (iAny (mVar 1)) (sSeq (sIf (tNotM (mT (mArgs m_is_hand (mA1 (mVar 4) (mA1 (mL gLen (mA1 (mVar 0) (mA0))) (mA0)))))) (sDead) (sNil)) (sSeq (sSet 2 (m2 gMul (mVar 2) (mL gLen (mA1 (m2 gIx (mVar 4) (mC (.int 1))) (mA0))))) (sApp 3 (pNil) (mL gTup (mA1 (m2 gIx (mVar 4) (mC (.int 0))) (mA1 (mL gTupF (mA1 (m2 gIx (mVar 4) (mC (.int 1))) (mA0))) (mA1 (mL gTuple (mA1 (mLc [5] (tgN 5) (iAny (m2 gIx (mVar 4) (mC (.int 2)))) (tYesM) (mL gTuple (mA1 (mVar 5) (mA0)))) (mA0))) (mA0))))))))) (sSeq (sIf (tOrM (mT (m2 gGt (mVar 2) (mC (.int 256)))) (mT (m2 gNe (m1 gLenSetT (mLc [4] (tgN 4) (iAny (mVar 3)) (tYesM) (m2 gIx (mVar 4) (mC (.int 0))))) (mL gLen (mA1 (mVar 3) (mA0)))))) (sDead) (sNil)) (sRet (mL gTup (mA1 (mL gTupF (mA1 (mVar 0) (mA0))) (mA1 (mL gTuple (mA1 (mVar 3) (mA0))) (mA0))))))))))
def m_house_of : List D → Res D := callM 6 b_house_of
def b_law_k51 : Rho → Out := sSeq (sSet 1 (m2 gAdd (mC (.int 1)) (m2 gMod (mArgs m__law_cell (mA1 (mVar 0) (mA1 (mC (.int 0)) (mA0)))) (mC (.int 4))))) (sSeq (sSet 2 (mArgs m__law_hands (mA1 (mVar 0) (mA1 (mVar 1) (mA1 (m2 gPow (mC (.int 10)) (mC (.int 57))) (mA0)))))) (sSeq (sSet 3 (mArgs m_house_of (mA1 (mArgs m__law_names (mA1 (mArgs m__law_cell (mA1 (mVar 0) (mA1 (mC (.int 2)) (mA0)))) (mA1 (mVar 1) (mA0)))) (mA1 (mL gList (mA1 (mVar 2) (mA0))) (mA0))))) (sSeq (sSet 4 (mArgs m__law_weights (mA1 (mVar 0) (mA1 (mL gLen (mA1 (mVar 2) (mA0))) (mA0))))) (sSeq (sSet 5 (mArgs m__law_handicaps (mA1 (mVar 0) (mA1 (mVar 1) (mA0))))) (sSeq (sFor (tgN 6) (iAny (mArgs m__law_rows (mA1 (mVar 2) (mA0)))) (sSeq (sSet 7 (mL gLst (mA1 (mL gList (mA1 (mVar 4) (mA0))) (mA1 (mL gList (mA1 (mVar 5) (mA0))) (mA0))))) (sSeq (sSet 8 (mArgs m_scores (mA1 (mVar 3) (mA1 (m2 gIx (mVar 7) (mC (.int 0))) (mA1 (m2 gIx (mVar 7) (mC (.int 1))) (mA1 (mVar 6) (mA0))))))) (sSeq (sIf (tOrM (tNotM (mT (m1 (gIsi "list") (mVar 8)))) (mT (m2 gNe (mVar 7) (mL gLst (mA1 (mVar 4) (mA1 (mVar 5) (mA0))))))) (sRet (mC (.bl false))) (sNil)) (sIf (mT (m2 gNe (mVar 8) (mArgs m__law_scores (mA1 (mVar 2) (mA1 (mVar 4) (mA1 (mVar 5) (mA1 (mVar 6) (mA0)))))))) (sRet (mC (.bl false))) (sNil)))))) (sRet (mC (.bl true))))))))
def m_law_k51 : List D → Res D := callM 9 b_law_k51
def b_law_k53 : Rho → Out := sSeq (sSet 1 (m2 gAdd (mC (.int 1)) (m2 gMod (mArgs m__law_cell (mA1 (mVar 0) (mA1 (mC (.int 0)) (mA0)))) (mC (.int 4))))) (sSeq (sSet 2 (mArgs m__law_hands (mA1 (mVar 0) (mA1 (mVar 1) (mA1 (m2 gPow (mC (.int 10)) (mC (.int 57))) (mA0)))))) (sSeq (sSet 3 (mArgs m__law_names (mA1 (mArgs m__law_cell (mA1 (mVar 0) (mA1 (mC (.int 2)) (mA0)))) (mA1 (mVar 1) (mA0))))) (sSeq (sSet 4 (mArgs m__law_weights (mA1 (mVar 0) (mA1 (mL gLen (mA1 (mVar 2) (mA0))) (mA0))))) (sSeq (sSet 5 (mArgs m__law_handicaps (mA1 (mVar 0) (mA1 (mVar 1) (mA0))))) (sSeq (sIf (mT (m2 gEq (m2 gMod (mArgs m__law_cell (mA1 (mVar 0) (mA1 (mC (.int 52)) (mA0)))) (mC (.int 5))) (mC (.int 1)))) (sSeq (sSet 5 (m2 gMul (mL gLst (mA1 (mC (.int 7)) (mA0))) (mVar 1))) (sSet 2 (mLc [12] (tgN 12) (iAny (mVar 2)) (tYesM) (mL gTup (mA1 (m2 gIx (mVar 12) (mC (.int 0))) (mA1 (m2 gIx (mVar 12) (mC (.int 1))) (mA1 (mLc [13] (tgN 13) (iAny (m2 gIx (mVar 12) (mC (.int 2)))) (tYesM) (m2 gMul (mL gLst (mA1 (mC (.int 3)) (mA0))) (mVar 1))) (mA0)))))))) (sNil)) (sSeq (sSet 6 (mArgs m_best_table (mA1 (mArgs m_house_of (mA1 (mL gList (mA1 (mVar 3) (mA0))) (mA1 (mL gList (mA1 (mVar 2) (mA0))) (mA0)))) (mA1 (mL gList (mA1 (mVar 4) (mA0))) (mA1 (mL gList (mA1 (mVar 5) (mA0))) (mA0)))))) (sSeq (sSet 7 (mArgs m__law_rows (mA1 (mVar 2) (mA0)))) (sSeq (sIf (tOrM (tNotM (mT (m1 (gIsi "dict") (mVar 6)))) (mT (m2 gNe (mL gLen (mA1 (mVar 6) (mA0))) (mL gLen (mA1 (mVar 7) (mA0)))))) (sRet (mC (.bl false))) (sNil)) (sSeq (sFor (tgN 8) (iAny (mVar 7)) (sSeq (sSet 9 (mArgs m__law_scores (mA1 (mVar 2) (mA1 (mVar 4) (mA1 (mVar 5) (mA1 (mVar 8) (mA0))))))) (sSeq (sSet 10 (mC (.int 0))) (sSeq (sFor (tgN 11) (iR1 (mVar 1)) (sIf (mT (m2 gGt (m2 gIx (mVar 9) (mVar 11)) (m2 gIx (mVar 9) (mVar 10)))) (sSet 10 (mVar 11)) (sNil))) (sIf (tOrM (mT (m2 gNin (mVar 8) (mVar 6))) (mT (m2 gNe (m2 gIx (mVar 6) (mVar 8)) (m2 gIx (mVar 3) (mVar 10))))) (sRet (mC (.bl false))) (sNil)))))) (sRet (mC (.bl true))))))))))))
def m_law_k53 : List D → Res D := callM 14 b_law_k53
def b_law_k54 : Rho → Out := sSeq (sSet 1 (m2 gAdd (mC (.int 1)) (m2 gMod (mArgs m__law_cell (mA1 (mVar 0) (mA1 (mC (.int 0)) (mA0)))) (mC (.int 4))))) (sSeq (sSet 2 (mArgs m__law_hands (mA1 (mVar 0) (mA1 (mVar 1) (mA1 (m2 gPow (mC (.int 10)) (mC (.int 57))) (mA0)))))) (sSeq (sSet 3 (mArgs m_house_of (mA1 (mArgs m__law_names (mA1 (mArgs m__law_cell (mA1 (mVar 0) (mA1 (mC (.int 2)) (mA0)))) (mA1 (mVar 1) (mA0)))) (mA1 (mL gList (mA1 (mVar 2) (mA0))) (mA0))))) (sSeq (sSet 4 (mArgs m__law_weights (mA1 (mVar 0) (mA1 (mL gLen (mA1 (mVar 2) (mA0))) (mA0))))) (sSeq (sSet 5 (mArgs m__law_handicaps (mA1 (mVar 0) (mA1 (mVar 1) (mA0))))) (sSeq (sFor (tgN 6) (iAny (mArgs m__law_rows (mA1 (mVar 2) (mA0)))) (sSeq (sSet 7 (mArgs m__law_scores (mA1 (mVar 2) (mA1 (mVar 4) (mA1 (mVar 5) (mA1 (mVar 6) (mA0))))))) (sSeq (sSet 8 (mArgs m_pivots (mA1 (mVar 3) (mA1 (mL gList (mA1 (mVar 4) (mA0))) (mA1 (mL gList (mA1 (mVar 5) (mA0))) (mA1 (mVar 6) (mA0))))))) (sSeq (sIf (tOrM (tNotM (mT (m1 (gIsi "list") (mVar 8)))) (mT (m2 gNe (mL gLen (mA1 (mVar 8) (mA0))) (mL gLen (mA1 (mVar 2) (mA0)))))) (sRet (mC (.bl false))) (sNil)) (sFor (tgN 9) (iR1 (mL gLen (mA1 (mVar 2) (mA0)))) (sSeq (sIf (tOrM (tNotM (mT (m1 (gIsi "int") (m2 gIx (mVar 8) (mVar 9))))) (tOrM (mT (m1 (gIsi "bool") (m2 gIx (mVar 8) (mVar 9)))) (mT (m2 gLt (m2 gIx (mVar 8) (mVar 9)) (mC (.int 0)))))) (sRet (mC (.bl false))) (sNil)) (sIf (mT (m2 gNe (m2 gIx (mVar 8) (mVar 9)) (mArgs m__law_pivot (mA1 (mVar 2) (mA1 (mVar 4) (mA1 (mVar 7) (mA1 (mVar 6) (mA1 (mVar 9) (mA0))))))))) (sRet (mC (.bl false))) (sNil)))))))) (sRet (mC (.bl true))))))))
def m_law_k54 : List D → Res D := callM 10 b_law_k54
def b_law_k55 : Rho → Out := sSeq (sSet 1 (m2 gAdd (mC (.int 1)) (m2 gMod (mArgs m__law_cell (mA1 (mVar 0) (mA1 (mC (.int 0)) (mA0)))) (mC (.int 4))))) (sSeq (sSet 2 (mArgs m__law_hands (mA1 (mVar 0) (mA1 (mVar 1) (mA1 (m2 gPow (mC (.int 10)) (mC (.int 57))) (mA0)))))) (sSeq (sIf (mT (m2 gEq (m2 gMod (mArgs m__law_cell (mA1 (mVar 0) (mA1 (mC (.int 53)) (mA0)))) (mC (.int 2))) (mC (.int 1)))) (sSet 2 (mLc [14] (tgN 14) (iAny (mVar 2)) (tYesM) (mL gTup (mA1 (m2 gIx (mVar 14) (mC (.int 0))) (mA1 (m2 gIx (mVar 14) (mC (.int 1))) (mA1 (mLc [15] (tgN 15) (iAny (m2 gIx (mVar 14) (mC (.int 2)))) (tYesM) (mLc [16] (tgN 16) (iAny (mVar 15)) (tYesM) (mL gAbs (mA1 (mVar 16) (mA0))))) (mA0))))))) (sNil)) (sSeq (sSet 3 (mArgs m__law_names (mA1 (mArgs m__law_cell (mA1 (mVar 0) (mA1 (mC (.int 2)) (mA0)))) (mA1 (mVar 1) (mA0))))) (sSeq (sSet 4 (mArgs m_house_of (mA1 (mL gList (mA1 (mVar 3) (mA0))) (mA1 (mL gList (mA1 (mVar 2) (mA0))) (mA0))))) (sSeq (sSet 5 (mArgs m__law_weights (mA1 (mVar 0) (mA1 (mL gLen (mA1 (mVar 2) (mA0))) (mA0))))) (sSeq (sSet 6 (mArgs m__law_handicaps (mA1 (mVar 0) (mA1 (mVar 1) (mA0))))) (sSeq (sSet 7 (mArgs m_best_table (mA1 (mVar 4) (mA1 (mVar 5) (mA1 (mVar 6) (mA0)))))) (sSeq (sFor (tgN 8) (iR1 (mL gLen (mA1 (mVar 2) (mA0)))) (sFor (tgN 9) (iAny (mArgs m__law_rows (mA1 (m2 gAdd (mSl (mVar 2) (oNo) (oYes (mVar 8))) (mSl (mVar 2) (oYes (m2 gAdd (mVar 8) (mC (.int 1)))) (oNo))) (mA0)))) (sSeq (sSet 10 (mArgs m__law_column (mA1 (mVar 2) (mA1 (mVar 3) (mA1 (mVar 7) (mA1 (mVar 8) (mA1 (mVar 9) (mA0)))))))) (sSeq (sSet 11 (mLc [17] (tgN 17) (iAny (m2 gIx (m2 gIx (mVar 2) (mVar 8)) (mC (.int 1)))) (tYesM) (m2 gAdd (m2 gAdd (mSl (mVar 9) (oNo) (oYes (mVar 8))) (mL gTup (mA1 (mVar 17) (mA0)))) (mSl (mVar 9) (oYes (mVar 8)) (oNo))))) (sSeq (sSet 12 (mLc [18] (tgN 18) (iAny (mVar 11)) (tYesM) (m2 gIx (mArgs m_pivots (mA1 (mVar 4) (mA1 (mVar 5) (mA1 (mVar 6) (mA1 (mVar 18) (mA0)))))) (mVar 8)))) (sSeq (sIf (tOrM (mT (m2 gLt (mL gMin (mA1 (mVar 12) (mA0))) (mC (.int 0)))) (tNotM (mT (mArgs m__law_honest_v2 (mA1 (mVar 10) (mA1 (m2 gIx (mVar 5) (mVar 8)) (mA1 (mVar 12) (mA0)))))))) (sRet (mC (.bl false))) (sNil)) (sSeq (sSet 13 (m2 gIx (mArgs m_greatest (mA1 (mArgs m_grid_of (mA1 (mVar 4) (mA1 (mVar 7) (mA1 (mVar 8) (mA1 (mVar 9) (mA0)))))) (mA0))) (mC (.int 0)))) (sIf (tAndM (mT (m2 gGe (mArgs m__law_low (mA1 (m2 gIx (mVar 2) (mVar 8)) (mA0))) (mC (.int 0)))) (tNotM (mT (mArgs m__law_bounded (mA1 (mVar 10) (mA1 (m2 gIx (mVar 5) (mVar 8)) (mA1 (mVar 12) (mA1 (mVar 13) (mA0))))))))) (sRet (mC (.bl false))) (sNil))))))))) (sRet (mC (.bl true)))))))))))
def m_law_k55 : List D → Res D := callM 19 b_law_k55
def b_law_k56 : Rho → Out := sSeq (sSet 1 (m2 gAdd (mC (.int 1)) (m2 gMod (mArgs m__law_cell (mA1 (mVar 0) (mA1 (mC (.int 0)) (mA0)))) (mC (.int 4))))) (sSeq (sSet 2 (mArgs m__law_hands (mA1 (mVar 0) (mA1 (mVar 1) (mA1 (m2 gPow (mC (.int 10)) (mC (.int 57))) (mA0)))))) (sSeq (sSet 3 (mArgs m__law_names (mA1 (mArgs m__law_cell (mA1 (mVar 0) (mA1 (mC (.int 2)) (mA0)))) (mA1 (mVar 1) (mA0))))) (sSeq (sSet 4 (mArgs m_house_of (mA1 (mL gList (mA1 (mVar 3) (mA0))) (mA1 (mL gList (mA1 (mVar 2) (mA0))) (mA0))))) (sSeq (sSet 5 (mArgs m_best_table (mA1 (mVar 4) (mA1 (mArgs m__law_weights (mA1 (mVar 0) (mA1 (mL gLen (mA1 (mVar 2) (mA0))) (mA0)))) (mA1 (mArgs m__law_handicaps (mA1 (mVar 0) (mA1 (mVar 1) (mA0)))) (mA0)))))) (sSeq (sSet 6 (mArgs m_verdict (mA1 (mVar 4) (mA1 (mVar 5) (mA0))))) (sSeq (sIf (tOrM (tNotM (mT (m1 (gIsi "tuple") (mVar 6)))) (tOrM (mT (m2 gNe (mL gLen (mA1 (mVar 6) (mA0))) (mC (.int 2)))) (mT (m2 gNe (m2 gIx (mVar 6) (mC (.int 0))) (mC (.str "pays")))))) (sRet (mC (.bl false))) (sNil)) (sSeq (sSet 7 (mL gLst (mA0))) (sSeq (sFor (tgN 8) (iR1 (mL gLen (mA1 (mVar 2) (mA0)))) (sFor (tgN 9) (iAny (mArgs m__law_rows (mA1 (m2 gAdd (mSl (mVar 2) (oNo) (oYes (mVar 8))) (mSl (mVar 2) (oYes (m2 gAdd (mVar 8) (mC (.int 1)))) (oNo))) (mA0)))) (sApp 7 (pNil) (mL gTup (mA1 (mVar 8) (mA1 (mVar 9) (mA0))))))) (sSeq (sIf (mT (m2 gNe (mLc [10] (tgN 10) (iAny (m2 gIx (mVar 6) (mC (.int 1)))) (tYesM) (mL gTup (mA1 (m2 gIx (mVar 10) (mC (.int 0))) (mA1 (m2 gIx (mVar 10) (mC (.int 1))) (mA0))))) (mVar 7))) (sRet (mC (.bl false))) (sNil)) (sSeq (sFor (tgN 10) (iAny (m2 gIx (mVar 6) (mC (.int 1)))) (sIf (tNotM (mT (mArgs m__law_fits_v2 (mA1 (mArgs m__law_column (mA1 (mVar 2) (mA1 (mVar 3) (mA1 (mVar 5) (mA1 (m2 gIx (mVar 10) (mC (.int 0))) (mA1 (m2 gIx (mVar 10) (mC (.int 1))) (mA0))))))) (mA1 (m2 gIx (mVar 10) (mC (.int 2))) (mA0)))))) (sRet (mC (.bl false))) (sNil))) (sRet (mC (.bl true)))))))))))))
def m_law_k56 : List D → Res D := callM 11 b_law_k56
def b__law_told_v2 : Rho → Out := sSeq (sIf (tOrM (tNotM (mT (m1 (gIsi "tuple") (mVar 1)))) (mT (m2 gNe (mL gLen (mA1 (mVar 1) (mA0))) (mC (.int 3))))) (sRet (mC (.bl false))) (sNil)) (sSeq (sIf (tOrM (tNotM (mT (m1 (gIsi "int") (m2 gIx (mVar 1) (mC (.int 0)))))) (mT (m1 (gIsi "bool") (m2 gIx (mVar 1) (mC (.int 0)))))) (sRet (mC (.bl false))) (sNil)) (sSeq (sIf (tOrM (tNotM (mT (mArgs m__law_words (mA1 (m2 gIx (mVar 1) (mC (.int 1))) (mA1 (mL gLen (mA1 (mVar 0) (mA0))) (mA0)))))) (tOrM (mT (m2 gNe (m2 gIx (m2 gIx (mVar 1) (mC (.int 1))) (mC (.int 0))) (mVar 2))) (mT (m2 gNe (m2 gIx (m2 gIx (mVar 1) (mC (.int 1))) (m1 gNeg (mC (.int 1)))) (mVar 3))))) (sRet (mC (.bl false))) (sNil)) (sSeq (sIf (mT (m2 gNe (mArgs m__law_along (mA1 (mVar 0) (mA1 (m2 gIx (mVar 1) (mC (.int 1))) (mA0)))) (m2 gIx (mVar 1) (mC (.int 0))))) (sRet (mC (.bl false))) (sNil)) (sSeq (sIf (tOrM (tNotM (mT (mArgs m__law_numbers (mA1 (m2 gIx (mVar 1) (mC (.int 2))) (mA1 (mL gLen (mA1 (mVar 0) (mA0))) (mA0)))))) (tNotM (mT (mArgs m__law_honest (mA1 (mVar 0) (mA1 (m2 gIx (mVar 1) (mC (.int 2))) (mA0))))))) (sRet (mC (.bl false))) (sNil)) (sRet (m2 gEq (m2 gSub (m2 gIx (m2 gIx (mVar 1) (mC (.int 2))) (mVar 3)) (m2 gIx (m2 gIx (mVar 1) (mC (.int 2))) (mVar 2))) (m2 gIx (mVar 1) (mC (.int 0)))))))))
def m__law_told_v2 : List D → Res D := callM 4 b__law_told_v2
def b_apart : Rho → Out := sSeq (sIf (mT (m1 (fun d => gNotN d .non) (mArgs m_ring (mA1 (mVar 0) (mA0))))) (sRaise "NoPays") (sNil)) (sSeq (sSet 3 (mL gLen (mA1 (mVar 0) (mA0)))) (sSeq (sSet 4 (mLc [6] (tgN 6) (iR1 (mVar 3)) (tYesM) (m2 gAdd (mL gLst (mA1 (mVar 1) (mA0))) (m2 gMul (mL gLst (mA1 (mVar 6) (mA0))) (mL gInt (mA1 (m2 gNe (mVar 6) (mVar 1)) (mA0))))))) (sSeq (sSet 5 (mArgs m_settled (mA1 (mVar 0) (mA1 (mLc [6] (tgN 6) (iR1 (mVar 3)) (tYesM) (mArgs m_turn (mA1 (mVar 0) (mA1 (mVar 1) (mA1 (mVar 6) (mA0)))))) (mA1 (mVar 4) (mA0)))))) (sRet (mL gTup (mA1 (m2 gIx (m2 gIx (mVar 5) (mC (.int 0))) (mVar 2)) (mA1 (m2 gIx (m2 gIx (mVar 5) (mC (.int 1))) (mVar 2)) (mA1 (m2 gIx (mVar 5) (mC (.int 0))) (mA0)))))))))
def m_apart : List D → Res D := callM 7 b_apart
def b_law_k23 : Rho → Out := sSeq (sSet 1 (mArgs m__law_grid (mA1 (mVar 0) (mA1 (mC (.int 7)) (mA0))))) (sSeq (sSet 2 (mL gLen (mA1 (mVar 1) (mA0)))) (sSeq (sSet 3 (m2 gMod (mArgs m__law_cell (mA1 (mVar 0) (mA1 (mC (.int 60)) (mA0)))) (mVar 2))) (sSeq (sSet 4 (m2 gMod (m2 gDiv (mArgs m__law_cell (mA1 (mVar 0) (mA1 (mC (.int 60)) (mA0)))) (mC (.int 7))) (mVar 2))) (sSeq (sSet 5 (mLc [9] (tgN 9) (iAny (mVar 1)) (tYesM) (mL gList (mA1 (mVar 9) (mA0))))) (sSeq (sSet 6 (mC .non)) (sSeq (sSet 7 (mC .non)) (sSeq (sTry [("NoPays", true)] (sSeq (sSet 6 (mArgs m_apart (mA1 (mVar 5) (mA1 (mVar 3) (mA1 (mVar 4) (mA0)))))) (sSet 7 (mArgs m_apart (mA1 (mVar 5) (mA1 (mVar 4) (mA1 (mVar 3) (mA0))))))) (fun _ => sSet 6 (mC .non))) (sSeq (sIf (mT (m2 gNe (mVar 5) (mVar 1))) (sRet (mC (.bl false))) (sNil)) (sSeq (sIf (mT (m1 (fun d => gNotN d .non) (mArgs m_ring (mA1 (mVar 1) (mA0))))) (sRet (m1 (fun d => gIsN d .non) (mVar 6))) (sNil)) (sSeq (sIf (tOrM (tNotM (mT (mArgs m__law_told_v2 (mA1 (mVar 1) (mA1 (mVar 6) (mA1 (mVar 3) (mA1 (mVar 4) (mA0)))))))) (tNotM (mT (mArgs m__law_told_v2 (mA1 (mVar 1) (mA1 (mVar 7) (mA1 (mVar 4) (mA1 (mVar 3) (mA0))))))))) (sRet (mC (.bl false))) (sNil)) (sSeq (sFor (tgN 8) (iAny (mL gLst (mA1 (mArgs m__law_pays (mA1 (mVar 0) (mA1 (mVar 2) (mA0)))) (mA1 (m2 gIx (mArgs m_greatest (mA1 (mVar 1) (mA0))) (mC (.int 0))) (mA1 (m2 gIx (mArgs m_least (mA1 (mVar 1) (mA0))) (mC (.int 0))) (mA0)))))) (sIf (mT (mArgs m__law_honest (mA1 (mVar 1) (mA1 (mVar 8) (mA0))))) (sIf (tOrM (mT (m2 gGt (m2 gSub (m2 gIx (mVar 8) (mVar 4)) (m2 gIx (mVar 8) (mVar 3))) (m2 gIx (mVar 6) (mC (.int 0))))) (mT (m2 gGt (m2 gSub (m2 gIx (mVar 8) (mVar 3)) (m2 gIx (mVar 8) (mVar 4))) (m2 gIx (mVar 7) (mC (.int 0)))))) (sRet (mC (.bl false))) (sNil)) (sNil))) (sRet (mC (.bl true))))))))))))))
def m_law_k23 : List D → Res D := callM 10 b_law_k23
def b__law_rooms : Rho → Out := sSeq (sSet 5 (mArgs m_room (mA1 (mVar 0) (mA0)))) (sSeq (sIf (mT (m2 gLt (mL gMin (mA1 (mVar 1) (mA0))) (mC (.int 0)))) (sIf (tOrM (mT (m2 gNe (m2 gIx (mVar 5) (mC (.int 0))) (mC (.str "short")))) (mT (mArgs m_within (mA1 (mVar 0) (mA1 (mVar 1) (mA0)))))) (sRet (mC (.bl false))) (sNil)) (sIf (tOrM (mT (m2 gNe (mVar 5) (mL gTup (mA1 (mC (.str "room")) (mA1 (mVar 2) (mA1 (mVar 1) (mA0))))))) (tNotM (mT (mArgs m_within (mA1 (mVar 0) (mA1 (mVar 1) (mA0))))))) (sRet (mC (.bl false))) (sNil))) (sSeq (sSet 6 (mArgs m_apart (mA1 (mVar 0) (mA1 (mVar 3) (mA1 (mVar 4) (mA0)))))) (sSeq (sIf (tOrM (mT (m1 (fun d => gNotN d .non) (mArgs m_first_gain (mA1 (mVar 0) (mA1 (m2 gIx (mVar 6) (mC (.int 2))) (mA0)))))) (mT (m2 gNe (m2 gSub (m2 gIx (m2 gIx (mVar 6) (mC (.int 2))) (mVar 4)) (m2 gIx (m2 gIx (mVar 6) (mC (.int 2))) (mVar 3))) (m2 gIx (mVar 6) (mC (.int 0)))))) (sRet (mC (.bl false))) (sNil)) (sRet (mAnd (m2 gLe (m2 gSub (m2 gIx (mVar 1) (mVar 4)) (m2 gIx (mVar 1) (mVar 3))) (m2 gIx (mVar 6) (mC (.int 0)))) (m2 gLe (m2 gSub (m2 gIx (mVar 2) (mVar 4)) (m2 gIx (mVar 2) (mVar 3))) (m2 gIx (mVar 6) (mC (.int 0)))))))))
def m__law_rooms : List D → Res D := callM 7 b__law_rooms
def b_law_k58 : Rho → Out := sSeq (sSet 1 (m2 gAdd (mC (.int 1)) (m2 gMod (mArgs m__law_cell (mA1 (mVar 0) (mA1 (mC (.int 0)) (mA0)))) (mC (.int 4))))) (sSeq (sSet 2 (m2 gAdd (mC (.int 1)) (m2 gMod (m2 gDiv (mArgs m__law_cell (mA1 (mVar 0) (mA1 (mC (.int 0)) (mA0)))) (mC (.int 4))) (mC (.int 3))))) (sSeq (sSet 3 (mArgs m__law_lists (mA1 (mVar 0) (mA1 (mVar 1) (mA1 (mVar 2) (mA0)))))) (sSeq (sSet 4 (mLc [12] (tgN 12) (iR1 (mVar 2)) (tYesM) (mArgs m__law_priced_v2 (mA1 (mVar 0) (mA1 (m2 gIx (mVar 3) (mVar 12)) (mA1 (m2 gAdd (mC (.int 3)) (m2 gMul (mC (.int 15)) (mVar 12))) (mA0))))))) (sSeq (sSet 5 (mArgs m__law_shares (mA1 (mVar 0) (mA1 (mVar 2) (mA0))))) (sSeq (sSet 6 (mArgs m_summed_grids (mA1 (mVar 4) (mA1 (mVar 5) (mA0))))) (sSeq (sIf (tOrM (mT (m1 (fun d => gNotN d .non) (mArgs m_first_gain (mA1 (mVar 6) (mA1 (mArgs m_summed_pays (mA1 (mVar 3) (mA1 (mVar 5) (mA0)))) (mA0)))))) (mT (m1 (fun d => gNotN d .non) (mArgs m_ring (mA1 (mVar 6) (mA0)))))) (sRet (mC (.bl false))) (sNil)) (sSeq (sSet 7 (mArgs m_summed_pays (mA1 (mLc [13] (tgN 13) (iAny (mVar 4)) (tYesM) (m2 gIx (mArgs m_greatest (mA1 (mVar 13) (mA0))) (mC (.int 0)))) (mA1 (mVar 5) (mA0))))) (sSeq (sSet 8 (mArgs m_summed_pays (mA1 (mLc [13] (tgN 13) (iAny (mVar 4)) (tYesM) (m2 gIx (mArgs m_least (mA1 (mVar 13) (mA0))) (mC (.int 0)))) (mA1 (mVar 5) (mA0))))) (sSeq (sSet 9 (mL gLst (mA1 (m2 gIx (mArgs m_greatest (mA1 (mVar 6) (mA0))) (mC (.int 0))) (mA1 (m2 gIx (mArgs m_least (mA1 (mVar 6) (mA0))) (mC (.int 0))) (mA0))))) (sSeq (sFor (tgN 10) (iR1 (mVar 1)) (sIf (tOrM (mT (m2 gLt (m2 gIx (m2 gIx (mVar 9) (mC (.int 0))) (mVar 10)) (m2 gIx (mVar 7) (mVar 10)))) (mT (m2 gGt (m2 gIx (m2 gIx (mVar 9) (mC (.int 1))) (mVar 10)) (m2 gIx (mVar 8) (mVar 10))))) (sRet (mC (.bl false))) (sNil))) (sSeq (sIf (tOrM (mT (m1 (fun d => gNotN d .non) (mArgs m_first_gain (mA1 (mVar 6) (mA1 (mVar 7) (mA0)))))) (mT (m1 (fun d => gNotN d .non) (mArgs m_first_gain (mA1 (mVar 6) (mA1 (mVar 8) (mA0))))))) (sRet (mC (.bl false))) (sNil)) (sSeq (sSet 11 (mArgs m__law_cell (mA1 (mVar 0) (mA1 (mC (.int 1)) (mA0))))) (sRet (mArgs m__law_rooms (mA1 (mVar 6) (mA1 (m2 gIx (mVar 9) (mC (.int 0))) (mA1 (m2 gIx (mVar 9) (mC (.int 1))) (mA1 (m2 gMod (mVar 11) (mVar 1)) (mA1 (m2 gMod (m2 gDiv (mVar 11) (mC (.int 4))) (mVar 1)) (mA0))))))))))))))))))))
def m_law_k58 : List D → Res D := callM 14 b_law_k58
def b__law_text : Rho → Out := sSeq (sSet 1 (m2 gMod (mVar 0) (mC (.int 11)))) (sSeq (sSet 2 (m2 gDiv (mVar 0) (mC (.int 11)))) (sSeq (sSet 3 (mL gLst (mA0))) (sSeq (sFor (tgN 4) (iR1 (mVar 1)) (sSeq (sApp 3 (pNil) (m2 gIx (mC (.str "abcdefghijklmnopqrstuvwxyz")) (m2 gMod (mVar 2) (mC (.int 26))))) (sSet 2 (m2 gDiv (mVar 2) (mC (.int 26)))))) (sSeq (sIf (tAndM (mT (m2 gGt (mVar 1) (mC (.int 0)))) (mT (m2 gEq (m2 gMod (m2 gDiv (mVar 0) (mC (.int 11))) (mC (.int 3))) (mC (.int 1))))) (sSeq (sSet 5 (mC (.str " !\"#$&'()*+,-./0123456789:;<=>?@ABCDEFGHIJKLMNOPQRSTUVWXYZ[\\]^_`{|}~\n\t"))) (sPut 3 (pNil) (m2 gMod (m2 gDiv (mVar 0) (mC (.int 33))) (mVar 1)) (m2 gIx (mVar 5) (m2 gMod (m2 gDiv (mVar 0) (mC (.int 363))) (mL gLen (mA1 (mVar 5) (mA0))))))) (sNil)) (sRet (mMeth gJoin (mC (.str "")) (mVar 3)))))))
def m__law_text : List D → Res D := callM 6 b__law_text
def b__law_thing : Rho → Out := sSeq (sSet 1 (mArgs m__law_text (mA1 (m2 gDiv (mVar 0) (mC (.int 6))) (mA0)))) (sSeq (sIf (mT (m2 gEq (m2 gMod (mVar 0) (mC (.int 6))) (mC (.int 5)))) (sRet (m2 gIx (mL gLst (mA1 (mC .non) (mA1 (mC (.bl true)) (mA1 (mC (.bl false)) (mA1 (m2 gMod (m2 gDiv (mVar 0) (mC (.int 60))) (mC (.int 100))) (mA1 (mL gLst (mA0)) (mA1 (mL gTup (mA0)) (mA1 (mC (.dK [] [])) (mA1 (mL gLst (mA1 (mVar 1) (mA0))) (mA1 (mL gTup (mA1 (mVar 1) (mA0))) (mA1 (mD1 (mVar 1) (mFlat (mVar 1))) (mA0)))))))))))) (m2 gMod (m2 gDiv (mVar 0) (mC (.int 6))) (mC (.int 10))))) (sNil)) (sRet (mVar 1)))
def m__law_thing : List D → Res D := callM 2 b__law_thing
def b__law_good : Rho → Out := sSeq (sIf (tNotM (mT (m1 (gIsi "str") (mVar 0)))) (sRet (mC (.bl false))) (sNil)) (sSeq (sFor (tgN 1) (iAny (mVar 0)) (sIf (mT (m2 gNin (mVar 1) (mC (.str "abcdefghijklmnopqrstuvwxyz")))) (sRet (mC (.bl false))) (sNil))) (sRet (mAnd (m2 gGe (mL gLen (mA1 (mVar 0) (mA0))) (mC (.int 1))) (m2 gLe (mL gLen (mA1 (mVar 0) (mA0))) (mC (.int 8))))))
def m__law_good : List D → Res D := callM 2 b__law_good
def b_law_k31 : Rho → Out := sSeq (sFor (tgN 1) (iAny (mSl (mVar 0) (oNo) (oYes (mC (.int 63))))) (sSeq (sSet 2 (mArgs m__law_thing (mA1 (m2 gMod (mVar 1) (m2 gPow (mC (.int 10)) (mC (.int 18)))) (mA0)))) (sSeq (sSet 3 (mArgs m_is_name (mA1 (mVar 2) (mA0)))) (sIf (tOrM (tNotM (mT (m1 (gIsi "bool") (mVar 3)))) (mT (m2 gNe (mVar 3) (mArgs m__law_good (mA1 (mVar 2) (mA0)))))) (sRet (mC (.bl false))) (sNil))))) (sRet (mC (.bl true)))
def m_law_k31 : List D → Res D := callM 4 b_law_k31
def b_law_k57 : Rho → Out := sSeq (sSet 1 (m2 gAdd (mC (.int 1)) (m2 gMod (mArgs m__law_cell (mA1 (mVar 0) (mA1 (mC (.int 0)) (mA0)))) (mC (.int 4))))) (sSeq (sSet 2 (m2 gAdd (mC (.int 1)) (m2 gMod (m2 gDiv (mArgs m__law_cell (mA1 (mVar 0) (mA1 (mC (.int 0)) (mA0)))) (mC (.int 4))) (mC (.int 3))))) (sSeq (sSet 3 (mArgs m__law_lists (mA1 (mVar 0) (mA1 (mVar 1) (mA1 (mVar 2) (mA0)))))) (sSeq (sSet 4 (mLc [11] (tgN 11) (iR1 (mVar 2)) (tYesM) (mArgs m__law_priced_v2 (mA1 (mVar 0) (mA1 (m2 gIx (mVar 3) (mVar 11)) (mA1 (m2 gAdd (mC (.int 3)) (m2 gMul (mC (.int 15)) (mVar 11))) (mA0))))))) (sSeq (sSet 5 (mArgs m__law_shares (mA1 (mVar 0) (mA1 (mVar 2) (mA0))))) (sSeq (sSet 6 (mLc [12] (tgN 12) (iAny (mVar 4)) (tYesM) (mLc [13] (tgN 13) (iAny (mVar 12)) (tYesM) (mL gList (mA1 (mVar 13) (mA0)))))) (sSeq (sSet 7 (mArgs m_summed_pays (mA1 (mLc [14] (tgN 14) (iAny (mVar 3)) (tYesM) (mL gList (mA1 (mVar 14) (mA0)))) (mA1 (mL gList (mA1 (mVar 5) (mA0))) (mA0))))) (sSeq (sSet 8 (mShal 2 (mArgs m_summed_grids (mA1 (mVar 6) (mA1 (mL gList (mA1 (mVar 5) (mA0))) (mA0)))))) (sSeq (sIf (tOrM (mT (m2 gNe (mVar 6) (mVar 4))) (tOrM (tNotM (mT (m1 (gIsi "list") (mVar 7)))) (tOrM (tNotM (mT (m1 (gIsi "list") (mVar 8)))) (mT (m2 gNe (mL gLen (mA1 (mVar 8) (mA0))) (mVar 1)))))) (sRet (mC (.bl false))) (sNil)) (sSeq (sPut 6 (pSnoc (pSnoc (pNil) (mC (.int 0))) (mC (.int 0))) (mC (.int 0)) (m2 gAdd (m2 gIx (m2 gIx (m2 gIx (mVar 6) (mC (.int 0))) (mC (.int 0))) (mC (.int 0))) (mC (.int 1)))) (sSeq (sIf (mT (m2 gNe (mVar 7) (mLc [9] (tgN 9) (iR1 (mVar 1)) (tYesM) (mL gSum (mA1 (mLc [11] (tgN 11) (iR1 (mVar 2)) (tYesM) (m2 gMul (m2 gIx (mVar 5) (mVar 11)) (m2 gIx (m2 gIx (mVar 3) (mVar 11)) (mVar 9)))) (mA0)))))) (sRet (mC (.bl false))) (sNil)) (sSeq (sFor (tgN 9) (iR1 (mVar 1)) (sSeq (sSet 10 (mLc [15] (tgN 15) (iR1 (mVar 1)) (tYesM) (mL gSum (mA1 (mLc [11] (tgN 11) (iR1 (mVar 2)) (tYesM) (m2 gMul (m2 gIx (mVar 5) (mVar 11)) (m2 gIx (m2 gIx (m2 gIx (mVar 4) (mVar 11)) (mVar 9)) (mVar 15)))) (mA0))))) (sSeq (sIf (tOrM (tNotM (mT (m1 (gIsi "list") (m2 gIx (mVar 8) (mVar 9))))) (mT (m2 gNe (m2 gIx (mVar 8) (mVar 9)) (mVar 10)))) (sRet (mC (.bl false))) (sNil)) (sMut 8 (pSnoc (pNil) (mVar 9)) nClr)))) (sRet (mC (.bl true))))))))))))))
def m_law_k57 : List D → Res D := callM 16 b_law_k57
def b__law_cell_at : Rho → Out := sSeq (sIf (mT (m2 gLt (mVar 1) (mL gLen (mA1 (mVar 0) (mA0))))) (sRet (m2 gIx (mVar 0) (mVar 1))) (sNil)) (sRet (mC (.int 0)))
def m__law_cell_at : List D → Res D := callM 2 b__law_cell_at
def b__law_pool : Rho → Out := sSeq (sSet 2 (mC (.str "abcdefghijklmnopqrstuvwxyz"))) (sSeq (sSet 3 (m2 gMod (m2 gAdd (m2 gMul (m2 gMod (mVar 0) (mC (.int 2147483647))) (mC (.int 48271))) (mC (.int 11))) (mC (.int 2147483647)))) (sSeq (sSet 4 (m2 gIx (mVar 2) (m2 gMod (mVar 3) (mC (.int 26))))) (sSeq (sIf (mT (m2 gEq (m2 gMod (m2 gDiv (mVar 3) (mC (.int 26))) (mC (.int 3))) (mC (.int 1)))) (sRet (mLc [11] (tgN 11) (iR1 (mVar 1)) (tYesM) (m2 gMul (mVar 4) (m2 gAdd (mVar 11) (mC (.int 1)))))) (sNil)) (sSeq (sSet 5 (m2 gMod (m2 gDiv (mVar 3) (mC (.int 78))) (mC (.int 26)))) (sSeq (sSet 6 (m2 gIx (mL gLst (mA1 (mC (.int 1)) (mA1 (mC (.int 3)) (mA1 (mC (.int 5)) (mA1 (mC (.int 7)) (mA1 (mC (.int 9)) (mA1 (mC (.int 11)) (mA1 (mC (.int 15)) (mA1 (mC (.int 17)) (mA1 (mC (.int 19)) (mA1 (mC (.int 21)) (mA1 (mC (.int 23)) (mA1 (mC (.int 25)) (mA0)))))))))))))) (m2 gMod (m2 gDiv (mVar 3) (mC (.int 2028))) (mC (.int 12))))) (sSeq (sSet 7 (m2 gAdd (mC (.int 1)) (m2 gMod (m2 gDiv (mVar 3) (mC (.int 24336))) (mC (.int 8))))) (sSeq (sSet 8 (m2 gMod (m2 gDiv (mVar 3) (mC (.int 194688))) (mVar 7))) (sSeq (sSet 9 (m2 gMul (mVar 4) (mVar 8))) (sSeq (sSet 10 (m2 gMul (mVar 4) (m2 gSub (m2 gSub (mVar 7) (mC (.int 1))) (mVar 8)))) (sRet (mLc [11] (tgN 11) (iR1 (mVar 1)) (tYesM) (m2 gAdd (m2 gAdd (mVar 9) (m2 gIx (mVar 2) (m2 gMod (m2 gAdd (mVar 5) (m2 gMul (mVar 6) (mVar 11))) (mC (.int 26))))) (mVar 10)))))))))))))
def m__law_pool : List D → Res D := callM 12 b__law_pool
def b__law_drawn : Rho → Out := sSeq (sSet 2 (mL gMax (mA1 (mC (.int 1)) (mA1 (m2 gSub (mL gMin (mA1 (mL gLen (mA1 (mVar 0) (mA0))) (mA1 (mC (.int 63)) (mA0)))) (mC (.int 5))) (mA0))))) (sSeq (sSet 3 (mArgs m__law_cell_at (mA1 (mVar 0) (mA1 (m2 gAdd (mC (.int 5)) (m2 gMod (mVar 1) (mVar 2))) (mA0))))) (sSeq (sIf (mT (m2 gLt (mVar 1) (mVar 2))) (sRet (mVar 3)) (sNil)) (sSeq (sSet 4 (m2 gMod (m2 gAdd (m2 gAdd (m2 gMul (m2 gMod (mVar 3) (mC (.int 2147483647))) (mC (.int 48271))) (m2 gMul (m2 gDiv (mVar 1) (mVar 2)) (mC (.int 7919)))) (mVar 1)) (mC (.int 2147483647)))) (sRet (m2 gMod (m2 gMul (mVar 4) (mVar 4)) (mC (.int 2147483629)))))))
def m__law_drawn : List D → Res D := callM 5 b__law_drawn
def b__law_worth : Rho → Out := sSeq (sIf (mT (m2 gEq (m2 gMod (mVar 0) (mC (.int 5))) (mC (.int 2)))) (sRet (m2 gSub (m2 gMod (m2 gDiv (mVar 0) (mC (.int 5))) (m2 gPow (mC (.int 10)) (mC (.int 18)))) (m2 gMul (mC (.int 5)) (m2 gPow (mC (.int 10)) (mC (.int 17)))))) (sNil)) (sSeq (sIf (mT (m2 gEq (m2 gMod (mVar 0) (mC (.int 5))) (mC (.int 3)))) (sRet (m2 gAdd (m2 gSub (m2 gMod (m2 gDiv (mVar 0) (mC (.int 5))) (m2 gSub (m2 gMul (mC (.int 2)) (m2 gPow (mC (.int 10)) (mC (.int 60)))) (mC (.int 1)))) (m2 gPow (mC (.int 10)) (mC (.int 60)))) (mC (.int 1)))) (sNil)) (sSeq (sIf (mT (m2 gEq (m2 gMod (mVar 0) (mC (.int 5))) (mC (.int 4)))) (sRet (mC (.int 0))) (sNil)) (sRet (m2 gSub (m2 gMod (m2 gDiv (mVar 0) (mC (.int 5))) (mC (.int 19))) (mC (.int 9))))))
def m__law_worth : List D → Res D := callM 1 b__law_worth
def b__law_parts : Rho → Out := sSeq (sSet 2 (mArgs m__law_cell_at (mA1 (mVar 0) (mA1 (mC (.int 0)) (mA0))))) (sSeq (sSet 3 (mArgs m__law_cell_at (mA1 (mVar 0) (mA1 (mC (.int 1)) (mA0))))) (sSeq (sSet 4 (mArgs m__law_pool (mA1 (mVar 2) (mA1 (m2 gAdd (mC (.int 1)) (m2 gMod (mVar 3) (mC (.int 8)))) (mA0))))) (sSeq (sSet 5 (mL gLst (mA0))) (sSeq (sSet 6 (mC (.int 0))) (sSeq (sFor (tgN 7) (iR1 (m2 gAdd (mC (.int 1)) (m2 gMod (m2 gDiv (mVar 3) (mC (.int 8))) (mC (.int 4))))) (sSeq (sSet 8 (m2 gAdd (mC (.int 1)) (m2 gMod (m2 gDiv (mArgs m__law_cell_at (mA1 (mVar 0) (mA1 (mC (.int 2)) (mA0)))) (m2 gIx (mL gLst (mA1 (mC (.int 1)) (mA1 (mC (.int 9)) (mA1 (mC (.int 83)) (mA1 (mC (.int 761)) (mA0)))))) (mVar 7))) (m2 gIx (mVar 1) (m2 gMod (m2 gDiv (mVar 3) (mC (.int 8))) (mC (.int 4))))))) (sSeq (sSet 9 (mArgs m__law_pool (mA1 (m2 gIx (mL gLst (mA1 (mVar 2) (mA1 (m2 gAdd (m2 gDiv (mVar 2) (mC (.int 5))) (mVar 7)) (mA1 (m2 gAdd (mArgs m__law_cell_at (mA1 (mVar 0) (mA1 (mC (.int 3)) (mA0)))) (m2 gMul (mC (.int 31)) (mVar 7))) (mA0))))) (m2 gMod (m2 gDiv (mVar 3) (mC (.int 32))) (mC (.int 3)))) (mA1 (mVar 8) (mA0))))) (sSeq (sSet 10 (mL gLst (mA0))) (sSeq (sFor (tgN 11) (iAny (mVar 9)) (sSeq (sApp 10 (pNil) (mLc [12] (tgN 12) (iR1 (mL gLen (mA1 (mVar 4) (mA0)))) (tYesM) (mArgs m__law_worth (mA1 (mArgs m__law_drawn (mA1 (mVar 0) (mA1 (m2 gAdd (mVar 6) (mVar 12)) (mA0)))) (mA0))))) (sSet 6 (m2 gAdd (mVar 6) (mL gLen (mA1 (mVar 4) (mA0))))))) (sApp 5 (pNil) (mL gTup (mA1 (m2 gIx (mArgs m__law_pool (mA1 (m2 gIx (mL gLst (mA1 (mVar 2) (mA1 (m2 gAdd (m2 gDiv (mVar 2) (mC (.int 7))) (mC (.int 2))) (mA0)))) (m2 gMod (m2 gDiv (mVar 3) (mC (.int 96))) (mC (.int 2)))) (mA1 (mC (.int 4)) (mA0)))) (mVar 7)) (mA1 (mVar 9) (mA1 (mVar 10) (mA0))))))))))) (sRet (mL gTup (mA1 (mVar 4) (mA1 (mVar 5) (mA0))))))))))
def m__law_parts : List D → Res D := callM 13 b__law_parts
def b__law_rows_v2 : Rho → Out := sSeq (sSet 1 (mL gLst (mA1 (mL gTup (mA0)) (mA0)))) (sSeq (sFor (tgN 2) (iAny (mVar 0)) (sSeq (sSet 3 (mL gLst (mA0))) (sSeq (sFor (tgN 4) (iAny (mVar 1)) (sSet 3 (m2 gAdd (mVar 3) (mLc [5] (tgN 5) (iAny (m2 gIx (mVar 2) (mC (.int 1)))) (tYesM) (m2 gAdd (mVar 4) (mL gTup (mA1 (mVar 5) (mA0)))))))) (sSet 1 (mVar 3))))) (sRet (mVar 1)))
def m__law_rows_v2 : List D → Res D := callM 6 b__law_rows_v2
def b__law_score : Rho → Out := sSeq (sSet 4 (mC (.int 0))) (sSeq (sFor (tgN 5) (iR1 (mL gLen (mA1 (mVar 0) (mA0)))) (sSeq (sSet 6 (mMeth gIndex (m2 gIx (m2 gIx (mVar 0) (mVar 5)) (mC (.int 1))) (m2 gIx (mVar 1) (mVar 5)))) (sSet 4 (m2 gAdd (mVar 4) (m2 gMul (m2 gIx (mVar 2) (mVar 5)) (m2 gIx (m2 gIx (m2 gIx (m2 gIx (mVar 0) (mVar 5)) (mC (.int 2))) (mVar 6)) (mVar 3))))))) (sRet (mVar 4)))
def m__law_score : List D → Res D := callM 7 b__law_score
def b__law_places : Rho → Out := sSeq (sSet 3 (m2 gMod (mArgs m__law_cell_at (mA1 (mVar 0) (mA1 (mC (.int 4)) (mA0)))) (mC (.int 5)))) (sSeq (sSet 4 (mLc [12] (tgN 12) (iR1 (mL gLen (mA1 (mVar 2) (mA0)))) (tYesM) (m2 gAdd (mC (.int 1)) (m2 gMod (mArgs m__law_drawn (mA1 (mVar 0) (mA1 (m2 gAdd (mC (.int 400)) (mVar 12)) (mA0)))) (mC (.int 9)))))) (sSeq (sIf (mT (m2 gEq (mVar 3) (mC (.int 4)))) (sSet 4 (mLc [12] (tgN 12) (iR1 (mL gLen (mA1 (mVar 2) (mA0)))) (tYesM) (mL gInt (mA1 (m2 gEq (mVar 12) (mC (.int 0))) (mA0))))) (sNil)) (sSeq (sSet 5 (mLc [10] (tgN 10) (iR1 (mL gLen (mA1 (mVar 1) (mA0)))) (tYesM) (m2 gMod (mArgs m__law_drawn (mA1 (mVar 0) (mA1 (m2 gAdd (mC (.int 500)) (mVar 10)) (mA0)))) (mC (.int 7))))) (sSeq (sSet 6 (mC (.dT [] []))) (sSeq (sFor (tgN 7) (iAny (mArgs m__law_rows_v2 (mA1 (mVar 2) (mA0)))) (sSeq (sSet 8 (m2 gMod (mArgs m__law_drawn (mA1 (mVar 0) (mA1 (m2 gAdd (mC (.int 300)) (mL gLen (mA1 (mVar 6) (mA0)))) (mA0)))) (mL gLen (mA1 (mVar 1) (mA0))))) (sSeq (sIf (mT (m2 gGt (mVar 3) (mC (.int 0)))) (sSeq (sSet 9 (mL gLst (mA0))) (sSeq (sFor (tgN 10) (iR1 (mL gLen (mA1 (mVar 1) (mA0)))) (sApp 9 (pNil) (m2 gAdd (mArgs m__law_score (mA1 (mVar 2) (mA1 (mVar 7) (mA1 (mVar 4) (mA1 (mVar 10) (mA0)))))) (m2 gIx (mVar 5) (mVar 10))))) (sSet 8 (mMeth gIndex (mVar 9) (mL gMax (mA1 (mVar 9) (mA0))))))) (sNil)) (sPutD 6 (pNil) (mVar 7) (mVar 8))))) (sSeq (sIf (mT (m2 gEq (mVar 3) (mC (.int 3)))) (sSeq (sSet 11 (m2 gMod (m2 gDiv (mArgs m__law_cell_at (mA1 (mVar 0) (mA1 (mC (.int 4)) (mA0)))) (mC (.int 5))) (m2 gPow (mC (.int 10)) (mC (.int 18))))) (sSeq (sSet 7 (m2 gIx (mL gListDT (mA1 (mVar 6) (mA0))) (m2 gMod (mVar 11) (mL gLen (mA1 (mVar 6) (mA0)))))) (sPutD 6 (pNil) (mVar 7) (m2 gMod (m2 gDiv (mVar 11) (mC (.int 257))) (mL gLen (mA1 (mVar 1) (mA0))))))) (sNil)) (sRet (mVar 6))))))))
def m__law_places : List D → Res D := callM 13 b__law_places
def b__law_table : Rho → Out := sSeq (sSet 2 (mC (.dT [] []))) (sSeq (sFor (tgN 3) (iAny (m1 gRevL (mL gListDT (mA1 (mVar 1) (mA0))))) (sPutD 2 (pNil) (mVar 3) (m2 gIx (mVar 0) (m2 gIx (mVar 1) (mVar 3))))) (sRet (mVar 2)))
def m__law_table : List D → Res D := callM 4 b__law_table
def b__law_small : Rho → Out := sSeq (sIf (mT (m2 gEq (m2 gMod (mVar 0) (mC (.int 3))) (mC (.int 0)))) (sRet (m2 gSub (m2 gMod (m2 gDiv (mVar 0) (mC (.int 3))) (mC (.int 7))) (mC (.int 3)))) (sNil)) (sRet (m2 gSub (m2 gMod (m2 gDiv (mVar 0) (mC (.int 3))) (m2 gPow (mC (.int 10)) (mC (.int 18)))) (m2 gMul (mC (.int 5)) (m2 gPow (mC (.int 10)) (mC (.int 17))))))
def m__law_small : List D → Res D := callM 1 b__law_small
def b__law_lines : Rho → Out := sSeq (sSet 3 (mL gLst (mA0))) (sSeq (sFor (tgN 4) (iR1 (mL gLen (mA1 (mVar 1) (mA0)))) (sSeq (sSet 5 (mLc [8] (tgN 8) (iR1 (mL gLen (mA1 (m2 gIx (m2 gIx (mVar 1) (mVar 4)) (mC (.int 1))) (mA0)))) (tYesM) (mArgs m__law_small (mA1 (mArgs m__law_drawn (mA1 (mVar 0) (mA1 (m2 gAdd (m2 gMul (mC (.int 40)) (mVar 4)) (mVar 8)) (mA0)))) (mA0))))) (sSeq (sSet 6 (mLc [9] (tgN 9) (iR1 (mVar 2)) (tYesM) (mArgs m__law_small (mA1 (mArgs m__law_drawn (mA1 (mVar 0) (mA1 (m2 gAdd (m2 gAdd (m2 gMul (mC (.int 40)) (mVar 4)) (mC (.int 10))) (mVar 9)) (mA0)))) (mA0))))) (sSeq (sSet 7 (mLc [9] (tgN 9) (iR1 (mVar 2)) (tYesM) (m2 gMod (mArgs m__law_drawn (mA1 (mVar 0) (mA1 (m2 gAdd (m2 gAdd (m2 gMul (mC (.int 40)) (mVar 4)) (mC (.int 20))) (mVar 9)) (mA0)))) (m2 gPow (mC (.int 10)) (mC (.int 40)))))) (sApp 3 (pNil) (mL gTup (mA1 (mVar 5) (mA1 (mVar 6) (mA1 (mVar 7) (mA0)))))))))) (sRet (mVar 3)))
def m__law_lines : List D → Res D := callM 10 b__law_lines
def b__law_hands_v2 : Rho → Out := sSeq (sSet 2 (mL gLst (mA0))) (sSeq (sFor (tgN 3) (iR1 (mL gLen (mA1 (mVar 0) (mA0)))) (sSeq (sAsg (tgT [4, 5, 6]) (m2 gIx (mVar 1) (mVar 3))) (sSeq (sSet 7 (mL gLst (mA0))) (sSeq (sFor (tgN 8) (iAny (mVar 4)) (sApp 7 (pNil) (mLc [9] (tgN 9) (iR1 (mL gLen (mA1 (mVar 5) (mA0)))) (tYesM) (m2 gAdd (m2 gMul (mVar 8) (m2 gIx (mVar 5) (mVar 9))) (m2 gIx (mVar 6) (mVar 9)))))) (sApp 2 (pNil) (mL gTup (mA1 (m2 gIx (m2 gIx (mVar 0) (mVar 3)) (mC (.int 0))) (mA1 (m2 gIx (m2 gIx (mVar 0) (mVar 3)) (mC (.int 1))) (mA1 (mVar 7) (mA0)))))))))) (sRet (mVar 2)))
def m__law_hands_v2 : List D → Res D := callM 10 b__law_hands_v2
def b__law_turned : Rho → Out := sRet (mAnd (m2 gGt (m2 gIx (m2 gIx (mVar 0) (mC (.int 0))) (mVar 2)) (m2 gIx (m2 gIx (mVar 0) (mC (.int 0))) (mVar 3))) (m2 gLt (m2 gIx (m2 gIx (mVar 0) (mC (.int 1))) (m2 gIx (mVar 1) (mVar 2))) (m2 gIx (m2 gIx (mVar 0) (mC (.int 1))) (m2 gIx (mVar 1) (mVar 3)))))
def m__law_turned : List D → Res D := callM 4 b__law_turned
def b__law_any : Rho → Out := sSeq (sFor (tgN 2) (iR1 (mL gLen (mA1 (mVar 1) (mA0)))) (sFor (tgN 3) (iR1 (mL gLen (mA1 (mVar 1) (mA0)))) (sIf (mT (mArgs m__law_turned (mA1 (mVar 0) (mA1 (mVar 1) (mA1 (mVar 2) (mA1 (mVar 3) (mA0))))))) (sRet (mC (.bl true))) (sNil)))) (sRet (mC (.bl false)))
def m__law_any : List D → Res D := callM 4 b__law_any
def b__law_pair : Rho → Out := sSeq (sIf (tOrM (tNotM (mT (m1 (gIsi "list") (mVar 2)))) (mT (m2 gNe (mL gLen (mA1 (mVar 2) (mA0))) (mC (.int 2))))) (sRet (mC (.bl false))) (sNil)) (sSeq (sFor (tgN 3) (iAny (mVar 2)) (sIf (tOrM (tNotM (mT (m1 (gIsi "int") (mVar 3)))) (tOrM (mT (m1 (gIsi "bool") (mVar 3))) (tOrM (mT (m2 gLt (mVar 3) (mC (.int 0)))) (mT (m2 gGe (mVar 3) (mL gLen (mA1 (mVar 1) (mA0)))))))) (sRet (mC (.bl false))) (sNil))) (sRet (mOr (mArgs m__law_turned (mA1 (mVar 0) (mA1 (mVar 1) (mA1 (m2 gIx (mVar 2) (mC (.int 0))) (mA1 (m2 gIx (mVar 2) (mC (.int 1))) (mA0)))))) (mArgs m__law_turned (mA1 (mVar 0) (mA1 (mVar 1) (mA1 (m2 gIx (mVar 2) (mC (.int 1))) (mA1 (m2 gIx (mVar 2) (mC (.int 0))) (mA0)))))))))
def m__law_pair : List D → Res D := callM 4 b__law_pair
def b_law_k41 : Rho → Out := sSeq (sAsg (tgT [1, 2]) (mArgs m__law_parts (mA1 (mVar 0) (mA1 (mL gLst (mA1 (mC (.int 5)) (mA1 (mC (.int 3)) (mA1 (mC (.int 2)) (mA1 (mC (.int 2)) (mA0)))))) (mA0))))) (sSeq (sSet 3 (mArgs m__law_lines (mA1 (mVar 0) (mA1 (mVar 2) (mA1 (mL gLen (mA1 (mVar 1) (mA0))) (mA0)))))) (sSeq (sSet 2 (mArgs m__law_hands_v2 (mA1 (mVar 2) (mA1 (mVar 3) (mA0))))) (sSeq (sSet 4 (mArgs m_house_of (mA1 (mVar 1) (mA1 (mVar 2) (mA0))))) (sSeq (sSet 5 (mArgs m__law_places (mA1 (mVar 0) (mA1 (mVar 1) (mA1 (mVar 2) (mA0)))))) (sSeq (sSet 6 (mArgs m_verdict (mA1 (mVar 4) (mA1 (mArgs m__law_table (mA1 (mVar 1) (mA1 (mVar 5) (mA0)))) (mA0))))) (sSeq (sFor (tgN 7) (iR1 (mL gLen (mA1 (mVar 2) (mA0)))) (sFor (tgN 8) (iAny (mArgs m_others_of (mA1 (mVar 4) (mA1 (mVar 7) (mA0))))) (sSeq (sSet 9 (mLc [10] (tgN 10) (iAny (m2 gIx (m2 gIx (mVar 2) (mVar 7)) (mC (.int 1)))) (tYesM) (m2 gIx (mVar 5) (m2 gAdd (m2 gAdd (mSl (mVar 8) (oNo) (oYes (mVar 7))) (mL gTup (mA1 (mVar 10) (mA0)))) (mSl (mVar 8) (oYes (mVar 7)) (oNo)))))) (sIf (mT (mArgs m__law_any (mA1 (m2 gIx (mVar 3) (mVar 7)) (mA1 (mVar 9) (mA0))))) (sSeq (sIf (tOrM (mT (m2 gNe (m2 gIx (mVar 6) (mC (.int 0))) (mC (.str "ring")))) (tOrM (mT (m2 gNe (m2 gIx (mVar 6) (mC (.int 1))) (mVar 7))) (mT (m2 gNe (m2 gIx (mVar 6) (mC (.int 2))) (mVar 8))))) (sRet (mC (.bl false))) (sNil)) (sRet (mArgs m__law_pair (mA1 (m2 gIx (mVar 3) (mVar 7)) (mA1 (mVar 9) (mA1 (m2 gIx (mVar 6) (mC (.int 3))) (mA0))))))) (sNil))))) (sRet (m2 gEq (m2 gIx (mVar 6) (mC (.int 0))) (mC (.str "pays"))))))))))
def m_law_k41 : List D → Res D := callM 11 b_law_k41
def b__law_grid_v2 : Rho → Out := sSeq (sSet 4 (mLc [7] (tgN 7) (iAny (m2 gIx (m2 gIx (mVar 0) (mVar 2)) (mC (.int 1)))) (tYesM) (m2 gIx (mVar 1) (m2 gAdd (m2 gAdd (mSl (mVar 3) (oNo) (oYes (mVar 2))) (mL gTup (mA1 (mVar 7) (mA0)))) (mSl (mVar 3) (oYes (mVar 2)) (oNo)))))) (sSeq (sSet 5 (mL gLst (mA0))) (sSeq (sFor (tgN 6) (iAny (m2 gIx (m2 gIx (mVar 0) (mVar 2)) (mC (.int 2)))) (sApp 5 (pNil) (mLc [8] (tgN 8) (iAny (mVar 4)) (tYesM) (m2 gIx (mVar 6) (mVar 8))))) (sRet (mVar 5))))
def m__law_grid_v2 : List D → Res D := callM 9 b__law_grid_v2
def b__law_turn : Rho → Out := sRet (m2 gSub (m2 gIx (m2 gIx (mVar 0) (mVar 2)) (mVar 2)) (m2 gIx (m2 gIx (mVar 0) (mVar 2)) (mVar 1)))
def m__law_turn : List D → Res D := callM 3 b__law_turn
def b__law_honest_v3 : Rho → Out := sSeq (sIf (tOrM (tNotM (mT (m1 (gIsi "list") (mVar 1)))) (mT (m2 gNe (mL gLen (mA1 (mVar 1) (mA0))) (mL gLen (mA1 (mVar 0) (mA0)))))) (sRet (mC (.bl false))) (sNil)) (sSeq (sFor (tgN 2) (iR1 (mL gLen (mA1 (mVar 0) (mA0)))) (sSeq (sIf (tOrM (tNotM (mT (mArgs m__law_whole (mA1 (m2 gIx (mVar 1) (mVar 2)) (mA0))))) (mT (m2 gGt (m2 gIx (mVar 1) (mVar 2)) (m2 gIx (m2 gIx (mVar 0) (mVar 2)) (mVar 2))))) (sRet (mC (.bl false))) (sNil)) (sFor (tgN 3) (iR1 (mL gLen (mA1 (mVar 0) (mA0)))) (sIf (mT (m2 gGt (m2 gSub (m2 gIx (mVar 1) (mVar 2)) (m2 gIx (mVar 1) (mVar 3))) (mArgs m__law_turn (mA1 (mVar 0) (mA1 (mVar 3) (mA1 (mVar 2) (mA0))))))) (sRet (mC (.bl false))) (sNil))))) (sRet (mC (.bl true))))
def m__law_honest_v3 : List D → Res D := callM 4 b__law_honest_v3
def b__law_round : Rho → Out := sSeq (sSet 2 (mC (.int 0))) (sSeq (sFor (tgN 3) (iR1 (mL gLen (mA1 (mVar 1) (mA0)))) (sSet 2 (m2 gAdd (mVar 2) (mArgs m__law_turn (mA1 (mVar 0) (mA1 (m2 gIx (mVar 1) (m2 gSub (mVar 3) (mC (.int 1)))) (mA1 (m2 gIx (mVar 1) (mVar 3)) (mA0)))))))) (sRet (mVar 2)))
def m__law_round : List D → Res D := callM 4 b__law_round
def b__law_longer : Rho → Out := sSeq (sSet 2 (mL gLst (mA0))) (sSeq (sFor (tgN 3) (iAny (mVar 1)) (sSet 2 (m2 gAdd (mVar 2) (mLc [4] (tgN 4) (iR1 (mL gLen (mA1 (mVar 0) (mA0)))) (mT (m2 gNin (mVar 4) (mVar 3))) (m2 gAdd (mVar 3) (mL gLst (mA1 (mVar 4) (mA0)))))))) (sRet (mVar 2)))
def m__law_longer : List D → Res D := callM 5 b__law_longer
def b__law_ring_v2 : Rho → Out := sSeq (sIf (tOrM (tNotM (mT (m1 (gIsi "list") (mVar 1)))) (mT (m2 gLt (mL gLen (mA1 (mVar 1) (mA0))) (mC (.int 2))))) (sRet (mC (.bl false))) (sNil)) (sSeq (sFor (tgN 2) (iAny (mVar 1)) (sIf (tOrM (tNotM (mT (mArgs m__law_whole (mA1 (mVar 2) (mA0))))) (tOrM (mT (m2 gLt (mVar 2) (mC (.int 0)))) (tOrM (mT (m2 gGe (mVar 2) (mL gLen (mA1 (mVar 0) (mA0))))) (mT (m2 gNe (mMeth gCount (mVar 1) (mVar 2)) (mC (.int 1))))))) (sRet (mC (.bl false))) (sNil))) (sSeq (sIf (mT (m2 gGe (mArgs m__law_round (mA1 (mVar 0) (mA1 (mVar 1) (mA0)))) (mC (.int 0)))) (sRet (mC (.bl false))) (sNil)) (sSeq (sSet 3 (mLc [2] (tgN 2) (iR1 (mL gLen (mA1 (mVar 0) (mA0)))) (tYesM) (mL gLst (mA1 (mVar 2) (mA0))))) (sSeq (sFor (tgN 4) (iR2 (mC (.int 2)) (mL gLen (mA1 (mVar 1) (mA0)))) (sSeq (sSet 3 (mArgs m__law_longer (mA1 (mVar 0) (mA1 (mVar 3) (mA0))))) (sFor (tgN 5) (iAny (mVar 3)) (sIf (mT (m2 gLt (mArgs m__law_round (mA1 (mVar 0) (mA1 (mVar 5) (mA0)))) (mC (.int 0)))) (sRet (mC (.bl false))) (sNil))))) (sRet (mC (.bl true)))))))
def m__law_ring_v2 : List D → Res D := callM 6 b__law_ring_v2
def b_law_k38 : Rho → Out := sSeq (sAsg (tgT [1, 2]) (mArgs m__law_parts (mA1 (mVar 0) (mA1 (mL gLst (mA1 (mC (.int 5)) (mA1 (mC (.int 3)) (mA1 (mC (.int 2)) (mA1 (mC (.int 2)) (mA0)))))) (mA0))))) (sSeq (sSet 3 (mArgs m_house_of (mA1 (mVar 1) (mA1 (mVar 2) (mA0))))) (sSeq (sSet 4 (mArgs m__law_places (mA1 (mVar 0) (mA1 (mVar 1) (mA1 (mVar 2) (mA0)))))) (sSeq (sSet 5 (mArgs m_verdict (mA1 (mVar 3) (mA1 (mArgs m__law_table (mA1 (mVar 1) (mA1 (mVar 4) (mA0)))) (mA0))))) (sSeq (sIf (tOrM (tNotM (mT (m1 (gIsi "tuple") (mVar 5)))) (mT (m2 gNin (m2 gIx (mVar 5) (mC (.int 0))) (mL gLst (mA1 (mC (.str "ring")) (mA1 (mC (.str "pays")) (mA0))))))) (sRet (mC (.bl false))) (sNil)) (sSeq (sIf (mT (m2 gEq (m2 gIx (mVar 5) (mC (.int 0))) (mC (.str "pays")))) (sRet (m2 gEq (mL gLen (mA1 (mVar 5) (mA0))) (mC (.int 2)))) (sNil)) (sSeq (sIf (tOrM (mT (m2 gNe (mL gLen (mA1 (mVar 5) (mA0))) (mC (.int 4)))) (tNotM (mT (mArgs m__law_whole (mA1 (m2 gIx (mVar 5) (mC (.int 1))) (mA0)))))) (sRet (mC (.bl false))) (sNil)) (sSeq (sFor (tgN 6) (iR1 (mL gLen (mA1 (mVar 2) (mA0)))) (sFor (tgN 7) (iAny (mArgs m_others_of (mA1 (mVar 3) (mA1 (mVar 6) (mA0))))) (sSeq (sSet 8 (mArgs m__law_grid_v2 (mA1 (mVar 2) (mA1 (mVar 4) (mA1 (mVar 6) (mA1 (mVar 7) (mA0))))))) (sSeq (sIf (mT (m2 gEq (mL gTup (mA1 (mVar 6) (mA1 (mVar 7) (mA0)))) (mL gTup (mA1 (m2 gIx (mVar 5) (mC (.int 1))) (mA1 (m2 gIx (mVar 5) (mC (.int 2))) (mA0)))))) (sRet (mArgs m__law_ring_v2 (mA1 (mVar 8) (mA1 (m2 gIx (mVar 5) (mC (.int 3))) (mA0))))) (sNil)) (sIf (tNotM (mT (mArgs m__law_honest_v3 (mA1 (mVar 8) (mA1 (m2 gIx (mArgs m_greatest (mA1 (mVar 8) (mA0))) (mC (.int 0))) (mA0)))))) (sRet (mC (.bl false))) (sNil)))))) (sRet (mC (.bl false))))))))))
def m_law_k38 : List D → Res D := callM 9 b_law_k38
def b_look_v3 : Rho → Out := sSeq (sFor (tgN 1) (iAny (mVar 0)) (sIf (tOrM (tNotM (mT (m1 (gIsi "int") (mVar 1)))) (tOrM (mT (m1 (gIsi "bool") (mVar 1))) (mT (m2 gLt (mVar 1) (mC (.int 0)))))) (sRaise "NoShare") (sNil))) (sIf (mT (m2 gEq (mL gSum (mA1 (mVar 0) (mA0))) (mC (.int 0)))) (sRaise "NoShare") (sNil))
def m_look_v3 : List D → Res D := callM 2 b_look_v3
def b_look_list_v2 : Rho → Out := sSeq (sIf (tOrM (tNotM (mT (m1 (gIsi "list") (mVar 1)))) (mT (m2 gNe (mL gLen (mA1 (mVar 1) (mA0))) (mL gLen (mA1 (mVar 0) (mA0)))))) (sRaise "NoShare") (sNil)) (sDo (mArgs m_look_v3 (mA1 (mVar 1) (mA0))))
def m_look_list_v2 : List D → Res D := callM 2 b_look_list_v2
def b_summed_pays_v2 : Rho → Out := sSeq (sDo (mArgs m_look_list_v2 (mA1 (mVar 0) (mA1 (mVar 1) (mA0))))) (sSeq (sSet 2 (m2 gMul (mL gLst (mA1 (mC (.int 0)) (mA0))) (mL gLen (mA1 (m2 gIx (mVar 0) (mC (.int 0))) (mA0))))) (sSeq (sFor (tgT [3, 4]) (iZipM (mVar 0) (mVar 1)) (sSet 2 (mArgs m_added (mA1 (mVar 2) (mA1 (mVar 3) (mA1 (mVar 4) (mA0))))))) (sRet (mVar 2))))
def m_summed_pays_v2 : List D → Res D := callM 5 b_summed_pays_v2
def b_summed_grids_v2 : Rho → Out := sSeq (sDo (mArgs m_look_list_v2 (mA1 (mVar 0) (mA1 (mVar 1) (mA0))))) (sSeq (sSet 2 (mL gLen (mA1 (m2 gIx (mVar 0) (mC (.int 0))) (mA0)))) (sRet (mLc [3] (tgN 3) (iR1 (mVar 2)) (tYesM) (mArgs m_summed_pays_v2 (mA1 (mLc [4] (tgN 4) (iAny (mVar 0)) (tYesM) (m2 gIx (mVar 4) (mVar 3))) (mA1 (mVar 1) (mA0)))))))
def m_summed_grids_v2 : List D → Res D := callM 5 b_summed_grids_v2
def b__law_refused : Rho → Out := sSeq (sSet 3 (mL gTup (mA0))) (sSeq (sTryA 4 "NoShare" (sIf (mT (m2 gEq (mVar 0) (mC (.int 0)))) (sDo (mArgs m_summed_grids_v2 (mA1 (mVar 1) (mA1 (mVar 2) (mA0))))) (sDo (mArgs m_summed_pays_v2 (mA1 (mVar 1) (mA1 (mVar 2) (mA0)))))) (sSeq (sSet 5 (mC (.bl false))) (sSet 3 (mL gTup (mA1 (mC (.bl true)) (mA1 (mC (.bl true)) (mA1 (mVar 5) (mA0)))))))) (sRet (mVar 3)))
def m__law_refused : List D → Res D := callM 6 b__law_refused
def b__law_bent : Rho → Out := sSeq (sSet 2 (mL gList (mA1 (mVar 0) (mA0)))) (sSeq (sSet 3 (m2 gMod (m2 gDiv (mVar 1) (mC (.int 4))) (mC (.int 11)))) (sSeq (sIf (mT (m2 gLt (mVar 3) (mC (.int 5)))) (sPut 2 (pNil) (m2 gMod (mVar 1) (mL gLen (mA1 (mVar 2) (mA0)))) (m2 gIx (mL gLst (mA1 (m2 gSub (m2 gSub (mC (.int 0)) (mC (.int 1))) (m2 gMod (m2 gDiv (mVar 1) (mC (.int 44))) (mC (.int 9)))) (mA1 (mL gTup (mA1 (mC (.int 1)) (mA0))) (mA1 (mC (.bl true)) (mA1 (mC .non) (mA1 (mC (.str "1")) (mA0))))))) (mVar 3))) (sNil)) (sSeq (sIf (mT (m2 gEq (mVar 3) (mC (.int 5)))) (sRet (m2 gMul (mL gLst (mA1 (mC (.int 0)) (mA0))) (mL gLen (mA1 (mVar 2) (mA0))))) (sNil)) (sSeq (sIf (mT (m2 gEq (mVar 3) (mC (.int 6)))) (sRet (m2 gAdd (mVar 2) (mL gLst (mA1 (mC (.int 1)) (mA0))))) (sNil)) (sSeq (sIf (mT (m2 gEq (mVar 3) (mC (.int 7)))) (sRet (mSl (mVar 2) (oYes (mC (.int 1))) (oNo))) (sNil)) (sSeq (sIf (mT (m2 gEq (mVar 3) (mC (.int 8)))) (sRet (mL gTuple (mA1 (mVar 2) (mA0)))) (sNil)) (sSeq (sIf (mT (m2 gEq (mVar 3) (mC (.int 9)))) (sRet (mC .non)) (sNil)) (sSeq (sIf (mT (m2 gEq (mVar 3) (mC (.int 10)))) (sRet (mD1 (mC (.int 0)) (mFlat (mC (.int 1))))) (sNil)) (sRet (mVar 2))))))))))
def m__law_bent : List D → Res D := callM 4 b__law_bent
def b_law_k59 : Rho → Out := sSeq (sSet 1 (m2 gAdd (mC (.int 1)) (m2 gMod (mArgs m__law_cell (mA1 (mVar 0) (mA1 (mC (.int 0)) (mA0)))) (mC (.int 4))))) (sSeq (sSet 2 (m2 gAdd (mC (.int 1)) (m2 gMod (m2 gDiv (mArgs m__law_cell (mA1 (mVar 0) (mA1 (mC (.int 0)) (mA0)))) (mC (.int 4))) (mC (.int 3))))) (sSeq (sSet 3 (mArgs m__law_lists (mA1 (mVar 0) (mA1 (mVar 1) (mA1 (mVar 2) (mA0)))))) (sSeq (sSet 4 (mLc [7] (tgN 7) (iR1 (mVar 2)) (tYesM) (mArgs m__law_priced_v2 (mA1 (mVar 0) (mA1 (m2 gIx (mVar 3) (mVar 7)) (mA1 (m2 gAdd (mC (.int 3)) (m2 gMul (mC (.int 15)) (mVar 7))) (mA0))))))) (sSeq (sSet 5 (mArgs m__law_shares (mA1 (mVar 0) (mA1 (mVar 2) (mA0))))) (sSeq (sSet 6 (mL gTup (mA0))) (sSeq (sIf (mT (m2 gGt (m2 gMod (mArgs m__law_cell (mA1 (mVar 0) (mA1 (mC (.int 1)) (mA0)))) (mC (.int 5))) (mC (.int 0)))) (sSeq (sSet 5 (mArgs m__law_bent (mA1 (mVar 5) (mA1 (m2 gDiv (mArgs m__law_cell (mA1 (mVar 0) (mA1 (mC (.int 1)) (mA0)))) (mC (.int 5))) (mA0))))) (sSet 6 (mL gTup (mA1 (mC (.bl true)) (mA1 (mC (.bl true)) (mA1 (mC (.bl false)) (mA0))))))) (sNil)) (sSeq (sIf (tOrM (mT (m2 gNe (mArgs m__law_refused (mA1 (mC (.int 0)) (mA1 (mVar 4) (mA1 (mVar 5) (mA0))))) (mVar 6))) (mT (m2 gNe (mArgs m__law_refused (mA1 (mC (.int 1)) (mA1 (mVar 3) (mA1 (mVar 5) (mA0))))) (mVar 6)))) (sRet (mC (.bl false))) (sNil)) (sRet (mAnd (m2 gEq (mArgs m__law_refused (mA1 (mC (.int 0)) (mA1 (mL gLst (mA0)) (mA1 (mL gLst (mA0)) (mA0))))) (mL gTup (mA1 (mC (.bl true)) (mA1 (mC (.bl true)) (mA1 (mC (.bl false)) (mA0)))))) (m2 gEq (mArgs m__law_refused (mA1 (mC (.int 1)) (mA1 (mL gLst (mA0)) (mA1 (mL gLst (mA0)) (mA0))))) (mL gTup (mA1 (mC (.bl true)) (mA1 (mC (.bl true)) (mA1 (mC (.bl false)) (mA0)))))))))))))))
def m_law_k59 : List D → Res D := callM 8 b_law_k59
def b_look_v4 : Rho → Out := sSeq (sIf (tOrM (tNotM (mT (m1 (gIsi "list") (mVar 1)))) (mT (m2 gNe (mL gLen (mA1 (mVar 1) (mA0))) (mL gLen (mA1 (m2 gIx (mVar 0) (mC (.int 1))) (mA0)))))) (sRaise "NoWeight") (sNil)) (sSeq (sFor (tgN 3) (iAny (mVar 1)) (sIf (tOrM (tNotM (mT (mArgs m_is_number (mA1 (mVar 3) (mA0))))) (mT (m2 gLt (mVar 3) (mC (.int 1))))) (sRaise "NoWeight") (sNil))) (sSeq (sIf (tOrM (tNotM (mT (m1 (gIsi "list") (mVar 2)))) (mT (m2 gNe (mL gLen (mA1 (mVar 2) (mA0))) (mL gLen (mA1 (m2 gIx (mVar 0) (mC (.int 0))) (mA0)))))) (sRaise "NoWeight") (sNil)) (sFor (tgN 4) (iAny (mVar 2)) (sIf (tNotM (mT (mArgs m_is_number (mA1 (mVar 4) (mA0))))) (sRaise "NoWeight") (sNil)))))
def m_look_v4 : List D → Res D := callM 5 b_look_v4
def b_scores_v2 : Rho → Out := sSeq (sDo (mArgs m_look_v4 (mA1 (mVar 0) (mA1 (mVar 1) (mA1 (mVar 2) (mA0)))))) (sRet (mArgs m_summed (mA1 (mVar 0) (mA1 (mVar 1) (mA1 (mVar 2) (mA1 (mVar 3) (mA0)))))))
def m_scores_v2 : List D → Res D := callM 4 b_scores_v2
def b_best_table_v2 : Rho → Out := sSeq (sDo (mArgs m_look_v4 (mA1 (mVar 0) (mA1 (mVar 1) (mA1 (mVar 2) (mA0)))))) (sSeq (sSet 3 (mC (.dT [] []))) (sSeq (sFor (tgN 4) (iAny (mArgs m_rows_of (mA1 (mVar 0) (mA0)))) (sSeq (sSet 5 (mArgs m_summed (mA1 (mVar 0) (mA1 (mVar 1) (mA1 (mVar 2) (mA1 (mVar 4) (mA0))))))) (sPutD 3 (pNil) (mVar 4) (m2 gIx (m2 gIx (mVar 0) (mC (.int 0))) (mMeth gIndex (mVar 5) (mL gMax (mA1 (mVar 5) (mA0)))))))) (sRet (mVar 3))))
def m_best_table_v2 : List D → Res D := callM 6 b_best_table_v2
def b_pivots_v2 : Rho → Out := sSeq (sDo (mArgs m_look_v4 (mA1 (mVar 0) (mA1 (mVar 1) (mA1 (mVar 2) (mA0)))))) (sSeq (sSet 4 (mArgs m_summed (mA1 (mVar 0) (mA1 (mVar 1) (mA1 (mVar 2) (mA1 (mVar 3) (mA0))))))) (sSeq (sSet 5 (mMeth gIndex (mVar 4) (mL gMax (mA1 (mVar 4) (mA0))))) (sSeq (sSet 6 (mL gLst (mA0))) (sSeq (sFor (tgN 7) (iR1 (mL gLen (mA1 (m2 gIx (mVar 0) (mC (.int 1))) (mA0)))) (sSeq (sSet 8 (mLc [9, 10] (tgT [9, 10]) (iZipM (mVar 4) (mArgs m_parts (mA1 (mVar 0) (mA1 (mVar 1) (mA1 (mVar 3) (mA1 (mVar 7) (mA0))))))) (tYesM) (m2 gSub (mVar 9) (mVar 10)))) (sApp 6 (pNil) (m2 gSub (mL gMax (mA1 (mVar 8) (mA0))) (m2 gIx (mVar 8) (mVar 5)))))) (sRet (mVar 6))))))
def m_pivots_v2 : List D → Res D := callM 11 b_pivots_v2
def b__law_refused_v2 : Rho → Out := sSeq (sSet 5 (mL gTup (mA0))) (sSeq (sTryA 6 "NoWeight" (sIf (mT (m2 gEq (mVar 0) (mC (.int 0)))) (sDo (mArgs m_scores_v2 (mA1 (mVar 1) (mA1 (mVar 2) (mA1 (mVar 3) (mA1 (mVar 4) (mA0))))))) (sIf (mT (m2 gEq (mVar 0) (mC (.int 1)))) (sDo (mArgs m_best_table_v2 (mA1 (mVar 1) (mA1 (mVar 2) (mA1 (mVar 3) (mA0)))))) (sDo (mArgs m_pivots_v2 (mA1 (mVar 1) (mA1 (mVar 2) (mA1 (mVar 3) (mA1 (mVar 4) (mA0))))))))) (sSeq (sSet 7 (mC (.bl false))) (sSet 5 (mL gTup (mA1 (mC (.bl true)) (mA1 (mC (.bl true)) (mA1 (mVar 7) (mA0)))))))) (sRet (mVar 5)))
def m__law_refused_v2 : List D → Res D := callM 8 b__law_refused_v2
def b__law_bent_v2 : Rho → Out := sSeq (sSet 3 (m2 gMod (mVar 1) (mL gLen (mA1 (mVar 0) (mA0))))) (sSeq (sSet 4 (m2 gMod (m2 gDiv (mVar 1) (mC (.int 4))) (mC (.int 10)))) (sSeq (sSet 5 (mL gList (mA1 (mVar 0) (mA0)))) (sSeq (sIf (mT (m2 gLt (mVar 4) (mC (.int 6)))) (sPut 5 (pNil) (mVar 3) (m2 gIx (mL gLst (mA1 (m2 gSub (mVar 2) (mC (.int 1))) (mA1 (m2 gPow (mC (.int 10)) (mC (.int 60))) (mA1 (mC (.bl true)) (mA1 (mC .non) (mA1 (mC (.str "1")) (mA1 (m2 gSub (mC (.int 0)) (m2 gPow (mC (.int 10)) (mC (.int 60)))) (mA0)))))))) (mVar 4))) (sNil)) (sSeq (sIf (mT (m2 gEq (mVar 4) (mC (.int 6)))) (sApp 5 (pNil) (mC (.int 1))) (sNil)) (sSeq (sIf (mT (m2 gEq (mVar 4) (mC (.int 7)))) (sDoM (mPopAt 5 (mVar 3))) (sNil)) (sSeq (sIf (mT (m2 gEq (mVar 4) (mC (.int 8)))) (sRet (mL gTuple (mA1 (mVar 0) (mA0)))) (sNil)) (sSeq (sIf (mT (m2 gEq (mVar 4) (mC (.int 9)))) (sRet (mC .non)) (sNil)) (sRet (mVar 5)))))))))
def m__law_bent_v2 : List D → Res D := callM 6 b__law_bent_v2
def b_law_k52 : Rho → Out := sSeq (sSet 1 (m2 gAdd (mC (.int 1)) (m2 gMod (mArgs m__law_cell (mA1 (mVar 0) (mA1 (mC (.int 0)) (mA0)))) (mC (.int 4))))) (sSeq (sSet 2 (mArgs m__law_hands (mA1 (mVar 0) (mA1 (mVar 1) (mA1 (m2 gPow (mC (.int 10)) (mC (.int 57))) (mA0)))))) (sSeq (sSet 3 (mArgs m_house_of (mA1 (mArgs m__law_names (mA1 (mArgs m__law_cell (mA1 (mVar 0) (mA1 (mC (.int 2)) (mA0)))) (mA1 (mVar 1) (mA0)))) (mA1 (mL gList (mA1 (mVar 2) (mA0))) (mA0))))) (sSeq (sSet 4 (mArgs m__law_weights (mA1 (mVar 0) (mA1 (mL gLen (mA1 (mVar 2) (mA0))) (mA0))))) (sSeq (sSet 5 (mArgs m__law_handicaps (mA1 (mVar 0) (mA1 (mVar 1) (mA0))))) (sSeq (sSet 6 (mArgs m__law_cell (mA1 (mVar 0) (mA1 (mC (.int 51)) (mA0))))) (sSeq (sSet 7 (mL gTup (mA0))) (sSeq (sIf (mT (m2 gGt (m2 gMod (mVar 6) (mC (.int 3))) (mC (.int 0)))) (sSet 7 (mL gTup (mA1 (mC (.bl true)) (mA1 (mC (.bl true)) (mA1 (mC (.bl false)) (mA0)))))) (sNil)) (sSeq (sIf (mT (m2 gEq (m2 gMod (mVar 6) (mC (.int 3))) (mC (.int 1)))) (sSet 4 (mArgs m__law_bent_v2 (mA1 (mVar 4) (mA1 (m2 gDiv (mVar 6) (mC (.int 3))) (mA1 (mC (.int 1)) (mA0)))))) (sNil)) (sSeq (sIf (mT (m2 gEq (m2 gMod (mVar 6) (mC (.int 3))) (mC (.int 2)))) (sSet 5 (mArgs m__law_bent_v2 (mA1 (mVar 5) (mA1 (m2 gDiv (mVar 6) (mC (.int 3))) (mA1 (m2 gSub (mC (.int 1)) (m2 gPow (mC (.int 10)) (mC (.int 60)))) (mA0)))))) (sNil)) (sSeq (sSet 8 (m2 gIx (mArgs m__law_rows (mA1 (mVar 2) (mA0))) (mC (.int 0)))) (sSeq (sFor (tgN 9) (iR1 (mC (.int 3))) (sIf (mT (m2 gNe (mArgs m__law_refused_v2 (mA1 (mVar 9) (mA1 (mVar 3) (mA1 (mVar 4) (mA1 (mVar 5) (mA1 (mVar 8) (mA0))))))) (mVar 7))) (sRet (mC (.bl false))) (sNil))) (sRet (mC (.bl true))))))))))))))
def m_law_k52 : List D → Res D := callM 10 b_law_k52
def b_house_of_v2 : Rho → Out := sSeq (sIf (tNotM (mT (mArgs m_are_names (mA1 (mVar 0) (mA1 (mC (.int 8)) (mA0)))))) (sRaise "NoHouse") (sNil)) (sSeq (sIf (tOrM (tNotM (mT (m1 (gIsi "list") (mVar 1)))) (tNotM (mT (mChain gLe gLe (mC (.int 1)) (mL gLen (mA1 (mVar 1) (mA0))) (mC (.int 4)))))) (sRaise "NoHouse") (sNil)) (sSeq (sSet 2 (mC (.int 1))) (sSeq (sSet 3 (mL gLst (mA0))) (sSeq (sFor (tgN 4) (iAny (mVar 1)) (sSeq (sIf (tNotM (mT (mArgs m_is_hand (mA1 (mVar 4) (mA1 (mL gLen (mA1 (mVar 0) (mA0))) (mA0)))))) (sRaise "NoHouse") (sNil)) (sSeq (sSet 2 (m2 gMul (mVar 2) (mL gLen (mA1 (m2 gIx (mVar 4) (mC (.int 1))) (mA0))))) (sApp 3 (pNil) (mL gTup (mA1 (m2 gIx (mVar 4) (mC (.int 0))) (mA1 (mL gTupF (mA1 (m2 gIx (mVar 4) (mC (.int 1))) (mA0))) (mA1 (mL gTuple (mA1 (mLc [5] (tgN 5) (iAny (m2 gIx (mVar 4) (mC (.int 2)))) (tYesM) (mL gTuple (mA1 (mVar 5) (mA0)))) (mA0))) (mA0))))))))) (sSeq (sIf (tOrM (mT (m2 gGt (mVar 2) (mC (.int 256)))) (mT (m2 gNe (m1 gLenSetT (mLc [4] (tgN 4) (iAny (mVar 3)) (tYesM) (m2 gIx (mVar 4) (mC (.int 0))))) (mL gLen (mA1 (mVar 3) (mA0)))))) (sRaise "NoHouse") (sNil)) (sRet (mL gTup (mA1 (mL gTupF (mA1 (mVar 0) (mA0))) (mA1 (mL gTuple (mA1 (mVar 3) (mA0))) (mA0))))))))))
def m_house_of_v2 : List D → Res D := callM 6 b_house_of_v2
def b__law_no_names : Rho → Out := sSeq (sSet 3 (m2 gMod (m2 gDiv (mVar 1) (mC (.int 16))) (mL gLen (mA1 (mVar 0) (mA0))))) (sSeq (sSet 4 (m2 gIx (mL gLst (mA1 (mC (.str "")) (mA1 (mC (.str "A")) (mA1 (mC (.str "abcdefghi")) (mA1 (mC (.str "a b")) (mA1 (mC (.str "a1")) (mA1 (mC (.str "a\n")) (mA1 (mC .non) (mA1 (mC (.int 5)) (mA1 (mL gLst (mA1 (mC (.str "a")) (mA0))) (mA1 (mL gTup (mA1 (mC (.str "a")) (mA0))) (mA1 (mC (.bl true)) (mA0))))))))))))) (m2 gMod (m2 gDiv (mVar 1) (mC (.int 128))) (mC (.int 11))))) (sSeq (sSet 5 (m2 gMod (mVar 1) (mC (.int 8)))) (sSeq (sIf (mT (m2 gEq (mVar 5) (mC (.int 0)))) (sRet (mL gLst (mA0))) (sNil)) (sSeq (sIf (mT (m2 gEq (mVar 5) (mC (.int 1)))) (sRet (mLc [7] (tgN 7) (iR1 (m2 gAdd (mVar 2) (mC (.int 1)))) (tYesM) (m2 gIx (mC (.str "abcdefghi")) (mVar 7)))) (sNil)) (sSeq (sIf (mT (m2 gEq (mVar 5) (mC (.int 2)))) (sSeq (sSet 6 (m2 gMod (m2 gDiv (mVar 1) (mC (.int 2048))) (m2 gAdd (mL gLen (mA1 (mVar 0) (mA0))) (mC (.int 1))))) (sRet (m2 gAdd (m2 gAdd (mSl (mVar 0) (oNo) (oYes (mVar 6))) (mL gLst (mA1 (m2 gIx (mVar 0) (mVar 3)) (mA0)))) (mSl (mVar 0) (oYes (mVar 6)) (oNo))))) (sNil)) (sSeq (sIf (mT (m2 gEq (mVar 5) (mC (.int 3)))) (sRet (mL gTuple (mA1 (mVar 0) (mA0)))) (sNil)) (sSeq (sIf (mT (m2 gEq (mVar 5) (mC (.int 4)))) (sRet (m2 gIx (mL gLst (mA1 (mC .non) (mA1 (mC (.str "ab")) (mA1 (mC (.dK [] [])) (mA1 (mC (.int 3)) (mA0)))))) (m2 gMod (m2 gDiv (mVar 1) (mC (.int 16))) (mC (.int 4))))) (sNil)) (sRet (m2 gAdd (m2 gAdd (mSl (mVar 0) (oNo) (oYes (mVar 3))) (mL gLst (mA1 (mVar 4) (mA0)))) (mSl (mVar 0) (oYes (m2 gAdd (mVar 3) (mC (.int 1)))) (oNo)))))))))))
def m__law_no_names : List D → Res D := callM 8 b__law_no_names
def b__law_no_worths : Rho → Out := sSeq (sSet 2 (m2 gMod (m2 gDiv (mVar 1) (mC (.int 16))) (mL gLen (mA1 (mVar 0) (mA0))))) (sSeq (sSet 3 (m2 gIx (mVar 0) (mVar 2))) (sSeq (sSet 4 (m2 gMod (m2 gDiv (mVar 1) (mC (.int 128))) (mL gLen (mA1 (mVar 3) (mA0))))) (sSeq (sSet 5 (mL gLst (mA1 (mC (.bl true)) (mA1 (mC .non) (mA1 (mC (.str "1")) (mA1 (m2 gAdd (m2 gPow (mC (.int 10)) (mC (.int 60))) (m2 gMod (mVar 1) (m2 gPow (mC (.int 10)) (mC (.int 60))))) (mA1 (m2 gSub (m2 gSub (mC (.int 0)) (m2 gPow (mC (.int 10)) (mC (.int 60)))) (m2 gMod (mVar 1) (m2 gPow (mC (.int 10)) (mC (.int 60))))) (mA1 (mL gLst (mA1 (mC (.int 1)) (mA0))) (mA1 (mL gTup (mA1 (mC (.int 2)) (mA0))) (mA1 (mC (.bl false)) (mA0))))))))))) (sSeq (sSet 6 (m2 gMod (mVar 1) (mC (.int 8)))) (sSeq (sIf (mT (m2 gEq (mVar 6) (mC (.int 0)))) (sRet (m2 gAdd (mSl (mVar 0) (oNo) (oYes (mVar 2))) (mSl (mVar 0) (oYes (m2 gAdd (mVar 2) (mC (.int 1)))) (oNo)))) (sNil)) (sSeq (sIf (mT (m2 gEq (mVar 6) (mC (.int 1)))) (sRet (m2 gAdd (m2 gAdd (mSl (mVar 0) (oNo) (oYes (mVar 2))) (mL gLst (mA1 (mL gList (mA1 (mVar 3) (mA0))) (mA0)))) (mSl (mVar 0) (oYes (mVar 2)) (oNo)))) (sNil)) (sSeq (sIf (mT (m2 gEq (mVar 6) (mC (.int 2)))) (sSet 3 (m2 gAdd (mSl (mVar 3) (oNo) (oYes (mVar 4))) (mSl (mVar 3) (oYes (m2 gAdd (mVar 4) (mC (.int 1)))) (oNo)))) (sIf (mT (m2 gEq (mVar 6) (mC (.int 3)))) (sSet 3 (m2 gAdd (m2 gAdd (mSl (mVar 3) (oNo) (oYes (mVar 4))) (mL gLst (mA1 (mC (.int 0)) (mA0)))) (mSl (mVar 3) (oYes (mVar 4)) (oNo)))) (sIf (mT (m2 gEq (mVar 6) (mC (.int 4)))) (sSet 3 (mL gTuple (mA1 (mVar 3) (mA0)))) (sSet 3 (m2 gAdd (m2 gAdd (mSl (mVar 3) (oNo) (oYes (mVar 4))) (mL gLst (mA1 (m2 gIx (mVar 5) (m2 gMod (m2 gDiv (mVar 1) (mC (.int 1024))) (mC (.int 8)))) (mA0)))) (mSl (mVar 3) (oYes (m2 gAdd (mVar 4) (mC (.int 1)))) (oNo))))))) (sRet (m2 gAdd (m2 gAdd (mSl (mVar 0) (oNo) (oYes (mVar 2))) (mL gLst (mA1 (mVar 3) (mA0)))) (mSl (mVar 0) (oYes (m2 gAdd (mVar 2) (mC (.int 1)))) (oNo)))))))))))
def m__law_no_worths : List D → Res D := callM 7 b__law_no_worths
def b__law_no_hand : Rho → Out := sSeq (sSet 2 (m2 gMod (mVar 1) (mC (.int 8)))) (sSeq (sIf (mT (m2 gEq (mVar 2) (mC (.int 0)))) (sRet (mL gList (mA1 (mVar 0) (mA0)))) (sNil)) (sSeq (sIf (mT (m2 gEq (mVar 2) (mC (.int 1)))) (sRet (m2 gIx (mL gLst (mA1 (mSl (mVar 0) (oNo) (oYes (mC (.int 2)))) (mA1 (m2 gAdd (mVar 0) (mL gTup (mA1 (mC (.int 0)) (mA0)))) (mA1 (mC .non) (mA1 (mC (.str "ab")) (mA0)))))) (m2 gMod (m2 gDiv (mVar 1) (mC (.int 8))) (mC (.int 4))))) (sNil)) (sSeq (sIf (mT (m2 gEq (mVar 2) (mC (.int 2)))) (sRet (mL gTup (mA1 (m2 gIx (mL gLst (mA1 (mC (.str "")) (mA1 (mC (.str "Ab")) (mA1 (mC (.str "abcdefghi")) (mA1 (mC .non) (mA1 (mC (.int 7)) (mA1 (mL gTup (mA1 (mC (.str "a")) (mA0))) (mA0)))))))) (m2 gMod (m2 gDiv (mVar 1) (mC (.int 8))) (mC (.int 6)))) (mA1 (m2 gIx (mVar 0) (mC (.int 1))) (mA1 (m2 gIx (mVar 0) (mC (.int 2))) (mA0)))))) (sNil)) (sSeq (sIf (mT (m2 gEq (mVar 2) (mC (.int 3)))) (sRet (mL gTup (mA1 (m2 gIx (mVar 0) (mC (.int 0))) (mA1 (m2 gIx (mVar 0) (mC (.int 1))) (mA1 (m2 gIx (mL gLst (mA1 (mC .non) (mA1 (mL gTuple (mA1 (m2 gIx (mVar 0) (mC (.int 2))) (mA0))) (mA1 (mC (.dK [] [])) (mA0))))) (m2 gMod (m2 gDiv (mVar 1) (mC (.int 8))) (mC (.int 3)))) (mA0)))))) (sNil)) (sSeq (sIf (mT (m2 gLt (mVar 2) (mC (.int 6)))) (sRet (mL gTup (mA1 (m2 gIx (mVar 0) (mC (.int 0))) (mA1 (m2 gIx (mVar 0) (mC (.int 1))) (mA1 (mArgs m__law_no_worths (mA1 (m2 gIx (mVar 0) (mC (.int 2))) (mA1 (m2 gDiv (mVar 1) (mC (.int 8))) (mA0)))) (mA0)))))) (sNil)) (sRet (mL gTup (mA1 (m2 gIx (mVar 0) (mC (.int 0))) (mA1 (mArgs m__law_no_names (mA1 (m2 gIx (mVar 0) (mC (.int 1))) (mA1 (m2 gDiv (mVar 1) (mC (.int 8))) (mA1 (mC (.int 8)) (mA0))))) (mA1 (m2 gIx (mVar 0) (mC (.int 2))) (mA0)))))))))))
def m__law_no_hand : List D → Res D := callM 3 b__law_no_hand
def b__law_no_hands : Rho → Out := sSeq (sSet 3 (m2 gMod (m2 gDiv (mVar 2) (mC (.int 8))) (mL gLen (mA1 (mVar 0) (mA0))))) (sSeq (sSet 4 (m2 gMod (mVar 2) (mC (.int 8)))) (sSeq (sIf (mT (m2 gEq (mVar 4) (mC (.int 0)))) (sRet (m2 gIx (mL gLst (mA1 (mL gLst (mA0)) (mA1 (mC .non) (mA1 (mL gTuple (mA1 (mVar 0) (mA0))) (mA1 (mC (.str "ab")) (mA0)))))) (m2 gMod (m2 gDiv (mVar 2) (mC (.int 64))) (mC (.int 4))))) (sNil)) (sSeq (sIf (mT (m2 gEq (mVar 4) (mC (.int 1)))) (sSeq (sSet 5 (m2 gMod (m2 gDiv (mVar 2) (mC (.int 512))) (m2 gAdd (mL gLen (mA1 (mVar 0) (mA0))) (mC (.int 1))))) (sRet (m2 gAdd (m2 gAdd (mSl (mVar 0) (oNo) (oYes (mVar 5))) (mL gLst (mA1 (mL gTup (mA1 (m2 gIx (m2 gIx (mVar 0) (mVar 3)) (mC (.int 0))) (mA1 (mL gLst (mA1 (mC (.str "x")) (mA0))) (mA1 (mL gLst (mA1 (mLc [11] (tgN 11) (iAny (mVar 1)) (tYesM) (mC (.int 0))) (mA0))) (mA0))))) (mA0)))) (mSl (mVar 0) (oYes (mVar 5)) (oNo))))) (sNil)) (sSeq (sIf (mT (m2 gEq (mVar 4) (mC (.int 2)))) (sRet (mLc [12] (tgN 12) (iAny (mL gLst (mA1 (mC (.str "a")) (mA1 (mC (.str "b")) (mA1 (mC (.str "c")) (mA1 (mC (.str "d")) (mA1 (mC (.str "e")) (mA0)))))))) (tYesM) (mL gTup (mA1 (mVar 12) (mA1 (mL gLst (mA1 (mC (.str "x")) (mA0))) (mA1 (mL gLst (mA1 (mLc [11] (tgN 11) (iAny (mVar 1)) (tYesM) (mC (.int 0))) (mA0))) (mA0))))))) (sNil)) (sSeq (sIf (mT (m2 gEq (mVar 4) (mC (.int 3)))) (sSeq (sSet 6 (m2 gIx (mL gLst (mA1 (mL gLst (mA1 (mC (.int 5)) (mA1 (mC (.int 4)) (mA1 (mC (.int 4)) (mA1 (mC (.int 4)) (mA0)))))) (mA1 (mL gLst (mA1 (mC (.int 4)) (mA1 (mC (.int 4)) (mA1 (mC (.int 4)) (mA1 (mC (.int 5)) (mA0)))))) (mA1 (mL gLst (mA1 (mC (.int 8)) (mA1 (mC (.int 8)) (mA1 (mC (.int 5)) (mA1 (mC (.int 1)) (mA0)))))) (mA1 (mL gLst (mA1 (mC (.int 7)) (mA1 (mC (.int 1)) (mA1 (mC (.int 5)) (mA1 (mC (.int 8)) (mA0)))))) (mA0)))))) (m2 gMod (m2 gDiv (mVar 2) (mC (.int 64))) (mC (.int 4))))) (sSeq (sSet 7 (mL gLst (mA0))) (sSeq (sFor (tgN 8) (iR1 (mC (.int 4))) (sSeq (sSet 9 (mLc [13] (tgN 13) (iR1 (m2 gIx (mVar 6) (mVar 8))) (tYesM) (m2 gIx (mC (.str "abcdefgh")) (mVar 13)))) (sApp 7 (pNil) (mL gTup (mA1 (m2 gIx (mC (.str "pqrs")) (mVar 8)) (mA1 (mVar 9) (mA1 (mLc [14] (tgN 14) (iAny (mVar 9)) (tYesM) (mLc [11] (tgN 11) (iAny (mVar 1)) (tYesM) (mC (.int 0)))) (mA0)))))))) (sRet (mVar 7))))) (sNil)) (sSeq (sIf (mT (m2 gEq (mVar 4) (mC (.int 4)))) (sSeq (sSet 9 (mLc [13] (tgN 13) (iR1 (mC (.int 9))) (tYesM) (m2 gIx (mC (.str "abcdefghi")) (mVar 13)))) (sSeq (sSet 10 (mLc [14] (tgN 14) (iAny (mVar 9)) (tYesM) (mL gList (mA1 (m2 gIx (m2 gIx (m2 gIx (mVar 0) (mVar 3)) (mC (.int 2))) (mC (.int 0))) (mA0))))) (sRet (m2 gAdd (m2 gAdd (mSl (mVar 0) (oNo) (oYes (mVar 3))) (mL gLst (mA1 (mL gTup (mA1 (m2 gIx (m2 gIx (mVar 0) (mVar 3)) (mC (.int 0))) (mA1 (mVar 9) (mA1 (mVar 10) (mA0))))) (mA0)))) (mSl (mVar 0) (oYes (m2 gAdd (mVar 3) (mC (.int 1)))) (oNo)))))) (sNil)) (sRet (m2 gAdd (m2 gAdd (mSl (mVar 0) (oNo) (oYes (mVar 3))) (mL gLst (mA1 (mArgs m__law_no_hand (mA1 (m2 gIx (mVar 0) (mVar 3)) (mA1 (m2 gDiv (mVar 2) (mC (.int 64))) (mA0)))) (mA0)))) (mSl (mVar 0) (oYes (m2 gAdd (mVar 3) (mC (.int 1)))) (oNo))))))))))
def m__law_no_hands : List D → Res D := callM 15 b__law_no_hands
def b__law_nine : Rho → Out := sSeq (sSet 1 (mL gLst (mA0))) (sSeq (sFor (tgT [2, 3, 4]) (iAny (mVar 0)) (sApp 1 (pNil) (mL gTup (mA1 (mVar 2) (mA1 (mVar 3) (mA1 (mLc [5] (tgN 5) (iAny (mVar 4)) (tYesM) (m2 gMul (mL gLst (mA1 (m2 gIx (mVar 5) (mC (.int 0))) (mA0))) (mC (.int 9)))) (mA0))))))) (sRet (mL gTup (mA1 (mLc [6] (tgN 6) (iR1 (mC (.int 9))) (tYesM) (m2 gIx (mC (.str "abcdefghi")) (mVar 6))) (mA1 (mVar 1) (mA0))))))
def m__law_nine : List D → Res D := callM 7 b__law_nine
def b_law_k33 : Rho → Out := sSeq (sAsg (tgT [1, 2]) (mArgs m__law_parts (mA1 (mVar 0) (mA1 (mL gLst (mA1 (mC (.int 8)) (mA1 (mC (.int 8)) (mA1 (mC (.int 6)) (mA1 (mC (.int 4)) (mA0)))))) (mA0))))) (sSeq (sSet 3 (m2 gMod (mArgs m__law_cell_at (mA1 (mVar 0) (mA1 (mC (.int 4)) (mA0)))) (m2 gPow (mC (.int 10)) (mC (.int 62))))) (sSeq (sSet 4 (m2 gEq (m2 gMod (mVar 3) (mC (.int 7))) (mC (.int 0)))) (sSeq (sIf (mT (m2 gEq (m2 gMod (mVar 3) (mC (.int 7))) (mC (.int 1)))) (sSet 1 (mArgs m__law_no_names (mA1 (mVar 1) (mA1 (m2 gDiv (mVar 3) (mC (.int 7))) (mA1 (mC (.int 8)) (mA0)))))) (sIf (mT (m2 gEq (m2 gMod (mVar 3) (mC (.int 7))) (mC (.int 2)))) (sAsg (tgT [1, 2]) (mArgs m__law_nine (mA1 (mVar 2) (mA0)))) (sIf (tNotM (mT (mVar 4))) (sSet 2 (mArgs m__law_no_hands (mA1 (mVar 2) (mA1 (mVar 1) (mA1 (m2 gDiv (mVar 3) (mC (.int 7))) (mA0)))))) (sNil)))) (sSeq (sSet 5 (mC .non)) (sSeq (sSet 6 (mC .non)) (sSeq (sTryA 7 "NoHouse" (sSet 5 (mArgs m_house_of_v2 (mA1 (mVar 1) (mA1 (mVar 2) (mA0))))) (sSet 6 (mL gLst (mA1 (mC (.bl true)) (mA1 (mC (.bl true)) (mA1 (mC (.bl false)) (mA1 (mC (.bl false)) (mA0)))))))) (sSeq (sIf (mT (mVar 4)) (sRet (mAnd (m1 (fun d => gIsN d .non) (mVar 6)) (mAnd (m1 (gIsi "tuple") (mVar 5)) (m2 gEq (m2 gIx (mVar 5) (mC (.int 0))) (mL gTuple (mA1 (mVar 1) (mA0))))))) (sNil)) (sRet (m2 gEq (mVar 6) (mL gLst (mA1 (mC (.bl true)) (mA1 (mC (.bl true)) (mA1 (mC (.bl false)) (mA1 (mC (.bl false)) (mA0)))))))))))))))
def m_law_k33 : List D → Res D := callM 8 b_law_k33
def b_asked : Rho → Out := sSeq (sIf (mT (m1 (fun d => gNotN d .non) (mArgs m_first_ring (mA1 (mVar 0) (mA1 (mVar 1) (mA0)))))) (sRaise "NoPays") (sNil)) (sSeq (sSet 3 (mL gLst (mA0))) (sSeq (sFor (tgN 4) (iR1 (mL gLen (mA1 (m2 gIx (mVar 0) (mC (.int 1))) (mA0)))) (sSeq (sSet 5 (mArgs m_grid_of (mA1 (mVar 0) (mA1 (mVar 1) (mA1 (mVar 4) (mA1 (m2 gAdd (mSl (mVar 2) (oNo) (oYes (mVar 4))) (mSl (mVar 2) (oYes (m2 gAdd (mVar 4) (mC (.int 1)))) (oNo))) (mA0))))))) (sApp 3 (pNil) (m2 gIx (m2 gIx (mArgs m_greatest (mA1 (mVar 5) (mA0))) (mC (.int 0))) (mMeth gIndex (m2 gIx (m2 gIx (m2 gIx (mVar 0) (mC (.int 1))) (mVar 4)) (mC (.int 1))) (m2 gIx (mVar 2) (mVar 4))))))) (sRet (mVar 3))))
def m_asked : List D → Res D := callM 6 b_asked
def b__law_refused_v3 : Rho → Out := sSeq (sSet 3 (mC .non)) (sSeq (sTryA 4 "NoPays" (sDo (mArgs m_asked (mA1 (mVar 0) (mA1 (mVar 1) (mA1 (mVar 2) (mA0)))))) (sSet 3 (mL gLst (mA1 (mC (.bl true)) (mA1 (mC (.bl true)) (mA1 (mC (.bl false)) (mA1 (mC (.bl false)) (mA0)))))))) (sRet (m2 gEq (mVar 3) (mL gLst (mA1 (mC (.bl true)) (mA1 (mC (.bl true)) (mA1 (mC (.bl false)) (mA1 (mC (.bl false)) (mA0)))))))))
def m__law_refused_v3 : List D → Res D := callM 5 b__law_refused_v3
def b__law_due_v2 : Rho → Out := sSeq (sSet 3 (mL gLst (mA0))) (sSeq (sFor (tgN 4) (iR1 (mL gLen (mA1 (mVar 0) (mA0)))) (sSeq (sSet 5 (mArgs m__law_grid_v2 (mA1 (mVar 0) (mA1 (mVar 1) (mA1 (mVar 4) (mA1 (m2 gAdd (mSl (mVar 2) (oNo) (oYes (mVar 4))) (mSl (mVar 2) (oYes (m2 gAdd (mVar 4) (mC (.int 1)))) (oNo))) (mA0))))))) (sSeq (sSet 6 (m2 gIx (mArgs m_greatest (mA1 (mVar 5) (mA0))) (mC (.int 0)))) (sSeq (sIf (tNotM (mT (mArgs m__law_honest_v3 (mA1 (mVar 5) (mA1 (mVar 6) (mA0)))))) (sRet (mC .non)) (sNil)) (sApp 3 (pNil) (m2 gIx (mVar 6) (mMeth gIndex (m2 gIx (m2 gIx (mVar 0) (mVar 4)) (mC (.int 1))) (m2 gIx (mVar 2) (mVar 4))))))))) (sRet (mVar 3)))
def m__law_due_v2 : List D → Res D := callM 7 b__law_due_v2
def b__law_told_v3 : Rho → Out := sSeq (sSet 5 (mArgs m_asked (mA1 (mVar 0) (mA1 (mVar 1) (mA1 (mVar 4) (mA0)))))) (sSeq (sIf (tOrM (tNotM (mT (m1 (gIsi "list") (mVar 5)))) (mT (m2 gGt (mL gLen (mA1 (mLc [6] (tgN 6) (iAny (mVar 5)) (tNotM (mT (mArgs m__law_whole (mA1 (mVar 6) (mA0))))) (mVar 6)) (mA0))) (mC (.int 0))))) (sRet (mC (.bl false))) (sNil)) (sRet (m2 gEq (mVar 5) (mArgs m__law_due_v2 (mA1 (mVar 2) (mA1 (mVar 3) (mA1 (mVar 4) (mA0))))))))
def m__law_told_v3 : List D → Res D := callM 7 b__law_told_v3
def b_law_k40 : Rho → Out := sSeq (sAsg (tgT [1, 2]) (mArgs m__law_parts (mA1 (mVar 0) (mA1 (mL gLst (mA1 (mC (.int 5)) (mA1 (mC (.int 3)) (mA1 (mC (.int 2)) (mA1 (mC (.int 2)) (mA0)))))) (mA0))))) (sSeq (sSet 3 (mArgs m_house_of (mA1 (mVar 1) (mA1 (mVar 2) (mA0))))) (sSeq (sSet 4 (mArgs m__law_places (mA1 (mVar 0) (mA1 (mVar 1) (mA1 (mVar 2) (mA0)))))) (sSeq (sSet 5 (mArgs m__law_table (mA1 (mVar 1) (mA1 (mVar 4) (mA0))))) (sSeq (sIf (mT (m2 gEq (m2 gIx (mArgs m_verdict (mA1 (mVar 3) (mA1 (mVar 5) (mA0)))) (mC (.int 0))) (mC (.str "ring")))) (sSeq (sForD 4 (tgN 6) (sIf (tNotM (mT (mArgs m__law_refused_v3 (mA1 (mVar 3) (mA1 (mVar 5) (mA1 (mVar 6) (mA0))))))) (sRet (mC (.bl false))) (sNil))) (sRet (mC (.bl true)))) (sNil)) (sSeq (sForD 4 (tgN 6) (sIf (tNotM (mT (mArgs m__law_told_v3 (mA1 (mVar 3) (mA1 (mVar 5) (mA1 (mVar 2) (mA1 (mVar 4) (mA1 (mVar 6) (mA0))))))))) (sRet (mC (.bl false))) (sNil))) (sRet (mC (.bl true))))))))
def m_law_k40 : List D → Res D := callM 7 b_law_k40
def b_greatest_v2 : Rho → Out := sSeq (sIf (mT (m1 (fun d => gNotN d .non) (mArgs m_ring (mA1 (mVar 0) (mA0))))) (sRaise "NoPays") (sNil)) (sSeq (sSet 1 (mL gLen (mA1 (mVar 0) (mA0)))) (sRet (mArgs m_settled (mA1 (mVar 0) (mA1 (mLc [2] (tgN 2) (iR1 (mVar 1)) (tYesM) (m2 gIx (m2 gIx (mVar 0) (mVar 2)) (mVar 2))) (mA1 (mLc [2] (tgN 2) (iR1 (mVar 1)) (tYesM) (mL gLst (mA1 (mVar 2) (mA0)))) (mA0)))))))
def m_greatest_v2 : List D → Res D := callM 3 b_greatest_v2
def b_least_v2 : Rho → Out := sSeq (sIf (mT (m1 (fun d => gNotN d .non) (mArgs m_ring (mA1 (mVar 0) (mA0))))) (sRaise "NoPays") (sNil)) (sSeq (sSet 1 (m2 gMul (mL gLst (mA1 (mC (.int 0)) (mA0))) (mL gLen (mA1 (mVar 0) (mA0))))) (sSeq (sSet 2 (mLc [4] (tgN 4) (iR1 (mL gLen (mA1 (mVar 0) (mA0)))) (tYesM) (mL gLst (mA1 (mVar 4) (mA0))))) (sSeq (sSet 3 (mC (.bl true))) (sSeq (whileF (mT (mVar 3)) (sSeq (sSet 3 (mC (.bl false))) (sFor (tgN 4) (iR1 (mL gLen (mA1 (mVar 0) (mA0)))) (sFor (tgN 5) (iR1 (mL gLen (mA1 (mVar 0) (mA0)))) (sIf (mT (m2 gGt (m2 gSub (m2 gIx (mVar 1) (mVar 5)) (mArgs m_turn (mA1 (mVar 0) (mA1 (mVar 4) (mA1 (mVar 5) (mA0)))))) (m2 gIx (mVar 1) (mVar 4)))) (sSeq (sPut 1 (pNil) (mVar 4) (m2 gSub (m2 gIx (mVar 1) (mVar 5)) (mArgs m_turn (mA1 (mVar 0) (mA1 (mVar 4) (mA1 (mVar 5) (mA0))))))) (sSeq (sPut 2 (pNil) (mVar 4) (m2 gAdd (mL gLst (mA1 (mVar 4) (mA0))) (m2 gIx (mVar 2) (mVar 5)))) (sSet 3 (mC (.bl true))))) (sNil))))) 100) (sRet (mL gTup (mA1 (mVar 1) (mA1 (mVar 2) (mA0)))))))))
def m_least_v2 : List D → Res D := callM 6 b_least_v2
def b__law_refused_v4 : Rho → Out := sSeq (sSet 2 (mL gTup (mA0))) (sSeq (sTryA 3 "NoPays" (sIf (mT (m2 gEq (mVar 0) (mC (.int 0)))) (sDo (mArgs m_greatest_v2 (mA1 (mVar 1) (mA0)))) (sDo (mArgs m_least_v2 (mA1 (mVar 1) (mA0))))) (sSeq (sSet 4 (mC (.bl false))) (sSet 2 (mL gTup (mA1 (mC (.bl true)) (mA1 (mC (.bl true)) (mA1 (mVar 4) (mA0)))))))) (sRet (mVar 2)))
def m__law_refused_v4 : List D → Res D := callM 5 b__law_refused_v4
def b__law_right : Rho → Out := sSeq (sSet 1 (mArgs m_ring (mA1 (mVar 0) (mA0)))) (sSeq (sSet 2 (mL gTup (mA0))) (sSeq (sIf (mT (m1 (fun d => gNotN d .non) (mVar 1))) (sSeq (sIf (tNotM (mT (mArgs m__law_ring (mA1 (mVar 0) (mA1 (mVar 1) (mA0)))))) (sRet (mC (.bl false))) (sNil)) (sSet 2 (mL gTup (mA1 (mC (.bl true)) (mA1 (mC (.bl true)) (mA1 (mC (.bl false)) (mA0))))))) (sNil)) (sRet (mAnd (m2 gEq (mArgs m__law_refused_v4 (mA1 (mC (.int 0)) (mA1 (mVar 0) (mA0)))) (mVar 2)) (m2 gEq (mArgs m__law_refused_v4 (mA1 (mC (.int 1)) (mA1 (mVar 0) (mA0)))) (mVar 2))))))
def m__law_right : List D → Res D := callM 3 b__law_right
def b_law_k16 : Rho → Out := sSeq (sSet 1 (m2 gAdd (mC (.int 2)) (m2 gMod (mArgs m__law_cell (mA1 (mVar 0) (mA1 (mC (.int 0)) (mA0)))) (mC (.int 6))))) (sSeq (sSet 2 (mArgs m__law_priced (mA1 (mVar 0) (mA1 (mVar 1) (mA0))))) (sSeq (sIf (tOrM (mT (m1 (fun d => gNotN d .non) (mShal 1 (mArgs m_ring (mA1 (mVar 2) (mA0)))))) (tNotM (mT (mStill (mArgs m__law_right (mA1 (mVar 2) (mA0))))))) (sRet (mC (.bl false))) (sNil)) (sSeq (sSet 3 (m1 gListRg (mVar 1))) (sSeq (sSet 4 (mL gLst (mA0))) (sSeq (sFor (tgN 5) (iR1 (m2 gAdd (mC (.int 2)) (m2 gMod (mArgs m__law_cell (mA1 (mVar 0) (mA1 (mC (.int 1)) (mA0)))) (m2 gSub (mVar 1) (mC (.int 1)))))) (sAppM 4 (mPopAt 3 (m2 gMod (m2 gDiv (mArgs m__law_cell (mA1 (mVar 0) (mA1 (m2 gAdd (mC (.int 58)) (m2 gMod (mVar 5) (mC (.int 5)))) (mA0)))) (m2 gAdd (mC (.int 1)) (m2 gMul (mC (.int 2)) (mVar 5)))) (mL gLen (mA1 (mVar 3) (mA0))))))) (sSeq (sSet 6 (m2 gSub (m2 gAdd (mStill (mArgs m__law_along (mA1 (mVar 2) (mA1 (m2 gAdd (mVar 4) (mL gLst (mA1 (m2 gIx (mVar 4) (mC (.int 0))) (mA0)))) (mA0))))) (m2 gMod (m2 gDiv (mArgs m__law_cell (mA1 (mVar 0) (mA1 (mC (.int 1)) (mA0)))) (mC (.int 7))) (mC (.int 3)))) (mC (.int 1)))) (sSeq (sSet 7 (m2 gIx (m2 gIx (mVar 2) (m2 gIx (mVar 4) (mC (.int 0)))) (m2 gIx (mVar 4) (m1 gNeg (mC (.int 1)))))) (sSeq (sPut 2 (pSnoc (pNil) (m2 gIx (mVar 4) (mC (.int 0)))) (m2 gIx (mVar 4) (m1 gNeg (mC (.int 1)))) (m2 gAdd (mVar 7) (mVar 6))) (sSeq (sIf (tAndM (mT (m2 gLt (mStill (mArgs m__law_along (mA1 (mVar 2) (mA1 (m2 gAdd (mVar 4) (mL gLst (mA1 (m2 gIx (mVar 4) (mC (.int 0))) (mA0)))) (mA0))))) (mC (.int 0)))) (mT (m1 (fun d => gIsN d .non) (mShal 1 (mArgs m_ring (mA1 (mVar 2) (mA0))))))) (sRet (mC (.bl false))) (sNil)) (sSeq (sIf (tNotM (mT (mStill (mArgs m__law_right (mA1 (mVar 2) (mA0)))))) (sRet (mC (.bl false))) (sNil)) (sSeq (sPut 2 (pSnoc (pNil) (m2 gIx (mVar 4) (mC (.int 0)))) (m2 gIx (mVar 4) (m1 gNeg (mC (.int 1)))) (mVar 7)) (sRet (mAnd (m1 (fun d => gIsN d .non) (mShal 1 (mArgs m_ring (mA1 (mVar 2) (mA0))))) (mStill (mArgs m__law_right (mA1 (mVar 2) (mA0)))))))))))))))))
def m_law_k16 : List D → Res D := callM 8 b_law_k16
def b_law_k35 : Rho → Out := sSeq (sAsg (tgT [1, 2]) (mArgs m__law_parts (mA1 (mVar 0) (mA1 (mL gLst (mA1 (mC (.int 8)) (mA1 (mC (.int 8)) (mA1 (mC (.int 4)) (mA1 (mC (.int 3)) (mA0)))))) (mA0))))) (sSeq (sSet 3 (mArgs m_house_of (mA1 (mVar 1) (mA1 (mVar 2) (mA0))))) (sSeq (sSet 4 (mArgs m_rows_of (mA1 (mVar 3) (mA0)))) (sSeq (sFor (tgN 5) (iR1 (mL gLen (mA1 (mVar 2) (mA0)))) (sSeq (sSet 6 (mC (.dT [] []))) (sSeq (sFor (tgN 7) (iAny (mArgs m_others_of (mA1 (mVar 3) (mA1 (mVar 5) (mA0))))) (sFor (tgN 8) (iAny (m2 gIx (m2 gIx (mVar 2) (mVar 5)) (mC (.int 1)))) (sSeq (sSet 9 (mArgs m_row_with (mA1 (mVar 7) (mA1 (mVar 5) (mA1 (mVar 8) (mA0)))))) (sSeq (sIf (tOrM (tNotM (mT (m1 (gIsi "tuple") (mVar 9)))) (tOrM (mT (m2 gIn (mVar 9) (mVar 6))) (mT (m2 gNe (m2 gIx (mVar 9) (mVar 5)) (mVar 8))))) (sRet (mC (.bl false))) (sNil)) (sSeq (sIf (mT (m2 gNe (m2 gAdd (mSl (mVar 9) (oNo) (oYes (mVar 5))) (mSl (mVar 9) (oYes (m2 gAdd (mVar 5) (mC (.int 1)))) (oNo))) (mVar 7))) (sRet (mC (.bl false))) (sNil)) (sPutD 6 (pNil) (mVar 9) (mC (.bl true)))))))) (sSeq (sFor (tgN 9) (iAny (mVar 4)) (sIf (mT (m2 gNin (mVar 9) (mVar 6))) (sRet (mC (.bl false))) (sNil))) (sIf (mT (m2 gNe (mL gLen (mA1 (mVar 6) (mA0))) (mL gLen (mA1 (mVar 4) (mA0))))) (sRet (mC (.bl false))) (sNil)))))) (sRet (mC (.bl true))))))
def m_law_k35 : List D → Res D := callM 10 b_law_k35
def b_crossed_v2 : Rho → Out := sSeq (sSet 1 (mL gLst (mA1 (mL gTup (mA0)) (mA0)))) (sSeq (sFor (tgN 2) (iAny (mVar 0)) (sSeq (sSet 3 (mL gLst (mA0))) (sSeq (sFor (tgN 4) (iAny (mVar 1)) (sFor (tgN 5) (iAny (mVar 2)) (sApp 3 (pNil) (m2 gAdd (mVar 4) (mL gTup (mA1 (mVar 5) (mA0))))))) (sMv 1 3)))) (sRet (mVar 1)))
def m_crossed_v2 : List D → Res D := callM 6 b_crossed_v2
def b_rows_of_v2 : Rho → Out := sRet (mArgs m_crossed_v2 (mA1 (mLc [1] (tgN 1) (iAny (m2 gIx (mVar 0) (mC (.int 1)))) (tYesM) (m2 gIx (mVar 1) (mC (.int 1)))) (mA0)))
def m_rows_of_v2 : List D → Res D := callM 2 b_rows_of_v2
def b_others_of_v2 : Rho → Out := sRet (mArgs m_crossed_v2 (mA1 (mLc [2] (tgN 2) (iR1 (mL gLen (mA1 (m2 gIx (mVar 0) (mC (.int 1))) (mA0)))) (mT (m2 gNe (mVar 2) (mVar 1))) (m2 gIx (m2 gIx (m2 gIx (mVar 0) (mC (.int 1))) (mVar 2)) (mC (.int 1)))) (mA0)))
def m_others_of_v2 : List D → Res D := callM 3 b_others_of_v2
def b__law_in_order : Rho → Out := sSeq (sSet 2 (mC (.int 1))) (sSeq (sFor (tgN 3) (iAny (mVar 1)) (sSet 2 (m2 gMul (mVar 2) (mL gLen (mA1 (mVar 3) (mA0)))))) (sSeq (sIf (tOrM (tNotM (mT (m1 (gIsi "list") (mVar 0)))) (mT (m2 gNe (mL gLen (mA1 (mVar 0) (mA0))) (mVar 2)))) (sRet (mC (.bl false))) (sNil)) (sSeq (sFor (tgN 4) (iR1 (mVar 2)) (sSeq (sSet 5 (mVar 4)) (sSeq (sIf (tOrM (tNotM (mT (m1 (gIsi "tuple") (m2 gIx (mVar 0) (mVar 4))))) (mT (m2 gNe (mL gLen (mA1 (m2 gIx (mVar 0) (mVar 4)) (mA0))) (mL gLen (mA1 (mVar 1) (mA0)))))) (sRet (mC (.bl false))) (sNil)) (sFor (tgN 6) (iR3 (m2 gSub (mL gLen (mA1 (mVar 1) (mA0))) (mC (.int 1))) (m1 gNeg (mC (.int 1))) (m1 gNeg (mC (.int 1)))) (sSeq (sAsg (tgT [5, 7]) (mL gDivmod (mA1 (mVar 5) (mA1 (mL gLen (mA1 (m2 gIx (mVar 1) (mVar 6)) (mA0))) (mA0))))) (sIf (mT (m2 gNe (m2 gIx (m2 gIx (mVar 0) (mVar 4)) (mVar 6)) (m2 gIx (m2 gIx (mVar 1) (mVar 6)) (mVar 7)))) (sRet (mC (.bl false))) (sNil))))))) (sRet (mC (.bl true))))))
def m__law_in_order : List D → Res D := callM 8 b__law_in_order
def b_law_k34 : Rho → Out := sSeq (sAsg (tgT [1, 2]) (mArgs m__law_parts (mA1 (mVar 0) (mA1 (mL gLst (mA1 (mC (.int 8)) (mA1 (mC (.int 8)) (mA1 (mC (.int 6)) (mA1 (mC (.int 4)) (mA0)))))) (mA0))))) (sSeq (sSet 3 (mArgs m_house_of (mA1 (mVar 1) (mA1 (mVar 2) (mA0))))) (sSeq (sSet 4 (mLc [8] (tgN 8) (iAny (mVar 2)) (tYesM) (m2 gIx (mVar 8) (mC (.int 1))))) (sSeq (sSet 5 (mArgs m_rows_of_v2 (mA1 (mVar 3) (mA0)))) (sSeq (sIf (tNotM (mT (mStill (mArgs m__law_in_order (mA1 (mVar 5) (mA1 (mVar 4) (mA0))))))) (sRet (mC (.bl false))) (sNil)) (sSeq (sMut 5 (pNil) nClr) (sSeq (sFor (tgN 6) (iR1 (mL gLen (mA1 (mVar 2) (mA0)))) (sSeq (sSet 7 (m2 gAdd (mSl (mVar 4) (oNo) (oYes (mVar 6))) (mSl (mVar 4) (oYes (m2 gAdd (mVar 6) (mC (.int 1)))) (oNo)))) (sSeq (sSet 5 (mArgs m_others_of_v2 (mA1 (mVar 3) (mA1 (mVar 6) (mA0))))) (sSeq (sIf (tNotM (mT (mStill (mArgs m__law_in_order (mA1 (mVar 5) (mA1 (mVar 7) (mA0))))))) (sRet (mC (.bl false))) (sNil)) (sSeq (sApp 5 (pNil) (mL gTup (mA1 (mC (.str "x")) (mA0)))) (sIf (tNotM (mT (mArgs m__law_in_order (mA1 (mArgs m_others_of_v2 (mA1 (mVar 3) (mA1 (mVar 6) (mA0)))) (mA1 (mVar 7) (mA0)))))) (sRet (mC (.bl false))) (sNil))))))) (sRet (mArgs m__law_in_order (mA1 (mArgs m_rows_of_v2 (mA1 (mVar 3) (mA0))) (mA1 (mVar 4) (mA0)))))))))))
def m_law_k34 : List D → Res D := callM 9 b_law_k34
end TW

-- Row_k34
set_option maxHeartbeats 4000000
namespace Lk34
open PySem PySem.Spec PyProof.Rows L2 TW
def topS (i : Nat) : Stmt := PySem.Challenge.pw_trueword_k34_rows_in_order.main.body.getD i (.Pass ⟨0, 0, 0, 0⟩)
abbrev s_is_name : Stmt := topS 5
abbrev N_is_name : List Str := ["thing", "sign"]
theorem sc_is_name : FnScope N_is_name ["thing"] (defScope s_is_name) := ⟨rfl, rfl, rfl, by decide +kernel, rfl, by decide +kernel, by decide +kernel⟩
abbrev s_are_names : Stmt := topS 6
abbrev N_are_names : List Str := ["thing", "top", "one"]
theorem sc_are_names : FnScope N_are_names ["thing", "top"] (defScope s_are_names) := ⟨rfl, rfl, rfl, by decide +kernel, rfl, by decide +kernel, by decide +kernel⟩
abbrev s_is_worth : Stmt := topS 7
abbrev N_is_worth : List Str := ["thing"]
theorem sc_is_worth : FnScope N_is_worth ["thing"] (defScope s_is_worth) := ⟨rfl, rfl, rfl, by decide +kernel, rfl, by decide +kernel, by decide +kernel⟩
abbrev s_are_worths : Stmt := topS 8
abbrev N_are_worths : List Str := ["thing", "words", "outcomes", "row", "number"]
theorem sc_are_worths : FnScope N_are_worths ["thing", "words", "outcomes"] (defScope s_are_worths) := ⟨rfl, rfl, rfl, by decide +kernel, rfl, by decide +kernel, by decide +kernel⟩
abbrev s_is_hand : Stmt := topS 9
abbrev N_is_hand : List Str := ["thing", "outcomes"]
theorem sc_is_hand : FnScope N_is_hand ["thing", "outcomes"] (defScope s_is_hand) := ⟨rfl, rfl, rfl, by decide +kernel, rfl, by decide +kernel, by decide +kernel⟩
abbrev s_house_of : Stmt := topS 10
abbrev N_house_of : List Str := ["outcomes", "hands", "many", "made", "hand", "row"]
theorem sc_house_of : FnScope N_house_of ["outcomes", "hands"] (defScope s_house_of) := ⟨rfl, rfl, rfl, by decide +kernel, rfl, by decide +kernel, by decide +kernel⟩
abbrev s_crossed : Stmt := topS 11
abbrev N_crossed : List Str := ["lists", "rows", "words", "longer", "row", "word"]
theorem sc_crossed : FnScope N_crossed ["lists"] (defScope s_crossed) := ⟨rfl, rfl, rfl, by decide +kernel, rfl, by decide +kernel, by decide +kernel⟩
abbrev s_rows_of : Stmt := topS 12
abbrev N_rows_of : List Str := ["house", "hand"]
theorem sc_rows_of : FnScope N_rows_of ["house"] (defScope s_rows_of) := ⟨rfl, rfl, rfl, by decide +kernel, rfl, by decide +kernel, by decide +kernel⟩
abbrev s_others_of : Stmt := topS 13
abbrev N_others_of : List Str := ["house", "k", "j"]
theorem sc_others_of : FnScope N_others_of ["house", "k"] (defScope s_others_of) := ⟨rfl, rfl, rfl, by decide +kernel, rfl, by decide +kernel, by decide +kernel⟩
abbrev s__law_cell_at : Stmt := topS 15
abbrev N__law_cell_at : List Str := ["script", "k"]
theorem sc__law_cell_at : FnScope N__law_cell_at ["script", "k"] (defScope s__law_cell_at) := ⟨rfl, rfl, rfl, by decide +kernel, rfl, by decide +kernel, by decide +kernel⟩
abbrev s__law_pool : Stmt := topS 16
abbrev N__law_pool : List Str := ["cell", "many", "letters", "number", "filler", "begin", "step", "size", "place", "front", "back", "k"]
theorem sc__law_pool : FnScope N__law_pool ["cell", "many"] (defScope s__law_pool) := ⟨rfl, rfl, rfl, by decide +kernel, rfl, by decide +kernel, by decide +kernel⟩
abbrev s__law_drawn : Stmt := topS 17
abbrev N__law_drawn : List Str := ["script", "k", "many", "cell", "number"]
theorem sc__law_drawn : FnScope N__law_drawn ["script", "k"] (defScope s__law_drawn) := ⟨rfl, rfl, rfl, by decide +kernel, rfl, by decide +kernel, by decide +kernel⟩
abbrev s__law_worth : Stmt := topS 18
abbrev N__law_worth : List Str := ["cell"]
theorem sc__law_worth : FnScope N__law_worth ["cell"] (defScope s__law_worth) := ⟨rfl, rfl, rfl, by decide +kernel, rfl, by decide +kernel, by decide +kernel⟩
abbrev s__law_parts : Stmt := topS 19
abbrev N__law_parts : List Str := ["script", "tops", "first", "shape", "outcomes", "hands", "k", "j", "size", "words", "worths", "word", "i"]
theorem sc__law_parts : FnScope N__law_parts ["script", "tops"] (defScope s__law_parts) := ⟨rfl, rfl, rfl, by decide +kernel, rfl, by decide +kernel, by decide +kernel⟩
abbrev s__law_in_order : Stmt := topS 20
abbrev N__law_in_order : List Str := ["found", "lists", "many", "words", "k", "rest", "j", "place"]
theorem sc__law_in_order : FnScope N__law_in_order ["found", "lists"] (defScope s__law_in_order) := ⟨rfl, rfl, rfl, by decide +kernel, rfl, by decide +kernel, by decide +kernel⟩
abbrev s_law : Stmt := topS 21
abbrev N_law : List Str := ["script", "outcomes", "hands", "house", "lists", "found", "k", "others", "hand"]
theorem sc_law : FnScope N_law ["script"] (defScope s_law) := ⟨rfl, rfl, rfl, by decide +kernel, rfl, by decide +kernel, by decide +kernel⟩
section
variable {P : Program} {w : World} {K : PySem.W.Frag} {mg : Str → Option Value} {base : Heap}
theorem ok_is_name {f : Addr} {fd : FuncData} (F : Fun K "is_name" "is_name" s_is_name f fd) (z_isinstance : mg "isinstance" = none) (z_len : mg "len" = none) (z_str : mg "str" = none) (q_LETTERS : CstG mg "LETTERS" (.str "abcdefghijklmnopqrstuvwxyz")) : FnOk P w K mg base (L2.CX P w) 1 f fd ["thing"] (spM K mg 0 1 m_is_name) :=
  mk_ok (k := 0) (n := 0) (N := N_is_name) (m := b_is_name) (Γ := [0, 0]) (Γ' := [0, 0]) F sc_is_name rfl (by decide) (fun cdv A outer s H E hr =>
    rss_cons (Γ1 := [0, 0]) (rs_if (RW.t (rw_or (rt_not (rt_val (n1 := 0) (f1 := true) (re_isi z_isinstance z_str boot_str (RE.b (n := 0) (fr := true) (re_v (pv 0)))))) (rw_or1 (rt_not (rt_chain op_le op_le bf_le bf_le (re_int) (re_len z_len (rab_cons (RE.b (n := 0) (fr := true) (re_v (pv 0))) (rab_nil))) (re_int)))))) (rss_one (rs_ret (re_bl))) (rss_nil))
    (rss_cons (Γ1 := [0, 0]) (rs_for (passes_of rfl) rfl (ri_any (re_v (pv 0))) (rg_n sc_is_name.nd (.inl rfl)) (rss_one (rs_if (rt_nin (n1 := 0) (f1 := true) (n2 := 0) (f2 := true) (units65 hr) (re_v (pv 1)) (re_glob q_LETTERS)) (rss_one (rs_ret (re_bl))) (rss_nil))))
    (rss_one (rs_ret (re_bl)))))
theorem ok_are_names {f : Addr} {fd : FuncData} (F : Fun K "are_names" "are_names" s_are_names f fd) (z_isinstance : mg "isinstance" = none) (z_len : mg "len" = none) (z_list : mg "list" = none) (z_set : mg "set" = none) (g_is_name : FnG P w K mg base "is_name" 1 0 1 m_is_name) : FnOk P w K mg base (L2.CX P w) 2 f fd ["thing", "top"] (spM K mg 0 2 m_are_names) :=
  mk_ok (k := 1) (n := 0) (N := N_are_names) (m := b_are_names) (Γ := [0, 0, 0]) (Γ' := [0, 0, 0]) F sc_are_names rfl (by decide) (fun cdv A outer s H E hr =>
    rss_cons (Γ1 := [0, 0, 0]) (rs_if (RW.t (rw_or (rt_not (rt_val (n1 := 0) (f1 := true) (re_isi z_isinstance z_list boot_list (RE.b (n := 0) (fr := true) (re_v (pv 0)))))) (rw_or1 (rt_not (rt_chain op_le op_le bf_le bf_le (re_int) (re_len z_len (rab_cons (RE.b (n := 0) (fr := true) (re_v (pv 0))) (rab_nil))) (re_v (pv 1))))))) (rss_one (rs_ret (re_bl))) (rss_nil))
    (rss_cons (Γ1 := [0, 0, 0]) (rs_for (passes_of rfl) rfl (ri_any (re_v (pv 0))) (rg_n sc_are_names.nd (.inl rfl)) (rss_one (rs_if (rt_not (rt_val (n1 := 0) (f1 := true) (re_call (n := 0) (g_is_name.mono (by decide)) hr (takes_of rfl rfl rfl rfl) (ra_cons (re_v (pv 2)) (ra_nil))))) (rss_one (rs_ret (re_bl))) (rss_nil))))
    (rss_one (rs_ret (re_eq (n1 := 0) (f1 := true) (n2 := 0) (f2 := true) hr.units (re_lenSetT z_len z_set (RE.b (n := 0) (fr := true) (re_v (pv 0)))) (re_len z_len (rab_cons (RE.b (n := 0) (fr := true) (re_v (pv 0))) (rab_nil))))))))
theorem ok_is_worth {f : Addr} {fd : FuncData} (F : Fun K "is_worth" "is_worth" s_is_worth f fd) (z_bool : mg "bool" = none) (z_int : mg "int" = none) (z_isinstance : mg "isinstance" = none) : FnOk P w K mg base (L2.CX P w) 1 f fd ["thing"] (spM K mg 0 1 m_is_worth) :=
  mk_ok (k := 0) (n := 0) (N := N_is_worth) (m := b_is_worth) (Γ := [0]) (Γ' := [0]) F sc_is_worth rfl (by decide) (fun cdv A outer s H E hr =>
    rss_one (rs_ret (re_and (n1 := 0) (f1 := true) (re_isi z_isinstance z_int boot_int (RE.b (n := 0) (fr := true) (re_v (pv 0)))) (re_and (n1 := 0) (f1 := true) (re_not (n1 := 0) (f1 := true) (re_isi z_isinstance z_bool boot_bool (RE.b (n := 0) (fr := true) (re_v (pv 0))))) (re_one (re_chain op_lt op_lt bf_lt bf_lt (re_sub (re_int) (re_pow (re_int) (re_int))) (re_v (pv 0)) (re_pow (re_int) (re_int))))))))
theorem ok_are_worths {f : Addr} {fd : FuncData} (F : Fun K "are_worths" "are_worths" s_are_worths f fd) (z_isinstance : mg "isinstance" = none) (z_len : mg "len" = none) (z_list : mg "list" = none) (g_is_worth : FnG P w K mg base "is_worth" 1 0 1 m_is_worth) : FnOk P w K mg base (L2.CX P w) 2 f fd ["thing", "words", "outcomes"] (spM K mg 0 3 m_are_worths) :=
  mk_ok (k := 1) (n := 0) (N := N_are_worths) (m := b_are_worths) (Γ := [0, 0, 0, 0, 0]) (Γ' := [0, 0, 0, 0, 0]) F sc_are_worths rfl (by decide) (fun cdv A outer s H E hr =>
    rss_cons (Γ1 := [0, 0, 0, 0, 0]) (rs_if (RW.t (rw_or (rt_not (rt_val (n1 := 0) (f1 := true) (re_isi z_isinstance z_list boot_list (RE.b (n := 0) (fr := true) (re_v (pv 0)))))) (rw_or1 (rt_ne (n1 := 0) (f1 := true) (n2 := 0) (f2 := true) hr.units (re_len z_len (rab_cons (RE.b (n := 0) (fr := true) (re_v (pv 0))) (rab_nil))) (re_v (pv 1)))))) (rss_one (rs_ret (re_bl))) (rss_nil))
    (rss_cons (Γ1 := [0, 0, 0, 0, 0]) (rs_for (passes_of rfl) rfl (ri_any (re_v (pv 0))) (rg_n sc_are_worths.nd (.inl rfl)) (rss_cons (Γ1 := [0, 0, 0, 0, 0]) (rs_if (RW.t (rw_or (rt_not (rt_val (n1 := 0) (f1 := true) (re_isi z_isinstance z_list boot_list (RE.b (n := 0) (fr := true) (re_v (pv 3)))))) (rw_or1 (rt_ne (n1 := 0) (f1 := true) (n2 := 0) (f2 := true) hr.units (re_len z_len (rab_cons (RE.b (n := 0) (fr := true) (re_v (pv 3))) (rab_nil))) (re_v (pv 2)))))) (rss_one (rs_ret (re_bl))) (rss_nil))
    (rss_one (rs_for (passes_of rfl) rfl (ri_any (re_v (pv 3))) (rg_n sc_are_worths.nd (.inl rfl)) (rss_one (rs_if (rt_not (rt_val (n1 := 0) (f1 := true) (re_call (n := 0) (g_is_worth.mono (by decide)) hr (takes_of rfl rfl rfl rfl) (ra_cons (re_v (pv 4)) (ra_nil))))) (rss_one (rs_ret (re_bl))) (rss_nil)))))))
    (rss_one (rs_ret (re_bl)))))
theorem ok_is_hand {f : Addr} {fd : FuncData} (F : Fun K "is_hand" "is_hand" s_is_hand f fd) (z_isinstance : mg "isinstance" = none) (z_len : mg "len" = none) (z_tuple : mg "tuple" = none) (g_are_names : FnG P w K mg base "are_names" 2 0 2 m_are_names) (g_are_worths : FnG P w K mg base "are_worths" 2 0 3 m_are_worths) (g_is_name : FnG P w K mg base "is_name" 1 0 1 m_is_name) : FnOk P w K mg base (L2.CX P w) 3 f fd ["thing", "outcomes"] (spM K mg 0 2 m_is_hand) :=
  mk_ok (k := 2) (n := 0) (N := N_is_hand) (m := b_is_hand) (Γ := [0, 0]) (Γ' := [0, 0]) F sc_is_hand rfl (by decide) (fun cdv A outer s H E hr =>
    rss_cons (Γ1 := [0, 0]) (rs_if (RW.t (rw_or (rt_not (rt_val (n1 := 0) (f1 := true) (re_isi z_isinstance z_tuple boot_tuple (RE.b (n := 0) (fr := true) (re_v (pv 0)))))) (rw_or1 (rt_ne (n1 := 0) (f1 := true) (n2 := 0) (f2 := true) hr.units (re_len z_len (rab_cons (RE.b (n := 0) (fr := true) (re_v (pv 0))) (rab_nil))) (re_int))))) (rss_one (rs_ret (re_bl))) (rss_nil))
    (rss_cons (Γ1 := [0, 0]) (rs_if (RW.t (rw_or (rt_not (rt_val (n1 := 0) (f1 := true) (re_call (n := 0) (g_is_name.mono (by decide)) hr (takes_of rfl rfl rfl rfl) (ra_cons (re_ix (hu_of hr) (re_v (pv 0)) (re_int)) (ra_nil))))) (rw_or1 (rt_not (rt_val (n1 := 0) (f1 := true) (re_call (n := 0) (g_are_names.mono (by decide)) hr (takes_of rfl rfl rfl rfl) (ra_cons (re_ix (hu_of hr) (re_v (pv 0)) (re_int)) (ra_cons (re_int) (ra_nil))))))))) (rss_one (rs_ret (re_bl))) (rss_nil))
    (rss_one (rs_ret (re_call (n := 0) (g_are_worths.mono (by decide)) hr (takes_of rfl rfl rfl rfl) (ra_cons (re_ix (hu_of hr) (re_v (pv 0)) (re_int)) (ra_cons (re_len z_len (rab_cons (RE.b (n := 0) (fr := true) (re_ix (hu_of hr) (re_v (pv 0)) (re_int))) (rab_nil))) (ra_cons (re_v (pv 1)) (ra_nil)))))))))
theorem ok_house_of {f : Addr} {fd : FuncData} (F : Fun K "house_of" "house_of" s_house_of f fd) (z_isinstance : mg "isinstance" = none) (z_len : mg "len" = none) (z_list : mg "list" = none) (z_set : mg "set" = none) (z_tuple : mg "tuple" = none) (g_are_names : FnG P w K mg base "are_names" 2 0 2 m_are_names) (g_is_hand : FnG P w K mg base "is_hand" 3 0 2 m_is_hand) : FnOk P w K mg base (L2.CX P w) 4 f fd ["outcomes", "hands"] (spM K mg 0 2 m_house_of) :=
  mk_ok (k := 3) (n := 0) (N := N_house_of) (m := b_house_of) (Γ := [0, 0, 0, 0, 0, 0]) (Γ' := [0, 0, 0, 0, 0, 0]) F sc_house_of rfl (by decide) (fun cdv A outer s H E hr =>
    rss_cons (Γ1 := [0, 0, 0, 0, 0, 0]) (rs_if (rt_not (rt_val (n1 := 0) (f1 := true) (re_call (n := 0) (g_are_names.mono (by decide)) hr (takes_of rfl rfl rfl rfl) (ra_cons (re_v (pv 0)) (ra_cons (re_int) (ra_nil)))))) (rss_one (rs_dead)) (rss_nil))
    (rss_cons (Γ1 := [0, 0, 0, 0, 0, 0]) (rs_if (RW.t (rw_or (rt_not (rt_val (n1 := 0) (f1 := true) (re_isi z_isinstance z_list boot_list (RE.b (n := 0) (fr := true) (re_v (pv 1)))))) (rw_or1 (rt_not (rt_chain op_le op_le bf_le bf_le (re_int) (re_len z_len (rab_cons (RE.b (n := 0) (fr := true) (re_v (pv 1))) (rab_nil))) (re_int)))))) (rss_one (rs_dead)) (rss_nil))
    (rss_cons (Γ1 := [0, 0, 0, 0, 0, 0]) (rs_set (k := 0) (re_int) sc_house_of.nd (.inl rfl))
    (rss_cons (Γ1 := [0, 0, 0, 1, 0, 0]) (rs_set (k := 1) (re_lst (ra_nil)) sc_house_of.nd (.inl rfl))
    (rss_cons (Γ1 := [0, 0, 0, 1, 0, 0]) (rs_for (passes_of rfl) rfl (ri_any (re_v (pv 1))) (rg_n sc_house_of.nd (.inl rfl)) (rss_cons (Γ1 := [0, 0, 0, 1, 0, 0]) (rs_if (rt_not (rt_val (n1 := 0) (f1 := true) (re_call (n := 0) (g_is_hand.mono (by decide)) hr (takes_of rfl rfl rfl rfl) (ra_cons (re_v (pv 4)) (ra_cons (re_len z_len (rab_cons (RE.b (n := 0) (fr := true) (re_v (pv 0))) (rab_nil))) (ra_nil)))))) (rss_one (rs_dead)) (rss_nil))
    (rss_cons (Γ1 := [0, 0, 0, 1, 0, 0]) (rs_set (k := 0) (re_mul (re_v (pv 2)) (re_len z_len (rab_cons (RE.b (n := 0) (fr := true) (re_ix (hu_of hr) (re_v (pv 4)) (re_int))) (rab_nil)))) sc_house_of.nd (.inl rfl))
    (rss_one (rs_app (rp_var (pv 3)) (re_tup (ra_cons (re_ix (hu_of hr) (re_v (pv 4)) (re_int)) (ra_cons (re_tupleF z_tuple (ra_cons (re_ix (hu_of hr) (re_v (pv 4)) (re_int)) (ra_nil))) (ra_cons (re_tuple z_tuple (ra_cons ((RE.w (n := 1) (re_lc (n := 0) (own := [("row", 5)]) rfl sc_house_of.nd (ri_any (re_ix (hu_of hr) (re_v (pv 4)) (re_int))) (blkOk_by (own := [("row", 5)]) (N := N_house_of) (sc := defScope s_house_of) (by decide +kernel)) (fun _ _ _ _ _ => rgw_n sc_house_of.nd (.inl rfl)) (fun _ _ _ _ _ => rts_nil) (fun _ _ _ _ _ => re_tuple z_tuple (ra_cons (re_v (pv 5)) (ra_nil)))))) (ra_nil))) (ra_nil))))))))))
    (rss_frz 3 (rss_cons (Γ1 := [0, 0, 0, 0, 0, 0]) (rs_if (RW.t (rw_or (rt_gt (n1 := 0) (f1 := true) (n2 := 0) (f2 := true) (re_v (pv 2)) (re_int)) (rw_or1 (rt_ne (n1 := 0) (f1 := true) (n2 := 0) (f2 := true) hr.units (re_lenSetT z_len z_set (RE.b (n := 0) (fr := true) ((RE.w (n := 1) (re_lc (n := 0) (own := [("hand", 4)]) rfl sc_house_of.nd (ri_any (re_v (pv 3))) (blkOk_by (own := [("hand", 4)]) (N := N_house_of) (sc := defScope s_house_of) (by decide +kernel)) (fun _ _ _ _ _ => rgw_n sc_house_of.nd (.inl rfl)) (fun _ _ _ _ _ => rts_nil) (fun _ _ _ _ _ => re_ix (hu_of hr) (re_v (pv 4)) (re_int))))))) (re_len z_len (rab_cons (RE.b (n := 0) (fr := true) (re_v (pv 3))) (rab_nil))))))) (rss_one (rs_dead)) (rss_nil))
    (rss_one (rs_ret (re_tup (ra_cons (re_tupleF z_tuple (ra_cons (re_v (pv 0)) (ra_nil))) (ra_cons (re_tuple z_tuple (ra_cons (re_v (pv 3)) (ra_nil))) (ra_nil)))))))))))))
theorem ok_crossed {f : Addr} {fd : FuncData} (F : Fun K "crossed" "crossed" s_crossed f fd) : FnOk P w K mg base (L2.CX P w) 1 f fd ["lists"] (spM K mg 1 1 m_crossed_v2) :=
  mk_ok (k := 0) (n := 1) (N := N_crossed) (m := b_crossed_v2) (Γ := [0, 0, 0, 0, 0, 0]) (Γ' := [0, 0, 0, 0, 0, 0]) F sc_crossed rfl (by decide) (fun cdv A outer s H E hr =>
    rss_cons (Γ1 := [0, 1, 0, 0, 0, 0]) (rs_set (k := 1) (re_lst (ra_cons (re_tup (ra_nil)) (ra_nil))) sc_crossed.nd (.inl rfl))
    (rss_cons (Γ1 := [0, 1, 0, 0, 0, 0]) (rs_for (passes_of rfl) rfl (ri_any (re_v (pv 0))) (rg_n sc_crossed.nd (.inl rfl)) (rss_fz (Γ1 := [0, 1, 0, 1, 0, 0]) 3 (rss_cons (Γ1 := [0, 1, 0, 1, 0, 0]) (rs_set (k := 1) (re_lst (ra_nil)) sc_crossed.nd (.inl rfl))
    (rss_frz 1 (rss_cons (Γ1 := [0, 0, 0, 1, 0, 0]) (rs_for (passes_of rfl) rfl (ri_any (re_v (pv 1))) (rg_n sc_crossed.nd (.inl rfl)) (rss_one (rs_for (passes_of rfl) rfl (ri_any (re_v (pv 2))) (rg_n sc_crossed.nd (.inl rfl)) (rss_one (rs_app (rp_var (pv 3)) (re_add (re_v (pv 4)) (re_tup (ra_cons (re_v (pv 5)) (ra_nil)))))))))
    (rss_one (rs_mv (pv 3) sc_crossed.nd (.inl rfl))))))))
    (rss_one (rs_retO (pv 1)))))
theorem ok_rows_of {f : Addr} {fd : FuncData} (F : Fun K "rows_of" "rows_of" s_rows_of f fd) (g_crossed : FnG P w K mg base "crossed" 1 1 1 m_crossed_v2) : FnOk P w K mg base (L2.CX P w) 2 f fd ["house"] (spM K mg 1 1 m_rows_of_v2) :=
  mk_ok (k := 1) (n := 1) (N := N_rows_of) (m := b_rows_of_v2) (Γ := [0, 0]) (Γ' := [0, 0]) F sc_rows_of rfl (by decide) (fun cdv A outer s H E hr =>
    rss_one (rs_ret (re_call (n := 1) (g_crossed.mono (by decide)) hr (takes_of rfl rfl rfl rfl) (ra_cons ((RE.w (n := 1) (re_lc (n := 0) (own := [("hand", 1)]) rfl sc_rows_of.nd (ri_any (re_ix (hu_of hr) (re_v (pv 0)) (re_int))) (blkOk_by (own := [("hand", 1)]) (N := N_rows_of) (sc := defScope s_rows_of) (by decide +kernel)) (fun _ _ _ _ _ => rgw_n sc_rows_of.nd (.inl rfl)) (fun _ _ _ _ _ => rts_nil) (fun _ _ _ _ _ => re_ix (hu_of hr) (re_v (pv 1)) (re_int))))) (ra_nil)))))
theorem ok_others_of {f : Addr} {fd : FuncData} (F : Fun K "others_of" "others_of" s_others_of f fd) (z_len : mg "len" = none) (z_range : mg "range" = none) (g_crossed : FnG P w K mg base "crossed" 1 1 1 m_crossed_v2) : FnOk P w K mg base (L2.CX P w) 2 f fd ["house", "k"] (spM K mg 1 2 m_others_of_v2) :=
  mk_ok (k := 1) (n := 1) (N := N_others_of) (m := b_others_of_v2) (Γ := [0, 0, 0]) (Γ' := [0, 0, 0]) F sc_others_of rfl (by decide) (fun cdv A outer s H E hr =>
    rss_one (rs_ret (re_call (n := 1) (g_crossed.mono (by decide)) hr (takes_of rfl rfl rfl rfl) (ra_cons ((RE.w (n := 1) (re_lc (n := 0) (own := [("j", 2)]) rfl sc_others_of.nd (ri_r1 z_range (re_len z_len (rab_cons (RE.b (n := 0) (fr := true) (re_ix (hu_of hr) (re_v (pv 0)) (re_int))) (rab_nil)))) (blkOk_by (own := [("j", 2)]) (N := N_others_of) (sc := defScope s_others_of) (by decide +kernel)) (fun _ _ _ _ _ => rgw_n sc_others_of.nd (.inl rfl)) (fun _ _ _ _ _ => rts_one (rt_ne (n1 := 0) (f1 := true) (n2 := 0) (f2 := true) hr.units (re_v (pv 2)) (re_v (pv 1)))) (fun _ _ _ _ _ => re_ix (hu_of hr) (re_ix (hu_of hr) (re_ix (hu_of hr) (re_v (pv 0)) (re_int)) (re_v (pv 2))) (re_int))))) (ra_nil)))))
theorem ok__law_cell_at {f : Addr} {fd : FuncData} (F : Fun K "_law_cell_at" "_law_cell_at" s__law_cell_at f fd) (z_len : mg "len" = none) : FnOk P w K mg base (L2.CX P w) 1 f fd ["script", "k"] (spM K mg 0 2 m__law_cell_at) :=
  mk_ok (k := 0) (n := 0) (N := N__law_cell_at) (m := b__law_cell_at) (Γ := [0, 0]) (Γ' := [0, 0]) F sc__law_cell_at rfl (by decide) (fun cdv A outer s H E hr =>
    rss_cons (Γ1 := [0, 0]) (rs_if (rt_lt (n1 := 0) (f1 := true) (n2 := 0) (f2 := true) (re_v (pv 1)) (re_len z_len (rab_cons (RE.b (n := 0) (fr := true) (re_v (pv 0))) (rab_nil)))) (rss_one (rs_ret (re_ix (hu_of hr) (re_v (pv 0)) (re_v (pv 1))))) (rss_nil))
    (rss_one (rs_ret (re_int))))
theorem ok__law_pool {f : Addr} {fd : FuncData} (F : Fun K "_law_pool" "_law_pool" s__law_pool f fd) (z_range : mg "range" = none) : FnOk P w K mg base (L2.CX P w) 1 f fd ["cell", "many"] (spM K mg 0 2 m__law_pool) :=
  mk_ok (k := 0) (n := 0) (N := N__law_pool) (m := b__law_pool) (Γ := [0, 0, 0, 0, 0, 0, 0, 0, 0, 0, 0, 0]) (Γ' := [0, 0, 0, 0, 0, 0, 0, 0, 0, 0, 0, 0]) F sc__law_pool rfl (by decide) (fun cdv A outer s H E hr =>
    rss_cons (Γ1 := [0, 0, 0, 0, 0, 0, 0, 0, 0, 0, 0, 0]) (rs_set (k := 0) (re_str) sc__law_pool.nd (.inr rfl))
    (rss_cons (Γ1 := [0, 0, 0, 0, 0, 0, 0, 0, 0, 0, 0, 0]) (rs_set (k := 0) (re_mod (re_add (re_mul (re_mod (re_v (pv 0)) (re_int)) (re_int)) (re_int)) (re_int)) sc__law_pool.nd (.inl rfl))
    (rss_cons (Γ1 := [0, 0, 0, 0, 0, 0, 0, 0, 0, 0, 0, 0]) (rs_set (k := 0) (re_ix (hu_of hr) (re_v (pv 2)) (re_mod (re_v (pv 3)) (re_int))) sc__law_pool.nd (.inr rfl))
    (rss_cons (Γ1 := [0, 0, 0, 0, 0, 0, 0, 0, 0, 0, 0, 0]) (rs_if (rt_eq (n1 := 0) (f1 := true) (n2 := 0) (f2 := true) hr.units (re_mod (re_div (re_v (pv 3)) (re_int)) (re_int)) (re_int)) (rss_one (rs_ret ((RE.w (n := 1) (re_lc (n := 0) (own := [("k", 11)]) rfl sc__law_pool.nd (ri_r1 z_range (re_v (pv 1))) (blkOk_by (own := [("k", 11)]) (N := N__law_pool) (sc := defScope s__law_pool) (by decide +kernel)) (fun _ _ _ _ _ => rgw_n sc__law_pool.nd (.inl rfl)) (fun _ _ _ _ _ => rts_nil) (fun _ _ _ _ _ => re_mul (re_v (pv 4)) (re_add (re_v (pv 11)) (re_int)))))))) (rss_nil))
    (rss_cons (Γ1 := [0, 0, 0, 0, 0, 0, 0, 0, 0, 0, 0, 0]) (rs_set (k := 0) (re_mod (re_div (re_v (pv 3)) (re_int)) (re_int)) sc__law_pool.nd (.inr rfl))
    (rss_cons (Γ1 := [0, 0, 0, 0, 0, 0, 0, 0, 0, 0, 0, 0]) (rs_set (k := 0) (re_ix (hu_of hr) ((RE.w (n := 1) (re_lst (ra_cons (re_int) (ra_cons (re_int) (ra_cons (re_int) (ra_cons (re_int) (ra_cons (re_int) (ra_cons (re_int) (ra_cons (re_int) (ra_cons (re_int) (ra_cons (re_int) (ra_cons (re_int) (ra_cons (re_int) (ra_cons (re_int) (ra_nil)))))))))))))))) (re_mod (re_div (re_v (pv 3)) (re_int)) (re_int))) sc__law_pool.nd (.inr rfl))
    (rss_cons (Γ1 := [0, 0, 0, 0, 0, 0, 0, 0, 0, 0, 0, 0]) (rs_set (k := 0) (re_add (re_int) (re_mod (re_div (re_v (pv 3)) (re_int)) (re_int))) sc__law_pool.nd (.inl rfl))
    (rss_cons (Γ1 := [0, 0, 0, 0, 0, 0, 0, 0, 0, 0, 0, 0]) (rs_set (k := 0) (re_mod (re_div (re_v (pv 3)) (re_int)) (re_v (pv 7))) sc__law_pool.nd (.inl rfl))
    (rss_cons (Γ1 := [0, 0, 0, 0, 0, 0, 0, 0, 0, 0, 0, 0]) (rs_set (k := 0) (re_mul (re_v (pv 4)) (re_v (pv 8))) sc__law_pool.nd (.inr rfl))
    (rss_cons (Γ1 := [0, 0, 0, 0, 0, 0, 0, 0, 0, 0, 0, 0]) (rs_set (k := 0) (re_mul (re_v (pv 4)) (re_sub (re_sub (re_v (pv 7)) (re_int)) (re_v (pv 8)))) sc__law_pool.nd (.inr rfl))
    (rss_one (rs_ret ((RE.w (n := 1) (re_lc (n := 0) (own := [("k", 11)]) rfl sc__law_pool.nd (ri_r1 z_range (re_v (pv 1))) (blkOk_by (own := [("k", 11)]) (N := N__law_pool) (sc := defScope s__law_pool) (by decide +kernel)) (fun _ _ _ _ _ => rgw_n sc__law_pool.nd (.inl rfl)) (fun _ _ _ _ _ => rts_nil) (fun _ _ _ _ _ => re_add (re_add (re_v (pv 9)) (re_ix (hu_of hr) (re_v (pv 2)) (re_mod (re_add (re_v (pv 5)) (re_mul (re_v (pv 6)) (re_v (pv 11)))) (re_int)))) (re_v (pv 10))))))))))))))))))
theorem ok__law_drawn {f : Addr} {fd : FuncData} (F : Fun K "_law_drawn" "_law_drawn" s__law_drawn f fd) (z_len : mg "len" = none) (z_max : mg "max" = none) (z_min : mg "min" = none) (g__law_cell_at : FnG P w K mg base "_law_cell_at" 1 0 2 m__law_cell_at) : FnOk P w K mg base (L2.CX P w) 2 f fd ["script", "k"] (spM K mg 0 2 m__law_drawn) :=
  mk_ok (k := 1) (n := 0) (N := N__law_drawn) (m := b__law_drawn) (Γ := [0, 0, 0, 0, 0]) (Γ' := [0, 0, 0, 0, 0]) F sc__law_drawn rfl (by decide) (fun cdv A outer s H E hr =>
    rss_cons (Γ1 := [0, 0, 0, 0, 0]) (rs_set (k := 0) (re_max rfl z_max (rab_cons (RE.b (n := 0) (fr := true) (re_int)) (rab_cons (RE.b (n := 0) (fr := true) (re_sub (re_min rfl z_min (rab_cons (RE.b (n := 0) (fr := true) (re_len z_len (rab_cons (RE.b (n := 0) (fr := true) (re_v (pv 0))) (rab_nil)))) (rab_cons (RE.b (n := 0) (fr := true) (re_int)) (rab_nil)))) (re_int))) (rab_nil)))) sc__law_drawn.nd (.inl rfl))
    (rss_cons (Γ1 := [0, 0, 0, 0, 0]) (rs_set (k := 0) (re_call (n := 0) (g__law_cell_at.mono (by decide)) hr (takes_of rfl rfl rfl rfl) (ra_cons (re_v (pv 0)) (ra_cons (re_add (re_int) (re_mod (re_v (pv 1)) (re_v (pv 2)))) (ra_nil)))) sc__law_drawn.nd (.inl rfl))
    (rss_cons (Γ1 := [0, 0, 0, 0, 0]) (rs_if (rt_lt (n1 := 0) (f1 := true) (n2 := 0) (f2 := true) (re_v (pv 1)) (re_v (pv 2))) (rss_one (rs_ret (re_v (pv 3)))) (rss_nil))
    (rss_cons (Γ1 := [0, 0, 0, 0, 0]) (rs_set (k := 0) (re_mod (re_add (re_add (re_mul (re_mod (re_v (pv 3)) (re_int)) (re_int)) (re_mul (re_div (re_v (pv 1)) (re_v (pv 2))) (re_int))) (re_v (pv 1))) (re_int)) sc__law_drawn.nd (.inl rfl))
    (rss_one (rs_ret (re_mod (re_mul (re_v (pv 4)) (re_v (pv 4))) (re_int))))))))
theorem ok__law_worth {f : Addr} {fd : FuncData} (F : Fun K "_law_worth" "_law_worth" s__law_worth f fd) : FnOk P w K mg base (L2.CX P w) 1 f fd ["cell"] (spM K mg 0 1 m__law_worth) :=
  mk_ok (k := 0) (n := 0) (N := N__law_worth) (m := b__law_worth) (Γ := [0]) (Γ' := [0]) F sc__law_worth rfl (by decide) (fun cdv A outer s H E hr =>
    rss_cons (Γ1 := [0]) (rs_if (rt_eq (n1 := 0) (f1 := true) (n2 := 0) (f2 := true) hr.units (re_mod (re_v (pv 0)) (re_int)) (re_int)) (rss_one (rs_ret (re_sub (re_mod (re_div (re_v (pv 0)) (re_int)) (re_pow (re_int) (re_int))) (re_mul (re_int) (re_pow (re_int) (re_int)))))) (rss_nil))
    (rss_cons (Γ1 := [0]) (rs_if (rt_eq (n1 := 0) (f1 := true) (n2 := 0) (f2 := true) hr.units (re_mod (re_v (pv 0)) (re_int)) (re_int)) (rss_one (rs_ret (re_add (re_sub (re_mod (re_div (re_v (pv 0)) (re_int)) (re_sub (re_mul (re_int) (re_pow (re_int) (re_int))) (re_int))) (re_pow (re_int) (re_int))) (re_int)))) (rss_nil))
    (rss_cons (Γ1 := [0]) (rs_if (rt_eq (n1 := 0) (f1 := true) (n2 := 0) (f2 := true) hr.units (re_mod (re_v (pv 0)) (re_int)) (re_int)) (rss_one (rs_ret (re_int))) (rss_nil))
    (rss_one (rs_ret (re_sub (re_mod (re_div (re_v (pv 0)) (re_int)) (re_int)) (re_int)))))))
theorem ok__law_parts {f : Addr} {fd : FuncData} (F : Fun K "_law_parts" "_law_parts" s__law_parts f fd) (z_len : mg "len" = none) (z_range : mg "range" = none) (g__law_cell_at : FnG P w K mg base "_law_cell_at" 1 0 2 m__law_cell_at) (g__law_drawn : FnG P w K mg base "_law_drawn" 2 0 2 m__law_drawn) (g__law_pool : FnG P w K mg base "_law_pool" 1 0 2 m__law_pool) (g__law_worth : FnG P w K mg base "_law_worth" 1 0 1 m__law_worth) : FnOk P w K mg base (L2.CX P w) 3 f fd ["script", "tops"] (spM K mg 0 2 m__law_parts) :=
  mk_ok (k := 2) (n := 0) (N := N__law_parts) (m := b__law_parts) (Γ := [0, 0, 0, 0, 0, 0, 0, 0, 0, 0, 0, 0, 0]) (Γ' := [0, 0, 0, 0, 0, 0, 0, 0, 0, 0, 0, 0, 0]) F sc__law_parts rfl (by decide) (fun cdv A outer s H E hr =>
    rss_cons (Γ1 := [0, 0, 0, 0, 0, 0, 0, 0, 0, 0, 0, 0, 0]) (rs_set (k := 0) (re_call (n := 0) (g__law_cell_at.mono (by decide)) hr (takes_of rfl rfl rfl rfl) (ra_cons (re_v (pv 0)) (ra_cons (re_int) (ra_nil)))) sc__law_parts.nd (.inl rfl))
    (rss_cons (Γ1 := [0, 0, 0, 0, 0, 0, 0, 0, 0, 0, 0, 0, 0]) (rs_set (k := 0) (re_call (n := 0) (g__law_cell_at.mono (by decide)) hr (takes_of rfl rfl rfl rfl) (ra_cons (re_v (pv 0)) (ra_cons (re_int) (ra_nil)))) sc__law_parts.nd (.inl rfl))
    (rss_cons (Γ1 := [0, 0, 0, 0, 0, 0, 0, 0, 0, 0, 0, 0, 0]) (rs_set (k := 0) (re_call (n := 0) (g__law_pool.mono (by decide)) hr (takes_of rfl rfl rfl rfl) (ra_cons (re_v (pv 2)) (ra_cons (re_add (re_int) (re_mod (re_v (pv 3)) (re_int))) (ra_nil)))) sc__law_parts.nd (.inl rfl))
    (rss_cons (Γ1 := [0, 0, 0, 0, 0, 1, 0, 0, 0, 0, 0, 0, 0]) (rs_set (k := 1) (re_lst (ra_nil)) sc__law_parts.nd (.inl rfl))
    (rss_cons (Γ1 := [0, 0, 0, 0, 0, 1, 0, 0, 0, 0, 0, 0, 0]) (rs_set (k := 0) (re_int) sc__law_parts.nd (.inr rfl))
    (rss_cons (Γ1 := [0, 0, 0, 0, 0, 1, 0, 0, 0, 0, 0, 0, 0]) (rs_for (passes_of rfl) rfl (ri_r1 z_range (re_add (re_int) (re_mod (re_div (re_v (pv 3)) (re_int)) (re_int)))) (rg_n sc__law_parts.nd (.inl rfl)) (rss_cons (Γ1 := [0, 0, 0, 0, 0, 1, 0, 0, 0, 0, 0, 0, 0]) (rs_set (k := 0) (re_add (re_int) (re_mod (re_div (re_call (n := 0) (g__law_cell_at.mono (by decide)) hr (takes_of rfl rfl rfl rfl) (ra_cons (re_v (pv 0)) (ra_cons (re_int) (ra_nil)))) (re_ix (hu_of hr) ((RE.w (n := 1) (re_lst (ra_cons (re_int) (ra_cons (re_int) (ra_cons (re_int) (ra_cons (re_int) (ra_nil)))))))) (re_v (pv 7)))) (re_ix (hu_of hr) (re_v (pv 1)) (re_mod (re_div (re_v (pv 3)) (re_int)) (re_int))))) sc__law_parts.nd (.inl rfl))
    (rss_cons (Γ1 := [0, 0, 0, 0, 0, 1, 0, 0, 0, 0, 0, 0, 0]) (rs_set (k := 0) (re_call (n := 0) (g__law_pool.mono (by decide)) hr (takes_of rfl rfl rfl rfl) (ra_cons (re_ix (hu_of hr) ((RE.w (n := 1) (re_lst (ra_cons (re_v (pv 2)) (ra_cons (re_add (re_div (re_v (pv 2)) (re_int)) (re_v (pv 7))) (ra_cons (re_add (re_call (n := 0) (g__law_cell_at.mono (by decide)) hr (takes_of rfl rfl rfl rfl) (ra_cons (re_v (pv 0)) (ra_cons (re_int) (ra_nil)))) (re_mul (re_int) (re_v (pv 7)))) (ra_nil))))))) (re_mod (re_div (re_v (pv 3)) (re_int)) (re_int))) (ra_cons (re_v (pv 8)) (ra_nil)))) sc__law_parts.nd (.inl rfl))
    (rss_cons (Γ1 := [0, 0, 0, 0, 0, 1, 0, 0, 0, 0, 1, 0, 0]) (rs_set (k := 1) (re_lst (ra_nil)) sc__law_parts.nd (.inl rfl))
    (rss_cons (Γ1 := [0, 0, 0, 0, 0, 1, 0, 0, 0, 0, 1, 0, 0]) (rs_for (passes_of rfl) rfl (ri_any (re_v (pv 9))) (rg_n sc__law_parts.nd (.inl rfl)) (rss_cons (Γ1 := [0, 0, 0, 0, 0, 1, 0, 0, 0, 0, 1, 0, 0]) (rs_app (rp_var (pv 10)) ((RE.w (n := 1) (re_lc (n := 0) (own := [("i", 12)]) rfl sc__law_parts.nd (ri_r1 z_range (re_len z_len (rab_cons (RE.b (n := 0) (fr := true) (re_v (pv 4))) (rab_nil)))) (blkOk_by (own := [("i", 12)]) (N := N__law_parts) (sc := defScope s__law_parts) (by decide +kernel)) (fun _ _ _ _ _ => rgw_n sc__law_parts.nd (.inl rfl)) (fun _ _ _ _ _ => rts_nil) (fun _ _ _ _ _ => re_call (n := 0) (g__law_worth.mono (by decide)) hr takes0 (ra_cons (re_call (n := 0) (g__law_drawn.mono (by decide)) hr takes0 (ra_cons (re_v (pv 0)) (ra_cons (re_add (re_v (pv 6)) (re_v (pv 12))) (ra_nil)))) (ra_nil)))))))
    (rss_one (rs_set (k := 0) (re_add (re_v (pv 6)) (re_len z_len (rab_cons (RE.b (n := 0) (fr := true) (re_v (pv 4))) (rab_nil)))) sc__law_parts.nd (.inr rfl)))))
    (rss_frz 10 (rss_one (rs_app (rp_var (pv 5)) (re_tup (ra_cons (re_ix (hu_of hr) (re_call (n := 0) (g__law_pool.mono (by decide)) hr (takes_of rfl rfl rfl rfl) (ra_cons (re_ix (hu_of hr) ((RE.w (n := 1) (re_lst (ra_cons (re_v (pv 2)) (ra_cons (re_add (re_div (re_v (pv 2)) (re_int)) (re_int)) (ra_nil)))))) (re_mod (re_div (re_v (pv 3)) (re_int)) (re_int))) (ra_cons (re_int) (ra_nil)))) (re_v (pv 7))) (ra_cons (re_v (pv 9)) (ra_cons (re_v (pv 10)) (ra_nil)))))))))))))
    (rss_frz 5 (rss_one (rs_ret (re_tup (ra_cons (re_v (pv 4)) (ra_cons (re_v (pv 5)) (ra_nil)))))))))))))
theorem ok__law_in_order {f : Addr} {fd : FuncData} (F : Fun K "_law_in_order" "_law_in_order" s__law_in_order f fd) (z_divmod : mg "divmod" = none) (z_isinstance : mg "isinstance" = none) (z_len : mg "len" = none) (z_list : mg "list" = none) (z_range : mg "range" = none) (z_tuple : mg "tuple" = none) : FnOk P w K mg base (L2.CX P w) 1 f fd ["found", "lists"] (spM K mg 0 2 m__law_in_order) :=
  mk_ok (k := 0) (n := 0) (N := N__law_in_order) (m := b__law_in_order) (Γ := [0, 0, 0, 0, 0, 0, 0, 0]) (Γ' := [0, 0, 0, 0, 0, 0, 0, 0]) F sc__law_in_order rfl (by decide) (fun cdv A outer s H E hr =>
    rss_cons (Γ1 := [0, 0, 0, 0, 0, 0, 0, 0]) (rs_set (k := 0) (re_int) sc__law_in_order.nd (.inl rfl))
    (rss_cons (Γ1 := [0, 0, 0, 0, 0, 0, 0, 0]) (rs_for (passes_of rfl) rfl (ri_any (re_v (pv 1))) (rg_n sc__law_in_order.nd (.inl rfl)) (rss_one (rs_set (k := 0) (re_mul (re_v (pv 2)) (re_len z_len (rab_cons (RE.b (n := 0) (fr := true) (re_v (pv 3))) (rab_nil)))) sc__law_in_order.nd (.inl rfl))))
    (rss_cons (Γ1 := [0, 0, 0, 0, 0, 0, 0, 0]) (rs_if (RW.t (rw_or (rt_not (rt_val (n1 := 0) (f1 := true) (re_isi z_isinstance z_list boot_list (RE.b (n := 0) (fr := true) (re_v (pv 0)))))) (rw_or1 (rt_ne (n1 := 0) (f1 := true) (n2 := 0) (f2 := true) hr.units (re_len z_len (rab_cons (RE.b (n := 0) (fr := true) (re_v (pv 0))) (rab_nil))) (re_v (pv 2)))))) (rss_one (rs_ret (re_bl))) (rss_nil))
    (rss_cons (Γ1 := [0, 0, 0, 0, 0, 0, 0, 0]) (rs_for (passes_of rfl) rfl (ri_r1 z_range (re_v (pv 2))) (rg_n sc__law_in_order.nd (.inl rfl)) (rss_cons (Γ1 := [0, 0, 0, 0, 0, 0, 0, 0]) (rs_set (k := 0) (re_v (pv 4)) sc__law_in_order.nd (.inl rfl))
    (rss_cons (Γ1 := [0, 0, 0, 0, 0, 0, 0, 0]) (rs_if (RW.t (rw_or (rt_not (rt_val (n1 := 0) (f1 := true) (re_isi z_isinstance z_tuple boot_tuple (RE.b (n := 0) (fr := true) (re_ix (hu_of hr) (re_v (pv 0)) (re_v (pv 4))))))) (rw_or1 (rt_ne (n1 := 0) (f1 := true) (n2 := 0) (f2 := true) hr.units (re_len z_len (rab_cons (RE.b (n := 0) (fr := true) (re_ix (hu_of hr) (re_v (pv 0)) (re_v (pv 4)))) (rab_nil))) (re_len z_len (rab_cons (RE.b (n := 0) (fr := true) (re_v (pv 1))) (rab_nil))))))) (rss_one (rs_ret (re_bl))) (rss_nil))
    (rss_one (rs_for (passes_of rfl) rfl (ri_r3 z_range (re_sub (re_len z_len (rab_cons (RE.b (n := 0) (fr := true) (re_v (pv 1))) (rab_nil))) (re_int)) (re_neg (re_int)) (re_neg (re_int))) (rg_n sc__law_in_order.nd (.inl rfl)) (rss_cons (Γ1 := [0, 0, 0, 0, 0, 0, 0, 0]) (rs_asg (re_divmod z_divmod (ra_cons (re_v (pv 5)) (ra_cons (re_len z_len (rab_cons (RE.b (n := 0) (fr := true) (re_ix (hu_of hr) (re_v (pv 1)) (re_v (pv 6)))) (rab_nil))) (ra_nil)))) (rg_t rfl (rgs_cons (rg_n sc__law_in_order.nd (.inl rfl)) (rgs_cons (rg_n sc__law_in_order.nd (.inl rfl)) (rgs_nil)))))
    (rss_one (rs_if (rt_ne (n1 := 0) (f1 := true) (n2 := 0) (f2 := true) hr.units (re_ix (hu_of hr) (re_ix (hu_of hr) (re_v (pv 0)) (re_v (pv 4))) (re_v (pv 6))) (re_ix (hu_of hr) (re_ix (hu_of hr) (re_v (pv 1)) (re_v (pv 6))) (re_v (pv 7)))) (rss_one (rs_ret (re_bl))) (rss_nil)))))))))
    (rss_one (rs_ret (re_bl)))))))
theorem ok_law {f : Addr} {fd : FuncData} (F : Fun K "law" "law" s_law f fd) (z_len : mg "len" = none) (z_range : mg "range" = none) (g__law_in_order : FnG P w K mg base "_law_in_order" 1 0 2 m__law_in_order) (g__law_parts : FnG P w K mg base "_law_parts" 3 0 2 m__law_parts) (g_house_of : FnG P w K mg base "house_of" 4 0 2 m_house_of) (g_others_of : FnG P w K mg base "others_of" 2 1 2 m_others_of_v2) (g_rows_of : FnG P w K mg base "rows_of" 2 1 1 m_rows_of_v2) : FnOk P w K mg base (L2.CX P w) 5 f fd ["script"] (spM K mg 0 1 m_law_k34) :=
  mk_ok (k := 4) (n := 0) (N := N_law) (m := b_law_k34) (Γ := [0, 0, 0, 0, 0, 0, 0, 0, 0]) (Γ' := [0, 0, 0, 0, 0, 0, 0, 0, 0]) F sc_law rfl (by decide) (fun cdv A outer s H E hr =>
    rss_cons (Γ1 := [0, 0, 0, 0, 0, 0, 0, 0, 0]) (rs_asg (re_call (n := 0) (g__law_parts.mono (by decide)) hr (takes_of rfl rfl rfl rfl) (ra_cons (re_v (pv 0)) (ra_cons ((RE.w (n := 1) (re_lst (ra_cons (re_int) (ra_cons (re_int) (ra_cons (re_int) (ra_cons (re_int) (ra_nil)))))))) (ra_nil)))) (rg_t rfl (rgs_cons (rg_n sc_law.nd (.inl rfl)) (rgs_cons (rg_n sc_law.nd (.inl rfl)) (rgs_nil)))))
    (rss_cons (Γ1 := [0, 0, 0, 0, 0, 0, 0, 0, 0]) (rs_set (k := 0) (re_call (n := 0) (g_house_of.mono (by decide)) hr (takes_of rfl rfl rfl rfl) (ra_cons (re_v (pv 1)) (ra_cons (re_v (pv 2)) (ra_nil)))) sc_law.nd (.inl rfl))
    (rss_cons (Γ1 := [0, 0, 0, 0, 0, 0, 0, 0, 0]) (rs_setLc (k := 0) (n := 0) (own := [("hand", 8)]) rfl sc_law.nd rfl (sw_true rfl rfl rfl (by decide +kernel)) (ri_any (re_v (pv 2))) (blkOk_by (own := [("hand", 8)]) (N := N_law) (sc := defScope s_law) (by decide +kernel)) (fun _ _ _ _ _ => rgw_n sc_law.nd (.inl rfl)) (fun _ _ _ _ _ => rts_nil) (fun _ _ _ _ _ => re_ix (hu_of hr) (re_v (pv 8)) (re_int)))
    (rss_cons (Γ1 := [0, 0, 0, 0, 0, 1, 0, 0, 0]) (rs_set (k := 1) (re_call (n := 1) (g_rows_of.mono (by decide)) hr (takes_of rfl rfl rfl rfl) (ra_cons (re_v (pv 3)) (ra_nil))) sc_law.nd (.inl rfl))
    (rss_cons (Γ1 := [0, 0, 0, 0, 0, 1, 0, 0, 0]) (rs_if (rt_not (rt_val (n1 := 0) (f1 := true) (re_callL (g__law_in_order.mono (by decide)) hr (takes_of rfl rfl rfl rfl) (rab_cons (RE.b (n := 1) (fr := false) (re_own (pv 5) 1)) (rab_cons (RE.b (n := 0) (fr := true) (re_v (pv 4))) (rab_nil))) (len_cons (len_cons len_nil))))) (rss_one (rs_ret (re_bl))) (rss_nil))
    (rss_cons (Γ1 := [0, 0, 0, 0, 0, 1, 0, 0, 0]) (rs_clear (rp_var (pv 5)))
    (rss_cons (Γ1 := [0, 0, 0, 0, 0, 1, 0, 0, 0]) (rs_for (passes_of rfl) rfl (ri_r1 z_range (re_len z_len (rab_cons (RE.b (n := 0) (fr := true) (re_v (pv 2))) (rab_nil)))) (rg_n sc_law.nd (.inl rfl)) (rss_cons (Γ1 := [0, 0, 0, 0, 0, 1, 0, 0, 0]) (rs_set (k := 0) (re_add (re_sl (re_v (pv 4)) (ro_no) (ro_yes (re_v (pv 6)))) (re_sl (re_v (pv 4)) (ro_yes (re_add (re_v (pv 6)) (re_int))) (ro_no))) sc_law.nd (.inl rfl))
    (rss_cons (Γ1 := [0, 0, 0, 0, 0, 1, 0, 0, 0]) (rs_set (k := 1) (re_call (n := 1) (g_others_of.mono (by decide)) hr (takes_of rfl rfl rfl rfl) (ra_cons (re_v (pv 3)) (ra_cons (re_v (pv 6)) (ra_nil)))) sc_law.nd (.inl rfl))
    (rss_cons (Γ1 := [0, 0, 0, 0, 0, 1, 0, 0, 0]) (rs_if (rt_not (rt_val (n1 := 0) (f1 := true) (re_callL (g__law_in_order.mono (by decide)) hr (takes_of rfl rfl rfl rfl) (rab_cons (RE.b (n := 1) (fr := false) (re_own (pv 5) 1)) (rab_cons (RE.b (n := 0) (fr := true) (re_v (pv 7))) (rab_nil))) (len_cons (len_cons len_nil))))) (rss_one (rs_ret (re_bl))) (rss_nil))
    (rss_cons (Γ1 := [0, 0, 0, 0, 0, 1, 0, 0, 0]) (rs_app (rp_var (pv 5)) (re_tup (ra_cons (re_str) (ra_nil))))
    (rss_one (rs_if (rt_not (rt_val (n1 := 0) (f1 := true) (re_call (n := 0) (g__law_in_order.mono (by decide)) hr (takes_of rfl rfl rfl rfl) (ra_cons (re_call (n := 0) (g_others_of.mono (by decide)) hr (takes_of rfl rfl rfl rfl) (ra_cons (re_v (pv 3)) (ra_cons (re_v (pv 6)) (ra_nil)))) (ra_cons (re_v (pv 7)) (ra_nil)))))) (rss_one (rs_ret (re_bl))) (rss_nil))))))))
    (rss_one (rs_ret (re_call (n := 0) (g__law_in_order.mono (by decide)) hr (takes_of rfl rfl rfl rfl) (ra_cons (re_call (n := 0) (g_rows_of.mono (by decide)) hr (takes_of rfl rfl rfl rfl) (ra_cons (re_v (pv 3)) (ra_nil))) (ra_cons (re_v (pv 4)) (ra_nil)))))))))))))
end
theorem all_mk {l : PySem.W.OpenLaw} {w : World} {K : PySem.W.Frag} {h : Heap} {mg : Str → Option Value} {fa f_is_name f_are_names f_is_worth f_are_worths f_is_hand f_house_of f_crossed f_rows_of f_others_of f__law_cell_at f__law_pool f__law_drawn f__law_worth f__law_parts f__law_in_order f_law : Addr} (X : K.In h) (G : h.Ns mainGlobals mg) (hfa : mg "law" = some (.ref fa))
    {od_is_name an_is_name od_are_names an_are_names od_is_worth an_is_worth od_are_worths an_are_worths od_is_hand an_is_hand od_house_of an_house_of od_crossed an_crossed od_rows_of an_rows_of od_others_of an_others_of od__law_cell_at an__law_cell_at od__law_pool an__law_pool od__law_drawn an__law_drawn od__law_worth an__law_worth od__law_parts an__law_parts od__law_in_order an__law_in_order od_law an_law : Option Addr} {sl_is_name sl_are_names sl_is_worth sl_are_worths sl_is_hand sl_house_of sl_crossed sl_rows_of sl_others_of sl__law_cell_at sl__law_pool sl__law_drawn sl__law_worth sl__law_parts sl__law_in_order sl_law : Array (Option Value)} {oc_is_name kV_is_name dc_is_name pm_is_name cd_is_name ct_is_name oc_are_names kV_are_names dc_are_names pm_are_names cd_are_names ct_are_names oc_is_worth kV_is_worth dc_is_worth pm_is_worth cd_is_worth ct_is_worth oc_are_worths kV_are_worths dc_are_worths pm_are_worths cd_are_worths ct_are_worths oc_is_hand kV_is_hand dc_is_hand pm_is_hand cd_is_hand ct_is_hand oc_house_of kV_house_of dc_house_of pm_house_of cd_house_of ct_house_of oc_crossed kV_crossed dc_crossed pm_crossed cd_crossed ct_crossed oc_rows_of kV_rows_of dc_rows_of pm_rows_of cd_rows_of ct_rows_of oc_others_of kV_others_of dc_others_of pm_others_of cd_others_of ct_others_of oc__law_cell_at kV__law_cell_at dc__law_cell_at pm__law_cell_at cd__law_cell_at ct__law_cell_at oc__law_pool kV__law_pool dc__law_pool pm__law_pool cd__law_pool ct__law_pool oc__law_drawn kV__law_drawn dc__law_drawn pm__law_drawn cd__law_drawn ct__law_drawn oc__law_worth kV__law_worth dc__law_worth pm__law_worth cd__law_worth ct__law_worth oc__law_parts kV__law_parts dc__law_parts pm__law_parts cd__law_parts ct__law_parts oc__law_in_order kV__law_in_order dc__law_in_order pm__law_in_order cd__law_in_order ct__law_in_order oc_law kV_law dc_law pm_law cd_law ct_law : Value}
    (a_is_name : PySem.W.nsIn K mainGlobals "is_name" = some (some (.ref f_is_name))) (l_is_name : K.lookup f_is_name = some ⟨oc_is_name, od_is_name, .func (PySem.W.fnOf "is_name" "is_name" (defArgs s_is_name) (defBody s_is_name) (defScope s_is_name) .none kV_is_name dc_is_name pm_is_name an_is_name cd_is_name ct_is_name), sl_is_name⟩) (c_is_name : PySem.W.codeIn K cd_is_name "is_name" = true) (k_is_name : PySem.W.keepIn K (.ref f_is_name) = true)
    (a_are_names : PySem.W.nsIn K mainGlobals "are_names" = some (some (.ref f_are_names))) (l_are_names : K.lookup f_are_names = some ⟨oc_are_names, od_are_names, .func (PySem.W.fnOf "are_names" "are_names" (defArgs s_are_names) (defBody s_are_names) (defScope s_are_names) .none kV_are_names dc_are_names pm_are_names an_are_names cd_are_names ct_are_names), sl_are_names⟩) (c_are_names : PySem.W.codeIn K cd_are_names "are_names" = true) (k_are_names : PySem.W.keepIn K (.ref f_are_names) = true)
    (a_is_worth : PySem.W.nsIn K mainGlobals "is_worth" = some (some (.ref f_is_worth))) (l_is_worth : K.lookup f_is_worth = some ⟨oc_is_worth, od_is_worth, .func (PySem.W.fnOf "is_worth" "is_worth" (defArgs s_is_worth) (defBody s_is_worth) (defScope s_is_worth) .none kV_is_worth dc_is_worth pm_is_worth an_is_worth cd_is_worth ct_is_worth), sl_is_worth⟩) (c_is_worth : PySem.W.codeIn K cd_is_worth "is_worth" = true) (k_is_worth : PySem.W.keepIn K (.ref f_is_worth) = true)
    (a_are_worths : PySem.W.nsIn K mainGlobals "are_worths" = some (some (.ref f_are_worths))) (l_are_worths : K.lookup f_are_worths = some ⟨oc_are_worths, od_are_worths, .func (PySem.W.fnOf "are_worths" "are_worths" (defArgs s_are_worths) (defBody s_are_worths) (defScope s_are_worths) .none kV_are_worths dc_are_worths pm_are_worths an_are_worths cd_are_worths ct_are_worths), sl_are_worths⟩) (c_are_worths : PySem.W.codeIn K cd_are_worths "are_worths" = true) (k_are_worths : PySem.W.keepIn K (.ref f_are_worths) = true)
    (a_is_hand : PySem.W.nsIn K mainGlobals "is_hand" = some (some (.ref f_is_hand))) (l_is_hand : K.lookup f_is_hand = some ⟨oc_is_hand, od_is_hand, .func (PySem.W.fnOf "is_hand" "is_hand" (defArgs s_is_hand) (defBody s_is_hand) (defScope s_is_hand) .none kV_is_hand dc_is_hand pm_is_hand an_is_hand cd_is_hand ct_is_hand), sl_is_hand⟩) (c_is_hand : PySem.W.codeIn K cd_is_hand "is_hand" = true) (k_is_hand : PySem.W.keepIn K (.ref f_is_hand) = true)
    (a_house_of : PySem.W.nsIn K mainGlobals "house_of" = some (some (.ref f_house_of))) (l_house_of : K.lookup f_house_of = some ⟨oc_house_of, od_house_of, .func (PySem.W.fnOf "house_of" "house_of" (defArgs s_house_of) (defBody s_house_of) (defScope s_house_of) .none kV_house_of dc_house_of pm_house_of an_house_of cd_house_of ct_house_of), sl_house_of⟩) (c_house_of : PySem.W.codeIn K cd_house_of "house_of" = true) (k_house_of : PySem.W.keepIn K (.ref f_house_of) = true)
    (a_crossed : PySem.W.nsIn K mainGlobals "crossed" = some (some (.ref f_crossed))) (l_crossed : K.lookup f_crossed = some ⟨oc_crossed, od_crossed, .func (PySem.W.fnOf "crossed" "crossed" (defArgs s_crossed) (defBody s_crossed) (defScope s_crossed) .none kV_crossed dc_crossed pm_crossed an_crossed cd_crossed ct_crossed), sl_crossed⟩) (c_crossed : PySem.W.codeIn K cd_crossed "crossed" = true) (k_crossed : PySem.W.keepIn K (.ref f_crossed) = true)
    (a_rows_of : PySem.W.nsIn K mainGlobals "rows_of" = some (some (.ref f_rows_of))) (l_rows_of : K.lookup f_rows_of = some ⟨oc_rows_of, od_rows_of, .func (PySem.W.fnOf "rows_of" "rows_of" (defArgs s_rows_of) (defBody s_rows_of) (defScope s_rows_of) .none kV_rows_of dc_rows_of pm_rows_of an_rows_of cd_rows_of ct_rows_of), sl_rows_of⟩) (c_rows_of : PySem.W.codeIn K cd_rows_of "rows_of" = true) (k_rows_of : PySem.W.keepIn K (.ref f_rows_of) = true)
    (a_others_of : PySem.W.nsIn K mainGlobals "others_of" = some (some (.ref f_others_of))) (l_others_of : K.lookup f_others_of = some ⟨oc_others_of, od_others_of, .func (PySem.W.fnOf "others_of" "others_of" (defArgs s_others_of) (defBody s_others_of) (defScope s_others_of) .none kV_others_of dc_others_of pm_others_of an_others_of cd_others_of ct_others_of), sl_others_of⟩) (c_others_of : PySem.W.codeIn K cd_others_of "others_of" = true) (k_others_of : PySem.W.keepIn K (.ref f_others_of) = true)
    (a__law_cell_at : PySem.W.nsIn K mainGlobals "_law_cell_at" = some (some (.ref f__law_cell_at))) (l__law_cell_at : K.lookup f__law_cell_at = some ⟨oc__law_cell_at, od__law_cell_at, .func (PySem.W.fnOf "_law_cell_at" "_law_cell_at" (defArgs s__law_cell_at) (defBody s__law_cell_at) (defScope s__law_cell_at) .none kV__law_cell_at dc__law_cell_at pm__law_cell_at an__law_cell_at cd__law_cell_at ct__law_cell_at), sl__law_cell_at⟩) (c__law_cell_at : PySem.W.codeIn K cd__law_cell_at "_law_cell_at" = true) (k__law_cell_at : PySem.W.keepIn K (.ref f__law_cell_at) = true)
    (a__law_pool : PySem.W.nsIn K mainGlobals "_law_pool" = some (some (.ref f__law_pool))) (l__law_pool : K.lookup f__law_pool = some ⟨oc__law_pool, od__law_pool, .func (PySem.W.fnOf "_law_pool" "_law_pool" (defArgs s__law_pool) (defBody s__law_pool) (defScope s__law_pool) .none kV__law_pool dc__law_pool pm__law_pool an__law_pool cd__law_pool ct__law_pool), sl__law_pool⟩) (c__law_pool : PySem.W.codeIn K cd__law_pool "_law_pool" = true) (k__law_pool : PySem.W.keepIn K (.ref f__law_pool) = true)
    (a__law_drawn : PySem.W.nsIn K mainGlobals "_law_drawn" = some (some (.ref f__law_drawn))) (l__law_drawn : K.lookup f__law_drawn = some ⟨oc__law_drawn, od__law_drawn, .func (PySem.W.fnOf "_law_drawn" "_law_drawn" (defArgs s__law_drawn) (defBody s__law_drawn) (defScope s__law_drawn) .none kV__law_drawn dc__law_drawn pm__law_drawn an__law_drawn cd__law_drawn ct__law_drawn), sl__law_drawn⟩) (c__law_drawn : PySem.W.codeIn K cd__law_drawn "_law_drawn" = true) (k__law_drawn : PySem.W.keepIn K (.ref f__law_drawn) = true)
    (a__law_worth : PySem.W.nsIn K mainGlobals "_law_worth" = some (some (.ref f__law_worth))) (l__law_worth : K.lookup f__law_worth = some ⟨oc__law_worth, od__law_worth, .func (PySem.W.fnOf "_law_worth" "_law_worth" (defArgs s__law_worth) (defBody s__law_worth) (defScope s__law_worth) .none kV__law_worth dc__law_worth pm__law_worth an__law_worth cd__law_worth ct__law_worth), sl__law_worth⟩) (c__law_worth : PySem.W.codeIn K cd__law_worth "_law_worth" = true) (k__law_worth : PySem.W.keepIn K (.ref f__law_worth) = true)
    (a__law_parts : PySem.W.nsIn K mainGlobals "_law_parts" = some (some (.ref f__law_parts))) (l__law_parts : K.lookup f__law_parts = some ⟨oc__law_parts, od__law_parts, .func (PySem.W.fnOf "_law_parts" "_law_parts" (defArgs s__law_parts) (defBody s__law_parts) (defScope s__law_parts) .none kV__law_parts dc__law_parts pm__law_parts an__law_parts cd__law_parts ct__law_parts), sl__law_parts⟩) (c__law_parts : PySem.W.codeIn K cd__law_parts "_law_parts" = true) (k__law_parts : PySem.W.keepIn K (.ref f__law_parts) = true)
    (a__law_in_order : PySem.W.nsIn K mainGlobals "_law_in_order" = some (some (.ref f__law_in_order))) (l__law_in_order : K.lookup f__law_in_order = some ⟨oc__law_in_order, od__law_in_order, .func (PySem.W.fnOf "_law_in_order" "_law_in_order" (defArgs s__law_in_order) (defBody s__law_in_order) (defScope s__law_in_order) .none kV__law_in_order dc__law_in_order pm__law_in_order an__law_in_order cd__law_in_order ct__law_in_order), sl__law_in_order⟩) (c__law_in_order : PySem.W.codeIn K cd__law_in_order "_law_in_order" = true) (k__law_in_order : PySem.W.keepIn K (.ref f__law_in_order) = true)
    (a_law : PySem.W.nsIn K mainGlobals "law" = some (some (.ref f_law))) (l_law : K.lookup f_law = some ⟨oc_law, od_law, .func (PySem.W.fnOf "law" "law" (defArgs s_law) (defBody s_law) (defScope s_law) .none kV_law dc_law pm_law an_law cd_law ct_law), sl_law⟩) (c_law : PySem.W.codeIn K cd_law "law" = true) (k_law : PySem.W.keepIn K (.ref f_law) = true)
    (n_bool : PySem.W.nsIn K mainGlobals "bool" = some none)
    (n_divmod : PySem.W.nsIn K mainGlobals "divmod" = some none)
    (n_int : PySem.W.nsIn K mainGlobals "int" = some none)
    (n_isinstance : PySem.W.nsIn K mainGlobals "isinstance" = some none)
    (n_len : PySem.W.nsIn K mainGlobals "len" = some none)
    (n_list : PySem.W.nsIn K mainGlobals "list" = some none)
    (n_max : PySem.W.nsIn K mainGlobals "max" = some none)
    (n_min : PySem.W.nsIn K mainGlobals "min" = some none)
    (n_range : PySem.W.nsIn K mainGlobals "range" = some none)
    (n_set : PySem.W.nsIn K mainGlobals "set" = some none)
    (n_str : PySem.W.nsIn K mainGlobals "str" = some none)
    (n_tuple : PySem.W.nsIn K mainGlobals "tuple" = some none)
    {u_LETTERS : Value} (w_LETTERS : PySem.W.nsIn K mainGlobals "LETTERS" = some (some u_LETTERS)) (r_LETTERS : CstV (.str "abcdefghijklmnopqrstuvwxyz") u_LETTERS)
    (hm : ∀ ns : List Int, ns.length ≤ 63 → (∀ z ∈ ns, Builtin.Int.intBits z ≤ 1048576) → m_law_k34 [.scr ns] = .ok (.bl true)) :
    ∃ fd : FuncData, (∀ (s : Shared) (v : Value), BindsTo s fd ⟨[v], []⟩ [("script", v)]) ∧ ∀ base : Heap, K.In base → base.Ns mainGlobals mg → FnOk l.prog w K mg base (L2.CX l.prog w) 5 fa fd ["script"] (spLaw K) := by
  have e := hfa.symm.trans (PySem.W.mg_of X G a_law)
  cases e
  have z_bool := PySem.W.mg_none_of X G n_bool
  have z_divmod := PySem.W.mg_none_of X G n_divmod
  have z_int := PySem.W.mg_none_of X G n_int
  have z_isinstance := PySem.W.mg_none_of X G n_isinstance
  have z_len := PySem.W.mg_none_of X G n_len
  have z_list := PySem.W.mg_none_of X G n_list
  have z_max := PySem.W.mg_none_of X G n_max
  have z_min := PySem.W.mg_none_of X G n_min
  have z_range := PySem.W.mg_none_of X G n_range
  have z_set := PySem.W.mg_none_of X G n_set
  have z_str := PySem.W.mg_none_of X G n_str
  have z_tuple := PySem.W.mg_none_of X G n_tuple
  have q_LETTERS : CstG mg "LETTERS" (.str "abcdefghijklmnopqrstuvwxyz") := ⟨_, PySem.W.mg_of X G w_LETTERS, r_LETTERS⟩
  have F_is_name := fun_mk (st := s_is_name) l_is_name c_is_name k_is_name
  have F_are_names := fun_mk (st := s_are_names) l_are_names c_are_names k_are_names
  have F_is_worth := fun_mk (st := s_is_worth) l_is_worth c_is_worth k_is_worth
  have F_are_worths := fun_mk (st := s_are_worths) l_are_worths c_are_worths k_are_worths
  have F_is_hand := fun_mk (st := s_is_hand) l_is_hand c_is_hand k_is_hand
  have F_house_of := fun_mk (st := s_house_of) l_house_of c_house_of k_house_of
  have F_crossed := fun_mk (st := s_crossed) l_crossed c_crossed k_crossed
  have F_rows_of := fun_mk (st := s_rows_of) l_rows_of c_rows_of k_rows_of
  have F_others_of := fun_mk (st := s_others_of) l_others_of c_others_of k_others_of
  have F__law_cell_at := fun_mk (st := s__law_cell_at) l__law_cell_at c__law_cell_at k__law_cell_at
  have F__law_pool := fun_mk (st := s__law_pool) l__law_pool c__law_pool k__law_pool
  have F__law_drawn := fun_mk (st := s__law_drawn) l__law_drawn c__law_drawn k__law_drawn
  have F__law_worth := fun_mk (st := s__law_worth) l__law_worth c__law_worth k__law_worth
  have F__law_parts := fun_mk (st := s__law_parts) l__law_parts c__law_parts k__law_parts
  have F__law_in_order := fun_mk (st := s__law_in_order) l__law_in_order c__law_in_order k__law_in_order
  have F_law := fun_mk (st := s_law) l_law c_law k_law
  have bd_is_name := F_is_name.binds (ps := ["thing"]) fun _ _ _ _ _ _ us hl => match us, hl with | [_], _ => rfl
  have bd_are_names := F_are_names.binds (ps := ["thing", "top"]) fun _ _ _ _ _ _ us hl => match us, hl with | [_, _], _ => rfl
  have bd_is_worth := F_is_worth.binds (ps := ["thing"]) fun _ _ _ _ _ _ us hl => match us, hl with | [_], _ => rfl
  have bd_are_worths := F_are_worths.binds (ps := ["thing", "words", "outcomes"]) fun _ _ _ _ _ _ us hl => match us, hl with | [_, _, _], _ => rfl
  have bd_is_hand := F_is_hand.binds (ps := ["thing", "outcomes"]) fun _ _ _ _ _ _ us hl => match us, hl with | [_, _], _ => rfl
  have bd_house_of := F_house_of.binds (ps := ["outcomes", "hands"]) fun _ _ _ _ _ _ us hl => match us, hl with | [_, _], _ => rfl
  have bd_crossed := F_crossed.binds (ps := ["lists"]) fun _ _ _ _ _ _ us hl => match us, hl with | [_], _ => rfl
  have bd_rows_of := F_rows_of.binds (ps := ["house"]) fun _ _ _ _ _ _ us hl => match us, hl with | [_], _ => rfl
  have bd_others_of := F_others_of.binds (ps := ["house", "k"]) fun _ _ _ _ _ _ us hl => match us, hl with | [_, _], _ => rfl
  have bd__law_cell_at := F__law_cell_at.binds (ps := ["script", "k"]) fun _ _ _ _ _ _ us hl => match us, hl with | [_, _], _ => rfl
  have bd__law_pool := F__law_pool.binds (ps := ["cell", "many"]) fun _ _ _ _ _ _ us hl => match us, hl with | [_, _], _ => rfl
  have bd__law_drawn := F__law_drawn.binds (ps := ["script", "k"]) fun _ _ _ _ _ _ us hl => match us, hl with | [_, _], _ => rfl
  have bd__law_worth := F__law_worth.binds (ps := ["cell"]) fun _ _ _ _ _ _ us hl => match us, hl with | [_], _ => rfl
  have bd__law_parts := F__law_parts.binds (ps := ["script", "tops"]) fun _ _ _ _ _ _ us hl => match us, hl with | [_, _], _ => rfl
  have bd__law_in_order := F__law_in_order.binds (ps := ["found", "lists"]) fun _ _ _ _ _ _ us hl => match us, hl with | [_, _], _ => rfl
  refine ⟨PySem.W.fnOf "law" "law" (defArgs s_law) (defBody s_law) (defScope s_law) .none kV_law dc_law pm_law an_law cd_law ct_law, fun s v => .of_eq rfl, fun base _ _ => ?_⟩
  have g__law_in_order : FnG l.prog w K mg base "_law_in_order" 1 0 2 m__law_in_order := ⟨_, _, _, ok__law_in_order F__law_in_order z_divmod z_isinstance z_len z_list z_range z_tuple, PySem.W.mg_of X G a__law_in_order, k__law_in_order, bd__law_in_order⟩
  have g__law_cell_at : FnG l.prog w K mg base "_law_cell_at" 1 0 2 m__law_cell_at := ⟨_, _, _, ok__law_cell_at F__law_cell_at z_len, PySem.W.mg_of X G a__law_cell_at, k__law_cell_at, bd__law_cell_at⟩
  have g__law_drawn : FnG l.prog w K mg base "_law_drawn" 2 0 2 m__law_drawn := ⟨_, _, _, ok__law_drawn F__law_drawn z_len z_max z_min g__law_cell_at, PySem.W.mg_of X G a__law_drawn, k__law_drawn, bd__law_drawn⟩
  have g__law_pool : FnG l.prog w K mg base "_law_pool" 1 0 2 m__law_pool := ⟨_, _, _, ok__law_pool F__law_pool z_range, PySem.W.mg_of X G a__law_pool, k__law_pool, bd__law_pool⟩
  have g__law_worth : FnG l.prog w K mg base "_law_worth" 1 0 1 m__law_worth := ⟨_, _, _, ok__law_worth F__law_worth, PySem.W.mg_of X G a__law_worth, k__law_worth, bd__law_worth⟩
  have g__law_parts : FnG l.prog w K mg base "_law_parts" 3 0 2 m__law_parts := ⟨_, _, _, ok__law_parts F__law_parts z_len z_range g__law_cell_at g__law_drawn g__law_pool g__law_worth, PySem.W.mg_of X G a__law_parts, k__law_parts, bd__law_parts⟩
  have g_is_name : FnG l.prog w K mg base "is_name" 1 0 1 m_is_name := ⟨_, _, _, ok_is_name F_is_name z_isinstance z_len z_str q_LETTERS, PySem.W.mg_of X G a_is_name, k_is_name, bd_is_name⟩
  have g_are_names : FnG l.prog w K mg base "are_names" 2 0 2 m_are_names := ⟨_, _, _, ok_are_names F_are_names z_isinstance z_len z_list z_set g_is_name, PySem.W.mg_of X G a_are_names, k_are_names, bd_are_names⟩
  have g_is_worth : FnG l.prog w K mg base "is_worth" 1 0 1 m_is_worth := ⟨_, _, _, ok_is_worth F_is_worth z_bool z_int z_isinstance, PySem.W.mg_of X G a_is_worth, k_is_worth, bd_is_worth⟩
  have g_are_worths : FnG l.prog w K mg base "are_worths" 2 0 3 m_are_worths := ⟨_, _, _, ok_are_worths F_are_worths z_isinstance z_len z_list g_is_worth, PySem.W.mg_of X G a_are_worths, k_are_worths, bd_are_worths⟩
  have g_is_hand : FnG l.prog w K mg base "is_hand" 3 0 2 m_is_hand := ⟨_, _, _, ok_is_hand F_is_hand z_isinstance z_len z_tuple g_are_names g_are_worths g_is_name, PySem.W.mg_of X G a_is_hand, k_is_hand, bd_is_hand⟩
  have g_house_of : FnG l.prog w K mg base "house_of" 4 0 2 m_house_of := ⟨_, _, _, ok_house_of F_house_of z_isinstance z_len z_list z_set z_tuple g_are_names g_is_hand, PySem.W.mg_of X G a_house_of, k_house_of, bd_house_of⟩
  have g_crossed : FnG l.prog w K mg base "crossed" 1 1 1 m_crossed_v2 := ⟨_, _, _, ok_crossed F_crossed, PySem.W.mg_of X G a_crossed, k_crossed, bd_crossed⟩
  have g_others_of : FnG l.prog w K mg base "others_of" 2 1 2 m_others_of_v2 := ⟨_, _, _, ok_others_of F_others_of z_len z_range g_crossed, PySem.W.mg_of X G a_others_of, k_others_of, bd_others_of⟩
  have g_rows_of : FnG l.prog w K mg base "rows_of" 2 1 1 m_rows_of_v2 := ⟨_, _, _, ok_rows_of F_rows_of g_crossed, PySem.W.mg_of X G a_rows_of, k_rows_of, bd_rows_of⟩
  exact (ok_law F_law z_len z_range g__law_in_order g__law_parts g_house_of g_others_of g_rows_of).imp (law_sp hm)
end Lk34

-- TWM
namespace TW
open PySem PySem.Spec PyProof.Rows L2

section
variable {ρ : Rho} {i j : Nat} {a b c : Rho → Res D} {g g' : D → D → Option D} {m mb : Rho → Out}
@[simp] theorem mVar_eq : mVar i ρ = (match ρ[i]? with | some (some d) => .ok d | _ => .stuck) := id rfl
@[simp] theorem mC_eq {d : D} : mC d ρ = .ok d := id rfl
@[simp] theorem m1_eq {g : D → Option D} : m1 g a ρ = (a ρ).bind fun x => ofO (g x) := id rfl
@[simp] theorem m2_eq : m2 g a b ρ = (a ρ).bind fun x => (b ρ).bind fun y => ofO (g x y) := id rfl
@[simp] theorem mA0_eq : mA0 ρ = .ok [] := id rfl
@[simp] theorem mA1_eq {r : Rho → Res (List D)} : mA1 a r ρ = (a ρ).bind fun x => (r ρ).bind fun xs => .ok (x :: xs) := id rfl
@[simp] theorem mArgs_eq {g : List D → Res D} {r : Rho → Res (List D)} : mArgs g r ρ = (r ρ).bind g := id rfl
@[simp] theorem mL_eq {g : List D → Option D} {r : Rho → Res (List D)} : mL g r ρ = (r ρ).bind fun x => ofO (g x) := id rfl
@[simp] theorem mT_eq : mT a ρ = (a ρ).bind ofB := id rfl
@[simp] theorem ofB_eq {t : Bool} : ofB (.bl t) = .ok t := id rfl
@[simp] theorem mFlat_eq : mFlat a ρ = (a ρ).bind fun d => if d.flat then .ok d else .stuck := id rfl
@[simp] theorem flat_int {z : Int} : D.flat (.int z) = true := id rfl
@[simp] theorem flat_bl {z : Bool} : D.flat (.bl z) = true := id rfl
@[simp] theorem flat_str {z : Str} : D.flat (.str z) = true := id rfl
@[simp] theorem flat_non : D.flat .non = true := id rfl
@[simp] theorem mSl_eq {lo hi : Rho → Res (Option Int)} : mSl a lo hi ρ = (a ρ).bind fun d => (lo ρ).bind fun l => (hi ρ).bind fun h => ofO (gSl d l h) := id rfl
@[simp] theorem oNo_eq : oNo ρ = .ok none := id rfl
@[simp] theorem oYes_eq : oYes a ρ = (a ρ).bind ofI := id rfl
@[simp] theorem ofI_eq {z : Int} : ofI (.int z) = .ok (some z) := id rfl
@[simp] theorem mAnd_eq : mAnd a b ρ = (a ρ).bind fun d => match d with | .bl true => b ρ | .bl false => .ok (.bl false) | _ => .stuck := id rfl
@[simp] theorem mOr_eq : mOr a b ρ = (a ρ).bind fun d => match d with | .bl true => .ok (.bl true) | .bl false => b ρ | _ => .stuck := id rfl
@[simp] theorem tAndM_eq {a b : Rho → Res Bool} : tAndM a b ρ = (a ρ).bind fun d => if d = true then b ρ else .ok false := id rfl
@[simp] theorem tOrM_eq {a b : Rho → Res Bool} : tOrM a b ρ = (a ρ).bind fun d => if d = true then .ok true else b ρ := id rfl
@[simp] theorem tNotM_eq {a : Rho → Res Bool} : tNotM a ρ = (a ρ).bind fun d => .ok (!d) := id rfl
@[simp] theorem tYesM_eq : tYesM ρ = .ok true := id rfl
@[simp] theorem mChain_eq : mChain g g' a b c ρ = (a ρ).bind fun x => (b ρ).bind fun y => (ofO (g x y)).bind fun z => match z with
  | .bl true => (c ρ).bind fun w => ofO (g' y w)
  | .bl false => .ok (.bl false)
  | _ => .stuck := id rfl
@[simp] theorem iAny_eq : iAny a ρ = (a ρ).bind fun d => ofO (iLoc d) := id rfl
@[simp] theorem iLoc_lst {l : List D} : iLoc (.lst l) = some l := id rfl
@[simp] theorem iLoc_ftup {l : List D} : iLoc (.ftup l) = some l := id rfl
@[simp] theorem iLoc_tup {l : List D} : iLoc (.tup l) = some l := id rfl
@[simp] theorem iLoc_scr {l : List Int} : iLoc (.scr l) = some (l.map .int) := id rfl
@[simp] theorem pNil_eq : pNil ρ = .ok [] := id rfl
@[simp] theorem pSnoc_eq {p : Rho → Res (List D)} : pSnoc p a ρ = (p ρ).bind fun p => (noX (a ρ)).bind fun j => .ok (p ++ [j]) := id rfl
@[simp] theorem sSet_eq : sSet i a ρ = (a ρ).out ρ fun d => .nx (ρ.set i (some d)) := id rfl
@[simp] theorem sRet_eq : sRet a ρ = (a ρ).out ρ fun d => .rt d := id rfl
@[simp] theorem sDo_eq : sDo a ρ = (a ρ).out ρ fun _ => .nx ρ := id rfl
@[simp] theorem sIf_eq {t : Rho → Res Bool} : sIf t m mb ρ = (t ρ).out ρ fun k => if k = true then m ρ else mb ρ := id rfl
@[simp] theorem sSeq_eq : sSeq m mb ρ = (m ρ).bind mb := id rfl
@[simp] theorem sNil_eq : sNil ρ = .nx ρ := id rfl
@[simp] theorem Out.nx_bind {f : Rho → Out} : (Out.nx ρ).bind f = f ρ := id rfl
@[simp] theorem Out.bind_rt {f : Rho → Out} {d : D} : (Out.rt d).bind f = .rt d := id rfl
@[simp] theorem Out.bind_ex {f : Rho → Out} {e : Str} : (Out.ex e ρ).bind f = .ex e ρ := id rfl
@[simp] theorem Out.bind_stuck {f : Rho → Out} : (Out.stuck).bind f = .stuck := id rfl
@[simp] theorem Out.bind_ite {f : Rho → Out} {p : Prop} [Decidable p] {x y : Out} : (if p then x else y).bind f = if p then x.bind f else y.bind f := by split <;> rfl
@[simp] theorem sApp_eq {mp : Rho → Res (List D)} : sApp i mp a ρ = atS i (fun ρ => (mp ρ).out ρ fun p => (noX (a ρ)).out ρ fun v => mutO i ρ p (nApp v)) ρ := id rfl
@[simp] theorem sAppMv_eq {mp : Rho → Res (List D)} : sAppMv i mp j ρ = atS j (atS i fun ρ => (mp ρ).out ρ fun p => (mVar j ρ).out ρ fun v => mutO i (ρ.set j none) p (nApp v)) ρ := id rfl
@[simp] theorem sPut_eq {mp : Rho → Res (List D)} : sPut i mp a b ρ = atS i (fun ρ => (b ρ).out ρ fun v => (mp ρ).out ρ fun p => (noX (a ρ)).out ρ fun j => mutO i ρ p (nSet j v)) ρ := id rfl
@[simp] theorem sAug_eq {mp : Rho → Res (List D)} : sAug i g mp a b ρ = atS i (fun ρ => (mp ρ).out ρ fun p => (noX (a ρ)).out ρ fun j => (noX (b ρ)).out ρ fun v => mutO i ρ p fun c => (gIx c j).bind fun u => (g u v).bind fun z => nSet j z c) ρ := id rfl
@[simp] theorem sAugN_eq : sAugN i a ρ = atS i (fun ρ => (a ρ).out ρ fun v => (m2 gAddI (mVar i) (mC v) ρ).out ρ fun z => .nx (ρ.set i (some z))) ρ := id rfl
@[simp] theorem atS_eq {f : Rho → Out} : atS i f ρ = (match ρ[i]? with | some (some _) => f ρ | _ => .stuck) := id rfl
@[simp] theorem mutO_eq {p : List D} {f : D → Option D} : mutO i ρ p f = (match ρ[i]? with
  | some (some d) => (match updP d p f with
    | some d' => .nx (ρ.set i (some d'))
    | none => .stuck)
  | _ => .stuck) := id rfl
end
section
variable {i j : Int} {s t : Str} {l r : List D} {ns : List Int}
@[simp] theorem gAdd_int : gAdd (.int i) (.int j) = some (.int (i + j)) := id rfl
@[simp] theorem gAdd_lst (h : l.length + r.length ≤ sizeLine) : gAdd (.lst l) (.lst r) = some (.lst (l ++ r)) := by simp only [gAdd, if_pos h]
@[simp] theorem gAdd_tup (h : l.length + r.length ≤ sizeLine) : gAdd (.tup l) (.tup r) = some (.tup (l ++ r)) := by simp only [gAdd, if_pos h]
@[simp] theorem gSub_int : gSub (.int i) (.int j) = some (.int (i - j)) := id rfl
theorem log2_lt {n k : Nat} (h : n < 2 ^ k) (hk : 0 < k) : n.log2 < k := by
  by_cases e : n = 0
  · subst e; simpa using hk
  · exact (Nat.log2_lt e).mpr h
theorem gMul_int (hi : i.natAbs < 2 ^ 250) (hj : j.natAbs < 2 ^ 250) : gMul (.int i) (.int j) = some (.int (i * j)) := by
  have h1 := log2_lt hi (by decide)
  have h2 := log2_lt hj (by decide)
  show (if _ then _ else _) = _
  rw [if_pos (by omega)]
@[simp] theorem gMod_int (h : 0 < j) : gMod (.int i) (.int j) = some (.int (i % j)) := if_pos h
theorem gDiv_int (h : 0 < j) (h2 : j.natAbs.log2 < 9000) : gDiv (.int i) (.int j) = some (.int (i / j)) := if_pos ⟨h, h2⟩
@[simp] theorem gLt_int : gLt (.int i) (.int j) = some (.bl (decide (i < j))) := id rfl
@[simp] theorem gLe_int : gLe (.int i) (.int j) = some (.bl (decide (i ≤ j))) := id rfl
@[simp] theorem gGt_int : gGt (.int i) (.int j) = some (.bl (decide (j < i))) := id rfl
@[simp] theorem gGe_int : gGe (.int i) (.int j) = some (.bl (decide (j ≤ i))) := id rfl
@[simp] theorem gNot_bl {b : Bool} : gNot (.bl b) = some (.bl (!b)) := id rfl
@[simp] theorem gNeg_int : gNeg (.int i) = some (.int (-i)) := id rfl
@[simp] theorem gLst_eq (h : l.length ≤ sizeLine) : gLst l = some (.lst l) := if_pos h
@[simp] theorem gTup_eq (h : l.length ≤ sizeLine) : gTup l = some (.tup l) := if_pos h
@[simp] theorem gLen_lst : gLen [.lst l] = some (.int l.length) := id rfl
@[simp] theorem gLen_ftup : gLen [.ftup l] = some (.int l.length) := id rfl
@[simp] theorem gLen_tup : gLen [.tup l] = some (.int l.length) := id rfl
@[simp] theorem gLen_scr : gLen [.scr ns] = some (.int ns.length) := id rfl
@[simp] theorem gMax_2 : gMax [.int i, .int j] = some (.int (max i j)) := id rfl
@[simp] theorem gMin_2 : gMin [.int i, .int j] = some (.int (min i j)) := id rfl
@[simp] theorem gInt_int : gInt [.int i] = some (.int i) := id rfl
@[simp] theorem gInt_bl {b : Bool} : gInt [.bl b] = some (.int (if b then 1 else 0)) := id rfl
@[simp] theorem gAbs_int : gAbs [.int i] = some (.int (if i < 0 then -i else i)) := id rfl
@[simp] theorem gList_lst : gList [.lst l] = some (.lst l) := id rfl
@[simp] theorem gList_tup : gList [.tup l] = some (.lst l) := id rfl
@[simp] theorem gList_scr : gList [.scr ns] = some (.lst (ns.map .int)) := id rfl
@[simp] theorem gTuple_lst : gTuple [.lst l] = some (.tup l) := id rfl
@[simp] theorem gTuple_tup : gTuple [.tup l] = some (.tup l) := id rfl
@[simp] theorem gAddI_int : gAddI (.int i) (.int j) = some (.int (i + j)) := id rfl
@[simp] theorem nApp_lst {v : D} (h : l.length < sizeLine) : nApp v (.lst l) = some (.lst (l ++ [v])) := if_pos h
@[simp] theorem updP_nil {d : D} {f : D → Option D} : updP d [] f = f d := by
  unfold updP
  simp only [getP, setP, Option.bind_some]
  cases f d <;> simp
@[simp] theorem isi_int_int : gIsi "int" (.int i) = some (.bl true) := by show (kitB "int" "int").map D.bl = _; rw [show kitB "int" "int" = some true by decide +kernel]; rfl
@[simp] theorem isi_int_bool : gIsi "bool" (.int i) = some (.bl false) := by show (kitB "int" "bool").map D.bl = _; rw [show kitB "int" "bool" = some false by decide +kernel]; rfl
end

theorem b62 {n : Nat} (h : n < 1000000) : -(2 ^ 62 : Int) ≤ (n : Int) ∧ (n : Int) < 2 ^ 62 :=
  ⟨Int.le_trans (show -(2 ^ 62 : Int) ≤ 0 by decide) (Int.natCast_nonneg n), Int.lt_trans (show (n : Int) < 1000000 by omega) (show (1000000 : Int) < 2 ^ 62 by decide)⟩
theorem b24 {n : Nat} (h : n < 1000000) : n < sizeLine := Nat.lt_trans h (show 1000000 < 2 ^ 24 by decide)
theorem b24' {n : Nat} (h : n < 1000000) : n ≤ sizeLine := Nat.le_of_lt (b24 h)
def Pl : Nat → D → Prop
  | _, .non => True
  | _, .int _ => True
  | _, .str s => PySem.PyData.strOk s = true
  | 0, .lst _ => False
  | 0, .tup _ => False
  | n + 1, .lst l => ∀ x ∈ l, Pl n x
  | n + 1, .tup l => ∀ x ∈ l, Pl n x
  | _, .bl _ => False
  | _, .dK _ _ => False
  | _, .dT _ _ => False
  | _, .scr _ => False
  | _, .junk => False
  | _, .ftup _ => False
theorem pys_of {n : Nat} (ih : ∀ d, Pl n d → ∃ p, toPy d = some p ∧ p.canLay0 = true ∧ p.depth ≤ n) : ∀ l : List D, (∀ x ∈ l, Pl n x) → ∃ ps, toPys l = some ps ∧ PyData.canLayAll0 ps = true ∧ PyData.depthAll ps ≤ n
  | [], _ => ⟨[], rfl, rfl, Nat.zero_le _⟩
  | d :: ds, h => by
    obtain ⟨p, e, c, q⟩ := ih d (h d List.mem_cons_self)
    obtain ⟨ps, e', c', q'⟩ := pys_of ih ds fun x hx => h x (List.mem_cons_of_mem _ hx)
    exact ⟨p :: ps, by simp [toPys, e, e'], by simp [PyData.canLayAll0, c, c'], by simp [PyData.depthAll]; omega⟩
theorem py_of : ∀ (n : Nat) (d : D), Pl n d → ∃ p, toPy d = some p ∧ p.canLay0 = true ∧ p.depth ≤ n
  | n, .non, _ => ⟨.none, rfl, rfl, Nat.zero_le _⟩
  | n, .int i, _ => ⟨.int i, rfl, rfl, Nat.zero_le _⟩
  | n, .str s, h => ⟨.str s, rfl, by cases n <;> exact h, Nat.zero_le _⟩
  | 0, .lst _, h => h.elim
  | 0, .tup _, h => h.elim
  | n + 1, .lst l, h => by
    obtain ⟨ps, e, c, q⟩ := pys_of (py_of n) l h
    exact ⟨.list ps, by simp [toPy, e], c, by simp [PyData.depth]; omega⟩
  | n + 1, .tup l, h => by
    obtain ⟨ps, e, c, q⟩ := pys_of (py_of n) l h
    exact ⟨.tuple ps, by simp [toPy, e], c, by simp [PyData.depth]; omega⟩
  | n, .bl _, h => by cases n <;> exact h.elim
  | n, .dK _ _, h => by cases n <;> exact h.elim
  | n, .dT _ _, h => by cases n <;> exact h.elim
  | n, .scr _, h => by cases n <;> exact h.elim
  | n, .junk, h => by cases n <;> exact h.elim
  | n, .ftup _, h => by cases n <;> exact h.elim
theorem eqvs_iff {n : Nat} (ih : ∀ d e, Pl n d → Pl n e → ∀ p q, toPy d = some p → toPy e = some q → (PyData.eqv p q = true ↔ d = e)) : ∀ l r : List D, (∀ x ∈ l, Pl n x) → (∀ x ∈ r, Pl n x) → ∀ p q, toPys l = some p → toPys r = some q → (PyData.eqvAll p q = true ↔ l = r)
  | [], [], _, _, p, q, hp, hq => by cases hp; cases hq; simp [PyData.eqvAll]
  | [], d :: ds, _, h, p, q, hp, hq => by
    obtain ⟨y, e, c, _⟩ := py_of n d (h d List.mem_cons_self)
    obtain ⟨ys, e', c', _⟩ := pys_of (py_of n) ds fun x hx => h x (List.mem_cons_of_mem _ hx)
    cases hp
    simp [toPys, e, e'] at hq
    subst hq
    simp [PyData.eqvAll]
  | d :: ds, [], h, _, p, q, hp, hq => by
    obtain ⟨y, e, c, _⟩ := py_of n d (h d List.mem_cons_self)
    obtain ⟨ys, e', c', _⟩ := pys_of (py_of n) ds fun x hx => h x (List.mem_cons_of_mem _ hx)
    cases hq
    simp [toPys, e, e'] at hp
    subst hp
    simp [PyData.eqvAll]
  | d :: ds, e :: es, h, g, p, q, hp, hq => by
    obtain ⟨y, e1, _, _⟩ := py_of n d (h d List.mem_cons_self)
    obtain ⟨ys, e2, _, _⟩ := pys_of (py_of n) ds fun x hx => h x (List.mem_cons_of_mem _ hx)
    obtain ⟨z, e3, _, _⟩ := py_of n e (g e List.mem_cons_self)
    obtain ⟨zs, e4, _, _⟩ := pys_of (py_of n) es fun x hx => g x (List.mem_cons_of_mem _ hx)
    simp [toPys, e1, e2] at hp
    simp [toPys, e3, e4] at hq
    subst hp hq
    simp only [PyData.eqvAll, Bool.and_eq_true, List.cons.injEq]
    rw [ih d e (h d List.mem_cons_self) (g e List.mem_cons_self) y z e1 e3, eqvs_iff ih ds es (fun x hx => h x (List.mem_cons_of_mem _ hx)) (fun x hx => g x (List.mem_cons_of_mem _ hx)) ys zs e2 e4]
theorem pys_inv {l : List D} {p : PyData} (h : toPy (.lst l) = some p) : ∃ ps, toPys l = some ps ∧ p = .list ps := by
  simp only [toPy, Option.map_eq_some_iff] at h
  obtain ⟨ps, e, rfl⟩ := h
  exact ⟨ps, e, rfl⟩
theorem pyt_inv {l : List D} {p : PyData} (h : toPy (.tup l) = some p) : ∃ ps, toPys l = some ps ∧ p = .tuple ps := by
  simp only [toPy, Option.map_eq_some_iff] at h
  obtain ⟨ps, e, rfl⟩ := h
  exact ⟨ps, e, rfl⟩
theorem pl_no {n : Nat} {d : D} (h : Pl n d) : (∃ i, d = .int i) ∨ d = .non ∨ (∃ s, d = .str s) ∨ (∃ m l, n = m + 1 ∧ d = .lst l ∧ ∀ x ∈ l, Pl m x) ∨ ∃ m l, n = m + 1 ∧ d = .tup l ∧ ∀ x ∈ l, Pl m x := by
  cases d with
  | int i => exact .inl ⟨i, rfl⟩
  | non => exact .inr (.inl rfl)
  | str s => exact .inr (.inr (.inl ⟨s, rfl⟩))
  | lst l => cases n with
    | zero => exact h.elim
    | succ m => exact .inr (.inr (.inr (.inl ⟨m, l, rfl, rfl, h⟩)))
  | tup l => cases n with
    | zero => exact h.elim
    | succ m => exact .inr (.inr (.inr (.inr ⟨m, l, rfl, rfl, h⟩)))
  | bl _ => cases n <;> exact h.elim
  | dK _ _ => cases n <;> exact h.elim
  | dT _ _ => cases n <;> exact h.elim
  | scr _ => cases n <;> exact h.elim
  | junk => cases n <;> exact h.elim
  | ftup _ => cases n <;> exact h.elim
theorem eqv_iff : ∀ (n : Nat) (d e : D), Pl n d → Pl n e → ∀ p q, toPy d = some p → toPy e = some q → (PyData.eqv p q = true ↔ d = e) := by
  intro n
  induction n with
  | zero =>
    intro d e hd he p q hp hq
    rcases pl_no hd with ⟨i, rfl⟩ | rfl | ⟨s, rfl⟩ | ⟨m, l, h, _⟩ | ⟨m, l, h, _⟩
    all_goals first | (exact absurd h (by omega)) | skip
    all_goals rcases pl_no he with ⟨j, rfl⟩ | rfl | ⟨t, rfl⟩ | ⟨m, r, h, _⟩ | ⟨m, r, h, _⟩
    all_goals first | (exact absurd h (by omega)) | skip
    all_goals (cases hp; cases hq; simp [PyData.eqv])
  | succ n ih =>
    intro d e hd he p q hp hq
    rcases pl_no hd with ⟨i, rfl⟩ | rfl | ⟨s, rfl⟩ | ⟨m, l, h, rfl, hl⟩ | ⟨m, l, h, rfl, hl⟩
    all_goals rcases pl_no he with ⟨j, rfl⟩ | rfl | ⟨t, rfl⟩ | ⟨m', r, h', rfl, hr⟩ | ⟨m', r, h', rfl, hr⟩
    all_goals first | (cases h; cases h') | cases h | cases h' | skip
    all_goals first | (obtain ⟨ps, e1, rfl⟩ := pys_inv hp) | (obtain ⟨ps, e1, rfl⟩ := pyt_inv hp) | cases hp
    all_goals first | (obtain ⟨qs, e2, rfl⟩ := pys_inv hq) | (obtain ⟨qs, e2, rfl⟩ := pyt_inv hq) | cases hq
    all_goals first | (simp [PyData.eqv]; done) | (simp only [PyData.eqv, D.lst.injEq]; exact eqvs_iff ih l r hl hr ps qs e1 e2) | (simp only [PyData.eqv, D.tup.injEq]; exact eqvs_iff ih l r hl hr ps qs e1 e2)
theorem gEq_pl {n : Nat} {d e : D} (hd : Pl n d) (he : Pl n e) (hn : n ≤ 64 := by decide) : ∃ b, gEq d e = some (.bl b) ∧ gNe d e = some (.bl !b) ∧ (b = true ↔ d = e) := by
  obtain ⟨p, e1, c1, q1⟩ := py_of n d hd
  obtain ⟨q, e2, c2, q2⟩ := py_of n e he
  refine ⟨PyData.eqv p q, ?_, ?_, eqv_iff n d e hd he p q e1 e2⟩
  · simp [gEq, e1, e2, SeqAt.shaped, c1, c2, show p.depth ≤ 64 by omega, show q.depth ≤ 64 by omega]
  · simp [gNe, e1, e2, SeqAt.shaped, c1, c2, show p.depth ≤ 64 by omega, show q.depth ≤ 64 by omega]
theorem gEq_same {n : Nat} {d : D} (hd : Pl n d) (hn : n ≤ 64 := by decide) : gEq d d = some (.bl true) := by
  obtain ⟨b, e, _, q⟩ := gEq_pl hd hd hn
  rw [e, q.mpr rfl]
theorem gNe_same {n : Nat} {d : D} (hd : Pl n d) (hn : n ≤ 64 := by decide) : gNe d d = some (.bl false) := by
  obtain ⟨b, _, e, q⟩ := gEq_pl hd hd hn
  rw [e, q.mpr rfl]; rfl
theorem gEq_dec {n : Nat} {d e : D} [Decidable (d = e)] (hd : Pl n d) (he : Pl n e) (hn : n ≤ 64 := by decide) : gEq d e = some (.bl (decide (d = e))) := by
  obtain ⟨b, g, _, q⟩ := gEq_pl hd he hn
  rw [g]
  congr 2
  exact Bool.eq_iff_iff.mpr (q.trans decide_eq_true_iff.symm)
@[simp] theorem gEq_int {i j : Int} : gEq (.int i) (.int j) = some (.bl (decide (i = j))) := by
  obtain ⟨b, g, _, q⟩ := gEq_pl (n := 0) (d := .int i) (e := .int j) trivial trivial
  rw [g]; congr 2
  exact Bool.eq_iff_iff.mpr (q.trans (by simp))
@[simp] theorem gNe_int {i j : Int} : gNe (.int i) (.int j) = some (.bl (!decide (i = j))) := by
  obtain ⟨b, _, g, q⟩ := gEq_pl (n := 0) (d := .int i) (e := .int j) trivial trivial
  rw [g]; congr 3
  exact Bool.eq_iff_iff.mpr (q.trans (by simp))
def Pr : Nat → D → Prop
  | _, .non => True
  | _, .int _ => True
  | _, .bl _ => True
  | _, .str s => PySem.PyData.strOk s = true
  | 0, .lst _ => False
  | 0, .tup _ => False
  | n + 1, .lst l => ∀ x ∈ l, Pr n x
  | n + 1, .tup l => ∀ x ∈ l, Pr n x
  | _, .dK _ _ => False
  | _, .dT _ _ => False
  | _, .scr _ => False
  | _, .junk => False
  | _, .ftup _ => False
theorem rys_of {n : Nat} (ih : ∀ d, Pr n d → ∃ p, toPy d = some p ∧ p.canLay0 = true ∧ p.depth ≤ n ∧ PyData.eqv p p = true) : ∀ l : List D, (∀ x ∈ l, Pr n x) → ∃ ps, toPys l = some ps ∧ PyData.canLayAll0 ps = true ∧ PyData.depthAll ps ≤ n ∧ PyData.eqvAll ps ps = true
  | [], _ => ⟨[], rfl, rfl, Nat.zero_le _, rfl⟩
  | d :: ds, h => by
    obtain ⟨p, e, c, q, r⟩ := ih d (h d List.mem_cons_self)
    obtain ⟨ps, e', c', q', r'⟩ := rys_of ih ds fun x hx => h x (List.mem_cons_of_mem _ hx)
    exact ⟨p :: ps, by simp [toPys, e, e'], by simp [PyData.canLayAll0, c, c'], by simp [PyData.depthAll]; omega, by simp [PyData.eqvAll, r, r']⟩
theorem ry_of : ∀ (n : Nat) (d : D), Pr n d → ∃ p, toPy d = some p ∧ p.canLay0 = true ∧ p.depth ≤ n ∧ PyData.eqv p p = true
  | n, .non, _ => ⟨.none, rfl, rfl, Nat.zero_le _, rfl⟩
  | n, .int i, _ => ⟨.int i, rfl, rfl, Nat.zero_le _, by simp [PyData.eqv]⟩
  | n, .bl i, _ => ⟨.bool i, rfl, rfl, Nat.zero_le _, by simp [PyData.eqv]⟩
  | n, .str s, h => ⟨.str s, rfl, by cases n <;> exact h, Nat.zero_le _, by simp [PyData.eqv]⟩
  | 0, .lst _, h => h.elim
  | 0, .tup _, h => h.elim
  | n + 1, .lst l, h => by
    obtain ⟨ps, e, c, q, r⟩ := rys_of (ry_of n) l h
    exact ⟨.list ps, by simp [toPy, e], c, by simp [PyData.depth]; omega, by simp [PyData.eqv, r]⟩
  | n + 1, .tup l, h => by
    obtain ⟨ps, e, c, q, r⟩ := rys_of (ry_of n) l h
    exact ⟨.tuple ps, by simp [toPy, e], c, by simp [PyData.depth]; omega, by simp [PyData.eqv, r]⟩
  | n, .dK _ _, h => by cases n <;> exact h.elim
  | n, .dT _ _, h => by cases n <;> exact h.elim
  | n, .scr _, h => by cases n <;> exact h.elim
  | n, .junk, h => by cases n <;> exact h.elim
  | n, .ftup _, h => by cases n <;> exact h.elim
theorem gEq_refl {n : Nat} {d : D} (hd : Pr n d) (hn : n ≤ 64 := by decide) : gEq d d = some (.bl true) := by
  obtain ⟨p, e, c, q, r⟩ := ry_of n d hd
  simp [gEq, e, SeqAt.shaped, c, show p.depth ≤ 64 by omega, r]
theorem gNe_refl {n : Nat} {d : D} (hd : Pr n d) (hn : n ≤ 64 := by decide) : gNe d d = some (.bl false) := by
  obtain ⟨p, e, c, q, r⟩ := ry_of n d hd
  simp [gNe, e, SeqAt.shaped, c, show p.depth ≤ 64 by omega, r]
theorem gMul_rep {l : List D} {k : Nat} (h : l.length * k < 1000000) (hk : k < 1000000 := by omega) : gMul (.lst l) (.int k) = some (.lst (List.replicate k l).flatten) := by
  have h1 := b62 hk
  have p : -(2 ^ 63 : Int) ≤ -(2 ^ 62) := by decide
  have q : (2 ^ 62 : Int) ≤ 2 ^ 63 := by decide
  have c : -(2 ^ 63 : Int) ≤ (k : Int) ∧ (k : Int) < 2 ^ 63 ∧ l.length * (k : Int).toNat ≤ sizeLine := ⟨Int.le_trans p h1.1, Int.lt_of_lt_of_le h1.2 q, by rw [Int.toNat_natCast]; exact b24' h⟩
  have e : gMul (.lst l) (.int k) = (if -(2 ^ 63 : Int) ≤ (k : Int) ∧ (k : Int) < 2 ^ 63 ∧ l.length * (k : Int).toNat ≤ sizeLine then some (.lst (List.replicate (k : Int).toNat l).flatten) else none) := by rw [gMul]
  rw [e, if_pos c, Int.toNat_natCast]
theorem isi_list_list {l : List D} : gIsi "list" (.lst l) = some (.bl true) := by show (kitB "list" "list").map D.bl = _; rw [show kitB "list" "list" = some true by decide +kernel]; rfl
theorem callM_eq {N : Nat} {b : Rho → Out} {ds : List D} : callM N b ds = (match b (ds.map some ++ List.replicate (N - ds.length) none) with
  | .rt d => .ok d
  | .nx _ => .ok .non
  | .ex c _ => .exn c
  | .stuck => .stuck) := id rfl
theorem call_rt {N : Nat} {b : Rho → Out} {ds : List D} {d : D} (h : b (ds.map some ++ List.replicate (N - ds.length) none) = .rt d) : callM N b ds = .ok d := by rw [callM_eq, h]
theorem call_nx {N : Nat} {b : Rho → Out} {ds : List D} {ρ : Rho} (h : b (ds.map some ++ List.replicate (N - ds.length) none) = .nx ρ) : callM N b ds = .ok .non := by rw [callM_eq, h]
theorem iR1_ok {ρ : Rho} {mi : Rho → Res D} {n : Nat} (hm : mi ρ = .ok (.int n)) (hn : n < 1000000) : iR1 mi ρ = .ok ((List.range n).map fun k : Nat => .int k) := by
  unfold iR1
  rw [hm, Res.bind_ok]
  show (if _ then _ else _) = _
  rw [if_pos (b62 hn), Int.toNat_natCast]
section
variable {f : D → Rho → Option Rho} {b : Rho → Out} {j : Nat} {ρ : Rho} {mi : Rho → Res D}
theorem forL_ix (I : Nat → Rho → Prop) (Q : D → Prop) : ∀ (ds : List D) (k : Nat) (ρ : Rho), I k ρ →
    (∀ i d ρ, ds[i]? = some d → I (k + i) ρ → ∃ ρ1, f d ρ = some ρ1 ∧ ((∃ ρ2, b ρ1 = .nx ρ2 ∧ I (k + i + 1) ρ2) ∨ ∃ d, b ρ1 = .rt d ∧ Q d)) →
    (∃ ρ', forL f b ds ρ = .nx ρ' ∧ I (k + ds.length) ρ') ∨ ∃ d, forL f b ds ρ = .rt d ∧ Q d
  | [], k, ρ, h, _ => .inl ⟨ρ, rfl, h⟩
  | d :: ds, k, ρ, h, st => by
    obtain ⟨ρ1, e1, h1⟩ := st 0 d ρ rfl h
    rcases h1 with ⟨ρ2, e2, h2⟩ | ⟨r, e2, h2⟩
    · have := forL_ix I Q ds (k + 1) ρ2 h2 fun i d ρ e hI => by
        have := st (i + 1) d ρ e (by rw [show k + (i + 1) = k + 1 + i by omega]; exact hI)
        rw [show k + (i + 1) + 1 = k + 1 + i + 1 by omega] at this
        exact this
      simp only [forL, e1, e2, Out.nx_bind, List.length_cons]
      rw [show k + (ds.length + 1) = k + 1 + ds.length by omega]
      exact this
    · exact .inr ⟨r, by simp only [forL, e1, e2, Out.bind_rt], h2⟩
theorem for_rX (I : Nat → Rho → Prop) (Q : D → Prop) (n : Nat) (hm : mi ρ = .ok (.int n)) (hn : n < 1000000) (h0 : I 0 ρ)
    (st : ∀ i ρ, i < n → I i ρ → (∃ ρ2, b (ρ.set j (some (.int i))) = .nx ρ2 ∧ I (i + 1) ρ2) ∨ ∃ d, b (ρ.set j (some (.int i))) = .rt d ∧ Q d) :
    (∃ ρ', sFor (tgN j) (iR1 mi) b ρ = .nx ρ' ∧ I n ρ') ∨ ∃ d, sFor (tgN j) (iR1 mi) b ρ = .rt d ∧ Q d := by
  have e : sFor (tgN j) (iR1 mi) b ρ = forL (tgN j) b ((List.range n).map fun k : Nat => .int k) ρ := by
    unfold sFor
    rw [iR1_ok hm hn, Res.out_ok]
  rw [e]
  have := forL_ix (f := tgN j) (b := b) I Q ((List.range n).map fun k : Nat => .int k) 0 ρ h0 fun i d ρ e hI => by
    rw [List.getElem?_map] at e
    by_cases hi : i < n
    · rw [List.getElem?_range hi] at e
      cases e
      refine ⟨_, rfl, ?_⟩
      have := st i ρ hi (by simpa using hI)
      simpa using this
    · rw [List.getElem?_eq_none (by simpa using hi)] at e
      cases e
  simpa using this
theorem for_r (I : Nat → Rho → Prop) (n : Nat) (hm : mi ρ = .ok (.int n)) (hn : n < 1000000) (h0 : I 0 ρ)
    (st : ∀ i ρ, i < n → I i ρ → ∃ ρ2, b (ρ.set j (some (.int i))) = .nx ρ2 ∧ I (i + 1) ρ2) :
    ∃ ρ', sFor (tgN j) (iR1 mi) b ρ = .nx ρ' ∧ I n ρ' := by
  rcases for_rX I (fun _ => False) n hm hn h0 fun i ρ hi h => .inl (st i ρ hi h) with h | ⟨_, _, h⟩
  · exact h
  · exact h.elim
theorem for_lX {m : Rho → Res (List D)} (I : Nat → Rho → Prop) (Q : D → Prop) (ds : List D) (hm : m ρ = .ok ds) (h0 : I 0 ρ)
    (st : ∀ i d ρ, ds[i]? = some d → I i ρ → ∃ ρ1, f d ρ = some ρ1 ∧ ((∃ ρ2, b ρ1 = .nx ρ2 ∧ I (i + 1) ρ2) ∨ ∃ d, b ρ1 = .rt d ∧ Q d)) :
    (∃ ρ', sFor f m b ρ = .nx ρ' ∧ I ds.length ρ') ∨ ∃ d, sFor f m b ρ = .rt d ∧ Q d := by
  have e : sFor f m b ρ = forL f b ds ρ := by
    unfold sFor
    rw [hm]; rfl
  rw [e]
  have := forL_ix (f := f) (b := b) I Q ds 0 ρ h0 fun i d ρ e hI => by
    have := st i d ρ e (by simpa using hI)
    simpa using this
  simpa using this
theorem for_l {m : Rho → Res (List D)} (I : Nat → Rho → Prop) (ds : List D) (hm : m ρ = .ok ds) (h0 : I 0 ρ)
    (st : ∀ i d ρ, ds[i]? = some d → I i ρ → ∃ ρ1 ρ2, f d ρ = some ρ1 ∧ b ρ1 = .nx ρ2 ∧ I (i + 1) ρ2) :
    ∃ ρ', sFor f m b ρ = .nx ρ' ∧ I ds.length ρ' := by
  rcases for_lX I (fun _ => False) ds hm h0 fun i d ρ e h => (let ⟨ρ1, ρ2, e1, e2, h⟩ := st i d ρ e h; ⟨ρ1, e1, .inl ⟨ρ2, e2, h⟩⟩) with h | ⟨_, _, h⟩
  · exact h
  · exact h.elim
variable {vs : List Nat} {me : Rho → Res D} {tt : Rho → Res Bool}
theorem compL_map {F : D → Res (Option D)} {g : D → Option D} : ∀ (ds : List D), (∀ d ∈ ds, F d = .ok (g d)) → compL F ds = .ok (ds.filterMap g)
  | [], _ => rfl
  | d :: ds, h => by
    simp only [compL, h d List.mem_cons_self, noX_ok, Res.bind_ok, compL_map ds fun x hx => h x (List.mem_cons_of_mem _ hx), List.filterMap_cons]
    cases g d <;> rfl
theorem lc_gen {it : Rho → Res (List D)} (ds : List D) (g : D → Option D) (hm : it ρ = .ok ds) (hn : ds.length < sizeLine)
    (h : ∀ d ∈ ds, ∃ ρ', f d (wipeR ρ vs) = some ρ' ∧ ((tt ρ' = .ok false ∧ g d = none) ∨ ∃ v, tt ρ' = .ok true ∧ me ρ' = .ok v ∧ g d = some v)) : mLc vs f it tt me ρ = .ok (.lst (ds.filterMap g)) := by
  unfold mLc
  rw [hm, Res.bind_ok, if_pos hn, compL_map (g := g) ds, Res.bind_ok]
  intro d hd
  obtain ⟨ρ', e, q⟩ := h d hd
  rw [e]
  rcases q with ⟨q, r⟩ | ⟨v, q, q2, r⟩
  · simp [q, r]
  · simp [q, q2, r]
theorem lc_l {it : Rho → Res (List D)} (ds : List D) (g : D → D) (hm : it ρ = .ok ds) (hn : ds.length < sizeLine)
    (h : ∀ d ∈ ds, ∃ ρ', f d (wipeR ρ vs) = some ρ' ∧ me ρ' = .ok (g d)) : mLc vs f it tYesM me ρ = .ok (.lst (ds.map g)) := by
  rw [lc_gen (tt := tYesM) ds (fun d => some (g d)) hm hn fun d hd => (let ⟨ρ', e, q⟩ := h d hd; ⟨ρ', e, .inr ⟨_, rfl, q, rfl⟩⟩)]
  rw [List.filterMap_eq_map']
theorem lc_r (n : Nat) (g : Nat → D) (hm : mi ρ = .ok (.int n)) (hn : n < 1000000)
    (h : ∀ k, k < n → me ((wipeR ρ vs).set j (some (.int k))) = .ok (g k)) : mLc vs (tgN j) (iR1 mi) tYesM me ρ = .ok (.lst ((List.range n).map g)) := by
  have e := iR1_ok hm hn
  rw [lc_gen (tt := tYesM) _ (fun d => match d with | .int k => some (g k.toNat) | _ => none) e (by rw [List.length_map, List.length_range]; exact b24 hn)]
  · congr 2
    rw [List.filterMap_map]
    rw [← List.filterMap_eq_map']
    rfl
  · intro d hd
    obtain ⟨k, hk, rfl⟩ := List.mem_map.mp hd
    exact ⟨_, rfl, .inr ⟨g k, rfl, h k (List.mem_range.mp hk), by simp⟩⟩
end

theorem ixN_of {n k : Nat} (h : k < n) : ixN n (k : Int) = some k := by
  unfold ixN
  rw [if_pos (by omega), if_pos (by omega)]
  rfl
theorem atI_nat {α : Type} {l : List α} {k : Nat} (h : k < l.length) : atI l (k : Int) = l[k]? := by
  unfold atI
  rw [ixN_of h]; rfl
theorem gIx_map {α : Type} {n k : Nat} {g : Nat → D} (h : k < n) : gIx (.lst ((List.range n).map g)) (.int k) = some (g k) := by
  show atI _ _ = _
  rw [atI_nat (by simpa using h), List.getElem?_map, List.getElem?_range h]
  rfl
end TW

-- TWGrid
namespace TW
open PySem PySem.Spec PyProof.Rows L2
def cel (ns : List Int) (k : Nat) : Int := ns.getD k 0
theorem cell_ok (ns : List Int) (k : Nat) : m__law_cell [.scr ns, .int k] = .ok (.int (cel ns k)) := by
  rw [m__law_cell]
  refine call_rt ?_
  rw [b__law_cell]
  simp
  by_cases h : k < ns.length
  · have e : gIx (.scr ns) (.int k) = some (.int ns[k]) := by
      show (atI ns _).map D.int = _
      rw [atI_nat h, List.getElem?_eq_getElem h]; rfl
    simp [h, e, cel]
  · simp [h, cel]
theorem cell_at (ns : List Int) {i : Int} (k : Nat) (h : i = k) : m__law_cell [.scr ns, .int i] = .ok (.int (cel ns k)) := by rw [h]; exact cell_ok ns k
def num (c top : Int) : Int :=
  if c % 4 = 0 then c / 4 % 19 - 9 else if c % 4 = 1 then c / 4 % 3 - 1 else if c % 4 = 2 then c / 4 % (2 * 10 ^ 18) - 10 ^ 18 else c / 4 % (2 * top + 1) - top
theorem gPow_10 {k : Nat} (h : k ≤ 1000000) : gPow (.int 10) (.int k) = some (.int (10 ^ k)) := by
  show (if _ then _ else _) = _
  rw [if_pos ⟨by omega, by omega, by decide⟩]
  rfl
theorem num_ok (c top : Int) (h : 0 ≤ top) (h2 : top < 10 ^ 70) : m__law_number [.int c, .int top] = .ok (.int (num c top)) := by
  rw [m__law_number]
  refine call_rt ?_
  rw [b__law_number]
  have e4 : ∀ c, gDiv (.int c) (.int 4) = some (.int (c / 4)) := fun c => gDiv_int (by decide) (by decide)
  have e5 : gMul (.int 2) (.int (10 ^ 18)) = some (.int (2 * 10 ^ 18)) := gMul_int (by decide) (by decide)
  have e6 : gMul (.int 2) (.int top) = some (.int (2 * top)) := gMul_int (by decide) (by
    have : (10 : Int) ^ 70 < 2 ^ 250 := by decide
    have h3 : top.toNat < 2 ^ 250 := by
      have : (top.toNat : Int) < ((2 ^ 250 : Nat) : Int) := by
        rw [Int.toNat_of_nonneg h]
        exact Int.lt_trans h2 (by decide)
      exact Int.ofNat_lt.mp this
    rw [← Int.toNat_of_nonneg h]
    exact h3)
  have e7 : gPow (.int 10) (.int 18) = some (.int (10 ^ 18)) := gPow_10 (k := 18) (by decide)
  have e8 : gMod (.int (c / 4)) (.int (2 * 10 ^ 18)) = some (.int (c / 4 % (2 * 10 ^ 18))) := gMod_int (by decide)
  have e9 : gMod (.int (c / 4)) (.int (2 * top + 1)) = some (.int (c / 4 % (2 * top + 1))) := gMod_int (by omega)
  simp only [List.map_cons, List.map_nil, List.length_cons, List.length_nil, List.cons_append, List.nil_append, List.replicate, Nat.sub_self, Nat.zero_add, Nat.reduceAdd, List.append_nil, sSeq_eq, sIf_eq, mT_eq, m2_eq, mVar_eq, mC_eq, List.getElem?_cons_zero, List.getElem?_cons_succ, Res.bind_ok, sNil_eq, sRet_eq, gMod_int (show (0:Int) < 4 by decide), gMod_int (show (0:Int) < 19 by decide), gMod_int (show (0:Int) < 3 by decide), e4, e5, e6, e7, e8, e9, ofO_some, gEq_int, ofB_eq, Res.out_ok, gSub_int, gAdd_int, Out.bind_rt, Out.nx_bind]
  unfold num
  by_cases h0 : c % 4 = 0
  · simp [h0]
  · by_cases h1 : c % 4 = 1
    · simp [-Int.reducePow, h1, e4]
    · by_cases h2 : c % 4 = 2
      · simp [-Int.reducePow, h2, e4, e5, e7, e8]
      · simp [-Int.reducePow, h0, h1, h2, e4, e6, e9]
theorem num_le (c top : Int) (h : 10 ^ 18 ≤ top) : -top ≤ num c top ∧ num c top ≤ top := by
  have e : (10 : Int) ^ 18 = 1000000000000000000 := by decide
  unfold num
  rw [e] at h ⊢
  split
  · omega
  · split
    · omega
    · split
      · omega
      · have := Int.emod_lt_of_pos (c / 4) (show 0 < 2 * top + 1 by omega)
        have := Int.emod_nonneg (c / 4) (show 2 * top + 1 ≠ 0 by omega)
        omega

def rowD (n : Nat) (f : Nat → Int) : D := .lst ((List.range n).map fun s => .int (f s))
def gridD (n : Nat) (G : Nat → Nat → Int) : D := .lst ((List.range n).map fun t => rowD n (G t))
theorem rowD_congr {n : Nat} {f g : Nat → Int} (h : ∀ s, s < n → f s = g s) : rowD n f = rowD n g := by
  unfold rowD
  congr 1
  exact List.map_congr_left fun s hs => by rw [h s (List.mem_range.mp hs)]
theorem gridD_congr {n : Nat} {F G : Nat → Nat → Int} (h : ∀ t s, t < n → s < n → F t s = G t s) : gridD n F = gridD n G := by
  unfold gridD
  congr 1
  exact List.map_congr_left fun t ht => rowD_congr fun s hs => h t s (List.mem_range.mp ht) hs
theorem rowD_pl {n m : Nat} {f : Nat → Int} : Pl (m + 1) (rowD n f) := fun x hx => by
  obtain ⟨s, _, rfl⟩ := List.mem_map.mp hx
  cases m <;> trivial
theorem gridD_pl {n m : Nat} {G : Nat → Nat → Int} : Pl (m + 2) (gridD n G) := fun x hx => by
  obtain ⟨t, _, rfl⟩ := List.mem_map.mp hx
  exact rowD_pl
theorem row_ix {n k : Nat} {f : Nat → Int} (h : k < n) : gIx (rowD n f) (.int k) = some (.int (f k)) := gIx_map (α := Unit) h
theorem grid_ix {n k : Nat} {G : Nat → Nat → Int} (h : k < n) : gIx (gridD n G) (.int k) = some (rowD n (G k)) := gIx_map (α := Unit) h
theorem row_len {n : Nat} {f : Nat → Int} : gLen [rowD n f] = some (.int n) := by unfold rowD; simp
theorem grid_len {n : Nat} {G : Nat → Nat → Int} : gLen [gridD n G] = some (.int n) := by unfold gridD; simp
theorem rowD_snoc {n : Nat} {f : Nat → Int} (h : n < 1000000) : nApp (.int (f n)) (rowD n f) = some (rowD (n + 1) f) := by
  unfold rowD
  rw [nApp_lst (by rw [List.length_map, List.length_range]; exact b24 h), List.range_succ, List.map_append]
  rfl
end TW

namespace TW
open PySem PySem.Spec PyProof.Rows L2
def T58 : Int := 10 ^ 58
def T60 : Int := 10 ^ 60
theorem pow58 : gPow (.int 10) (.int 58) = some (.int T58) := gPow_10 (k := 58) (by decide)
theorem pow60 : gPow (.int 10) (.int 60) = some (.int T60) := gPow_10 (k := 60) (by decide)
theorem T58_nn : 0 ≤ T58 := by decide
theorem T58_le : T58 < 10 ^ 70 := by decide
theorem T58_18 : 10 ^ 18 ≤ T58 := by decide
theorem num58 (c : Int) : m__law_number [.int c, .int T58] = .ok (.int (num c T58)) := num_ok _ _ T58_nn T58_le
theorem num60 (c : Int) : m__law_number [.int c, .int (T60 - 2)] = .ok (.int (num c (T60 - 2))) := num_ok _ _ (by decide) (by decide)
theorem slack_lt (c : Int) : (max 0 (num c T58)).natAbs < 2 ^ 250 := by
  have := num_le c T58 T58_18
  have e : T58 = 10000000000000000000000000000000000000000000000000000000000 := by decide
  omega
def Gfree (ns : List Int) (n : Nat) (t s : Nat) : Int := num (cel ns (2 + t * n + s)) (T60 - 2)
def Pdr (ns : List Int) (t : Nat) : Int := num (cel ns (51 + t)) T58
def Gpri (ns : List Int) (n : Nat) (t s : Nat) : Int := num (cel ns (2 + t * n + t)) T58 - Pdr ns t + Pdr ns s - max 0 (num (cel ns (2 + t * n + s)) T58) * (if s = t then 0 else 1)
theorem free_ok (ns : List Int) (n : Nat) (hn : n ≤ 9) : m__law_free [.scr ns, .int n] = .ok (gridD n (Gfree ns n)) := by
  rw [m__law_free]
  refine call_rt ?_
  rw [b__law_free]
  simp
  obtain ⟨ρ', e, x3, x4, x5, x6, rfl⟩ := for_r (j := 3) (mi := mVar 1) (b := sSeq (sSet 4 (mLc [5] (tgN 5) (iR1 (mVar 1)) (tYesM) (mArgs m__law_cell (mA1 (mVar 0) (mA1 (m2 gAdd (m2 gAdd (mC (.int 2)) (m2 gMul (mVar 3) (mVar 1))) (mVar 5)) (mA0)))))) (sApp 2 (pNil) (mLc [6] (tgN 6) (iAny (mVar 4)) (tYesM) (mArgs m__law_number (mA1 (mVar 6) (mA1 (m2 gSub (m2 gPow (mC (.int 10)) (mC (.int 60))) (mC (.int 2))) (mA0)))))))
    (ρ := [some (.scr ns), some (.int n), some (.lst []), none, none, none, none])
    (fun k ρ => ∃ x3 x4 x5 x6, ρ = [some (.scr ns), some (.int n), some (.lst ((List.range k).map fun t => rowD n (Gfree ns n t))), x3, x4, x5, x6]) n rfl (by omega) ⟨none, none, none, none, rfl⟩ (by
      rintro t ρ ht ⟨x3, x4, x5, x6, rfl⟩
      simp
      rw [lc_r (j := 5) n (fun s => .int (cel ns (2 + t * n + s))) rfl (by omega) (fun s hs => by
        have e : gMul (.int t) (.int n) = some (.int ((t : Int) * n)) := gMul_int (by omega) (by omega)
        simp [wipeR, e]
        exact cell_at ns (2 + t * n + s) (by simp))]
      simp
      rw [lc_l (f := tgN 6) ((List.range n).map fun s => .int (cel ns (2 + t * n + s))) (fun d => match d with | .int c => .int (num c (T60 - 2)) | _ => .non) rfl (by simp; exact b24 (by omega)) (fun d hd => by
        obtain ⟨s, hs, rfl⟩ := List.mem_map.mp hd
        refine ⟨_, rfl, ?_⟩
        simp [wipeR, pow60, num60])]
      simp
      rw [nApp_lst (by simp; exact b24 (by omega))]
      refine ⟨_, rfl, ?_⟩
      simp [List.range_succ, rowD]
      intro a _; rfl)
  rw [e]
  simp
  rfl
theorem pays_ok (ns : List Int) (n : Nat) (hn : n ≤ 9) : m__law_pays [.scr ns, .int n] = .ok (rowD n (Pdr ns)) := by
  rw [m__law_pays]
  refine call_rt ?_
  rw [b__law_pays]
  simp
  rw [lc_r (j := 2) n (fun t => .int (Pdr ns t)) rfl (by omega) (fun s hs => by
    simp [wipeR, pow58, cell_at ns (51 + s) (show (51 + (s : Int)) = ((51 + s : Nat) : Int) by simp), num58]
    rfl)]
  rfl
theorem priced_ok (ns : List Int) (n : Nat) (hn : n ≤ 9) : m__law_priced [.scr ns, .int n] = .ok (gridD n (Gpri ns n)) := by
  rw [m__law_priced]
  refine call_rt ?_
  rw [b__law_priced]
  simp [pays_ok ns n hn]
  generalize hb : sSeq (sSet 5 (mArgs m__law_cell (mA1 (mVar 0) (mA1 (m2 gAdd (m2 gAdd (mC (.int 2)) (m2 gMul (mVar 4) (mVar 1))) (mVar 4)) (mA0))))) _ = b
  obtain ⟨ρ', e, x4, x5, x6, x7, x8, x9, x10, rfl⟩ := for_r (j := 4) (mi := mVar 1) (b := b)
    (ρ := [some (.scr ns), some (.int n), some (rowD n (Pdr ns)), some (.lst []), none, none, none, none, none, none, none])
    (fun k ρ => ∃ x4 x5 x6 x7 x8 x9 x10, ρ = [some (.scr ns), some (.int n), some (rowD n (Pdr ns)), some (.lst ((List.range k).map fun t => rowD n (Gpri ns n t))), x4, x5, x6, x7, x8, x9, x10]) n rfl (by omega) ⟨none, none, none, none, none, none, none, rfl⟩ (by
      rintro t ρ ht ⟨x4, x5, x6, x7, x8, x9, x10, rfl⟩
      subst hb
      have e : ∀ t : Nat, t < n → gMul (.int t) (.int n) = some (.int ((t : Int) * n)) := fun t ht => gMul_int (by omega) (by omega)
      have c : ∀ s : Nat, m__law_cell [.scr ns, .int (2 + (t : Int) * n + s)] = .ok (.int (cel ns (2 + t * n + s))) := fun s => cell_at ns (2 + t * n + s) (by simp)
      simp [e t ht, c, pow58, num58]
      generalize hb : sSeq (sSet 5 _) _ = b
      obtain ⟨ρ', e', y5, y8, y9, y10, rfl⟩ := for_r (j := 8) (mi := mVar 1) (b := b)
        (ρ := [some (.scr ns), some (.int n), some (rowD n (Pdr ns)), some (.lst ((List.range t).map fun t => rowD n (Gpri ns n t))), some (.int t), some (.int (cel ns (2 + t * n + t))), some (.int (num (cel ns (2 + t * n + t)) T58)), some (.lst []), x8, x9, x10])
        (fun k ρ => ∃ y5 y8 y9 y10, ρ = [some (.scr ns), some (.int n), some (rowD n (Pdr ns)), some (.lst ((List.range t).map fun t => rowD n (Gpri ns n t))), some (.int t), y5, some (.int (num (cel ns (2 + t * n + t)) T58)), some (rowD k (Gpri ns n t)), y8, y9, y10]) n rfl (by omega) ⟨_, _, _, _, rfl⟩ (by
          rintro s ρ hs ⟨y5, y8, y9, y10, rfl⟩
          subst hb
          have m1 : ∀ (p : Prop) [Decidable p], gMul (.int (max 0 (num (cel ns (2 + t * n + s)) T58))) (.int (if p then 0 else 1)) = some (.int (max 0 (num (cel ns (2 + t * n + s)) T58) * (if p then 0 else 1))) := fun p _ => gMul_int (slack_lt _) (by split <;> decide)
          have g : num (cel ns (2 + t * n + t)) T58 - Pdr ns t + Pdr ns s - max 0 (num (cel ns (2 + t * n + s)) T58) * (if (s : Int) = t then 0 else 1) = Gpri ns n t s := by
            unfold Gpri
            by_cases h : s = t
            · simp [h]
            · rw [if_neg h, if_neg (by omega)]
          simp [e t ht, c, pow58, num58, row_ix ht, row_ix hs, m1, g, rowD_snoc (show s < 1000000 by omega)])
      rw [e']
      simp
      rw [nApp_lst (by simp; exact b24 (by omega))]
      refine ⟨_, rfl, ?_⟩
      simp [List.range_succ])
  rw [e]
  simp
  rfl
def up (G : Nat → Nat → Int) (a b : Nat) (x : Int) (t s : Nat) : Int := if t = a ∧ s = b then G t s + x else G t s
theorem row_ixD {n b : Nat} {f : Nat → D} (hb : b < n) : ixD ((List.range n).map f).length (.int b) = some b := by
  show ixN _ _ = _
  rw [List.length_map, List.length_range]
  exact ixN_of hb
theorem map_set {α : Type} {n b : Nat} {f : Nat → α} {z : α} : ((List.range n).map f).set b z = (List.range n).map fun s => if s = b then z else f s := by
  apply List.ext_getElem
  · simp
  · intro k h1 h2
    rw [List.getElem_set]
    simp
    by_cases h : b = k
    · simp [h]
    · simp [h, Ne.symm h]
theorem row_put {n b : Nat} {f : Nat → Int} {z : Int} (hb : b < n) : nSet (.int b) (.int z) (rowD n f) = some (rowD n fun s => if s = b then z else f s) := by
  unfold rowD
  show (ixD _ _).map _ = _
  rw [row_ixD hb]
  show some (D.lst _) = some (D.lst _)
  rw [map_set]
  congr 3
  funext s
  by_cases h : s = b <;> simp [h]
theorem grid_upd {n a b : Nat} {G : Nat → Nat → Int} {x : Int} (ha : a < n) (hb : b < n) : updP (gridD n G) [.int a] (fun c => (gIx c (.int b)).bind fun u => (gAddI u (.int x)).bind fun z => nSet (.int b) z c) = some (gridD n (up G a b x)) := by
  have e : getC (gridD n G) (.int a) = some (rowD n (G a)) := by
    unfold gridD
    show (ixD _ _).bind _ = _
    rw [row_ixD ha]
    simp [ha]
  unfold updP
  simp only [getP, e, Option.bind_some, row_ix hb, gAddI_int, row_put hb, setP]
  unfold gridD
  show (ixD _ _).map _ = _
  rw [row_ixD ha]
  show some (D.lst _) = some (D.lst _)
  rw [map_set]
  congr 2
  apply List.map_congr_left
  intro t ht
  by_cases h : t = a
  · subst h
    rw [if_pos rfl]
    apply rowD_congr
    intro s hs
    unfold up
    by_cases h : s = b <;> simp [h]
  · rw [if_neg h]
    apply rowD_congr
    intro s hs
    unfold up
    simp [h]
def mny (ns : List Int) (top : Int) : Nat := (1 + cel ns 0 % top).toNat
theorem mny_eq (ns : List Int) (top : Int) (h : 0 < top) : (mny ns top : Int) = 1 + cel ns 0 % top := by
  have := Int.emod_nonneg (cel ns 0) (Int.ne_of_gt h)
  unfold mny; omega
theorem mny_pos (ns : List Int) (top : Int) (h : 0 < top) : 0 < mny ns top := by
  have := mny_eq ns top h
  have := Int.emod_nonneg (cel ns 0) (Int.ne_of_gt h)
  omega
theorem mny_le (ns : List Int) (top : Int) (h : 0 < top) : (mny ns top : Int) ≤ top := by
  have := mny_eq ns top h
  have := Int.emod_lt_of_pos (cel ns 0) h
  omega
def wayOf (ns : List Int) : Int := cel ns 0 / 7 % 4
def Gof (ns : List Int) (n : Nat) : Nat → Nat → Int :=
  if wayOf ns = 0 then Gfree ns n else if wayOf ns = 3 then up (Gpri ns n) (cel ns 1 % n).toNat (cel ns 1 / 7 % n).toNat (cel ns 1 / 49 % 5) else Gpri ns n
theorem grid_ok (ns : List Int) (top : Int) (h : 0 < top) (h9 : top ≤ 9) : m__law_grid [.scr ns, .int top] = .ok (gridD (mny ns top) (Gof ns (mny ns top))) := by
  have hm := mny_eq ns top h
  have hp := mny_pos ns top h
  have hl := mny_le ns top h
  have c0 : m__law_cell [.scr ns, .int 0] = .ok (.int (cel ns 0)) := cell_at ns 0 rfl
  have c1 : m__law_cell [.scr ns, .int 1] = .ok (.int (cel ns 1)) := cell_at ns 1 rfl
  have e7 : ∀ c, gDiv (.int c) (.int 7) = some (.int (c / 7)) := fun c => gDiv_int (by decide) (by decide)
  have e49 : ∀ c, gDiv (.int c) (.int 49) = some (.int (c / 49)) := fun c => gDiv_int (by decide) (by decide)
  generalize hn : mny ns top = n at hm hp hl ⊢
  rw [m__law_grid]
  refine call_rt ?_
  rw [b__law_grid]
  have w : cel ns 0 / 7 % 4 = wayOf ns := id rfl
  simp [c0, c1, e7, e49, gMod_int h, w, ← hm, Gof]
  by_cases h0 : wayOf ns = 0
  · simp [h0, free_ok ns n (by omega)]
  · by_cases h3 : wayOf ns = 3
    · have hnz : (n : Int) ≠ 0 := by omega
      have q1 : cel ns 1 % n = ((cel ns 1 % n).toNat : Int) := (Int.toNat_of_nonneg (Int.emod_nonneg _ hnz)).symm
      have q2 : cel ns 1 / 7 % n = ((cel ns 1 / 7 % n).toNat : Int) := (Int.toNat_of_nonneg (Int.emod_nonneg _ hnz)).symm
      have r1 : (cel ns 1 % n).toNat < n := by have := Int.emod_lt_of_pos (cel ns 1) (show (0 : Int) < n by omega); omega
      have r2 : (cel ns 1 / 7 % n).toNat < n := by have := Int.emod_lt_of_pos (cel ns 1 / 7) (show (0 : Int) < n by omega); omega
      simp [h3, c1, e7, e49, priced_ok ns n (by omega), gMod_int (show (0 : Int) < n by omega)]
      generalize (cel ns 1 % n).toNat = a at q1 r1
      generalize (cel ns 1 / 7 % n).toNat = b at q2 r2
      rw [q1, q2]
      simp [grid_upd r1 r2]
    · simp [h0, h3, priced_ok ns n (by omega)]
theorem turn_ok {n s t : Nat} {G : Nat → Nat → Int} (hs : s < n) (ht : t < n) : m_turn [gridD n G, .int s, .int t] = .ok (.int (G t t - G t s)) := by
  rw [m_turn]
  refine call_rt ?_
  rw [b_turn]
  simp [grid_ix ht, row_ix ht, row_ix hs]
theorem copy_ok {n : Nat} {G : Nat → Nat → Int} {ρ : Rho} {m : Rho → Res D} {v : Nat} (hm : m ρ = .ok (gridD n G)) (hn : n < 1000000) (hv : v < ρ.length) :
    mLc [v] (tgN v) (iAny m) (tYesM) (mL gList (mA1 (mVar v) (mA0))) ρ = .ok (gridD n G) := by
  rw [lc_l (f := tgN v) ((List.range n).map fun t => rowD n (G t)) id (by rw [iAny_eq, hm]; rfl) (by rw [List.length_map, List.length_range]; exact b24 hn) (fun d hd => by
    obtain ⟨t, ht, rfl⟩ := List.mem_map.mp hd
    refine ⟨_, rfl, ?_⟩
    simp [wipeR, hv, rowD])]
  rw [List.map_id]
  rfl
def selD (n : Nat) (p : Nat → Bool) : D := .lst (((List.range n).filter p).map fun t : Nat => .int t)
theorem sel_ok {ρ : Rho} {vs : List Nat} {j : Nat} {mi : Rho → Res D} {tt : Rho → Res Bool} {me : Rho → Res D} (n : Nat) (p : Nat → Bool) (hm : mi ρ = .ok (.int n)) (hn : n < 1000000)
    (h : ∀ k, k < n → tt ((wipeR ρ vs).set j (some (.int k))) = .ok (p k)) (h2 : ∀ k, k < n → me ((wipeR ρ vs).set j (some (.int k))) = .ok (.int k)) : mLc vs (tgN j) (iR1 mi) tt me ρ = .ok (selD n p) := by
  rw [lc_gen ((List.range n).map fun k : Nat => .int k) (fun d => match d with | .int k => if p k.toNat then some (.int k) else none | _ => none) (iR1_ok hm hn) (by rw [List.length_map, List.length_range]; exact b24 hn)]
  · unfold selD
    refine congrArg Res.ok (congrArg D.lst ?_)
    rw [List.filterMap_map]
    induction List.range n with
    | nil => rfl
    | cons a l ih =>
      rw [List.filterMap_cons, List.filter_cons]
      by_cases hp : p a
      · simp [hp]
        simpa using ih
      · simp [hp]
        simpa using ih
  · intro d hd
    obtain ⟨k, hk, rfl⟩ := List.mem_map.mp hd
    have hk := List.mem_range.mp hk
    refine ⟨_, rfl, ?_⟩
    cases e : p k with
    | true => exact .inr ⟨.int k, by rw [h k hk, e], h2 k hk, by simp [e]⟩
    | false => exact .inl ⟨by rw [h k hk, e], by simp [e]⟩
theorem selD_pl {n m : Nat} {p : Nat → Bool} : Pl (m + 1) (selD n p) := fun x hx => by
  obtain ⟨s, _, rfl⟩ := List.mem_map.mp hx
  cases m <;> trivial
def bey (G : Nat → Nat → Int) (P : Nat → Int) (t : Nat) : Bool := decide (G t t < P t)
theorem beyond_ok {n : Nat} {G : Nat → Nat → Int} {P : Nat → Int} (hn : n < 1000000) : m_beyond [gridD n G, rowD n P] = .ok (selD n (bey G P)) := by
  rw [m_beyond]
  refine call_rt ?_
  rw [b_beyond]
  rw [sRet_eq, sel_ok n (bey G P) (by simp [grid_len]) hn (fun k hk => by simp [wipeR, row_ix hk, grid_ix hk, bey]) (fun k hk => by simp [wipeR])]
  rfl
end TW

-- TWAlong
namespace TW
open PySem PySem.Spec PyProof.Rows L2
theorem seq_set {i : Nat} {m : Rho → Res D} {b : Rho → Out} {ρ : Rho} {d : D} (h : m ρ = .ok d) : sSeq (sSet i m) b ρ = b (ρ.set i (some d)) := by
  rw [sSeq_eq, sSet_eq, h, Res.out_ok, Out.nx_bind]
theorem iR2_ok {ρ : Rho} {ma mb : Rho → Res D} {a b : Nat} (ha : ma ρ = .ok (.int a)) (hb : mb ρ = .ok (.int b)) (h1 : a < 1000000) (h2 : b < 1000000) : iR2 ma mb ρ = .ok ((List.range (b - a)).map fun k : Nat => .int (a + k : Nat)) := by
  unfold iR2
  rw [ha, Res.bind_ok, hb, Res.bind_ok]
  show (if _ then _ else _) = _
  rw [if_pos ⟨(b62 h1).1, (b62 h1).2, (b62 h2).1, (b62 h2).2⟩, show ((b : Int) - a).toNat = b - a by omega]
  simp
theorem for_r2 {ma mb : Rho → Res D} {b : Rho → Out} {j : Nat} {ρ : Rho} (I : Nat → Rho → Prop) (lo hi : Nat) (ha : ma ρ = .ok (.int lo)) (hb : mb ρ = .ok (.int hi)) (h1 : lo < 1000000) (h2 : hi < 1000000) (h0 : I 0 ρ)
    (st : ∀ i ρ, i < hi - lo → I i ρ → ∃ ρ2, b (ρ.set j (some (.int (lo + i : Nat)))) = .nx ρ2 ∧ I (i + 1) ρ2) : ∃ ρ', sFor (tgN j) (iR2 ma mb) b ρ = .nx ρ' ∧ I (hi - lo) ρ' := by
  have := for_l (f := tgN j) (b := b) I _ (iR2_ok ha hb h1 h2) h0 fun i d ρ e hI => by
    rw [List.getElem?_map] at e
    by_cases h : i < hi - lo
    · rw [List.getElem?_range h] at e
      cases e
      obtain ⟨ρ2, e2, h2⟩ := st i ρ h hI
      exact ⟨_, ρ2, rfl, e2, h2⟩
    · rw [List.getElem?_eq_none (by simpa using h)] at e
      cases e
  simpa using this
theorem for_g {m : Rho → Res (List D)} {b : Rho → Out} {j : Nat} {ρ : Rho} (I : Nat → Rho → Prop) (L : Nat) (g : Nat → D) (hm : m ρ = .ok ((List.range L).map g)) (h0 : I 0 ρ)
    (st : ∀ i ρ, i < L → I i ρ → ∃ ρ2, b (ρ.set j (some (g i))) = .nx ρ2 ∧ I (i + 1) ρ2) : ∃ ρ', sFor (tgN j) m b ρ = .nx ρ' ∧ I L ρ' := by
  have := for_l (f := tgN j) (b := b) I _ hm h0 fun i d ρ e hI => by
    rw [List.getElem?_map] at e
    by_cases h : i < L
    · rw [List.getElem?_range h] at e
      cases e
      obtain ⟨ρ2, e2, h2⟩ := st i ρ h hI
      exact ⟨_, ρ2, rfl, e2, h2⟩
    · rw [List.getElem?_eq_none (by simpa using h)] at e
      cases e
  simpa using this
theorem for_lN {m : Rho → Res (List D)} {b : Rho → Out} {j : Nat} {ρ : Rho} (I : Nat → Rho → Prop) (ds : List D) (hm : m ρ = .ok ds) (h0 : I 0 ρ)
    (st : ∀ i d ρ, ds[i]? = some d → I i ρ → ∃ ρ2, b (ρ.set j (some d)) = .nx ρ2 ∧ I (i + 1) ρ2) : ∃ ρ', sFor (tgN j) m b ρ = .nx ρ' ∧ I ds.length ρ' :=
  for_l (f := tgN j) I ds hm h0 fun i d ρ e hI => let ⟨ρ2, e2, h2⟩ := st i d ρ e hI; ⟨_, ρ2, rfl, e2, h2⟩
def wrd (w : Nat → Nat) (i : Nat) : Int := w i
abbrev wordsD (L : Nat) (w : Nat → Nat) : D := rowD L (wrd w)
def alo (G : Nat → Nat → Int) (w : Nat → Nat) : Nat → Int
  | 0 => 0
  | k + 1 => alo G w k + (G (w (k + 1)) (w (k + 1)) - G (w (k + 1)) (w k))
theorem alo_congr {G : Nat → Nat → Int} {w w' : Nat → Nat} : ∀ {k : Nat}, (∀ i, i ≤ k → w i = w' i) → alo G w k = alo G w' k
  | 0, _ => rfl
  | k + 1, h => by
    unfold alo
    rw [alo_congr fun i hi => h i (by omega), h k (by omega), h (k + 1) (by omega)]
theorem row_at {L : Nat} {f : Nat → Int} {i : Nat} (h : i < L) : gIx (rowD L f) (.int i) = some (.int (f i)) := row_ix h
theorem row_last {L : Nat} {f : Nat → Int} (h : 0 < L) : gIx (rowD L f) (.int (-1)) = some (.int (f (L - 1))) := by
  have e : ixN L (-1) = some (L - 1) := by
    unfold ixN
    rw [if_neg (by decide), if_pos (by omega)]
    congr 1
    omega
  unfold rowD
  show (ixN _ _).bind _ = _
  rw [List.length_map, List.length_range, e]
  simp [show L - 1 < L by omega]
theorem along_ok {n L : Nat} {G : Nat → Nat → Int} {w : Nat → Nat} (hL : L < 1000000) (hw : ∀ i, i < L → w i < n) : m_along [gridD n G, wordsD L w] = .ok (.int (alo G w (L - 1))) := by
  rw [m_along]
  refine call_rt ?_
  rw [b_along]
  simp
  generalize hb : sAugN 2 _ = b
  obtain ⟨ρ', e, x3, rfl⟩ := for_r2 (j := 3) (ma := mC (.int 1)) (mb := mL gLen (mA1 (mVar 1) mA0)) (b := b) (ρ := [some (gridD n G), some (wordsD L w), some (.int 0), none])
    (fun k ρ => ∃ x3, ρ = [some (gridD n G), some (wordsD L w), some (.int (alo G w k)), x3]) 1 L rfl (by simp [row_len]) (by omega) (by omega) ⟨_, rfl⟩ (by
      rintro k ρ hk ⟨x3, rfl⟩
      subst hb
      have e1 : (1 + (k : Int) - 1) = (k : Int) := by omega
      have e2 : (1 + (k : Int)) = ((k + 1 : Nat) : Int) := by omega
      have c1 := row_at (f := wrd w) (show k < L by omega)
      have c2 := row_at (f := wrd w) (show k + 1 < L by omega)
      have t := turn_ok (G := G) (hw k (by omega)) (hw (k + 1) (by omega))
      simp only [List.set_cons_succ, List.set_cons_zero, Nat.add_comm 1 k]
      simp [-Int.natCast_add, show ((k + 1 : Nat) : Int) - 1 = k by omega, c1, c2]
      rw [show m_turn [gridD n G, D.int (wrd w k), D.int (wrd w (k + 1))] = _ from t]
      simp [alo])
  rw [e]
  simp
theorem round_ok {n L : Nat} {G : Nat → Nat → Int} {w : Nat → Nat} (hL : L < 1000000) (h0 : 0 < L) (hw : ∀ i, i < L → w i < n) : m_round_sum [gridD n G, wordsD L w] = .ok (.int (alo G w (L - 1) + (G (w 0) (w 0) - G (w 0) (w (L - 1))))) := by
  rw [m_round_sum]
  refine call_rt ?_
  rw [b_round_sum]
  simp [along_ok hL hw, row_last h0, row_at (L := L) (i := 0) h0]
  have c := row_at (L := L) (f := wrd w) (i := 0) h0
  simp at c
  simp [c]
  rw [show m_turn [gridD n G, D.int (wrd w (L - 1)), D.int (wrd w 0)] = _ from turn_ok (hw (L - 1) (by omega)) (hw 0 h0)]
  simp
theorem lalong_ok {n L : Nat} {G : Nat → Nat → Int} {w : Nat → Nat} (hL : L < 1000000) (h0 : 0 < L) (hw : ∀ i, i < L → w i < n) : m__law_along [gridD n G, wordsD L w] = .ok (.int (alo G w (L - 1))) := by
  rw [m__law_along]
  refine call_rt ?_
  rw [b__law_along]
  have c := row_at (L := L) (f := wrd w) (i := 0) h0
  simp at c
  simp [c]
  generalize hb : sSeq (sSet 2 _) _ = b
  obtain ⟨ρ', e, x4, rfl⟩ := for_g (j := 4) (m := iAny (mVar 1)) (b := b) (ρ := [some (gridD n G), some (wordsD L w), some (.int 0), some (.int (wrd w 0)), none])
    (fun k ρ => ∃ x4, ρ = [some (gridD n G), some (wordsD L w), some (.int (alo G w (k - 1))), some (.int (wrd w (k - 1))), x4]) L (fun i => .int (wrd w i)) (by simp [rowD]) ⟨_, rfl⟩ (by
      rintro k ρ hl ⟨x4, rfl⟩
      subst hb
      have g := grid_ix (G := G) (hw k hl)
      have r1 := row_ix (f := G (w k)) (hw k hl)
      have r2 := row_ix (f := G (w k)) (hw (k - 1) (by omega))
      simp [show wrd w k = ((w k : Nat) : Int) from rfl, show wrd w (k - 1) = ((w (k - 1) : Nat) : Int) from rfl, g, r1, r2]
      cases k with
      | zero => simp [alo]
      | succ k =>
        simp [alo]
        omega)
  rw [e]
  simp
def wof (ns : List Int) (n : Nat) (i : Nat) : Nat := (cel ns i % n).toNat
theorem wof_lt {ns : List Int} {n : Nat} (h : 0 < n) (i : Nat) : wof ns n i < n := by
  have := Int.emod_lt_of_pos (cel ns i) (show (0 : Int) < n by omega)
  unfold wof; omega
theorem words_ok {ns : List Int} {n v : Nat} {G : Nat → Nat → Int} {ρ : Rho} (hl : ns.length ≤ 63) (hn : 0 < n) (h0 : ρ[0]? = some (some (.scr ns))) (h1 : ρ[1]? = some (some (gridD n G))) (hv : 1 < v) (hv2 : v < ρ.length) :
    m2 gAdd (mLc [v] (tgN v) (iAny (mSl (mVar 0) (oNo) (oYes (mC (.int 63))))) (tYesM) (m2 gMod (mVar v) (mL gLen (mA1 (mVar 1) (mA0))))) (m2 gMul (mL gLst (mA1 (mC (.int 0)) (mA0))) (mL gInt (mA1 (m2 gEq (mL gLen (mA1 (mVar 0) (mA0))) (mC (.int 0))) (mA0)))) ρ = .ok (wordsD (max ns.length 1) (wof ns n)) := by
  have cut : gSl (.scr ns) none (some 63) = some (.lst (ns.map .int)) := by
    show some (D.lst ((cutD ns none (some 63)).map .int)) = _
    congr 2
    unfold cutD
    rw [HT.sIx_none, show HT.sIx ns.length ns.length (some 63) = min 63 ns.length from HT.sIx_nat ns.length ns.length 63, List.drop_zero, List.take_of_length_le]
    omega
  rw [m2_eq, lc_l (f := tgN v) (ns.map .int) (fun d => match d with | .int c => .int (c % n) | _ => .non) (by simp [h0, cut]) (by rw [List.length_map]; exact b24 (by omega)) (fun d hd => by
    obtain ⟨c, hc, rfl⟩ := List.mem_map.mp hd
    refine ⟨_, rfl, ?_⟩
    have e1 : ((wipeR ρ [v]).set v (some (D.int c)))[v]? = some (some (.int c)) := by rw [List.getElem?_set_self]; simpa [wipeR] using hv2
    have e2 : ((wipeR ρ [v]).set v (some (D.int c)))[1]? = some (some (gridD n G)) := by rw [List.getElem?_set_ne (by omega)]; simp [wipeR]; rw [List.getElem?_set_ne (by omega)]; exact h1
    simp [e1, e2, grid_len, gMod_int (show (0 : Int) < n by omega)])]
  have m0 : gMul (.lst [.int 0]) (.int 0) = some (.lst []) := id rfl
  have m1 : gMul (.lst [.int 0]) (.int 1) = some (.lst [.int 0]) := id rfl
  have l1 : gLst [.int 0] = some (.lst [.int 0]) := gLst_eq (by decide)
  have z : ∀ l : List D, l.length ≤ 63 → gAdd (.lst l) (.lst []) = some (.lst l) := fun l hl => by
    rw [gAdd_lst (by rw [List.length_nil]; exact b24' (by omega)), List.append_nil]
  cases ns with
  | nil =>
    simp [h0, m1, l1]
    rw [gAdd_lst (by decide)]
    simp [rowD, wrd, wof, cel]
  | cons c r =>
    have hne : ¬ ((r.length : Int) + 1 = 0) := by omega
    have hm : max (c :: r).length 1 = (c :: r).length := by simp
    rw [hm]
    generalize hq : c :: r = q at *
    have hne : ¬ ((q.length : Int) = 0) := by rw [← hq]; simpa using hne
    have hq0 : q ≠ [] := by rw [← hq]; simp
    simp [h0, hq0, m0, l1]
    rw [z _ (by simpa using hl)]
    simp
    unfold wordsD rowD
    congr 1
    apply List.ext_getElem
    · simp
    · intro k k1 k2
      simp at k1 k2
      have := Int.emod_nonneg q[k] (show (n : Int) ≠ 0 by omega)
      simp [wrd, wof, cel, k1]
      omega
theorem whole_ok (z : Int) : m__law_whole [.int z] = .ok (.bl true) := by
  rw [m__law_whole]
  refine call_rt ?_
  rw [b__law_whole]
  simp
theorem list_row {n : Nat} {f : Nat → Int} : gList [rowD n f] = some (rowD n f) := id rfl
theorem list_grid {n : Nat} {G : Nat → Nat → Int} : gList [gridD n G] = some (gridD n G) := id rfl
end TW

-- TWGain
namespace TW
open PySem PySem.Spec PyProof.Rows L2
def trip (M : Nat → Nat → Int) (t s : Nat) : D := .tup [.int t, .int s, .int (M t s)]
def IsFirst (M : Nat → Nat → Int) (n : Nat) (d : D) : Prop :=
  (d = .non ∧ ∀ t s, t < n → s < n → M t s ≤ 0) ∨ ∃ t s, t < n ∧ s < n ∧ d = trip M t s ∧ 0 < M t s ∧ (∀ t' s', t' < t → s' < n → M t' s' ≤ 0) ∧ ∀ s', s' < s → M t s' ≤ 0
theorem IsFirst.uniq {M : Nat → Nat → Int} {n : Nat} {d e : D} (h : IsFirst M n d) (g : IsFirst M n e) : d = e := by
  rcases h with ⟨rfl, h⟩ | ⟨t, s, ht, hs, rfl, hp, h1, h2⟩
  · rcases g with ⟨rfl, _⟩ | ⟨t, s, ht, hs, rfl, hp, _⟩
    · rfl
    · have := h t s ht hs; omega
  · rcases g with ⟨rfl, g⟩ | ⟨t', s', ht', hs', rfl, hp', g1, g2⟩
    · have := g t s ht hs; omega
    · have e1 : t = t' := by
        rcases Nat.lt_trichotomy t t' with q | q | q
        · have := g1 t s q hs; omega
        · exact q
        · have := h1 t' s' q hs'; omega
      subst e1
      have e2 : s = s' := by
        rcases Nat.lt_trichotomy s s' with q | q | q
        · have := g2 s q; omega
        · exact q
        · have := h2 s' q; omega
      rw [e2]
theorem IsFirst.pl {M : Nat → Nat → Int} {n : Nat} {d : D} (h : IsFirst M n d) : Pl 1 d := by
  rcases h with ⟨rfl, _⟩ | ⟨t, s, _, _, rfl, _⟩
  · trivial
  · intro x hx
    simp at hx
    rcases hx with rfl | rfl | rfl <;> trivial
theorem scan2 {b : Rho → Out} {ja jb : Nat} {mi mj : Rho → Res D} {n : Nat} {ρ : Rho} (M : Nat → Nat → Int) (A : Rho → Prop) (I : Nat → Rho → Prop) (hn : n < 1000000)
    (h0 : A ρ) (hm : ∀ ρ, A ρ → mi ρ = .ok (.int n)) (hmj : ∀ t ρ, I t ρ → mj ρ = .ok (.int n)) (hA : ∀ t ρ, t < n → A ρ → I t (ρ.set ja (some (.int t)))) (hI : ∀ t ρ, I t ρ → A ρ)
    (hb : ∀ t s ρ, t < n → s < n → I t ρ → (M t s ≤ 0 → ∃ ρ2, b (ρ.set jb (some (.int s))) = .nx ρ2 ∧ I t ρ2) ∧ (0 < M t s → b (ρ.set jb (some (.int s))) = .rt (trip M t s))) :
    (∃ ρ', sFor (tgN ja) (iR1 mi) (sFor (tgN jb) (iR1 mj) b) ρ = .nx ρ' ∧ IsFirst M n .non) ∨ ∃ d, sFor (tgN ja) (iR1 mi) (sFor (tgN jb) (iR1 mj) b) ρ = .rt d ∧ IsFirst M n d := by
  have := for_rX (j := ja) (mi := mi) (b := sFor (tgN jb) (iR1 mj) b) (ρ := ρ) (fun k ρ => A ρ ∧ ∀ t s, t < k → s < n → M t s ≤ 0) (fun d => IsFirst M n d) n (hm ρ h0) hn ⟨h0, fun t s h => by omega⟩ fun t ρ ht ⟨ha, hk⟩ => by
    have := for_rX (j := jb) (mi := mj) (b := b) (ρ := ρ.set ja (some (.int t))) (fun k ρ => I t ρ ∧ ∀ s, s < k → M t s ≤ 0) (fun d => IsFirst M n d) n (hmj t _ (hA t ρ ht ha)) hn ⟨hA t ρ ht ha, fun s h => by omega⟩ fun s ρ hs ⟨hi, hks⟩ => by
      obtain ⟨b1, b2⟩ := hb t s ρ ht hs hi
      by_cases hp : 0 < M t s
      · exact .inr ⟨_, b2 hp, .inr ⟨t, s, ht, hs, rfl, hp, fun t' s' h1 h2 => hk t' s' h1 h2, fun s' h => hks s' h⟩⟩
      · obtain ⟨ρ2, e, h2⟩ := b1 (by omega)
        refine .inl ⟨ρ2, e, h2, fun s' h => ?_⟩
        by_cases q : s' = s
        · subst q; omega
        · exact hks s' (by omega)
    rcases this with ⟨ρ2, e, h2, h3⟩ | h
    · refine .inl ⟨ρ2, e, hI t ρ2 h2, fun t' s' g1 g2 => ?_⟩
      by_cases q : t' = t
      · subst q; exact h3 s' g2
      · exact hk t' s' (by omega) g2
    · exact .inr h
  rcases this with ⟨ρ2, e, _, h⟩ | h
  · exact .inl ⟨ρ2, e, .inl ⟨rfl, h⟩⟩
  · exact .inr h
def gainM (G : Nat → Nat → Int) (P : Nat → Int) (t s : Nat) : Int := G t s - P s - G t t + P t
theorem tup3 (a b c : D) : gTup [a, b, c] = some (.tup [a, b, c]) := gTup_eq (show 3 ≤ sizeLine by decide)
theorem first_ok {n : Nat} {G : Nat → Nat → Int} {P : Nat → Int} (hn : n < 1000000) : ∃ d, m_first_gain [gridD n G, rowD n P] = .ok d ∧ IsFirst (gainM G P) n d := by
  rw [m_first_gain]
  generalize hb : b_first_gain = b
  rw [b_first_gain] at hb
  generalize hc : sSeq (sSet 4 _) _ = c at hb
  have := scan2 (b := c) (ja := 2) (jb := 3) (mi := mL gLen (mA1 (mVar 0) mA0)) (mj := mL gLen (mA1 (mVar 0) mA0)) (n := n) (ρ := [some (gridD n G), some (rowD n P), none, none, none]) (gainM G P)
    (fun ρ => ∃ x2 x3 x4, ρ = [some (gridD n G), some (rowD n P), x2, x3, x4]) (fun t ρ => ∃ x3 x4, ρ = [some (gridD n G), some (rowD n P), some (.int t), x3, x4]) hn ⟨_, _, _, rfl⟩
    (by rintro ρ ⟨_, _, _, rfl⟩; simp [grid_len]) (by rintro t ρ ⟨_, _, rfl⟩; simp [grid_len]) (by rintro t ρ _ ⟨_, _, _, rfl⟩; exact ⟨_, _, rfl⟩) (by rintro t ρ ⟨_, _, rfl⟩; exact ⟨_, _, _, rfl⟩) (by
      rintro t s ρ ht hs ⟨x3, x4, rfl⟩
      subst hc
      have e : G t s - P s - G t t + P t = gainM G P t s := rfl
      simp [grid_ix ht, row_ix ht, row_ix hs, e]
      refine ⟨fun h => ?_, fun h => ?_⟩
      · simp [show ¬ 0 < gainM G P t s by omega]
      · simp [h, tup3, trip])
  rcases this with ⟨ρ', e, h⟩ | ⟨d, e, h⟩
  · refine ⟨.non, call_rt ?_, h⟩
    subst hb
    simp
    rw [e]; simp
  · refine ⟨d, call_rt ?_, h⟩
    subst hb
    simp
    rw [e]; simp
theorem due_ok {n : Nat} {G : Nat → Nat → Int} {P : Nat → Int} (hn : n < 1000000) : ∃ d, m__law_due [gridD n G, rowD n P] = .ok d ∧ IsFirst (gainM G P) n d := by
  rw [m__law_due]
  generalize hb : b__law_due = b
  rw [b__law_due] at hb
  generalize hc : sSeq (sSet 4 _) _ = c at hb
  have := scan2 (b := c) (ja := 2) (jb := 3) (mi := mL gLen (mA1 (mVar 0) mA0)) (mj := mL gLen (mA1 (mVar 0) mA0)) (n := n) (ρ := [some (gridD n G), some (rowD n P), none, none, none, none]) (gainM G P)
    (fun ρ => ∃ x2 x3 x4 x5, ρ = [some (gridD n G), some (rowD n P), x2, x3, x4, x5]) (fun t ρ => ∃ x3 x4 x5, ρ = [some (gridD n G), some (rowD n P), some (.int t), x3, x4, x5]) hn ⟨_, _, _, _, rfl⟩
    (by rintro ρ ⟨_, _, _, _, rfl⟩; simp [grid_len]) (by rintro t ρ ⟨_, _, _, rfl⟩; simp [grid_len]) (by rintro t ρ _ ⟨_, _, _, _, rfl⟩; exact ⟨_, _, _, rfl⟩) (by rintro t ρ ⟨_, _, _, rfl⟩; exact ⟨_, _, _, _, rfl⟩) (by
      rintro t s ρ ht hs ⟨x3, x4, x5, rfl⟩
      subst hc
      have e : G t s - P s - (G t t - P t) = gainM G P t s := by unfold gainM; omega
      simp [grid_ix ht, row_ix ht, row_ix hs, e]
      refine ⟨fun h => ?_, fun h => ?_⟩
      · simp [show ¬ 0 < gainM G P t s by omega]
      · simp [h, tup3, trip])
  rcases this with ⟨ρ', e, h⟩ | ⟨d, e, h⟩
  · refine ⟨.non, call_rt ?_, h⟩
    subst hb
    simp
    rw [e]; simp
  · refine ⟨d, call_rt ?_, h⟩
    subst hb
    simp
    rw [e]; simp
theorem IsFirst.still {M : Nat → Nat → Int} {n : Nat} {d : D} (h : IsFirst M n d) : d.still = true := by
  rcases h with ⟨rfl, _⟩ | ⟨t, s, _, _, rfl, _⟩ <;> rfl
theorem row_upd {n a : Nat} {f : Nat → Int} {x : Int} (ha : a < n) : ((gIx (rowD n f) (.int a)).bind fun u => (gAddI u (.int x)).bind fun z => nSet (.int a) z (rowD n f)) = some (rowD n fun s => if s = a then f a + x else f s) := by
  simp [row_ix ha, row_put ha]
theorem listL_row {n : Nat} {f : Nat → Int} : gListL [rowD n f] = some (rowD n f) := by
  unfold gListL
  rw [list_row]
  show (if _ then _ else _) = _
  rw [if_pos (by simp [D.flat])]
  rfl
theorem isi_tup {l : List D} : gIsi "tuple" (.tup l) = some (.bl true) := by show (kitB "tuple" "tuple").map D.bl = _; rw [show kitB "tuple" "tuple" = some true by decide +kernel]; rfl
theorem gIsN_non : gIsN .non .non = some (.bl true) := id rfl
theorem gNotN_non : gNotN .non .non = some (.bl false) := id rfl
theorem gIsN_tup {l : List D} : gIsN (.tup l) .non = some (.bl false) := id rfl
theorem gNotN_tup {l : List D} : gNotN (.tup l) .non = some (.bl true) := id rfl
theorem trip0 {M : Nat → Nat → Int} {t s : Nat} : gIx (trip M t s) (.int 0) = some (.int t) := id rfl
theorem trip1 {M : Nat → Nat → Int} {t s : Nat} : gIx (trip M t s) (.int 1) = some (.int s) := id rfl
end TW

-- TWHon
namespace TW
open PySem PySem.Spec PyProof.Rows L2
theorem check2 {b : Rho → Out} {ja jb : Nat} {mi mj : Rho → Res D} {n : Nat} {ρ : Rho} (p : Nat → Nat → Prop) (A : Rho → Prop) (I : Nat → Rho → Prop) (hn : n < 1000000)
    (h0 : A ρ) (hm : ∀ ρ, A ρ → mi ρ = .ok (.int n)) (hmj : ∀ t ρ, I t ρ → mj ρ = .ok (.int n)) (hA : ∀ t ρ, t < n → A ρ → I t (ρ.set ja (some (.int t)))) (hI : ∀ t ρ, I t ρ → A ρ)
    (hb : ∀ t s ρ, t < n → s < n → I t ρ → (p t s ∧ ∃ ρ2, b (ρ.set jb (some (.int s))) = .nx ρ2 ∧ I t ρ2) ∨ (¬ p t s ∧ b (ρ.set jb (some (.int s))) = .rt (.bl false))) :
    (∃ ρ', sFor (tgN ja) (iR1 mi) (sFor (tgN jb) (iR1 mj) b) ρ = .nx ρ' ∧ A ρ' ∧ ∀ t s, t < n → s < n → p t s) ∨ (sFor (tgN ja) (iR1 mi) (sFor (tgN jb) (iR1 mj) b) ρ = .rt (.bl false) ∧ ∃ t s, t < n ∧ s < n ∧ ¬ p t s) := by
  have := for_rX (j := ja) (mi := mi) (b := sFor (tgN jb) (iR1 mj) b) (ρ := ρ) (fun k ρ => A ρ ∧ ∀ t s, t < k → s < n → p t s) (fun d => d = .bl false ∧ ∃ t s, t < n ∧ s < n ∧ ¬ p t s) n (hm ρ h0) hn ⟨h0, fun t s h => by omega⟩ fun t ρ ht ⟨ha, hk⟩ => by
    have := for_rX (j := jb) (mi := mj) (b := b) (ρ := ρ.set ja (some (.int t))) (fun k ρ => I t ρ ∧ ∀ s, s < k → p t s) (fun d => d = .bl false ∧ ∃ t s, t < n ∧ s < n ∧ ¬ p t s) n (hmj t _ (hA t ρ ht ha)) hn ⟨hA t ρ ht ha, fun s h => by omega⟩ fun s ρ hs ⟨hi, hks⟩ => by
      rcases hb t s ρ ht hs hi with ⟨hp, ρ2, e, h2⟩ | ⟨hp, e⟩
      · refine .inl ⟨ρ2, e, h2, fun s' h => ?_⟩
        by_cases q : s' = s
        · subst q; exact hp
        · exact hks s' (by omega)
      · exact .inr ⟨_, e, rfl, t, s, ht, hs, hp⟩
    rcases this with ⟨ρ2, e, h2, h3⟩ | h
    · refine .inl ⟨ρ2, e, hI t ρ2 h2, fun t' s' g1 g2 => ?_⟩
      by_cases q : t' = t
      · subst q; exact h3 s' g2
      · exact hk t' s' (by omega) g2
    · exact .inr h
  rcases this with ⟨ρ2, e, h2, h⟩ | ⟨d, e, rfl, h⟩
  · exact .inl ⟨ρ2, e, h2, h⟩
  · exact .inr ⟨e, h⟩
def Hon (n : Nat) (G : Nat → Nat → Int) (P : Nat → Int) : Prop := ∀ t s, t < n → s < n → G t s - G t t ≤ P s - P t
theorem honest_ok {n : Nat} {G : Nat → Nat → Int} {P : Nat → Int} (hn : n < 1000000) : ∃ b, m__law_honest [gridD n G, rowD n P] = .ok (.bl b) ∧ (b = true ↔ Hon n G P) := by
  rw [m__law_honest]
  generalize hb : b__law_honest = b
  rw [b__law_honest] at hb
  generalize hc : sSeq (sSet 4 _) _ = c at hb
  have := check2 (b := c) (ja := 2) (jb := 3) (mi := mL gLen (mA1 (mVar 0) mA0)) (mj := mL gLen (mA1 (mVar 0) mA0)) (n := n) (ρ := [some (gridD n G), some (rowD n P), none, none, none]) (fun t s => G t s - G t t ≤ P s - P t)
    (fun ρ => ∃ x2 x3 x4, ρ = [some (gridD n G), some (rowD n P), x2, x3, x4]) (fun t ρ => ∃ x3 x4, ρ = [some (gridD n G), some (rowD n P), some (.int t), x3, x4]) hn ⟨_, _, _, rfl⟩
    (by rintro ρ ⟨_, _, _, rfl⟩; simp [grid_len]) (by rintro t ρ ⟨_, _, rfl⟩; simp [grid_len]) (by rintro t ρ _ ⟨_, _, _, rfl⟩; exact ⟨_, _, rfl⟩) (by rintro t ρ ⟨_, _, rfl⟩; exact ⟨_, _, _, rfl⟩) (by
      rintro t s ρ ht hs ⟨x3, x4, rfl⟩
      subst hc
      simp [grid_ix ht, row_ix ht, row_ix hs]
      by_cases h : P s - P t < G t s - G t t
      · right
        simp [h]
      · left
        simp [h]
        omega)
  rcases this with ⟨ρ', e, _, h⟩ | ⟨e, t, s, ht, hs, h⟩
  · refine ⟨true, call_rt ?_, by simp; exact h⟩
    subst hb
    simp
    rw [e]; simp
  · refine ⟨false, call_rt ?_, ?_⟩
    · subst hb
      simp
      rw [e]; simp
    · simp
      exact fun z => h (z t s ht hs)
theorem ints_row {n : Nat} {f : Nat → Int} : intsOf ((List.range n).map fun s => .int (f s)) = some ((List.range n).map f) := by
  induction List.range n with
  | nil => rfl
  | cons a l ih => simp [intsOf, ih]
theorem fold_mn : ∀ (l : List Int) (a : Int), l.foldl min a ≤ a ∧ (∀ x ∈ l, l.foldl min a ≤ x) ∧ (l.foldl min a = a ∨ l.foldl min a ∈ l)
  | [], a => ⟨Int.le_refl _, fun _ h => by simp at h, .inl rfl⟩
  | x :: l, a => by
    obtain ⟨h1, h2, h3⟩ := fold_mn l (min a x)
    simp only [List.foldl_cons]
    refine ⟨by omega, fun y hy => ?_, ?_⟩
    · rcases List.mem_cons.mp hy with rfl | hy
      · omega
      · exact h2 y hy
    · rcases h3 with h3 | h3
      · by_cases q : a ≤ x
        · left; omega
        · right; rw [h3, show min a x = x by omega]; exact List.mem_cons_self
      · exact .inr (List.mem_cons_of_mem _ h3)
theorem fold_mx : ∀ (l : List Int) (a : Int), a ≤ l.foldl max a ∧ (∀ x ∈ l, x ≤ l.foldl max a) ∧ (l.foldl max a = a ∨ l.foldl max a ∈ l)
  | [], a => ⟨Int.le_refl _, fun _ h => by simp at h, .inl rfl⟩
  | x :: l, a => by
    obtain ⟨h1, h2, h3⟩ := fold_mx l (max a x)
    simp only [List.foldl_cons]
    refine ⟨by omega, fun y hy => ?_, ?_⟩
    · rcases List.mem_cons.mp hy with rfl | hy
      · omega
      · exact h2 y hy
    · rcases h3 with h3 | h3
      · by_cases q : x ≤ a
        · left; omega
        · right; rw [h3, show max a x = x by omega]; exact List.mem_cons_self
      · exact .inr (List.mem_cons_of_mem _ h3)
theorem row_min {n : Nat} {f : Nat → Int} (h : 0 < n) : ∃ m, gMin [rowD n f] = some (.int m) ∧ (∀ s, s < n → m ≤ f s) ∧ ∃ s, s < n ∧ m = f s := by
  obtain ⟨k, rfl⟩ : ∃ k, n = k + 1 := ⟨n - 1, by omega⟩
  have e : gMin [rowD (k + 1) f] = ((intsOf ((List.range (k + 1)).map fun s => .int (f s))).bind fun ns => (minI ns).map .int) := id rfl
  rw [ints_row] at e
  rw [List.range_succ_eq_map, List.map_cons] at e
  refine ⟨_, e, fun s hs => ?_, ?_⟩
  · obtain ⟨h1, h2, _⟩ := fold_mn (List.map f (List.map Nat.succ (List.range k))) (f 0)
    cases s with
    | zero => exact h1
    | succ s => exact h2 _ (by simp; exact ⟨s, by omega, rfl⟩)
  · obtain ⟨_, _, h3⟩ := fold_mn (List.map f (List.map Nat.succ (List.range k))) (f 0)
    rcases h3 with h3 | h3
    · exact ⟨0, by omega, h3⟩
    · simp at h3
      obtain ⟨s, hs, e⟩ := h3
      exact ⟨s + 1, by omega, by simp [e]⟩
theorem row_max {n : Nat} {f : Nat → Int} (h : 0 < n) : ∃ m, gMax [rowD n f] = some (.int m) ∧ (∀ s, s < n → f s ≤ m) ∧ ∃ s, s < n ∧ m = f s := by
  obtain ⟨k, rfl⟩ : ∃ k, n = k + 1 := ⟨n - 1, by omega⟩
  have e : gMax [rowD (k + 1) f] = ((intsOf ((List.range (k + 1)).map fun s => .int (f s))).bind fun ns => (maxI ns).map .int) := id rfl
  rw [ints_row] at e
  rw [List.range_succ_eq_map, List.map_cons] at e
  refine ⟨_, e, fun s hs => ?_, ?_⟩
  · obtain ⟨h1, h2, _⟩ := fold_mx (List.map f (List.map Nat.succ (List.range k))) (f 0)
    cases s with
    | zero => exact h1
    | succ s => exact h2 _ (by simp; exact ⟨s, by omega, rfl⟩)
  · obtain ⟨_, _, h3⟩ := fold_mx (List.map f (List.map Nat.succ (List.range k))) (f 0)
    rcases h3 with h3 | h3
    · exact ⟨0, by omega, h3⟩
    · simp at h3
      obtain ⟨s, hs, e⟩ := h3
      exact ⟨s + 1, by omega, by simp [e]⟩
end TW

-- TWWalk
namespace TW
def wt (T : Nat → Nat → Int) : List Nat → Int
  | a :: b :: l => T a b + wt T (b :: l)
  | _ => 0
def cw (T : Nat → Nat → Int) (l : List Nat) : Int := wt T l + T (l.getLastD 0) (l.headD 0)
section
variable {T : Nat → Nat → Int}
theorem wt_one {a : Nat} : wt T [a] = 0 := rfl
theorem wt_cons {a b : Nat} {l : List Nat} : wt T (a :: b :: l) = T a b + wt T (b :: l) := rfl
theorem wt_app : ∀ (p : List Nat) (x : Nat) (q : List Nat), wt T (p ++ x :: q) = wt T (p ++ [x]) + wt T (x :: q)
  | [], x, q => by simp [wt]
  | [a], x, q => by simp [wt]
  | a :: b :: p, x, q => by
    have := wt_app (b :: p) x q
    simp only [List.cons_append] at this ⊢
    rw [wt_cons, wt_cons, this]
    omega
theorem wt_snoc (p : List Nat) (x y : Nat) : wt T (p ++ [x, y]) = wt T (p ++ [x]) + T x y := by
  rw [wt_app p x [y]]
  simp [wt]
theorem wt_snoc' {l : List Nat} (h : l ≠ []) (y : Nat) : wt T (l ++ [y]) = wt T l + T (l.getLastD 0) y := by
  obtain ⟨p, x, rfl⟩ : ∃ p x, l = p ++ [x] := ⟨l.dropLast, l.getLast h, (List.dropLast_concat_getLast h).symm⟩
  rw [List.append_assoc]
  rw [show [x] ++ [y] = [x, y] from rfl, wt_snoc]
  simp
theorem cw_eq {l : List Nat} (h : l ≠ []) : cw T l = wt T (l ++ [l.headD 0]) := (wt_snoc' h _).symm
theorem getLastD_app {p q : List Nat} {x d : Nat} : (p ++ x :: q).getLastD d = (x :: q).getLastD d := by
  rw [List.getLastD_eq_getLast?, List.getLastD_eq_getLast?, List.getLast?_append]
  simp [List.getLast?_cons]
theorem cw_split (p : List Nat) (x : Nat) (q r : List Nat) : cw T (p ++ x :: (q ++ x :: r)) = cw T (x :: q) + cw T (p ++ x :: r) := by
  have n1 : p ++ x :: (q ++ x :: r) ≠ [] := by simp
  have n2 : x :: q ≠ [] := by simp
  have n3 : p ++ x :: r ≠ [] := by simp
  rw [cw_eq n1, cw_eq n2, cw_eq n3]
  have h1 : (p ++ x :: (q ++ x :: r)).headD 0 = (p ++ x :: r).headD 0 := by cases p <;> rfl
  rw [h1]
  generalize (p ++ x :: r).headD 0 = y
  have e1 : p ++ x :: (q ++ x :: r) ++ [y] = p ++ x :: (q ++ x :: (r ++ [y])) := by simp
  have e2 : p ++ x :: r ++ [y] = p ++ x :: (r ++ [y]) := by simp
  rw [e1, e2, wt_app p x (q ++ x :: (r ++ [y])), wt_app p x (r ++ [y])]
  have e3 : x :: (q ++ x :: (r ++ [y])) = (x :: q) ++ x :: (r ++ [y]) := by simp
  rw [e3, wt_app (x :: q) x (r ++ [y])]
  simp
  omega
theorem dup_split : ∀ {l : List Nat}, ¬ l.Nodup → ∃ p x q r, l = p ++ x :: (q ++ x :: r)
  | [], h => absurd List.nodup_nil h
  | a :: l, h => by
    by_cases ha : a ∈ l
    · obtain ⟨q, r, rfl⟩ := List.append_of_mem ha
      exact ⟨[], a, q, r, rfl⟩
    · have : ¬ l.Nodup := fun hl => h (List.nodup_cons.mpr ⟨ha, hl⟩)
      obtain ⟨p, x, q, r, rfl⟩ := dup_split this
      exact ⟨a :: p, x, q, r, rfl⟩
def NoNeg (T : Nat → Nat → Int) (n m : Nat) : Prop := ∀ l : List Nat, l ≠ [] → (∀ x ∈ l, x < n) → l.length ≤ m → 0 ≤ cw T l
theorem nodup_le : ∀ {n : Nat} {l : List Nat}, l.Nodup → (∀ x ∈ l, x < n) → l.length ≤ n
  | 0, l, _, hl => by
    cases l with
    | nil => exact Nat.le_refl _
    | cons a l => exact absurd (hl a (by simp)) (Nat.not_lt_zero _)
  | n + 1, l, h, hl => by
    by_cases hn : n ∈ l
    · have := nodup_le (n := n) (h.erase n) fun x hx => by
        have h1 := hl x (List.mem_of_mem_erase hx)
        have h2 : x ≠ n := fun e => by
          subst e
          exact (List.Nodup.not_mem_erase h) hx
        omega
      rw [List.length_erase_of_mem hn] at this
      omega
    · have := nodup_le (n := n) h fun x hx => by
        have h1 := hl x hx
        have h2 : x ≠ n := fun e => hn (e ▸ hx)
        omega
      omega
theorem NoNeg.nodup {n m : Nat} (h : NoNeg T n m) {l : List Nat} (hl : ∀ x ∈ l, x < n) (hm : l.length ≤ m + 1) (hc : cw T l < 0) : l.Nodup := by
  refine Classical.byContradiction fun hd => ?_
  obtain ⟨p, x, q, r, rfl⟩ := dup_split hd
  rw [cw_split] at hc
  simp at hm hl
  have h1 := h (x :: q) (by simp) (fun y hy => by
    rcases List.mem_cons.mp hy with rfl | hy
    · exact hl y (by simp)
    · exact hl y (by simp [hy])) (by simp; omega)
  have h2 := h (p ++ x :: r) (by simp) (fun y hy => by
    rcases List.mem_append.mp hy with hy | hy
    · exact hl y (by simp [hy])
    · rcases List.mem_cons.mp hy with rfl | hy
      · exact hl y (by simp)
      · exact hl y (by simp [hy])) (by simp; omega)
  omega
theorem NoNeg.all {n : Nat} (h : NoNeg T n n) : ∀ m, NoNeg T n m
  | 0 => fun l hl _ hm => by
    cases l with
    | nil => exact absurd rfl hl
    | cons a l => simp at hm
  | m + 1 => fun l hl hx hm => by
    have ih := NoNeg.all h m
    refine Classical.byContradiction fun hc => ?_
    have nd := ih.nodup hx hm (by omega)
    have := h l hl hx (nodup_le nd hx)
    omega
theorem wt_pot {P : Nat → Int} {n : Nat} (h : ∀ s t, s < n → t < n → P t - P s ≤ T s t) : ∀ (l : List Nat), l ≠ [] → (∀ x ∈ l, x < n) → P (l.getLastD 0) - P (l.headD 0) ≤ wt T l
  | [a], _, _ => by simp [wt]
  | a :: b :: l, _, hl => by
    have := wt_pot h (b :: l) (by simp) fun x hx => hl x (List.mem_cons_of_mem _ hx)
    have h1 := h a b (hl a (by simp)) (hl b (by simp))
    rw [wt_cons]
    simp only [List.headD_cons] at this ⊢
    have : (a :: b :: l).getLastD 0 = (b :: l).getLastD 0 := rfl
    rw [this]
    omega
theorem noNeg_of {P : Nat → Int} {n : Nat} (h : ∀ s t, s < n → t < n → P t - P s ≤ T s t) (m : Nat) : NoNeg T n m := by
  intro l hl hx _
  have h1 := wt_pot h l hl hx
  have a : l.getLastD 0 < n := by
    cases l with
    | nil => exact absurd rfl hl
    | cons a l => exact hx _ (by rw [List.getLastD_cons]; exact List.getLastD_mem_cons ..)
  have b : l.headD 0 < n := by
    cases l with
    | nil => exact absurd rfl hl
    | cons a l => exact hx _ (by simp)
  have h2 := h _ _ a b
  unfold cw
  omega
structure Good (T : Nat → Nat → Int) (n k : Nat) (S : Nat → Nat → Int) (W : Nat → Nat → List Nat) : Prop where
  ne : ∀ a b, a < n → b < n → W a b ≠ []
  hd : ∀ a b, a < n → b < n → (W a b).headD 0 = a
  la : ∀ a b, a < n → b < n → (W a b).getLastD 0 = b
  lt : ∀ a b, a < n → b < n → ∀ x ∈ W a b, x < n
  ln : ∀ a b, a < n → b < n → (W a b).length ≤ k
  eq : ∀ a b, a < n → b < n → wt T (W a b) = S a b
  le : ∀ l : List Nat, l ≠ [] → (∀ x ∈ l, x < n) → l.length ≤ k → S (l.headD 0) (l.getLastD 0) ≤ wt T l
theorem Good.start {n : Nat} (h0 : ∀ a, T a a = 0) : Good T n 2 T (fun a b => if a = b then [a] else [a, b]) where
  ne := fun a b _ _ => by split <;> simp
  hd := fun a b _ _ => by split <;> simp
  la := fun a b _ _ => by
    split
    · simp; assumption
    · simp
  lt := fun a b ha hb x hx => by
    split at hx
    · simp at hx; omega
    · simp at hx; omega
  ln := fun a b _ _ => by split <;> simp
  eq := fun a b _ _ => by
    split
    · rename_i h; subst h; rw [h0]; rfl
    · simp [wt]
  le := fun l hl hx hk => by
    match l, hl, hk with
    | [a], _, _ => simp [wt, h0]
    | [a, b], _, _ => simp [wt]
theorem Good.step {n k : Nat} {S : Nat → Nat → Int} {W : Nat → Nat → List Nat} (g : Good T n k S W) (hk : 1 ≤ k) (h0 : ∀ a, T a a = 0) (L : Nat → Nat → Nat) (hL : ∀ a b, a < n → b < n → L a b < n)
    (hm : ∀ a b c, a < n → b < n → c < n → S a (L a b) + T (L a b) b ≤ S a c + T c b) :
    Good T n (k + 1) (fun a b => S a (L a b) + T (L a b) b) (fun a b => W a (L a b) ++ (if L a b = b then [] else [b])) where
  ne := fun a b ha hb => by
    have := g.ne a (L a b) ha (hL a b ha hb)
    simp [this]
  hd := fun a b ha hb => by
    have h1 := g.ne a (L a b) ha (hL a b ha hb)
    have h2 := g.hd a (L a b) ha (hL a b ha hb)
    cases e : W a (L a b) with
    | nil => exact absurd e h1
    | cons x l => rw [e] at h2; simpa [e] using h2
  la := fun a b ha hb => by
    split
    · rename_i h
      rw [List.append_nil, g.la a _ ha (hL a b ha hb), h]
    · rw [List.getLastD_eq_getLast?, List.getLast?_append]; simp
  lt := fun a b ha hb x hx => by
    rcases List.mem_append.mp hx with hx | hx
    · exact g.lt a _ ha (hL a b ha hb) x hx
    · split at hx
      · simp at hx
      · simp at hx; omega
  ln := fun a b ha hb => by
    have := g.ln a _ ha (hL a b ha hb)
    rw [List.length_append]
    split
    · simp; omega
    · simp; omega
  eq := fun a b ha hb => by
    have h1 := g.eq a _ ha (hL a b ha hb)
    split
    · rename_i h
      rw [List.append_nil, h1, h, h0]; omega
    · rw [wt_snoc' (g.ne a _ ha (hL a b ha hb)), h1, g.la a _ ha (hL a b ha hb)]
  le := fun l hl hx hlen => by
    obtain ⟨p, y, rfl⟩ : ∃ p y, l = p ++ [y] := ⟨l.dropLast, l.getLast hl, (List.dropLast_concat_getLast hl).symm⟩
    have hy : y < n := hx y (by simp)
    have hlast : (p ++ [y]).getLastD 0 = y := by rw [List.getLastD_eq_getLast?, List.getLast?_append]; simp
    rw [hlast]
    by_cases hp : p = []
    · subst hp
      have h1 := hm y y y hy hy hy
      have h2 := g.le [y] (by simp) (by simpa using hy) (by simpa using hk)
      simp [wt] at h2 ⊢
      rw [h0] at h1
      omega
    · have hpx : ∀ x ∈ p, x < n := fun x hx' => hx x (by simp [hx'])
      have hz : p.getLastD 0 < n := by
        obtain ⟨q, z, rfl⟩ : ∃ q z, p = q ++ [z] := ⟨p.dropLast, p.getLast hp, (List.dropLast_concat_getLast hp).symm⟩
        rw [List.getLastD_eq_getLast?, List.getLast?_append]
        simpa using hpx z (by simp)
      have hh : (p ++ [y]).headD 0 = p.headD 0 := by
        cases p with
        | nil => exact absurd rfl hp
        | cons a p => rfl
      have hhn : p.headD 0 < n := by
        cases p with
        | nil => exact absurd rfl hp
        | cons a p => exact hpx a (by simp)
      rw [hh, wt_snoc' hp]
      have h1 := g.le p hp hpx (by simp at hlen; omega)
      have h2 := hm (p.headD 0) y (p.getLastD 0) hhn hy hz
      omega
theorem Good.cw {n k : Nat} {S : Nat → Nat → Int} {W : Nat → Nat → List Nat} (g : Good T n k S W) {a c : Nat} (ha : a < n) (hc : c < n) : TW.cw T (W a c) = S a c + T c a := by
  unfold TW.cw
  rw [g.eq a c ha hc, g.la a c ha hc, g.hd a c ha hc]
theorem Good.noNeg {n k : Nat} {S : Nat → Nat → Int} {W : Nat → Nat → List Nat} (g : Good T n k S W) (h : ∀ a c, a < n → c < n → 0 ≤ S a c + T c a) : NoNeg T n k := by
  intro l hl hx hk
  have h1 := g.le l hl hx hk
  have hz : l.getLastD 0 < n := by
    obtain ⟨q, z, rfl⟩ : ∃ q z, l = q ++ [z] := ⟨l.dropLast, l.getLast hl, (List.dropLast_concat_getLast hl).symm⟩
    rw [List.getLastD_eq_getLast?, List.getLast?_append]
    simpa using hx z (by simp)
  have hhn : l.headD 0 < n := by
    cases l with
    | nil => exact absurd rfl hl
    | cons a p => exact hx a (by simp)
  have h2 := h _ _ hhn hz
  unfold TW.cw
  omega
structure IsRing (T : Nat → Nat → Int) (n : Nat) (l : List Nat) : Prop where
  lt : ∀ x ∈ l, x < n
  nd : l.Nodup
  two : 2 ≤ l.length
  neg : cw T l < 0
  few : NoNeg T n (l.length - 1)
theorem NoNeg.one {n : Nat} (h0 : ∀ a, T a a = 0) : NoNeg T n 1 := by
  intro l hl _ hk
  match l, hl, hk with
  | [a], _, _ => simp [cw, wt, h0]
theorem NoNeg.mono {n m k : Nat} (h : NoNeg T n m) (hk : k ≤ m) : NoNeg T n k := fun l a b c => h l a b (by omega)
theorem Good.ring {n k : Nat} {S : Nat → Nat → Int} {W : Nat → Nat → List Nat} (g : Good T n k S W) (hk : 2 ≤ k) (hn : NoNeg T n (k - 1)) {a c : Nat} (ha : a < n) (hc : c < n) (h : S a c + T c a < 0) : IsRing T n (W a c) := by
  have h1 : TW.cw T (W a c) < 0 := by rw [g.cw ha hc]; exact h
  have h2 := g.ln a c ha hc
  have h3 : k ≤ (W a c).length := by
    refine Classical.byContradiction fun q => ?_
    have := hn _ (g.ne a c ha hc) (g.lt a c ha hc) (by omega)
    omega
  exact ⟨g.lt a c ha hc, hn.nodup (g.lt a c ha hc) (by omega) h1, by omega, h1, hn.mono (by omega)⟩
end
end TW

-- TWRing
namespace TW
open PySem PySem.Spec PyProof.Rows L2
def Tn (G : Nat → Nat → Int) (a b : Nat) : Int := G b b - G b a
theorem Tn0 {G : Nat → Nat → Int} (a : Nat) : Tn G a a = 0 := by unfold Tn; omega
theorem turn_T {n s t : Nat} {G : Nat → Nat → Int} (hs : s < n) (ht : t < n) : m_turn [gridD n G, .int s, .int t] = .ok (.int (Tn G s t)) := turn_ok hs ht
def lD (l : List Nat) : D := .lst (l.map fun x : Nat => .int x)
def wrow (n : Nat) (f : Nat → List Nat) : D := .lst ((List.range n).map fun b => lD (f b))
def waysD (n : Nat) (W : Nat → Nat → List Nat) : D := .lst ((List.range n).map fun a => wrow n (W a))
theorem ways_ix {n a : Nat} {W : Nat → Nat → List Nat} (h : a < n) : gIx (waysD n W) (.int a) = some (wrow n (W a)) := gIx_map (α := Unit) h
theorem wrow_ix {n a : Nat} {f : Nat → List Nat} (h : a < n) : gIx (wrow n f) (.int a) = some (lD (f a)) := gIx_map (α := Unit) h
theorem one_l {x : D} : gLst [x] = some (.lst [x]) := gLst_eq (show 1 ≤ sizeLine by decide)
theorem nil_l : gLst [] = some (.lst []) := gLst_eq (Nat.zero_le _)
theorem tup2 (a b : D) : gTup [a, b] = some (.tup [a, b]) := gTup_eq (show 2 ≤ sizeLine by decide)
theorem mul_if {x : D} (p : Prop) [Decidable p] : gMul (.lst [x]) (.int (if p then 0 else 1)) = some (.lst (if p then [] else [x])) := by
  by_cases h : p
  · rw [if_pos h, if_pos h]; exact id rfl
  · rw [if_neg h, if_neg h]; exact id rfl
theorem lD_add {l : List Nat} {p : Prop} [Decidable p] {b : Nat} (h : l.length < 1000) : gAdd (lD l) (.lst (if p then [] else [.int b])) = some (lD (l ++ if p then [] else [b])) := by
  unfold lD
  rw [gAdd_lst (by
    rw [List.length_map]
    refine b24' ?_
    split <;> simp <;> omega)]
  split <;> simp
theorem begun_sums_ok {n : Nat} {G : Nat → Nat → Int} (hn : n < 1000) : m_begun_sums [gridD n G] = .ok (gridD n (Tn G)) := by
  rw [m_begun_sums]
  refine call_rt ?_
  rw [b_begun_sums]
  rw [seq_set (d := .int n) (by simp [grid_len])]
  rw [sRet_eq, lc_r (j := 2) n (fun a => rowD n (Tn G a)) (by simp) (by omega) (fun a ha => by
    rw [lc_r (j := 3) n (fun b => .int (Tn G a b)) (by simp [wipeR]) (by omega) (fun b hb => by simp [wipeR, turn_T ha hb])]
    rfl)]
  rfl
theorem begun_ways_ok {n : Nat} {G : Nat → Nat → Int} (hn : n < 1000) : m_begun_ways [gridD n G] = .ok (waysD n fun a b => if a = b then [a] else [a, b]) := by
  rw [m_begun_ways]
  refine call_rt ?_
  rw [b_begun_ways]
  rw [seq_set (d := .lst []) (by simp [nil_l])]
  generalize hb : sApp 1 _ _ = b
  obtain ⟨ρ', e, x2, x3, rfl⟩ := for_r (j := 2) (mi := mL gLen (mA1 (mVar 0) mA0)) (b := b) (ρ := [some (gridD n G), some (.lst []), none, none])
    (fun k ρ => ∃ x2 x3, ρ = [some (gridD n G), some (.lst ((List.range k).map fun a => wrow n fun b => if a = b then [a] else [a, b])), x2, x3]) n (by simp [grid_len]) (by omega) ⟨_, _, rfl⟩ (by
      rintro a ρ ha ⟨x2, x3, rfl⟩
      subst hb
      simp
      rw [lc_r (j := 3) n (fun b => lD (if a = b then [a] else [a, b])) (by simp [wipeR, grid_len]) (by omega) (fun b hb => by
        have := lD_add (l := [a]) (p := (a : Int) = b) (b := b) (by simp)
        simp [wipeR, one_l, mul_if, -Int.natCast_inj]
        rw [show D.lst [D.int (a : Int)] = lD [a] from rfl, this]
        by_cases h : a = b
        · simp [h]
        · simp [h, show ¬ ((a : Int) = b) by omega])]
      simp
      rw [nApp_lst (by rw [List.length_map, List.length_range]; exact b24 (by omega))]
      refine ⟨_, rfl, ?_⟩
      simp [List.range_succ, wrow])
  rw [sSeq_eq]
  simp only [List.map_cons, List.map_nil, List.length_cons, List.length_nil, List.cons_append, List.nil_append, List.replicate, Nat.zero_add, Nat.reduceAdd, Nat.reduceSub, List.set_cons_zero, List.set_cons_succ]
  rw [e]
  simp
  rfl
theorem find2 {b : Rho → Out} {ja jb : Nat} {mi mj : Rho → Res D} {n : Nat} {ρ : Rho} (p : Nat → Nat → Prop) (v : Nat → Nat → D) (A : Rho → Prop) (I : Nat → Rho → Prop) (hn : n < 1000000)
    (h0 : A ρ) (hm : ∀ ρ, A ρ → mi ρ = .ok (.int n)) (hmj : ∀ t ρ, I t ρ → mj ρ = .ok (.int n)) (hA : ∀ t ρ, t < n → A ρ → I t (ρ.set ja (some (.int t)))) (hI : ∀ t ρ, I t ρ → A ρ)
    (hb : ∀ t s ρ, t < n → s < n → I t ρ → (p t s ∧ ∃ ρ2, b (ρ.set jb (some (.int s))) = .nx ρ2 ∧ I t ρ2) ∨ (¬ p t s ∧ b (ρ.set jb (some (.int s))) = .rt (v t s))) :
    (∃ ρ', sFor (tgN ja) (iR1 mi) (sFor (tgN jb) (iR1 mj) b) ρ = .nx ρ' ∧ A ρ' ∧ ∀ t s, t < n → s < n → p t s) ∨ ∃ t s, t < n ∧ s < n ∧ ¬ p t s ∧ sFor (tgN ja) (iR1 mi) (sFor (tgN jb) (iR1 mj) b) ρ = .rt (v t s) := by
  have := for_rX (j := ja) (mi := mi) (b := sFor (tgN jb) (iR1 mj) b) (ρ := ρ) (fun k ρ => A ρ ∧ ∀ t s, t < k → s < n → p t s) (fun d => ∃ t s, t < n ∧ s < n ∧ ¬ p t s ∧ d = v t s) n (hm ρ h0) hn ⟨h0, fun t s h => by omega⟩ fun t ρ ht ⟨ha, hk⟩ => by
    have := for_rX (j := jb) (mi := mj) (b := b) (ρ := ρ.set ja (some (.int t))) (fun k ρ => I t ρ ∧ ∀ s, s < k → p t s) (fun d => ∃ t s, t < n ∧ s < n ∧ ¬ p t s ∧ d = v t s) n (hmj t _ (hA t ρ ht ha)) hn ⟨hA t ρ ht ha, fun s h => by omega⟩ fun s ρ hs ⟨hi, hks⟩ => by
      rcases hb t s ρ ht hs hi with ⟨hp, ρ2, e, h2⟩ | ⟨hp, e⟩
      · refine .inl ⟨ρ2, e, h2, fun s' h => ?_⟩
        by_cases q : s' = s
        · subst q; exact hp
        · exact hks s' (by omega)
      · exact .inr ⟨_, e, t, s, ht, hs, hp, rfl⟩
    rcases this with ⟨ρ2, e, h2, h3⟩ | h
    · refine .inl ⟨ρ2, e, hI t ρ2 h2, fun t' s' g1 g2 => ?_⟩
      by_cases q : t' = t
      · subst q; exact h3 s' g2
      · exact hk t' s' (by omega) g2
    · exact .inr h
  rcases this with ⟨ρ2, e, h2, h⟩ | ⟨d, e, t, s, ht, hs, h, rfl⟩
  · exact .inl ⟨ρ2, e, h2, h⟩
  · exact .inr ⟨t, s, ht, hs, h, e⟩
theorem closed_ok {n : Nat} {G S : Nat → Nat → Int} {W : Nat → Nat → List Nat} (hn : n < 1000) :
    (m_closed [gridD n G, gridD n S, waysD n W] = .ok .non ∧ ∀ a c, a < n → c < n → 0 ≤ S a c + Tn G c a) ∨ ∃ a c, a < n ∧ c < n ∧ S a c + Tn G c a < 0 ∧ m_closed [gridD n G, gridD n S, waysD n W] = .ok (lD (W a c)) := by
  rw [m_closed]
  generalize hb : b_closed = b
  rw [b_closed] at hb
  generalize hc : sIf _ _ sNil = c at hb
  have := find2 (b := c) (ja := 3) (jb := 4) (mi := mL gLen (mA1 (mVar 0) mA0)) (mj := mL gLen (mA1 (mVar 0) mA0)) (n := n) (ρ := [some (gridD n G), some (gridD n S), some (waysD n W), none, none]) (fun a c => 0 ≤ S a c + Tn G c a) (fun a c => lD (W a c))
    (fun ρ => ∃ x3 x4, ρ = [some (gridD n G), some (gridD n S), some (waysD n W), x3, x4]) (fun t ρ => ∃ x4, ρ = [some (gridD n G), some (gridD n S), some (waysD n W), some (.int t), x4]) (by omega) ⟨_, _, rfl⟩
    (by rintro ρ ⟨_, _, rfl⟩; simp [grid_len]) (by rintro t ρ ⟨_, rfl⟩; simp [grid_len]) (by rintro t ρ _ ⟨_, _, rfl⟩; exact ⟨_, rfl⟩) (by rintro t ρ ⟨_, rfl⟩; exact ⟨_, _, rfl⟩) (by
      rintro t s ρ ht hs ⟨x4, rfl⟩
      subst hc
      simp [grid_ix ht, row_ix hs, ways_ix ht, wrow_ix hs, turn_T hs ht]
      by_cases h : S t s + Tn G s t < 0
      · right; simp [h]
      · left; simp [h]; omega)
  rcases this with ⟨ρ', e, _, h⟩ | ⟨t, s, ht, hs, h, e⟩
  · refine .inl ⟨call_rt ?_, h⟩
    subst hb
    simp
    rw [e]; simp
  · refine .inr ⟨t, s, ht, hs, by omega, call_rt ?_⟩
    subst hb
    simp
    rw [e]; simp
theorem best_ok {n a b : Nat} {G S : Nat → Nat → Int} (hn : n < 1000) (ha : a < n) (hb : b < n) :
    ∃ l : Nat, m_best_last [gridD n G, gridD n S, .int a, .int b] = .ok (.int l) ∧ l < n ∧ ∀ c, c < n → S a l + Tn G l b ≤ S a c + Tn G c b := by
  rw [m_best_last]
  generalize hbb : b_best_last = bb
  rw [b_best_last] at hbb
  generalize hc : sIf _ _ sNil = c at hbb
  obtain ⟨ρ', e, l, x5, hl, h, rfl⟩ := for_r (j := 5) (mi := mL gLen (mA1 (mVar 0) mA0)) (b := c) (ρ := [some (gridD n G), some (gridD n S), some (.int a), some (.int b), some (.int b), none])
    (fun k ρ => ∃ (l : Nat) (x5 : Option D), l < n ∧ (∀ c, c < k → S a l + Tn G l b ≤ S a c + Tn G c b) ∧ ρ = [some (gridD n G), some (gridD n S), some (.int a), some (.int b), some (.int l), x5]) n (by simp [grid_len]) (by omega) ⟨b, _, hb, fun c h => by omega, rfl⟩ (by
      rintro k ρ hk ⟨l, x5, hl, h, rfl⟩
      subst hc
      simp [grid_ix ha, row_ix hk, row_ix hl, turn_T hk hb, turn_T hl hb]
      by_cases q : S a k + Tn G k b < S a l + Tn G l b
      · simp [q]
        refine ⟨k, hk, fun c hc => ?_, rfl⟩
        by_cases w : c = k
        · subst w; omega
        · have := h c (by omega); omega
      · simp [q]
        refine ⟨l, hl, fun c hc => ?_, rfl⟩
        by_cases w : c = k
        · subst w; omega
        · exact h c (by omega))
  refine ⟨l, call_rt ?_, hl, h⟩
  subst hbb
  simp
  rw [e]
  simp
theorem wrow_snoc {n : Nat} {f : Nat → List Nat} (h : n < 1000) : nApp (lD (f n)) (wrow n f) = some (wrow (n + 1) f) := by
  unfold wrow
  rw [nApp_lst (by rw [List.length_map, List.length_range]; exact b24 (by omega)), List.range_succ, List.map_append]
  rfl
theorem longer_ok {n : Nat} {G S : Nat → Nat → Int} {W : Nat → Nat → List Nat} (hn : n < 900) (hW : ∀ a b, a < n → b < n → (W a b).length < 1000) :
    ∃ L : Nat → Nat → Nat, (∀ a b, a < n → b < n → L a b < n) ∧ (∀ a b c, a < n → b < n → c < n → S a (L a b) + Tn G (L a b) b ≤ S a c + Tn G c b) ∧
      m_longer [gridD n G, gridD n S, waysD n W] = .ok (.tup [gridD n fun a b => S a (L a b) + Tn G (L a b) b, waysD n fun a b => W a (L a b) ++ (if L a b = b then [] else [b])]) := by
  have ch : ∀ a b : Nat, ∃ l : Nat, a < n → b < n → m_best_last [gridD n G, gridD n S, .int a, .int b] = .ok (.int l) ∧ l < n ∧ ∀ c, c < n → S a l + Tn G l b ≤ S a c + Tn G c b := fun a b => by
    by_cases ha : a < n
    · by_cases hb : b < n
      · obtain ⟨l, h⟩ := best_ok (G := G) (S := S) (n := n) (by omega) ha hb
        exact ⟨l, fun _ _ => h⟩
      · exact ⟨0, fun _ h => absurd h hb⟩
    · exact ⟨0, fun h => absurd h ha⟩
  obtain ⟨L, hL⟩ : ∃ L : Nat → Nat → Nat, ∀ a b : Nat, a < n → b < n → m_best_last [gridD n G, gridD n S, .int a, .int b] = .ok (.int (L a b)) ∧ L a b < n ∧ ∀ c, c < n → S a (L a b) + Tn G (L a b) b ≤ S a c + Tn G c b := ⟨fun a b => Classical.choose (ch a b), fun a b => Classical.choose_spec (ch a b)⟩
  refine ⟨L, fun a b ha hb => (hL a b ha hb).2.1, fun a b c ha hb hc => (hL a b ha hb).2.2 c hc, ?_⟩
  rw [m_longer]
  refine call_rt ?_
  rw [b_longer]
  rw [seq_set (d := .lst []) (by simp [nil_l]), seq_set (d := .lst []) (by simp [nil_l])]
  simp only [List.map_cons, List.map_nil, List.length_cons, List.length_nil, List.cons_append, List.nil_append, List.replicate, Nat.zero_add, Nat.reduceAdd, Nat.reduceSub, List.set_cons_zero, List.set_cons_succ]
  generalize hb : sSeq (sSet 6 _) _ = b
  rw [sSeq_eq]
  obtain ⟨ρ', e, x5, x6, x7, x8, x9, rfl⟩ := for_r (j := 5) (mi := mL gLen (mA1 (mVar 0) mA0)) (b := b) (ρ := [some (gridD n G), some (gridD n S), some (waysD n W), some (.lst []), some (.lst []), none, none, none, none, none])
    (fun k ρ => ∃ x5 x6 x7 x8 x9, ρ = [some (gridD n G), some (gridD n S), some (waysD n W), some (.lst ((List.range k).map fun a => rowD n fun b => S a (L a b) + Tn G (L a b) b)), some (.lst ((List.range k).map fun a => wrow n fun b => W a (L a b) ++ (if L a b = b then [] else [b]))), x5, x6, x7, x8, x9]) n (by simp [grid_len]) (by omega) ⟨_, _, _, _, _, rfl⟩ (by
      rintro a ρ ha ⟨x5, x6, x7, x8, x9, rfl⟩
      subst hb
      simp only [List.set_cons_zero, List.set_cons_succ]
      rw [seq_set (d := .lst []) (by simp [nil_l]), seq_set (d := .lst []) (by simp [nil_l])]
      simp only [List.set_cons_zero, List.set_cons_succ]
      generalize hb : sSeq (sSet 9 _) _ = b
      rw [sSeq_eq]
      obtain ⟨ρ', e, y8, y9, rfl⟩ := for_r (j := 8) (mi := mL gLen (mA1 (mVar 0) mA0)) (b := b) (ρ := [some (gridD n G), some (gridD n S), some (waysD n W), some (.lst ((List.range a).map fun a => rowD n fun b => S a (L a b) + Tn G (L a b) b)), some (.lst ((List.range a).map fun a => wrow n fun b => W a (L a b) ++ (if L a b = b then [] else [b]))), some (.int a), some (.lst []), some (.lst []), x8, x9])
        (fun k ρ => ∃ y8 y9, ρ = [some (gridD n G), some (gridD n S), some (waysD n W), some (.lst ((List.range a).map fun a => rowD n fun b => S a (L a b) + Tn G (L a b) b)), some (.lst ((List.range a).map fun a => wrow n fun b => W a (L a b) ++ (if L a b = b then [] else [b]))), some (.int a), some (rowD k fun b => S a (L a b) + Tn G (L a b) b), some (wrow k fun b => W a (L a b) ++ (if L a b = b then [] else [b])), y8, y9]) n (by simp [grid_len]) (by omega) ⟨_, _, rfl⟩ (by
          rintro b ρ hb' ⟨y8, y9, rfl⟩
          subst hb
          obtain ⟨h1, h2, _⟩ := hL a b ha hb'
          have s1 := rowD_snoc (n := b) (f := fun b => S a (L a b) + Tn G (L a b) b) (by omega)
          have s2 := wrow_snoc (n := b) (f := fun b => W a (L a b) ++ (if L a b = b then [] else [b])) (by omega)
          have s3 := lD_add (l := W a (L a b)) (p := L a b = b) (b := b) (hW _ _ ha h2)
          have s4 : gMul (.lst [.int (b : Int)]) (.int (if (L a b : Int) = b then 0 else 1)) = some (.lst (if L a b = b then [] else [.int b])) := by
            rw [mul_if]
            by_cases h : L a b = b
            · simp [h]
            · simp [h, show ¬ ((L a b : Int) = b) by omega]
          simp only [List.set_cons_zero, List.set_cons_succ]
          rw [seq_set (d := .int (L a b)) (by simp [h1])]
          simp [grid_ix ha, row_ix h2, turn_T h2 hb', s1, ways_ix ha, wrow_ix h2, one_l, s4, s3, s2])
      rw [e]
      simp
      rw [nApp_lst (by rw [List.length_map, List.length_range]; exact b24 (by omega))]
      simp
      rw [nApp_lst (by rw [List.length_map, List.length_range]; exact b24 (by omega))]
      refine ⟨_, rfl, ?_⟩
      simp [List.range_succ])
  rw [e]
  simp [tup2]
  exact ⟨rfl, rfl⟩
theorem ring_ok {n : Nat} {G : Nat → Nat → Int} (hn : n < 900) : (m_ring [gridD n G] = .ok .non ∧ NoNeg (Tn G) n n) ∨ ∃ l, m_ring [gridD n G] = .ok (lD l) ∧ IsRing (Tn G) n l := by
  rw [m_ring]
  generalize hbb : b_ring = bb
  rw [b_ring] at hbb
  generalize hc : sSeq (sSet 4 _) _ = c at hbb
  have key := for_lX (f := tgN 3) (m := iR2 (mC (.int 2)) (m2 gAdd (mL gLen (mA1 (mVar 0) mA0)) (mC (.int 1)))) (b := c) (ρ := [some (gridD n G), some (gridD n (Tn G)), some (waysD n fun a b => if a = b then [a] else [a, b]), none, none, none])
    (fun k ρ => ∃ S W x3 x4 x5, Good (Tn G) n (k + 2) S W ∧ NoNeg (Tn G) n (k + 1) ∧ ρ = [some (gridD n G), some (gridD n S), some (waysD n W), x3, x4, x5]) (fun d => ∃ l, d = lD l ∧ IsRing (Tn G) n l)
    ((List.range (n + 1 - 2)).map fun k : Nat => .int (2 + k : Nat)) (iR2_ok rfl (by simp [grid_len]) (by omega) (by omega)) ⟨_, _, _, _, _, Good.start Tn0, NoNeg.one Tn0, rfl⟩ (by
      rintro k d ρ hd ⟨S, W, x3, x4, x5, g, ng, rfl⟩
      have hk : k < n + 1 - 2 := by
        have := (List.getElem?_eq_some_iff.mp hd).1
        simpa using this
      refine ⟨_, rfl, ?_⟩
      subst hc
      simp only [List.set_cons_zero, List.set_cons_succ]
      rcases closed_ok (n := n) (G := G) (S := S) (W := W) (by omega) with ⟨e, h⟩ | ⟨a, c, ha, hc, h, e⟩
      · left
        obtain ⟨L, l1, l2, l3⟩ := longer_ok (n := n) (G := G) (S := S) (W := W) hn (fun a b ha hb => by have := g.ln a b ha hb; omega)
        refine ⟨[some (gridD n G), some (gridD n fun a b => S a (L a b) + Tn G (L a b) b), some (waysD n fun a b => W a (L a b) ++ (if L a b = b then [] else [b])), some d, some .non, some (.tup [gridD n fun a b => S a (L a b) + Tn G (L a b) b, waysD n fun a b => W a (L a b) ++ (if L a b = b then [] else [b])])], ?_, _, _, _, _, _, g.step (by omega) Tn0 L l1 l2, g.noNeg h, rfl⟩
        rw [seq_set (d := .non) (by simp [e])]
        have i0 : ∀ a b : D, gIx (.tup [a, b]) (.int 0) = some a := fun _ _ => id rfl
        have i1 : ∀ a b : D, gIx (.tup [a, b]) (.int 1) = some b := fun _ _ => id rfl
        simp [show gNotN .non .non = some (.bl false) from id rfl, l3, i0, i1]
      · right
        refine ⟨lD (W a c), ?_, W a c, rfl, g.ring (by omega) (by simpa using ng) ha hc h⟩
        rw [seq_set (d := lD (W a c)) (by simp [e])]
        simp [show ∀ l, gNotN (lD l) .non = some (.bl true) from fun _ => id rfl, show ∀ l, gList [lD l] = some (lD l) from fun _ => id rfl])
  rcases key with ⟨ρ', e, S, W, x3, x4, x5, g, ng, rfl⟩ | ⟨d, e, l, rfl, h⟩
  · left
    refine ⟨call_rt ?_, ng.mono (by simp; omega)⟩
    subst hbb
    rw [seq_set (d := gridD n (Tn G)) (by simp [begun_sums_ok (show n < 1000 by omega)]), seq_set (d := waysD n fun a b => if a = b then [a] else [a, b]) (by simp [begun_ways_ok (show n < 1000 by omega)]), sSeq_eq]
    simp only [List.map_cons, List.map_nil, List.length_cons, List.length_nil, List.cons_append, List.nil_append, List.replicate, Nat.zero_add, Nat.reduceAdd, Nat.reduceSub, List.set_cons_zero, List.set_cons_succ]
    rw [e]
    simp
  · right
    refine ⟨l, call_rt ?_, h⟩
    subst hbb
    rw [seq_set (d := gridD n (Tn G)) (by simp [begun_sums_ok (show n < 1000 by omega)]), seq_set (d := waysD n fun a b => if a = b then [a] else [a, b]) (by simp [begun_ways_ok (show n < 1000 by omega)]), sSeq_eq]
    simp only [List.map_cons, List.map_nil, List.length_cons, List.length_nil, List.cons_append, List.nil_append, List.replicate, Nat.zero_add, Nat.reduceAdd, Nat.reduceSub, List.set_cons_zero, List.set_cons_succ]
    rw [e]
    simp
end TW

-- TWBf
namespace TW
section
variable {T : Nat → Nat → Int} {n : Nat}
theorem last_app {p : List Nat} {y d : Nat} : (p ++ [y]).getLastD d = y := by rw [List.getLastD_eq_getLast?, List.getLast?_append]; simp
theorem head_app {p : List Nat} {y d : Nat} (h : p ≠ []) : (p ++ [y]).headD d = p.headD d := by
  cases p with
  | nil => exact absurd rfl h
  | cons a p => rfl
theorem snoc_of {l : List Nat} (h : l ≠ []) : ∃ p y, l = p ++ [y] := ⟨l.dropLast, l.getLast h, (List.dropLast_concat_getLast h).symm⟩
theorem shorten (h : NoNeg T n n) : ∀ (m : Nat) (l : List Nat), l.length ≤ m → l ≠ [] → (∀ x ∈ l, x < n) → ∃ l' : List Nat, l' ≠ [] ∧ (∀ x ∈ l', x < n) ∧ l'.length ≤ n ∧ l'.headD 0 = l.headD 0 ∧ l'.getLastD 0 = l.getLastD 0 ∧ wt T l' ≤ wt T l
  | 0, l, hm, hl, _ => by
    cases l with
    | nil => exact absurd rfl hl
    | cons a l => simp at hm
  | m + 1, l, hm, hl, hx => by
    by_cases nd : l.Nodup
    · exact ⟨l, hl, hx, nodup_le nd hx, rfl, rfl, Int.le_refl _⟩
    · obtain ⟨p, x, q, r, rfl⟩ := dup_split nd
      obtain ⟨l', a1, a2, a3, a4, a5, a6⟩ := shorten h m (p ++ x :: r) (by simp at hm ⊢; omega) (by simp) (fun y hy => hx y (by
        rcases List.mem_append.mp hy with hy | hy
        · simp [hy]
        · rcases List.mem_cons.mp hy with rfl | hy
          · simp
          · simp [hy]))
      refine ⟨l', a1, a2, a3, ?_, ?_, ?_⟩
      · rw [a4]; cases p <;> rfl
      · rw [a5, getLastD_app, show p ++ x :: (q ++ x :: r) = (p ++ x :: q) ++ x :: r by simp, getLastD_app]
      · have c := h.all ((x :: q).length) (x :: q) (by simp) (fun y hy => hx y (by
          rcases List.mem_cons.mp hy with rfl | hy
          · simp
          · simp [hy])) (Nat.le_refl _)
        rw [cw_eq (by simp)] at c
        have e1 := wt_app (T := T) p x (q ++ x :: r)
        have e2 := wt_app (T := T) p x r
        have e3 := wt_app (T := T) (x :: q) x r
        simp at e3 c
        rw [e1, e3]
        rw [e2] at a6
        omega
structure Fit (T : Nat → Nat → Int) (n : Nat) (P0 P : Nat → Int) (R : Nat → List Nat) : Prop where
  ne : ∀ t, t < n → R t ≠ []
  la : ∀ t, t < n → (R t).getLastD 0 = t
  lt : ∀ t, t < n → ∀ x ∈ R t, x < n
  eq : ∀ t, t < n → P t = P0 ((R t).headD 0) + wt T (R t)
  pre : ∀ t, t < n → ∀ p u q, R t = p ++ u :: q → P u ≤ P0 ((R t).headD 0) + wt T (p ++ [u])
  nd : ∀ t, t < n → (R t).Nodup
  le : ∀ t, t < n → P t ≤ P0 t
theorem Fit.start {P0 : Nat → Int} : Fit T n P0 P0 (fun t => [t]) where
  ne := fun t _ => by simp
  la := fun t _ => by simp
  lt := fun t ht x hx => by simp at hx; omega
  eq := fun t _ => by simp [wt]
  pre := fun t _ p u q e => by
    cases p with
    | nil => simp at e; simp [wt, e.1]
    | cons a p => simp at e
  nd := fun t _ => by simp
  le := fun t _ => Int.le_refl _
def setF {α : Type} (f : Nat → α) (t : Nat) (x : α) (s : Nat) : α := if s = t then x else f s
theorem setF_self {α : Type} {f : Nat → α} {t : Nat} {x : α} : setF f t x t = x := if_pos rfl
theorem setF_ne {α : Type} {f : Nat → α} {t s : Nat} {x : α} (h : s ≠ t) : setF f t x s = f s := if_neg h
theorem Fit.relax {P0 P : Nat → Int} {R : Nat → List Nat} (f : Fit T n P0 P R) {s t : Nat} (hs : s < n) (ht : t < n) (h : P s + T s t < P t) (h0 : T t t = 0) (hN : NoNeg T n n) :
    Fit T n P0 (setF P t (P s + T s t)) (setF R t (R s ++ [t])) := by
  have hne : s ≠ t := fun e => by subst e; omega
  have hle : ∀ u, setF P t (P s + T s t) u ≤ P u := fun u => by
    by_cases e : u = t
    · subst e; rw [setF_self]; omega
    · rw [setF_ne e]; exact Int.le_refl _
  have hd : (R s ++ [t]).headD 0 = (R s).headD 0 := head_app (f.ne s hs)
  have hw : wt T (R s ++ [t]) = wt T (R s) + T s t := by rw [wt_snoc' (f.ne s hs), f.la s hs]
  have hnot : t ∉ R s := fun hm => by
    obtain ⟨p, q, e⟩ := List.append_of_mem hm
    have h1 := f.pre s hs p t q e
    have h2 := f.eq s hs
    have h3 := wt_app (T := T) p t q
    have c := hN.all ((t :: q).length) (t :: q) (by simp) (fun y hy => f.lt s hs y (by rw [e]; exact List.mem_append_right _ hy)) (Nat.le_refl _)
    have hl := f.la s hs
    rw [e, getLastD_app] at hl
    unfold cw at c
    rw [hl] at c
    simp only [List.headD_cons] at c
    rw [e] at h1 h2
    omega
  refine ⟨fun u hu => ?_, fun u hu => ?_, fun u hu x hx => ?_, fun u hu => ?_, fun u hu p v q e => ?_, fun u hu => ?_, fun u hu => Int.le_trans (hle u) (f.le u hu)⟩
  · by_cases e : u = t
    · subst e; rw [setF_self]; simp
    · rw [setF_ne e]; exact f.ne u hu
  · by_cases e : u = t
    · subst e; rw [setF_self]; exact last_app
    · rw [setF_ne e]; exact f.la u hu
  · by_cases e : u = t
    · subst e
      rw [setF_self] at hx
      rcases List.mem_append.mp hx with hx | hx
      · exact f.lt s hs x hx
      · simp at hx; omega
    · rw [setF_ne e] at hx; exact f.lt u hu x hx
  · by_cases e : u = t
    · subst e; rw [setF_self, setF_self, hd, hw, f.eq s hs]; omega
    · rw [setF_ne e, setF_ne e]; exact f.eq u hu
  · by_cases e' : u = t
    · subst e'
      rw [setF_self] at e ⊢
      rw [hd]
      by_cases hq : q = []
      · subst hq
        have e2 : R s = p ∧ [u] = [v] := List.append_inj' e rfl
        obtain ⟨rfl, e3⟩ := e2
        cases e3
        rw [setF_self, hw, f.eq s hs]
        omega
      · obtain ⟨q', y, rfl⟩ := snoc_of hq
        have e2 : R s = p ++ v :: q' ∧ [u] = [y] := List.append_inj' (by rw [e]; simp) rfl
        exact Int.le_trans (hle v) (f.pre s hs p v q' e2.1)
    · rw [setF_ne e'] at e ⊢
      exact Int.le_trans (hle v) (f.pre u hu p v q e)
  · by_cases e' : u = t
    · subst e'
      rw [setF_self]
      exact List.nodup_append.mpr ⟨f.nd s hs, by simp, fun x hx y hy e => by
        simp at hy
        subst hy e
        exact hnot hx⟩
    · rw [setF_ne e']; exact f.nd u hu
def Bnd (T : Nat → Nat → Int) (n : Nat) (P0 P : Nat → Int) (i : Nat) : Prop := ∀ l : List Nat, l ≠ [] → (∀ x ∈ l, x < n) → l.length ≤ i + 1 → P (l.getLastD 0) ≤ P0 (l.headD 0) + wt T l
theorem Bnd.zero {P0 : Nat → Int} : Bnd T n P0 P0 0 := fun l hl _ hk => by
  match l, hl, hk with
  | [a], _, _ => simp [wt]
theorem Bnd.step {P0 P P' : Nat → Int} {i : Nat} (b : Bnd T n P0 P i) (hle : ∀ t, t < n → P' t ≤ P t) (hs : ∀ s t, s < n → t < n → P' t ≤ P s + T s t) : Bnd T n P0 P' (i + 1) := fun l hl hx hk => by
  obtain ⟨p, y, rfl⟩ := snoc_of hl
  have hy : y < n := hx y (by simp)
  rw [last_app]
  by_cases hp : p = []
  · subst hp
    have := b [y] (by simp) (by simpa using hy) (by simp)
    have h2 := hle y hy
    simp [wt] at this ⊢
    omega
  · have hpx : ∀ x ∈ p, x < n := fun x hx' => hx x (by simp [hx'])
    have hz : p.getLastD 0 < n := by
      obtain ⟨q, z, rfl⟩ := snoc_of hp
      rw [last_app]
      exact hpx z (by simp)
    rw [head_app hp, wt_snoc' hp]
    have h1 := b p hp hpx (by simp at hk; omega)
    have h2 := hs _ _ hz hy
    omega
theorem Bnd.full {P0 P P' : Nat → Int} {i : Nat} {R : Nat → List Nat} (b : Bnd T n P0 P i) (hi : n ≤ i + 1) (h : NoNeg T n n) (f : Fit T n P0 P' R) : ∀ t, t < n → P t ≤ P' t := fun t ht => by
  obtain ⟨l', a1, a2, a3, a4, a5, a6⟩ := shorten h _ (R t) (Nat.le_refl _) (f.ne t ht) (f.lt t ht)
  have := b l' a1 a2 (by omega)
  rw [a4, a5, f.la t ht] at this
  rw [f.eq t ht]
  omega
end
end TW

-- TWSettled
namespace TW
open PySem PySem.Spec PyProof.Rows L2
theorem wrow_put {n b : Nat} {f : Nat → List Nat} {l : List Nat} (hb : b < n) : nSet (.int b) (lD l) (wrow n f) = some (wrow n (setF f b l)) := by
  unfold wrow
  show (ixD _ _).map _ = _
  rw [row_ixD hb]
  show some (D.lst _) = some (D.lst _)
  rw [map_set]
  congr 3
  funext s
  unfold setF
  by_cases h : s = b <;> simp [h]
theorem row_putF {n b : Nat} {f : Nat → Int} {z : Int} (hb : b < n) : nSet (.int b) (.int z) (rowD n f) = some (rowD n (setF f b z)) := row_put hb
theorem lD_snoc {l : List Nat} {b : Nat} (h : l.length < 1000) : gAdd (lD l) (.lst [.int b]) = some (lD (l ++ [b])) := by
  have := lD_add (l := l) (p := False) (b := b) h
  simpa using this
theorem list_wrow {n : Nat} {f : Nat → List Nat} : gList [wrow n f] = some (wrow n f) := id rfl
def setBody : Rho → Out := sIf (mT (m2 gLt (m2 gAdd (m2 gIx (mVar 1) (mVar 4)) (mArgs m_turn (mA1 (mVar 0) (mA1 (mVar 4) (mA1 (mVar 5) (mA0)))))) (m2 gIx (mVar 1) (mVar 5)))) (sSeq (sPut 1 (pNil) (mVar 5) (m2 gAdd (m2 gIx (mVar 1) (mVar 4)) (mArgs m_turn (mA1 (mVar 0) (mA1 (mVar 4) (mA1 (mVar 5) (mA0))))))) (sSeq (sPut 2 (pNil) (mVar 5) (m2 gAdd (m2 gIx (mVar 2) (mVar 4)) (mL gLst (mA1 (mVar 5) (mA0))))) (sSet 3 (mC (.bl true))))) (sNil)
structure Pass (T : Nat → Nat → Int) (n : Nat) (P0 Q P : Nat → Int) (R : Nat → List Nat) (f : Bool) : Prop where
  fit : Fit T n P0 P R
  le : ∀ u, u < n → P u ≤ Q u
  up : f = true → ∃ u, u < n ∧ P u < Q u
  same : f = false → ∀ u, u < n → P u = Q u
theorem body_ok {n : Nat} {G : Nat → Nat → Int} {P0 Q P : Nat → Int} {R : Nat → List Nat} {f : Bool} {s t : Nat} (hn : n < 900) (hN : NoNeg (Tn G) n n) (h : Pass (Tn G) n P0 Q P R f) (hs : s < n) (ht : t < n) :
    ∃ P' R' f', setBody [some (gridD n G), some (rowD n P), some (wrow n R), some (.bl f), some (.int s), some (.int t)] = .nx [some (gridD n G), some (rowD n P'), some (wrow n R'), some (.bl f'), some (.int s), some (.int t)] ∧ Pass (Tn G) n P0 Q P' R' f' ∧ (∀ u, u < n → P' u ≤ P u) ∧ P' t ≤ Q s + Tn G s t := by
  have le := h.le s hs
  rw [setBody]
  by_cases hc : P s + Tn G s t < P t
  · have hlen := nodup_le (h.fit.nd s hs) (h.fit.lt s hs)
    have a := lD_snoc (l := R s) (b := t) (by omega)
    have b := wrow_put (f := R) (l := R s ++ [t]) ht
    have c := row_putF (f := P) (z := P s + Tn G s t) ht
    refine ⟨setF P t (P s + Tn G s t), setF R t (R s ++ [t]), true, ?_, ⟨h.fit.relax hs ht hc (Tn0 t) hN, fun u hu => ?_, fun _ => ⟨t, ht, ?_⟩, fun z => by cases z⟩, fun u hu => ?_, ?_⟩
    · simp [row_ix hs, row_ix ht, turn_T hs ht, hc, c, wrow_ix hs, one_l, a, b]
    · have := h.le u hu
      by_cases e : u = t
      · subst e; rw [setF_self]; omega
      · rw [setF_ne e]; exact this
    · have := h.le t ht
      rw [setF_self]; omega
    · by_cases e : u = t
      · subst e; rw [setF_self]; omega
      · rw [setF_ne e]; exact Int.le_refl _
    · rw [setF_self]; omega
  · refine ⟨P, R, f, ?_, h, fun u _ => Int.le_refl _, by omega⟩
    simp [row_ix hs, row_ix ht, turn_T hs ht, hc]
theorem pass_ok {n : Nat} {G : Nat → Nat → Int} {P0 Q : Nat → Int} {R : Nat → List Nat} {x4 x5 : Option D} (hn : n < 900) (hN : NoNeg (Tn G) n n) (h : Fit (Tn G) n P0 Q R) :
    ∃ P' R' f' y4 y5, sFor (tgN 4) (iR1 (mL gLen (mA1 (mVar 0) (mA0)))) (sFor (tgN 5) (iR1 (mL gLen (mA1 (mVar 0) (mA0)))) setBody) [some (gridD n G), some (rowD n Q), some (wrow n R), some (.bl false), x4, x5] = .nx [some (gridD n G), some (rowD n P'), some (wrow n R'), some (.bl f'), y4, y5] ∧ Pass (Tn G) n P0 Q P' R' f' ∧ ∀ s t, s < n → t < n → P' t ≤ Q s + Tn G s t := by
  obtain ⟨ρ', e, P', R', f', y4, y5, hp, hq, rfl⟩ := for_r (j := 4) (mi := mL gLen (mA1 (mVar 0) mA0)) (b := sFor (tgN 5) (iR1 (mL gLen (mA1 (mVar 0) (mA0)))) setBody) (ρ := [some (gridD n G), some (rowD n Q), some (wrow n R), some (.bl false), x4, x5])
    (fun k ρ => ∃ P' R' f' y4 y5, Pass (Tn G) n P0 Q P' R' f' ∧ (∀ s t, s < k → t < n → P' t ≤ Q s + Tn G s t) ∧ ρ = [some (gridD n G), some (rowD n P'), some (wrow n R'), some (.bl f'), y4, y5]) n (by simp [grid_len]) (by omega)
    ⟨Q, R, false, _, _, ⟨h, fun _ _ => Int.le_refl _, fun z => (by cases z), fun _ _ _ => rfl⟩, fun s t hs => by omega, rfl⟩ (by
      rintro s ρ hs ⟨P, R, f, y4, y5, hp, hq, rfl⟩
      obtain ⟨ρ', e, P', R', f', y5, hp', hle, hq', hq2, rfl⟩ := for_r (j := 5) (mi := mL gLen (mA1 (mVar 0) mA0)) (b := setBody) (ρ := [some (gridD n G), some (rowD n P), some (wrow n R), some (.bl f), some (.int s), y5])
        (fun k ρ => ∃ P' R' f' y5, Pass (Tn G) n P0 Q P' R' f' ∧ (∀ u, u < n → P' u ≤ P u) ∧ (∀ s t, s < s → t < n → P' t ≤ Q s + Tn G s t) ∧ (∀ t, t < k → P' t ≤ Q s + Tn G s t) ∧ ρ = [some (gridD n G), some (rowD n P'), some (wrow n R'), some (.bl f'), some (.int s), y5]) n (by simp [grid_len]) (by omega)
        ⟨P, R, f, _, hp, fun _ _ => Int.le_refl _, fun s t h => by omega, fun t h => by omega, rfl⟩ (by
          rintro t ρ ht ⟨P1, R1, f1, y5, hp1, hle1, _, hq1, rfl⟩
          obtain ⟨P2, R2, f2, e2, hp2, hle2, hq2⟩ := body_ok hn hN hp1 hs ht
          refine ⟨_, e2, P2, R2, f2, _, hp2, fun u hu => Int.le_trans (hle2 u hu) (hle1 u hu), fun s t h => by omega, fun u hu => ?_, rfl⟩
          by_cases q : u = t
          · subst q; exact hq2
          · exact Int.le_trans (hle2 u (by omega)) (hq1 u (by omega)))
      refine ⟨_, e, P', R', f', _, _, hp', fun s' t hs' ht => ?_, rfl⟩
      by_cases q : s' = s
      · subst q; exact hq2 t ht
      · exact Int.le_trans (hle t ht) (hq s' t (by omega) ht))
  exact ⟨P', R', f', y4, y5, e, hp, fun s t hs ht => hq s t hs ht⟩
def setPass : Rho → Out := sSeq (sSet 3 (mC (.bl false))) (sFor (tgN 4) (iR1 (mL gLen (mA1 (mVar 0) (mA0)))) (sFor (tgN 5) (iR1 (mL gLen (mA1 (mVar 0) (mA0)))) setBody))
theorem while_ok {n : Nat} {G : Nat → Nat → Int} {P0 : Nat → Int} (hn : n < 900) (hN : NoNeg (Tn G) n n) : ∀ (d i : Nat) (fuel : Nat) (Q : Nat → Int) (R : Nat → List Nat) (x4 x5 : Option D), n = i + d + 1 → d + 2 ≤ fuel → Fit (Tn G) n P0 Q R → Bnd (Tn G) n P0 Q i →
    ∃ P' R' y4 y5, whileF (mT (mVar 3)) setPass fuel [some (gridD n G), some (rowD n Q), some (wrow n R), some (.bl true), x4, x5] = .nx [some (gridD n G), some (rowD n P'), some (wrow n R'), some (.bl false), y4, y5] ∧ Fit (Tn G) n P0 P' R' ∧ ∀ s t, s < n → t < n → P' t ≤ P' s + Tn G s t := by
  intro d
  induction d with
  | zero =>
    intro i fuel Q R x4 x5 hi hf fit bnd
    obtain ⟨fuel, rfl⟩ : ∃ k, fuel = k + 2 := ⟨fuel - 2, by omega⟩
    obtain ⟨P', R', f', y4, y5, e, hp, hq⟩ := pass_ok (x4 := x4) (x5 := x5) hn hN fit
    have ff : f' = false := by
      cases f' with
      | false => rfl
      | true =>
        obtain ⟨u, hu, hlt⟩ := hp.up rfl
        have := bnd.full (by omega) hN hp.fit u hu
        omega
    subst ff
    refine ⟨P', R', y4, y5, ?_, hp.fit, fun s t hs ht => by rw [hp.same rfl s hs]; exact hq s t hs ht⟩
    have e1 : setPass [some (gridD n G), some (rowD n Q), some (wrow n R), some (.bl true), x4, x5] = .nx [some (gridD n G), some (rowD n P'), some (wrow n R'), some (.bl false), y4, y5] := by
      rw [setPass, seq_set (d := .bl false) (by simp)]
      exact e
    simp [whileF, e1]
  | succ d ih =>
    intro i fuel Q R x4 x5 hi hf fit bnd
    obtain ⟨fuel, rfl⟩ : ∃ k, fuel = k + 2 := ⟨fuel - 2, by omega⟩
    obtain ⟨P', R', f', y4, y5, e, hp, hq⟩ := pass_ok (x4 := x4) (x5 := x5) hn hN fit
    have e1 : setPass [some (gridD n G), some (rowD n Q), some (wrow n R), some (.bl true), x4, x5] = .nx [some (gridD n G), some (rowD n P'), some (wrow n R'), some (.bl f'), y4, y5] := by
      rw [setPass, seq_set (d := .bl false) (by simp)]
      exact e
    cases f' with
    | false =>
      refine ⟨P', R', y4, y5, ?_, hp.fit, fun s t hs ht => by rw [hp.same rfl s hs]; exact hq s t hs ht⟩
      simp [whileF, e1]
    | true =>
      obtain ⟨P2, R2, z4, z5, e2, h2⟩ := ih (i + 1) (fuel + 1) P' R' y4 y5 (by omega) (by omega) hp.fit (bnd.step hp.le hq)
      refine ⟨P2, R2, z4, z5, ?_, h2⟩
      rw [whileF]
      simp [e1]
      exact e2
theorem settled_ok {n : Nat} {G : Nat → Nat → Int} {P0 : Nat → Int} (h0 : 0 < n) (hn : n < 98) (hN : NoNeg (Tn G) n n) :
    ∃ P R, m_settled [gridD n G, rowD n P0, wrow n fun t => [t]] = .ok (.tup [rowD n P, wrow n R]) ∧ Fit (Tn G) n P0 P R ∧ ∀ s t, s < n → t < n → P t ≤ P s + Tn G s t := by
  obtain ⟨P, R, y4, y5, e, fit, hon⟩ := while_ok (G := G) (P0 := P0) (by omega) hN (n - 1) 0 100 P0 (fun t => [t]) none none (by omega) (by omega) Fit.start Bnd.zero
  refine ⟨P, R, ?_, fit, hon⟩
  rw [m_settled]
  refine call_rt ?_
  rw [b_settled]
  rw [seq_set (d := rowD n P0) (by simp [list_row]), seq_set (d := wrow n fun t => [t]) (by simp [list_wrow]), seq_set (d := .bl true) (by simp), sSeq_eq]
  simp only [List.map_cons, List.map_nil, List.length_cons, List.length_nil, List.cons_append, List.nil_append, List.replicate, Nat.zero_add, Nat.reduceAdd, Nat.reduceSub, List.set_cons_zero, List.set_cons_succ]
  rw [setPass, setBody] at e
  rw [e]
  simp [tup2]
theorem greatest_ok {n : Nat} {G : Nat → Nat → Int} (h0 : 0 < n) (hn : n < 98) (hN : NoNeg (Tn G) n n) (hr : m_ring [gridD n G] = .ok .non) :
    ∃ P R, m_greatest [gridD n G] = .ok (.tup [rowD n P, wrow n R]) ∧ Fit (Tn G) n (fun t => G t t) P R ∧ ∀ s t, s < n → t < n → P t ≤ P s + Tn G s t := by
  obtain ⟨P, R, e, h⟩ := settled_ok (G := G) (P0 := fun t => G t t) h0 hn hN
  refine ⟨P, R, ?_, h⟩
  rw [m_greatest]
  refine call_rt ?_
  rw [b_greatest]
  rw [sSeq_eq]
  simp only [List.map_cons, List.map_nil, List.length_cons, List.length_nil, List.cons_append, List.nil_append, List.replicate, Nat.zero_add, Nat.reduceAdd, Nat.reduceSub, List.set_cons_zero, List.set_cons_succ]
  rw [show sIf (mT (m1 (fun d => gNotN d .non) (mArgs m_ring (mA1 (mVar 0) (mA0))))) (sDead) (sNil) [some (gridD n G), none, none] = .nx [some (gridD n G), none, none] by simp [hr, show gNotN .non .non = some (.bl false) from id rfl], Out.nx_bind]
  rw [seq_set (d := .int n) (by simp [grid_len])]
  simp only [List.set_cons_zero, List.set_cons_succ]
  rw [sRet_eq, mArgs_eq, mA1_eq, mVar_eq]
  simp
  rw [lc_r (j := 2) n (fun t => .int (G t t)) (by simp) (by omega) (fun t ht => by simp [wipeR, grid_ix ht, row_ix ht])]
  simp
  rw [lc_r (j := 2) n (fun t => lD [t]) (by simp) (by omega) (fun t ht => by simp [wipeR, one_l, lD])]
  simp
  rw [show D.lst ((List.range n).map fun t => .int (G t t)) = rowD n fun t => G t t from rfl, show D.lst ((List.range n).map fun t => lD [t]) = wrow n fun t => [t] from rfl, e]
  simp
end TW

-- TWRev
namespace TW
def Rv (T : Nat → Nat → Int) (a b : Nat) : Int := T b a
theorem wt_rev {T : Nat → Nat → Int} : ∀ l : List Nat, wt (Rv T) l.reverse = wt T l
  | [] => rfl
  | [a] => rfl
  | a :: b :: l => by
    have ih := wt_rev (T := T) (b :: l)
    rw [wt_cons, List.reverse_cons, List.reverse_cons, List.append_assoc]
    rw [show [b] ++ [a] = [b, a] from rfl, wt_snoc]
    rw [List.reverse_cons] at ih
    rw [ih]
    unfold Rv
    omega
theorem head_rev {l : List Nat} : l.reverse.headD 0 = l.getLastD 0 := by
  rw [List.headD_eq_head?_getD, List.head?_reverse, List.getLastD_eq_getLast?]
theorem last_rev {l : List Nat} : l.reverse.getLastD 0 = l.headD 0 := by
  have := head_rev (l := l.reverse)
  rw [List.reverse_reverse] at this
  exact this.symm
theorem cw_rev {T : Nat → Nat → Int} (l : List Nat) : cw (Rv T) l.reverse = cw T l := by
  unfold cw
  rw [wt_rev, head_rev, last_rev]
  rfl
theorem NoNeg.rev {T : Nat → Nat → Int} {n m : Nat} (h : NoNeg T n m) : NoNeg (Rv T) n m := fun l hl hx hm => by
  have := h l.reverse (by simpa using hl) (fun x hx' => hx x (by simpa using hx')) (by simpa using hm)
  rw [← cw_rev, List.reverse_reverse] at this
  exact this
end TW

-- TWLeast
namespace TW
open PySem PySem.Spec PyProof.Rows L2
def ng (Q : Nat → Int) (u : Nat) : Int := -Q u
def rvL (R : Nat → List Nat) (u : Nat) : List Nat := (R u).reverse
theorem lD_cons {l : List Nat} {b : Nat} (h : l.length < 1000) : gAdd (.lst [.int b]) (lD l) = some (lD (b :: l)) := by
  unfold lD
  rw [gAdd_lst (by rw [List.length_map]; exact b24' (by simp; omega))]
  rfl
def lstBody : Rho → Out := sIf (mT (m2 gGt (m2 gSub (m2 gIx (mVar 1) (mVar 5)) (mArgs m_turn (mA1 (mVar 0) (mA1 (mVar 4) (mA1 (mVar 5) (mA0)))))) (m2 gIx (mVar 1) (mVar 4)))) (sSeq (sPut 1 (pNil) (mVar 4) (m2 gSub (m2 gIx (mVar 1) (mVar 5)) (mArgs m_turn (mA1 (mVar 0) (mA1 (mVar 4) (mA1 (mVar 5) (mA0))))))) (sSeq (sPut 2 (pNil) (mVar 4) (m2 gAdd (mL gLst (mA1 (mVar 4) (mA0))) (m2 gIx (mVar 2) (mVar 5)))) (sSet 3 (mC (.bl true))))) (sNil)
theorem lbody_ok {n : Nat} {G : Nat → Nat → Int} {P0 Q P : Nat → Int} {R : Nat → List Nat} {f : Bool} {s t : Nat} (hn : n < 900) (hN : NoNeg (Rv (Tn G)) n n) (h : Pass (Rv (Tn G)) n P0 Q P R f) (hs : s < n) (ht : t < n) :
    ∃ P' R' f', lstBody [some (gridD n G), some (rowD n (ng P)), some (wrow n (rvL R)), some (.bl f), some (.int t), some (.int s)] = .nx [some (gridD n G), some (rowD n (ng P')), some (wrow n (rvL R')), some (.bl f'), some (.int t), some (.int s)] ∧ Pass (Rv (Tn G)) n P0 Q P' R' f' ∧ (∀ u, u < n → P' u ≤ P u) ∧ P' t ≤ Q s + Rv (Tn G) s t := by
  have le := h.le s hs
  have tt : Rv (Tn G) s t = Tn G t s := rfl
  rw [lstBody]
  by_cases hc : P s + Rv (Tn G) s t < P t
  · have hlen := nodup_le (h.fit.nd s hs) (h.fit.lt s hs)
    have a := lD_cons (l := rvL R s) (b := t) (by unfold rvL; rw [List.length_reverse]; omega)
    have b : nSet (.int t) (lD (t :: rvL R s)) (wrow n (rvL R)) = some (wrow n (rvL (setF R t (R s ++ [t])))) := by
      rw [wrow_put ht]
      refine congrArg (fun f => some (wrow n f)) ?_
      funext u
      by_cases e : u = t
      · subst e; rw [setF_self]; unfold rvL; rw [setF_self]; simp
      · rw [setF_ne e]; unfold rvL; rw [setF_ne e]
    have c : nSet (.int t) (.int (ng P s - Tn G t s)) (rowD n (ng P)) = some (rowD n (ng (setF P t (P s + Rv (Tn G) s t)))) := by
      rw [row_putF ht]
      refine congrArg some (rowD_congr fun u _ => ?_)
      by_cases e : u = t
      · subst e; rw [setF_self]; unfold ng; rw [setF_self, tt]; omega
      · rw [setF_ne e]; unfold ng; rw [setF_ne e]
    have hc' : ng P t < ng P s - Tn G t s := by unfold ng; omega
    refine ⟨setF P t (P s + Rv (Tn G) s t), setF R t (R s ++ [t]), true, ?_, ⟨h.fit.relax hs ht hc (Tn0 t) hN, fun u hu => ?_, fun _ => ⟨t, ht, ?_⟩, fun z => by cases z⟩, fun u hu => ?_, ?_⟩
    · simp [row_ix hs, row_ix ht, turn_T ht hs, hc', c, wrow_ix hs, one_l, a, b]
    · have := h.le u hu
      by_cases e : u = t
      · subst e; rw [setF_self]; omega
      · rw [setF_ne e]; exact this
    · have := h.le t ht
      rw [setF_self]; omega
    · by_cases e : u = t
      · subst e; rw [setF_self]; omega
      · rw [setF_ne e]; exact Int.le_refl _
    · rw [setF_self]; omega
  · have hc' : ¬ ng P t < ng P s - Tn G t s := by unfold ng; omega
    refine ⟨P, R, f, ?_, h, fun u _ => Int.le_refl _, by omega⟩
    simp [row_ix hs, row_ix ht, turn_T ht hs, hc']
theorem lpass_ok {n : Nat} {G : Nat → Nat → Int} {P0 Q : Nat → Int} {R : Nat → List Nat} {x4 x5 : Option D} (hn : n < 900) (hN : NoNeg (Rv (Tn G)) n n) (h : Fit (Rv (Tn G)) n P0 Q R) :
    ∃ P' R' f' y4 y5, sFor (tgN 4) (iR1 (mL gLen (mA1 (mVar 0) (mA0)))) (sFor (tgN 5) (iR1 (mL gLen (mA1 (mVar 0) (mA0)))) lstBody) [some (gridD n G), some (rowD n (ng Q)), some (wrow n (rvL R)), some (.bl false), x4, x5] = .nx [some (gridD n G), some (rowD n (ng P')), some (wrow n (rvL R')), some (.bl f'), y4, y5] ∧ Pass (Rv (Tn G)) n P0 Q P' R' f' ∧ ∀ s t, s < n → t < n → P' t ≤ Q s + Rv (Tn G) s t := by
  obtain ⟨ρ', e, P', R', f', y4, y5, hp, hq, rfl⟩ := for_r (j := 4) (mi := mL gLen (mA1 (mVar 0) mA0)) (b := sFor (tgN 5) (iR1 (mL gLen (mA1 (mVar 0) (mA0)))) lstBody) (ρ := [some (gridD n G), some (rowD n (ng Q)), some (wrow n (rvL R)), some (.bl false), x4, x5])
    (fun k ρ => ∃ P' R' f' y4 y5, Pass (Rv (Tn G)) n P0 Q P' R' f' ∧ (∀ s t, s < n → t < k → P' t ≤ Q s + Rv (Tn G) s t) ∧ ρ = [some (gridD n G), some (rowD n (ng P')), some (wrow n (rvL R')), some (.bl f'), y4, y5]) n (by simp [grid_len]) (by omega)
    ⟨Q, R, false, _, _, ⟨h, fun _ _ => Int.le_refl _, fun z => (by cases z), fun _ _ _ => rfl⟩, fun s t hs ht => by omega, rfl⟩ (by
      rintro t ρ ht ⟨P, R, f, y4, y5, hp, hq, rfl⟩
      obtain ⟨ρ', e, P', R', f', y5, hp', hle, hq2, rfl⟩ := for_r (j := 5) (mi := mL gLen (mA1 (mVar 0) mA0)) (b := lstBody) (ρ := [some (gridD n G), some (rowD n (ng P)), some (wrow n (rvL R)), some (.bl f), some (.int t), y5])
        (fun k ρ => ∃ P' R' f' y5, Pass (Rv (Tn G)) n P0 Q P' R' f' ∧ (∀ u, u < n → P' u ≤ P u) ∧ (∀ s, s < k → P' t ≤ Q s + Rv (Tn G) s t) ∧ ρ = [some (gridD n G), some (rowD n (ng P')), some (wrow n (rvL R')), some (.bl f'), some (.int t), y5]) n (by simp [grid_len]) (by omega)
        ⟨P, R, f, _, hp, fun _ _ => Int.le_refl _, fun s h => by omega, rfl⟩ (by
          rintro s ρ hs ⟨P1, R1, f1, y5, hp1, hle1, hq1, rfl⟩
          obtain ⟨P2, R2, f2, e2, hp2, hle2, hq2⟩ := lbody_ok hn hN hp1 hs ht
          refine ⟨_, e2, P2, R2, f2, _, hp2, fun u hu => Int.le_trans (hle2 u hu) (hle1 u hu), fun u hu => ?_, rfl⟩
          by_cases q : u = s
          · subst q; exact hq2
          · exact Int.le_trans (hle2 t ht) (hq1 u (by omega)))
      refine ⟨_, e, P', R', f', _, _, hp', fun s t' hs ht' => ?_, rfl⟩
      by_cases q : t' = t
      · subst q; exact hq2 s hs
      · exact Int.le_trans (hle t' (by omega)) (hq s t' hs (by omega)))
  exact ⟨P', R', f', y4, y5, e, hp, fun s t hs ht => hq s t hs ht⟩
def lstPass : Rho → Out := sSeq (sSet 3 (mC (.bl false))) (sFor (tgN 4) (iR1 (mL gLen (mA1 (mVar 0) (mA0)))) (sFor (tgN 5) (iR1 (mL gLen (mA1 (mVar 0) (mA0)))) lstBody))
theorem lwhile_ok {n : Nat} {G : Nat → Nat → Int} {P0 : Nat → Int} (hn : n < 900) (hN : NoNeg (Rv (Tn G)) n n) : ∀ (d i : Nat) (fuel : Nat) (Q : Nat → Int) (R : Nat → List Nat) (x4 x5 : Option D), n = i + d + 1 → d + 2 ≤ fuel → Fit (Rv (Tn G)) n P0 Q R → Bnd (Rv (Tn G)) n P0 Q i →
    ∃ P' R' y4 y5, whileF (mT (mVar 3)) lstPass fuel [some (gridD n G), some (rowD n (ng Q)), some (wrow n (rvL R)), some (.bl true), x4, x5] = .nx [some (gridD n G), some (rowD n (ng P')), some (wrow n (rvL R')), some (.bl false), y4, y5] ∧ Fit (Rv (Tn G)) n P0 P' R' ∧ ∀ s t, s < n → t < n → P' t ≤ P' s + Rv (Tn G) s t := by
  intro d
  induction d with
  | zero =>
    intro i fuel Q R x4 x5 hi hf fit bnd
    obtain ⟨fuel, rfl⟩ : ∃ k, fuel = k + 2 := ⟨fuel - 2, by omega⟩
    obtain ⟨P', R', f', y4, y5, e, hp, hq⟩ := lpass_ok (x4 := x4) (x5 := x5) hn hN fit
    have ff : f' = false := by
      cases f' with
      | false => rfl
      | true =>
        obtain ⟨u, hu, hlt⟩ := hp.up rfl
        have := bnd.full (by omega) hN hp.fit u hu
        omega
    subst ff
    refine ⟨P', R', y4, y5, ?_, hp.fit, fun s t hs ht => by rw [hp.same rfl s hs]; exact hq s t hs ht⟩
    have e1 : lstPass [some (gridD n G), some (rowD n (ng Q)), some (wrow n (rvL R)), some (.bl true), x4, x5] = .nx [some (gridD n G), some (rowD n (ng P')), some (wrow n (rvL R')), some (.bl false), y4, y5] := by
      rw [lstPass, seq_set (d := .bl false) (by simp)]
      exact e
    simp [whileF, e1]
  | succ d ih =>
    intro i fuel Q R x4 x5 hi hf fit bnd
    obtain ⟨fuel, rfl⟩ : ∃ k, fuel = k + 2 := ⟨fuel - 2, by omega⟩
    obtain ⟨P', R', f', y4, y5, e, hp, hq⟩ := lpass_ok (x4 := x4) (x5 := x5) hn hN fit
    have e1 : lstPass [some (gridD n G), some (rowD n (ng Q)), some (wrow n (rvL R)), some (.bl true), x4, x5] = .nx [some (gridD n G), some (rowD n (ng P')), some (wrow n (rvL R')), some (.bl f'), y4, y5] := by
      rw [lstPass, seq_set (d := .bl false) (by simp)]
      exact e
    cases f' with
    | false =>
      refine ⟨P', R', y4, y5, ?_, hp.fit, fun s t hs ht => by rw [hp.same rfl s hs]; exact hq s t hs ht⟩
      simp [whileF, e1]
    | true =>
      obtain ⟨P2, R2, z4, z5, e2, h2⟩ := ih (i + 1) (fuel + 1) P' R' y4 y5 (by omega) (by omega) hp.fit (bnd.step hp.le hq)
      refine ⟨P2, R2, z4, z5, ?_, h2⟩
      rw [whileF]
      simp [e1]
      exact e2
theorem least_ok {n : Nat} {G : Nat → Nat → Int} (h0 : 0 < n) (hn : n < 98) (hN : NoNeg (Tn G) n n) (hr : m_ring [gridD n G] = .ok .non) :
    ∃ P R, m_least [gridD n G] = .ok (.tup [rowD n (ng P), wrow n (rvL R)]) ∧ Fit (Rv (Tn G)) n (fun _ => 0) P R ∧ ∀ s t, s < n → t < n → P t ≤ P s + Rv (Tn G) s t := by
  obtain ⟨P, R, y4, y5, e, fit, hon⟩ := lwhile_ok (G := G) (P0 := fun _ => 0) (by omega) hN.rev (n - 1) 0 100 (fun _ => 0) (fun t => [t]) none none (by omega) (by omega) Fit.start Bnd.zero
  refine ⟨P, R, ?_, fit, hon⟩
  rw [m_least]
  refine call_rt ?_
  rw [b_least]
  rw [sSeq_eq]
  simp only [List.map_cons, List.map_nil, List.length_cons, List.length_nil, List.cons_append, List.nil_append, List.replicate, Nat.zero_add, Nat.reduceAdd, Nat.reduceSub, List.set_cons_zero, List.set_cons_succ]
  rw [show sIf (mT (m1 (fun d => gNotN d .non) (mArgs m_ring (mA1 (mVar 0) (mA0))))) (sDead) (sNil) [some (gridD n G), none, none, none, none, none] = .nx [some (gridD n G), none, none, none, none, none] by simp [hr, show gNotN .non .non = some (.bl false) from id rfl], Out.nx_bind]
  have z : D.lst (List.replicate n (D.int 0)) = rowD n (ng fun _ => 0) := by
    unfold rowD ng
    simp [List.map_const']
  have zz : gMul (.lst [.int 0]) (.int n) = some (rowD n (ng fun _ => 0)) := by
    rw [gMul_rep (by rw [List.length_singleton]; omega), ← z]
    simp
  rw [seq_set (d := rowD n (ng fun _ => 0)) (by simp [one_l, grid_len, zz])]
  rw [seq_set (d := wrow n (rvL fun t => [t])) (by
    rw [lc_r (j := 4) n (fun t => lD [t]) (by simp [grid_len]) (by omega) (fun t ht => by simp [wipeR, one_l, lD])]
    rfl)]
  rw [seq_set (d := .bl true) (by simp), sSeq_eq]
  simp only [List.set_cons_zero, List.set_cons_succ]
  rw [lstPass, lstBody] at e
  rw [e]
  simp [tup2]
end TW

-- TWRoom
namespace TW
open PySem PySem.Spec PyProof.Rows L2
theorem tup_2i0 (a b : D) : gIx (.tup [a, b]) (.int 0) = some a := id rfl
theorem tup_2i1 (a b : D) : gIx (.tup [a, b]) (.int 1) = some b := id rfl
theorem room_ok {n : Nat} {G : Nat → Nat → Int} (h0 : 0 < n) (hn : n < 98) :
    (∃ l, m_ring [gridD n G] = .ok (lD l) ∧ IsRing (Tn G) n l ∧ m_room [gridD n G] = .ok (.tup [.str "ring", lD l])) ∨
    (m_ring [gridD n G] = .ok .non ∧ NoNeg (Tn G) n n ∧ ∃ P R P' R', m_greatest [gridD n G] = .ok (.tup [rowD n P, wrow n R]) ∧ Fit (Tn G) n (fun t => G t t) P R ∧ (∀ s t, s < n → t < n → P t ≤ P s + Tn G s t) ∧
      m_least [gridD n G] = .ok (.tup [rowD n (ng P'), wrow n (rvL R')]) ∧ Fit (Rv (Tn G)) n (fun _ => 0) P' R' ∧ (∀ s t, s < n → t < n → P' t ≤ P' s + Rv (Tn G) s t) ∧
      ((∃ t, t < n ∧ P t < 0 ∧ m_room [gridD n G] = .ok (.tup [.str "short", lD (R t)])) ∨ ((∀ t, t < n → 0 ≤ P t) ∧ m_room [gridD n G] = .ok (.tup [.str "room", rowD n (ng P'), rowD n P])))) := by
  rcases ring_ok (n := n) (G := G) (by omega) with ⟨er, hN⟩ | ⟨l, er, hr⟩
  · right
    obtain ⟨P, R, eg, fit, hon⟩ := greatest_ok h0 hn hN er
    obtain ⟨P', R', el, fit', hon'⟩ := least_ok h0 hn hN er
    refine ⟨er, hN, P, R, P', R', eg, fit, hon, el, fit', hon', ?_⟩
    rw [m_room]
    generalize hb : b_room = b
    rw [b_room] at hb
    generalize hc : sIf (mT (m2 gLt _ _)) _ sNil = c at hb
    have key := for_rX (j := 3) (mi := mL gLen (mA1 (mVar 0) mA0)) (b := c) (ρ := [some (gridD n G), some .non, some (.tup [rowD n P, wrow n R]), none])
      (fun k ρ => ∃ x3, (∀ t, t < k → 0 ≤ P t) ∧ ρ = [some (gridD n G), some .non, some (.tup [rowD n P, wrow n R]), x3]) (fun d => ∃ t, t < n ∧ P t < 0 ∧ d = .tup [.str "short", lD (R t)]) n (by simp [grid_len]) (by omega) ⟨_, fun t h => by omega, rfl⟩ (by
        rintro t ρ ht ⟨x3, h, rfl⟩
        subst hc
        by_cases q : P t < 0
        · right
          exact ⟨.tup [.str "short", lD (R t)], by simp [tup_2i0, tup_2i1, row_ix ht, wrow_ix ht, q, tup2], t, ht, q, rfl⟩
        · left
          refine ⟨_, by simp [tup_2i0, row_ix ht, q]; rfl, _, fun u hu => ?_, rfl⟩
          by_cases w : u = t
          · subst w; omega
          · exact h u (by omega))
    have pre : ∀ r : D, (sFor (tgN 3) (iR1 (mL gLen (mA1 (mVar 0) mA0))) c [some (gridD n G), some .non, some (.tup [rowD n P, wrow n R]), none]).bind (sRet (mL gTup (mA1 (mC (.str "room")) (mA1 (m2 gIx (mArgs m_least (mA1 (mVar 0) (mA0))) (mC (.int 0))) (mA1 (m2 gIx (mVar 2) (mC (.int 0))) (mA0)))))) = .rt r → callM 4 b [gridD n G] = .ok r := by
      intro r h
      refine call_rt ?_
      subst hb
      rw [seq_set (d := .non) (by simp [er])]
      rw [sSeq_eq]
      simp only [List.map_cons, List.map_nil, List.length_cons, List.length_nil, List.cons_append, List.nil_append, List.replicate, Nat.zero_add, Nat.reduceAdd, Nat.reduceSub, List.set_cons_zero, List.set_cons_succ]
      rw [sIf_eq]
      simp [show gNotN .non .non = some (.bl false) from id rfl, eg]
      exact h
    rcases key with ⟨ρ', e, x3, h, rfl⟩ | ⟨d, e, t, ht, hp, rfl⟩
    · right
      refine ⟨h, pre _ ?_⟩
      rw [e]
      simp [el, tup_2i0, tup3]
    · left
      refine ⟨t, ht, hp, pre _ ?_⟩
      rw [e]
      rfl
  · left
    refine ⟨l, er, hr, ?_⟩
    rw [m_room]
    refine call_rt ?_
    rw [b_room]
    rw [seq_set (d := lD l) (by simp [er])]
    simp [show gNotN (lD l) .non = some (.bl true) from id rfl, tup2]
theorem head_lt {n : Nat} {l : List Nat} (h : l ≠ []) (hx : ∀ x ∈ l, x < n) : l.headD 0 < n := by
  cases l with
  | nil => exact absurd rfl h
  | cons a l => exact hx a (by simp)
theorem Fit.max {T : Nat → Nat → Int} {n : Nat} {P0 P Q : Nat → Int} {R : Nat → List Nat} (f : Fit T n P0 P R) (hQ : ∀ s t, s < n → t < n → Q t - Q s ≤ T s t) (h0 : ∀ t, t < n → Q t ≤ P0 t) {t : Nat} (ht : t < n) : Q t ≤ P t := by
  have h1 := wt_pot hQ (R t) (f.ne t ht) (f.lt t ht)
  have h2 := h0 _ (head_lt (f.ne t ht) (f.lt t ht))
  rw [f.la t ht] at h1
  rw [f.eq t ht]
  omega
end TW

-- TWGreat
namespace TW
open PySem PySem.Spec PyProof.Rows L2
section
variable {n : Nat} {G : Nat → Nat → Int} {P Q : Nat → Int} {R : Nat → List Nat}
theorem hon_T : Hon n G P ↔ ∀ s t, s < n → t < n → P t ≤ P s + Tn G s t :=
  ⟨fun h s t hs ht => by have := h t s ht hs; unfold Tn; omega, fun h t s ht hs => by have := h s t hs ht; unfold Tn at this; omega⟩
theorem great_max (f : Fit (Tn G) n (fun t => G t t) P R) (h : Hon n G Q) (h0 : ∀ t, t < n → Q t ≤ G t t) {t : Nat} (ht : t < n) : Q t ≤ P t :=
  f.max (fun s t hs ht => by have := h t s ht hs; unfold Tn; omega) h0 ht
theorem least_min (f : Fit (Rv (Tn G)) n (fun _ => 0) P R) (h : Hon n G Q) (h0 : ∀ t, t < n → 0 ≤ Q t) {t : Nat} (ht : t < n) : -P t ≤ Q t := by
  have := f.max (Q := fun t => -Q t) (fun s t hs ht => by have := h s t hs ht; unfold Rv Tn; omega) (fun t ht => by have := h0 t ht; omega) ht
  have : -Q t ≤ P t := this
  omega
end
theorem gEq_str {s t : Str} (hs : PyData.strOk s = true) (ht : PyData.strOk t = true) : gEq (.str s) (.str t) = some (.bl (decide (s = t))) := by
  obtain ⟨b, g, _, q⟩ := gEq_pl (n := 0) (d := .str s) (e := .str t) hs ht
  rw [g]; congr 2
  exact Bool.eq_iff_iff.mpr (q.trans (by simp))
theorem gNe_str {s t : Str} (hs : PyData.strOk s = true) (ht : PyData.strOk t = true) : gNe (.str s) (.str t) = some (.bl (!decide (s = t))) := by
  obtain ⟨b, _, g, q⟩ := gEq_pl (n := 0) (d := .str s) (e := .str t) hs ht
  rw [g]; congr 3
  exact Bool.eq_iff_iff.mpr (q.trans (by simp))
theorem eq_ring_short : gEq (.str "ring") (.str "short") = some (.bl false) := by rw [gEq_str (by decide +kernel) (by decide +kernel)]; exact congrArg (fun b => some (D.bl b)) (by decide +kernel)
theorem eq_room_short : gEq (.str "room") (.str "short") = some (.bl false) := by rw [gEq_str (by decide +kernel) (by decide +kernel)]; exact congrArg (fun b => some (D.bl b)) (by decide +kernel)
theorem eq_room_ring : gEq (.str "room") (.str "ring") = some (.bl false) := by rw [gEq_str (by decide +kernel) (by decide +kernel)]; exact congrArg (fun b => some (D.bl b)) (by decide +kernel)
theorem eq_short_ring : gEq (.str "short") (.str "ring") = some (.bl false) := by rw [gEq_str (by decide +kernel) (by decide +kernel)]; exact congrArg (fun b => some (D.bl b)) (by decide +kernel)
theorem eq_str_same {s : Str} (hs : PyData.strOk s = true) : gEq (.str s) (.str s) = some (.bl true) := by rw [gEq_str hs hs]; simp
theorem ne_str_same {s : Str} (hs : PyData.strOk s = true) : gNe (.str s) (.str s) = some (.bl false) := by rw [gNe_str hs hs]; simp
theorem ne_room_short : gNe (.str "room") (.str "short") = some (.bl true) := by rw [gNe_str (by decide +kernel) (by decide +kernel)]; exact congrArg (fun b => some (D.bl b)) (by decide +kernel)
end TW

-- TWNames
namespace TW
open PySem PySem.Spec PyProof.Rows L2
def txt (l : List Nat) : Str := ⟨l.toArray⟩
theorem abc_eq : ("abcdefghijklmnopqrstuvwxyz" : Str) = txt ((List.range 26).map fun k => 97 + k) := by decide +kernel
structure IsName (s : Str) : Prop where
  lo : 1 ≤ s.length
  hi : s.length ≤ 8
  abc : ∀ c ∈ s.cps.toList, 97 ≤ c ∧ c < 123
theorem IsName.ok {s : Str} (h : IsName s) : PyData.strOk s = true := by
  unfold PyData.strOk
  rw [Array.all_eq_true']
  intro c hc
  have := h.abc c (Array.mem_toList_iff.mpr hc)
  simp; omega
theorem gLen_str {s : Str} (h : s.length ≤ 1000) : gLen [.str s] = some (.int s.length) := if_pos (Nat.le_trans h (by decide))
theorem nat250 {z : Int} (h : z.natAbs < 1000) : z.natAbs < 2 ^ 250 := Nat.lt_trans h (by decide)
theorem isi_str {s : Str} : gIsi "str" (.str s) = some (.bl true) := by show (kitB "str" "str").map D.bl = _; rw [show kitB "str" "str" = some true by decide +kernel]; rfl
theorem iLoc_str {s : Str} : iLoc (.str s) = some (s.cps.toList.map fun c => .str ⟨#[c]⟩) := id rfl
theorem nin_abc {c : Nat} (h : 97 ≤ c ∧ c < 123) : gNin (.str ⟨#[c]⟩) (.str "abcdefghijklmnopqrstuvwxyz") = some (.bl false) := by
  have : decide (c ∈ ("abcdefghijklmnopqrstuvwxyz" : Str).cps.toList) = true := by
    rw [abc_eq]
    refine decide_eq_true ?_
    show c ∈ ((List.range 26).map fun k => 97 + k).toArray.toList
    simp
    exact ⟨c - 97, by omega, by omega⟩
  show (some (D.bl (decide (c ∈ ("abcdefghijklmnopqrstuvwxyz" : Str).cps.toList)))).bind _ = _
  rw [this]; rfl
theorem is_name_ok {s : Str} (h : IsName s) : m_is_name [.str s] = .ok (.bl true) := by
  rw [m_is_name]
  refine call_rt ?_
  rw [b_is_name]
  have h1 := h.lo
  have h2 := h.hi
  simp only [List.map_cons, List.map_nil, List.length_cons, List.length_nil, List.cons_append, List.nil_append, List.replicate, Nat.zero_add, Nat.reduceAdd, Nat.reduceSub, List.set_cons_zero, List.set_cons_succ]
  rw [sSeq_eq, show sIf (tOrM (tNotM (mT (m1 (gIsi "str") (mVar 0)))) (tNotM (mT (mChain gLe gLe (mC (.int 1)) (mL gLen (mA1 (mVar 0) (mA0))) (mC (.int 8)))))) (sRet (mC (.bl false))) (sNil) [some (.str s), none] = .nx [some (.str s), none] from by
    simp [isi_str, gLen_str (show s.length ≤ 1000 by omega), show (1 : Int) ≤ s.length by omega]; omega, Out.nx_bind, sSeq_eq]
  obtain ⟨ρ', e, x1, rfl⟩ := for_lN (j := 1) (m := iAny (mVar 0)) (b := sIf (mT (m2 gNin (mVar 1) (mC (.str "abcdefghijklmnopqrstuvwxyz")))) (sRet (mC (.bl false))) (sNil)) (ρ := [some (.str s), none])
    (fun k ρ => ∃ x1, ρ = [some (.str s), x1]) (s.cps.toList.map fun c => .str ⟨#[c]⟩) (by simp [iLoc_str]) ⟨_, rfl⟩ (by
      rintro k d ρ hd ⟨x1, rfl⟩
      obtain ⟨c, hc, rfl⟩ := List.mem_map.mp (List.mem_of_getElem? hd)
      exact ⟨_, by simp [nin_abc (h.abc c hc)]; rfl, _, rfl⟩)
  rw [e]
  simp
def namesD (ss : List Str) : D := .lst (ss.map D.str)
theorem foldl_addU : ∀ (l m : List Str), (m ++ l).Nodup → l.foldl addU m = m ++ l
  | [], m, _ => by simp
  | z :: l, m, h => by
    have : addU m z = m ++ [z] := by
      unfold addU
      rw [if_neg]
      intro q
      obtain ⟨y, hy, e⟩ := List.any_eq_true.mp q
      have e := eq_of_beq e
      subst e
      exact (List.nodup_append.mp h).2.2 y hy y List.mem_cons_self rfl
    rw [List.foldl_cons, this, foldl_addU l (m ++ [z]) (by simpa using h)]
    simp
theorem unlike_nodup {l : List Str} (h : l.Nodup) : unlike l = l := by
  have := foldl_addU l [] (by simpa using h)
  simpa [unlike] using this
theorem lenset_names {ss : List Str} (h : ss.Nodup) (hl : ss.length ≤ 4000) : gLenSetT (namesD ss) = some (.int ss.length) := by
  show ((strsOf (ss.map D.str)).bind fun ss => if ss.length ≤ 4000 then some (D.int (unlike ss).length) else none) = _
  rw [strsOf_map]
  show (if ss.length ≤ 4000 then some (D.int (unlike ss).length) else none) = _
  rw [if_pos hl, unlike_nodup h]
theorem len_names {ss : List Str} : gLen [namesD ss] = some (.int ss.length) := by unfold namesD; simp
theorem iLoc_names {ss : List Str} : iLoc (namesD ss) = some (ss.map D.str) := id rfl
structure AreNames (ss : List Str) (top : Nat) : Prop where
  lo : 1 ≤ ss.length
  hi : ss.length ≤ top
  nd : ss.Nodup
  nm : ∀ s ∈ ss, IsName s
theorem are_names_ok {ss : List Str} {top : Nat} (h : AreNames ss top) (ht : top ≤ 4000) : m_are_names [namesD ss, .int top] = .ok (.bl true) := by
  have h1 := h.lo
  have h2 := h.hi
  rw [m_are_names]
  refine call_rt ?_
  rw [b_are_names]
  simp only [List.map_cons, List.map_nil, List.length_cons, List.length_nil, List.cons_append, List.nil_append, List.replicate, Nat.zero_add, Nat.reduceAdd, Nat.reduceSub, List.set_cons_zero, List.set_cons_succ]
  rw [sSeq_eq, show sIf (tOrM (tNotM (mT (m1 (gIsi "list") (mVar 0)))) (tNotM (mT (mChain gLe gLe (mC (.int 1)) (mL gLen (mA1 (mVar 0) (mA0))) (mVar 1))))) (sRet (mC (.bl false))) (sNil) [some (namesD ss), some (.int top), none] = .nx [some (namesD ss), some (.int top), none] from by
    simp [show gIsi "list" (namesD ss) = some (.bl true) from isi_list_list, len_names, show (1 : Int) ≤ ss.length by omega]; omega, Out.nx_bind, sSeq_eq]
  obtain ⟨ρ', e, x2, rfl⟩ := for_lN (j := 2) (m := iAny (mVar 0)) (b := sIf (tNotM (mT (mArgs m_is_name (mA1 (mVar 2) (mA0))))) (sRet (mC (.bl false))) (sNil)) (ρ := [some (namesD ss), some (.int top), none])
    (fun k ρ => ∃ x2, ρ = [some (namesD ss), some (.int top), x2]) (ss.map D.str) (by simp [iLoc_names]) ⟨_, rfl⟩ (by
      rintro k d ρ hd ⟨x1, rfl⟩
      obtain ⟨c, hc, rfl⟩ := List.mem_map.mp (List.mem_of_getElem? hd)
      exact ⟨_, by simp [is_name_ok (h.nm c hc)]; rfl, _, rfl⟩)
  rw [e]
  simp [lenset_names h.nd (by omega), len_names]
def sgn (z : Int) : Str := txt [97 + z.toNat]
theorem ix_abc {z : Int} (h : 0 ≤ z) (h2 : z < 26) : gIx (.str "abcdefghijklmnopqrstuvwxyz") (.int z) = some (.str (sgn z)) := by
  obtain ⟨m, rfl⟩ := Int.eq_ofNat_of_zero_le h
  show (if ("abcdefghijklmnopqrstuvwxyz" : Str).length ≤ sizeLine then (atI ("abcdefghijklmnopqrstuvwxyz" : Str).cps.toList ((m : Nat) : Int)).map fun c => D.str ⟨#[c]⟩ else none) = _
  rw [abc_eq]
  rw [if_pos (by decide), show (txt ((List.range 26).map fun k => 97 + k)).cps.toList = (List.range 26).map fun k => 97 + k by simp [txt], atI_nat (by simp; omega), List.getElem?_map, List.getElem?_range (by omega)]
  rfl
theorem mul_str {s : Str} {k : Int} (h0 : 0 ≤ k) (hk : k < 100) (hs : s.length ≤ 100) : gMul (.str s) (.int k) = some (.str (strRep s k.toNat)) := by
  refine if_pos ⟨by omega, by omega, ?_⟩
  have : s.length * k.toNat ≤ 100 * 100 := Nat.mul_le_mul hs (by omega)
  exact Nat.le_trans this (by decide)
theorem add_str {s t : Str} (h : s.length + t.length ≤ 10000) : gAdd (.str s) (.str t) = some (.str (s ++ t)) := if_pos (Nat.le_trans h (by decide))
theorem str_append_length {s t : Str} : (s ++ t).length = s.length + t.length := by show (s.cps ++ t.cps).size = _; rw [Array.size_append]; rfl
theorem str_append_list {s t : Str} : (s ++ t).cps.toList = s.cps.toList ++ t.cps.toList := by show (s.cps ++ t.cps).toList = _; simp
theorem sgn_length {z : Int} : (sgn z).length = 1 := rfl
theorem sgn_list {z : Int} : (sgn z).cps.toList = [97 + z.toNat] := rfl
def nmA (c : Int) (k : Nat) : Str := strRep (sgn (c / 3 % 26)) (k + 1)
def nmB (c : Int) (k : Nat) : Str := strRep (sgn (c / 468 % 26)) (c / 5 % 4).toNat ++ sgn ((c / 3 + k * (1 + 2 * (c / 78 % 6))) % 26) ++ strRep (sgn (c / 468 % 26)) (c / 7 % 4).toNat
def nms (c : Int) (k : Nat) : Str := if c % 3 = 0 then nmA c k else nmB c k
theorem rep_mem {z : Int} {k x : Nat} (h : x ∈ (strRep (sgn z) k).cps.toList) : x = 97 + z.toNat := by
  rw [strRep_list, sgn_list] at h
  obtain ⟨l, hl, hx⟩ := List.mem_flatten.mp h
  rw [List.eq_of_mem_replicate hl] at hx
  exact List.mem_singleton.mp hx
theorem nms_name (c : Int) {k : Nat} (hk : k < 8) : IsName (nms c k) := by
  have a1 := Int.emod_nonneg (c / 3) (show (26 : Int) ≠ 0 by decide)
  have a2 := Int.emod_lt_of_pos (c / 3) (show (0 : Int) < 26 by decide)
  have b1 := Int.emod_nonneg (c / 468) (show (26 : Int) ≠ 0 by decide)
  have b2 := Int.emod_lt_of_pos (c / 468) (show (0 : Int) < 26 by decide)
  have c1 := Int.emod_nonneg (c / 3 + k * (1 + 2 * (c / 78 % 6))) (show (26 : Int) ≠ 0 by decide)
  have c2 := Int.emod_lt_of_pos (c / 3 + k * (1 + 2 * (c / 78 % 6))) (show (0 : Int) < 26 by decide)
  unfold nms
  split
  · unfold nmA
    have : (strRep (sgn (c / 3 % 26)) (k + 1)).length = k + 1 := by rw [strRep_length, sgn_length]; omega
    exact ⟨by omega, by omega, fun x hx => by have := rep_mem hx; omega⟩
  · unfold nmB
    refine ⟨?_, ?_, fun x hx => ?_⟩
    · rw [str_append_length, str_append_length, sgn_length]; omega
    · rw [str_append_length, str_append_length, sgn_length, strRep_length, strRep_length, sgn_length]; omega
    · rw [str_append_list, str_append_list, sgn_list] at hx
      rcases List.mem_append.mp hx with hx | hx
      · rcases List.mem_append.mp hx with hx | hx
        · have := rep_mem hx; omega
        · have := List.mem_singleton.mp hx; omega
      · have := rep_mem hx; omega
theorem nms_inj (c : Int) {k j : Nat} (hk : k < 8) (hj : j < 8) (h : nms c k = nms c j) : k = j := by
  unfold nms at h
  split at h
  · have := congrArg Str.length h
    unfold nmA at this
    rw [strRep_length, strRep_length, sgn_length] at this
    omega
  · have := congrArg (fun s : Str => s.cps.toList) h
    replace this : (nmB c k).cps.toList = (nmB c j).cps.toList := this
    unfold nmB at this
    simp only [str_append_list, List.append_assoc] at this
    have := List.append_cancel_left this
    rw [sgn_list, sgn_list] at this
    have := (List.cons.inj this).1
    have m1 := Int.emod_nonneg (c / 78) (show (6 : Int) ≠ 0 by decide)
    have m2 := Int.emod_lt_of_pos (c / 78) (show (0 : Int) < 6 by decide)
    generalize c / 78 % 6 = m at *
    generalize c / 3 = a at *
    have : m = 0 ∨ m = 1 ∨ m = 2 ∨ m = 3 ∨ m = 4 ∨ m = 5 := by omega
    rcases this with rfl | rfl | rfl | rfl | rfl | rfl <;> omega
def drawn (c : Int) (many : Nat) : List Str := (List.range many).map (nms c)
theorem drawn_ok (c : Int) {many : Nat} (h0 : 1 ≤ many) (h : many ≤ 8) : AreNames (drawn c many) 8 where
  lo := by unfold drawn; simpa using h0
  hi := by unfold drawn; simpa using h
  nd := by
    unfold drawn
    rw [List.Nodup, List.pairwise_map]
    refine List.Pairwise.imp_of_mem ?_ (List.nodup_range (n := many))
    intro x y hx hy hne e
    have := List.mem_range.mp hx
    have := List.mem_range.mp hy
    exact hne (nms_inj c (by omega) (by omega) e)
  nm := fun s hs => by
    obtain ⟨k, hk, rfl⟩ := List.mem_map.mp hs
    exact nms_name c (by have := List.mem_range.mp hk; omega)
theorem law_names_ok (c : Int) {many : Nat} (h : many ≤ 8) : m__law_names [.int c, .int many] = .ok (namesD (drawn c many)) := by
  have a1 := Int.emod_nonneg (c / 3) (show (26 : Int) ≠ 0 by decide)
  have a2 := Int.emod_lt_of_pos (c / 3) (show (0 : Int) < 26 by decide)
  have b1 := Int.emod_nonneg (c / 468) (show (26 : Int) ≠ 0 by decide)
  have b2 := Int.emod_lt_of_pos (c / 468) (show (0 : Int) < 26 by decide)
  have d3 : ∀ z : Int, gDiv (.int z) (.int 3) = some (.int (z / 3)) := fun z => gDiv_int (by decide) (by decide)
  have d468 : ∀ z : Int, gDiv (.int z) (.int 468) = some (.int (z / 468)) := fun z => gDiv_int (by decide) (by decide)
  have d78 : ∀ z : Int, gDiv (.int z) (.int 78) = some (.int (z / 78)) := fun z => gDiv_int (by decide) (by decide)
  have d5 : ∀ z : Int, gDiv (.int z) (.int 5) = some (.int (z / 5)) := fun z => gDiv_int (by decide) (by decide)
  have d7 : ∀ z : Int, gDiv (.int z) (.int 7) = some (.int (z / 7)) := fun z => gDiv_int (by decide) (by decide)
  rw [m__law_names]
  refine call_rt ?_
  rw [b__law_names]
  rw [seq_set (d := .str "abcdefghijklmnopqrstuvwxyz") (by simp)]
  simp only [List.map_cons, List.map_nil, List.length_cons, List.length_nil, List.cons_append, List.nil_append, List.replicate, Nat.zero_add, Nat.reduceAdd, Nat.reduceSub, List.set_cons_zero, List.set_cons_succ]
  by_cases h3 : c % 3 = 0
  · have e : mLc [5] (tgN 5) (iR1 (mVar 1)) (tYesM) (m2 gMul (m2 gIx (mVar 2) (m2 gMod (m2 gDiv (mVar 0) (mC (.int 3))) (mC (.int 26)))) (m2 gAdd (mVar 5) (mC (.int 1)))) [some (.int c), some (.int many), some (.str "abcdefghijklmnopqrstuvwxyz"), none, none, none, none, none] = .ok (namesD (drawn c many)) := by
      rw [lc_r (j := 5) many (fun k => .str (nms c k)) (by simp) (by omega) (fun k hk => by
        simp [wipeR, d3, ix_abc a1 a2, mul_str (s := sgn (c / 3 % 26)) (k := (k : Int) + 1) (by omega) (by omega) (by rw [sgn_length]; decide)]
        unfold nms
        rw [if_pos h3]; rfl)]
      unfold namesD drawn
      rw [List.map_map]; rfl
    simp [h3, e]
  · rw [sSeq_eq, show sIf (mT (m2 gEq (m2 gMod (mVar 0) (mC (.int 3))) (mC (.int 0)))) (sRet (mLc [5] (tgN 5) (iR1 (mVar 1)) (tYesM) (m2 gMul (m2 gIx (mVar 2) (m2 gMod (m2 gDiv (mVar 0) (mC (.int 3))) (mC (.int 26)))) (m2 gAdd (mVar 5) (mC (.int 1)))))) (sNil) [some (.int c), some (.int many), some (.str "abcdefghijklmnopqrstuvwxyz"), none, none, none, none, none] = .nx _ from by simp [h3]; rfl, Out.nx_bind]
    rw [seq_set (d := .str (sgn (c / 468 % 26))) (by simp [d468, ix_abc b1 b2]), seq_set (d := .lst []) (by simp [nil_l])]
    simp only [List.set_cons_zero, List.set_cons_succ]
    generalize hb : sSeq (sSet 6 _) _ = b
    rw [sSeq_eq]
    obtain ⟨ρ', e, x5, x6, x7, rfl⟩ := for_r (j := 5) (mi := mVar 1) (b := b) (ρ := [some (.int c), some (.int many), some (.str "abcdefghijklmnopqrstuvwxyz"), some (.str (sgn (c / 468 % 26))), some (.lst []), none, none, none])
      (fun k ρ => ∃ x5 x6 x7, ρ = [some (.int c), some (.int many), some (.str "abcdefghijklmnopqrstuvwxyz"), some (.str (sgn (c / 468 % 26))), some (namesD (drawn c k)), x5, x6, x7]) many (by simp) (by omega) ⟨_, _, _, rfl⟩ (by
        rintro k ρ hk ⟨x5, x6, x7, rfl⟩
        subst hb
        have m1 := Int.emod_nonneg (c / 78) (show (6 : Int) ≠ 0 by decide)
        have m2 := Int.emod_lt_of_pos (c / 78) (show (0 : Int) < 6 by decide)
        have c1 := Int.emod_nonneg (c / 3 + k * (1 + 2 * (c / 78 % 6))) (show (26 : Int) ≠ 0 by decide)
        have c2 := Int.emod_lt_of_pos (c / 3 + k * (1 + 2 * (c / 78 % 6))) (show (0 : Int) < 26 by decide)
        have g1 : gMul (.int 2) (.int (c / 78 % 6)) = some (.int (2 * (c / 78 % 6))) := gMul_int (nat250 (by decide)) (nat250 (by omega))
        have g2 : gMul (.int k) (.int (1 + 2 * (c / 78 % 6))) = some (.int (k * (1 + 2 * (c / 78 % 6)))) := gMul_int (nat250 (by omega)) (nat250 (by omega))
        simp only [List.set_cons_zero, List.set_cons_succ]
        rw [seq_set (d := .str (sgn ((c / 3 + k * (1 + 2 * (c / 78 % 6))) % 26))) (by simp [d3, d78, g1, g2, ix_abc c1 c2])]
        rw [seq_set (d := .str (strRep (sgn (c / 468 % 26)) (c / 5 % 4).toNat)) (by simp [d5, mul_str (s := sgn (c / 468 % 26)) (k := c / 5 % 4) (by omega) (by omega) (by rw [sgn_length]; decide)])]
        simp only [List.set_cons_zero, List.set_cons_succ]
        have l1 : (strRep (sgn (c / 468 % 26)) (c / 5 % 4).toNat).length ≤ 3 := by rw [strRep_length, sgn_length]; omega
        have l2 : (strRep (sgn (c / 468 % 26)) (c / 7 % 4).toNat).length ≤ 3 := by rw [strRep_length, sgn_length]; omega
        have e1 : gAdd (.str (strRep (sgn (c / 468 % 26)) (c / 5 % 4).toNat)) (.str (sgn ((c / 3 + k * (1 + 2 * (c / 78 % 6))) % 26))) = some (.str _) := add_str (by rw [sgn_length]; omega)
        have e2 : gAdd (.str (strRep (sgn (c / 468 % 26)) (c / 5 % 4).toNat ++ sgn ((c / 3 + k * (1 + 2 * (c / 78 % 6))) % 26))) (.str (strRep (sgn (c / 468 % 26)) (c / 7 % 4).toNat)) = some (.str (nms c k)) := by
          rw [add_str (by rw [str_append_length, sgn_length]; omega)]
          unfold nms
          rw [if_neg h3]; rfl
        have e3 : nApp (.str (nms c k)) (namesD (drawn c k)) = some (namesD (drawn c (k + 1))) := by
          unfold namesD
          rw [nApp_lst (b24 (by unfold drawn; simp; omega))]
          unfold drawn
          rw [List.range_succ]; simp
        refine ⟨_, by simp [d7, mul_str (s := sgn (c / 468 % 26)) (k := c / 7 % 4) (by omega) (by omega) (by rw [sgn_length]; decide), e1, e2, e3]; exact ⟨rfl, rfl, rfl⟩, _, _, _, rfl⟩)
    rw [e]
    simp
end TW

-- TWHouse
namespace TW
open PySem PySem.Spec PyProof.Rows L2
theorem for_m {α : Type} {m : Rho → Res (List D)} {b : Rho → Out} {j : Nat} {ρ : Rho} (I : Nat → Rho → Prop) (xs : List α) (f : α → D) (hm : m ρ = .ok (xs.map f)) (h0 : I 0 ρ)
    (st : ∀ i x ρ, xs[i]? = some x → I i ρ → ∃ ρ2, b (ρ.set j (some (f x))) = .nx ρ2 ∧ I (i + 1) ρ2) : ∃ ρ', sFor (tgN j) m b ρ = .nx ρ' ∧ I xs.length ρ' := by
  obtain ⟨ρ', e, h⟩ := for_lN (j := j) (b := b) I (xs.map f) hm h0 (fun i d ρ hd h => by
    rw [List.getElem?_map] at hd
    cases hx : xs[i]? with
    | none => rw [hx] at hd; cases hd
    | some x => rw [hx] at hd; cases hd; exact st i x ρ hx h)
  rw [List.length_map] at h
  exact ⟨ρ', e, h⟩
theorem compL_m {α : Type} {F : D → Res (Option D)} {f g : α → D} : ∀ xs : List α, (∀ x ∈ xs, F (f x) = .ok (some (g x))) → compL F (xs.map f) = .ok (xs.map g)
  | [], _ => rfl
  | x :: xs, h => by
    rw [List.map_cons, List.map_cons, compL, h x List.mem_cons_self, compL_m xs fun y hy => h y (List.mem_cons_of_mem _ hy)]
    rfl
theorem lc_m {α : Type} {ρ : Rho} {vs : List Nat} {v : Nat} {m : Rho → Res (List D)} {me : Rho → Res D} (xs : List α) (f g : α → D) (hm : m ρ = .ok (xs.map f)) (hl : xs.length < 1000000) (h : ∀ x ∈ xs, me ((wipeR ρ vs).set v (some (f x))) = .ok (g x)) :
    mLc vs (tgN v) m tYesM me ρ = .ok (.lst (xs.map g)) := by
  unfold mLc
  rw [hm, Res.bind_ok, if_pos (by rw [List.length_map]; exact b24 hl), compL_m (g := g) xs (fun x hx => by
    show (match some ((wipeR ρ vs).set v (some (f x))) with
      | some ρ' => (tYesM ρ').bind fun k => if k = true then (me ρ').bind fun v => .ok (some v) else .ok none
      | none => .stuck) = _
    dsimp only
    rw [h x hx]; rfl)]
  rfl
structure Hand where
  name : Str
  words : List Str
  worths : List (List Int)
def numsD (l : List Int) : D := .lst (l.map D.int)
def wD (w : List (List Int)) : D := .lst (w.map numsD)
def Hand.d (h : Hand) : D := .tup [.str h.name, namesD h.words, wD h.worths]
def tints (l : List Int) : D := .tup (l.map D.int)
def Hand.m (h : Hand) : D := .tup [.str h.name, .ftup (h.words.map D.str), .tup (h.worths.map tints)]
def handsD (hs : List Hand) : D := .lst (hs.map Hand.d)
def houseD (outs : List Str) (hs : List Hand) : D := .tup [.ftup (outs.map D.str), .tup (hs.map Hand.m)]
structure Hand.Ok (p : Nat) (h : Hand) : Prop where
  name : IsName h.name
  words : AreNames h.words 8
  len : h.worths.length = h.words.length
  row : ∀ r ∈ h.worths, r.length = p
  num : ∀ r ∈ h.worths, ∀ z ∈ r, -T60 < z ∧ z < T60
def ways : List Hand → Nat
  | [] => 1
  | h :: hs => h.words.length * ways hs
structure HandsOk (p : Nat) (hs : List Hand) : Prop where
  lo : 1 ≤ hs.length
  hi : hs.length ≤ 4
  ok : ∀ h ∈ hs, h.Ok p
  many : ways hs ≤ 256
  nd : (hs.map Hand.name).Nodup
theorem nums_len {l : List Int} : gLen [numsD l] = some (.int l.length) := by unfold numsD; simp
theorem wD_len {l : List (List Int)} : gLen [wD l] = some (.int l.length) := by unfold wD; simp
theorem is_worth_ok {z : Int} (h : -T60 < z ∧ z < T60) : m_is_worth [.int z] = .ok (.bl true) := by
  rw [m_is_worth]
  refine call_rt ?_
  rw [b_is_worth]
  simp only [List.map_cons, List.map_nil, List.length_cons, List.length_nil, List.cons_append, List.nil_append, List.replicate, Nat.zero_add, Nat.reduceAdd, Nat.reduceSub, List.set_cons_zero, List.set_cons_succ]
  have h1 : 0 - T60 < z := by have := h.1; omega
  have e1 : gLt (.int (0 - T60)) (.int z) = some (.bl true) := by rw [gLt_int, decide_eq_true h1]
  have e2 : gLt (.int z) (.int T60) = some (.bl true) := by rw [gLt_int, decide_eq_true h.2]
  simp only [sRet_eq, mAnd_eq, m1_eq, mVar_eq, List.getElem?_cons_zero, Res.bind_ok, isi_int_int, isi_int_bool, ofO_some, gNot_bl, Bool.not_false, mChain_eq, m2_eq, mC_eq, pow60, gSub_int, e1, e2, Res.out_ok]
theorem are_worths_ok {w : List (List Int)} {p : Nat} (hr : ∀ r ∈ w, r.length = p) (hn : ∀ r ∈ w, ∀ z ∈ r, -T60 < z ∧ z < T60) : m_are_worths [wD w, .int w.length, .int p] = .ok (.bl true) := by
  rw [m_are_worths]
  refine call_rt ?_
  rw [b_are_worths]
  simp only [List.map_cons, List.map_nil, List.length_cons, List.length_nil, List.cons_append, List.nil_append, List.replicate, Nat.zero_add, Nat.reduceAdd, Nat.reduceSub, List.set_cons_zero, List.set_cons_succ]
  rw [sSeq_eq, show sIf (tOrM (tNotM (mT (m1 (gIsi "list") (mVar 0)))) (mT (m2 gNe (mL gLen (mA1 (mVar 0) (mA0))) (mVar 1)))) (sRet (mC (.bl false))) (sNil) [some (wD w), some (.int w.length), some (.int p), none, none] = .nx _ from by
    simp [show gIsi "list" (wD w) = some (.bl true) from isi_list_list, wD_len]; rfl, Out.nx_bind, sSeq_eq]
  generalize hb : sSeq (sIf _ _ _) (sFor _ _ _) = b
  obtain ⟨ρ', e, x3, x4, rfl⟩ := for_m (j := 3) (m := iAny (mVar 0)) (b := b) (ρ := [some (wD w), some (.int w.length), some (.int p), none, none])
    (fun k ρ => ∃ x3 x4, ρ = [some (wD w), some (.int w.length), some (.int p), x3, x4]) w numsD (by simp [wD]) ⟨_, _, rfl⟩ (by
      rintro k r ρ hd ⟨x3, x4, rfl⟩
      have hw := List.mem_of_getElem? hd
      subst hb
      simp only [List.map_cons, List.map_nil, List.length_cons, List.length_nil, List.cons_append, List.nil_append, List.replicate, Nat.zero_add, Nat.reduceAdd, Nat.reduceSub, List.set_cons_zero, List.set_cons_succ]
      rw [sSeq_eq, show sIf (tOrM (tNotM (mT (m1 (gIsi "list") (mVar 3)))) (mT (m2 gNe (mL gLen (mA1 (mVar 3) (mA0))) (mVar 2)))) (sRet (mC (.bl false))) (sNil) [some (wD w), some (.int w.length), some (.int p), some (numsD r), x4] = .nx _ from by
        simp [show gIsi "list" (numsD r) = some (.bl true) from isi_list_list, nums_len, hr r hw]; rfl, Out.nx_bind]
      obtain ⟨ρ', e, y4, rfl⟩ := for_m (j := 4) (m := iAny (mVar 3)) (b := sIf (tNotM (mT (mArgs m_is_worth (mA1 (mVar 4) (mA0))))) (sRet (mC (.bl false))) (sNil)) (ρ := [some (wD w), some (.int w.length), some (.int p), some (numsD r), x4])
        (fun k ρ => ∃ x4, ρ = [some (wD w), some (.int w.length), some (.int p), some (numsD r), x4]) r D.int (by simp [numsD]) ⟨_, rfl⟩ (by
          rintro k z ρ hd ⟨x4, rfl⟩
          have hz := List.mem_of_getElem? hd
          exact ⟨_, by simp [is_worth_ok (hn r hw z hz)]; rfl, _, rfl⟩)
      exact ⟨_, e, _, _, rfl⟩)
  rw [e]
  simp
theorem is_hand_ok {h : Hand} {p : Nat} (o : h.Ok p) : m_is_hand [h.d, .int p] = .ok (.bl true) := by
  have a := are_names_ok o.words (by decide)
  have b := are_worths_ok o.row o.num
  have l := o.len
  rw [l] at b
  rw [m_is_hand]
  refine call_rt ?_
  rw [b_is_hand]
  simp only [List.map_cons, List.map_nil, List.length_cons, List.length_nil, List.cons_append, List.nil_append, List.replicate, Nat.zero_add, Nat.reduceAdd, Nat.reduceSub, List.set_cons_zero, List.set_cons_succ]
  have i0 : gIx h.d (.int 0) = some (.str h.name) := id rfl
  have i1 : gIx h.d (.int 1) = some (namesD h.words) := id rfl
  have i2 : gIx h.d (.int 2) = some (wD h.worths) := id rfl
  have l3 : gLen [h.d] = some (.int 3) := id rfl
  simp [show gIsi "tuple" h.d = some (.bl true) from isi_tup, i0, i1, i2, l3, is_name_ok o.name, len_names, b, show m_are_names [namesD h.words, .int 8] = .ok (.bl true) from a]
theorem mul_nat {a b : Nat} (ha : a < 1000) (hb : b < 1000) : gMul (.int a) (.int b) = some (.int ((a * b : Nat) : Int)) := by
  rw [gMul_int (nat250 (by omega)) (nat250 (by omega))]; simp
theorem gTupF_lst {l : List D} : gTupF [.lst l] = some (.ftup l) := id rfl
theorem ways_snoc {hs : List Hand} {h : Hand} : ways (hs ++ [h]) = ways hs * h.words.length := by
  induction hs with
  | nil => simp [ways]
  | cons g hs ih => simp only [List.cons_append, ways, ih, Nat.mul_assoc]
theorem ways_pos : ∀ {hs : List Hand}, (∀ h ∈ hs, 1 ≤ h.words.length) → 1 ≤ ways hs
  | [], _ => Nat.le_refl _
  | h :: hs, ho => Nat.mul_pos (ho h List.mem_cons_self) (ways_pos fun g hg => ho g (List.mem_cons_of_mem _ hg))
theorem ways_take {hs : List Hand} (ho : ∀ h ∈ hs, 1 ≤ h.words.length) (k : Nat) : ways (hs.take k) ≤ ways hs := by
  induction hs generalizing k with
  | nil => simp
  | cons h hs ih =>
    cases k with
    | zero => exact ways_pos ho
    | succ k => exact Nat.mul_le_mul_left _ (ih (fun g hg => ho g (List.mem_cons_of_mem _ hg)) k)
theorem house_of_ok {outs : List Str} {hs : List Hand} (ho : AreNames outs 8) (hh : HandsOk outs.length hs) : m_house_of [namesD outs, handsD hs] = .ok (houseD outs hs) := by
  have a := are_names_ok ho (by decide)
  have hlo := hh.lo
  have hhi := hh.hi
  have wpos : ∀ h ∈ hs, 1 ≤ h.words.length := fun h hm => (hh.ok h hm).words.lo
  rw [m_house_of]
  refine call_rt ?_
  rw [b_house_of]
  simp only [List.map_cons, List.map_nil, List.length_cons, List.length_nil, List.cons_append, List.nil_append, List.replicate, Nat.zero_add, Nat.reduceAdd, Nat.reduceSub, List.set_cons_zero, List.set_cons_succ]
  have ln : gLen [handsD hs] = some (.int hs.length) := by unfold handsD; simp
  rw [sSeq_eq, show sIf (tNotM (mT (mArgs m_are_names (mA1 (mVar 0) (mA1 (mC (.int 8)) (mA0)))))) (sDead) (sNil) [some (namesD outs), some (handsD hs), none, none, none, none] = .nx _ from by
    simp [show m_are_names [namesD outs, .int 8] = .ok (.bl true) from a]; rfl, Out.nx_bind]
  rw [sSeq_eq, show sIf (tOrM (tNotM (mT (m1 (gIsi "list") (mVar 1)))) (tNotM (mT (mChain gLe gLe (mC (.int 1)) (mL gLen (mA1 (mVar 1) (mA0))) (mC (.int 4)))))) (sDead) (sNil) [some (namesD outs), some (handsD hs), none, none, none, none] = .nx [some (namesD outs), some (handsD hs), none, none, none, none] from by
    simp [show gIsi "list" (handsD hs) = some (.bl true) from isi_list_list, ln, show (1 : Int) ≤ hs.length by omega]; omega, Out.nx_bind]
  rw [seq_set (d := .int 1) (by simp), seq_set (d := .lst []) (by simp [nil_l])]
  simp only [List.map_cons, List.map_nil, List.length_cons, List.length_nil, List.cons_append, List.nil_append, List.replicate, Nat.zero_add, Nat.reduceAdd, Nat.reduceSub, List.set_cons_zero, List.set_cons_succ]
  rw [sSeq_eq]
  generalize hb : sSeq (sIf _ sDead _) _ = b
  obtain ⟨ρ', e, x4, x5, rfl⟩ := for_m (j := 4) (m := iAny (mVar 1)) (b := b) (ρ := [some (namesD outs), some (handsD hs), some (.int 1), some (.lst []), none, none])
    (fun k ρ => ∃ x4 x5, ρ = [some (namesD outs), some (handsD hs), some (.int (ways (hs.take k))), some (.lst ((hs.take k).map Hand.m)), x4, x5]) hs Hand.d (by simp [handsD]) ⟨_, _, rfl⟩ (by
      rintro k h ρ hd ⟨x4, x5, rfl⟩
      have hm := List.mem_of_getElem? hd
      have o := hh.ok h hm
      have hk : k < hs.length := (List.getElem?_eq_some_iff.mp hd).1
      subst hb
      simp only [List.map_cons, List.map_nil, List.length_cons, List.length_nil, List.cons_append, List.nil_append, List.replicate, Nat.zero_add, Nat.reduceAdd, Nat.reduceSub, List.set_cons_zero, List.set_cons_succ]
      have t1 : hs.take (k + 1) = hs.take k ++ [h] := by rw [List.take_add_one, hd]; rfl
      have t2 : (hs.take (k + 1)).map Hand.m = (hs.take k).map Hand.m ++ [h.m] := by rw [t1, List.map_append]; rfl
      have hM1 : ((hs.take k).map Hand.m).length < 1000000 := by rw [List.length_map, List.length_take]; omega
      generalize (hs.take k).map Hand.m = M at *
      have i0 : gIx h.d (.int 0) = some (.str h.name) := id rfl
      have i1 : gIx h.d (.int 1) = some (namesD h.words) := id rfl
      have i2 : gIx h.d (.int 2) = some (wD h.worths) := id rfl
      rw [sSeq_eq, show sIf (tNotM (mT (mArgs m_is_hand (mA1 (mVar 4) (mA1 (mL gLen (mA1 (mVar 0) (mA0))) (mA0)))))) (sDead) (sNil) [some (namesD outs), some (handsD hs), some (.int (ways (hs.take k))), some (.lst M), some h.d, x5] = .nx _ from by
        simp [len_names, is_hand_ok o]; rfl, Out.nx_bind]
      have w1 := ways_take wpos k
      have w2 := hh.many
      have w3 := o.words.hi
      rw [seq_set (d := .int (ways (hs.take (k + 1)))) (by
        rw [t1, ways_snoc]
        simp [i1, len_names]
        rw [mul_nat (by omega) (by omega)]; simp)]
      simp only [List.map_cons, List.map_nil, List.length_cons, List.length_nil, List.cons_append, List.nil_append, List.replicate, Nat.zero_add, Nat.reduceAdd, Nat.reduceSub, List.set_cons_zero, List.set_cons_succ]
      have lc : mLc [5] (tgN 5) (iAny (m2 gIx (mVar 4) (mC (.int 2)))) (tYesM) (mL gTuple (mA1 (mVar 5) (mA0))) [some (namesD outs), some (handsD hs), some (.int (ways (hs.take (k + 1)))), some (.lst M), some h.d, x5] = .ok (.lst (h.worths.map tints)) := by
        refine lc_m h.worths numsD tints (by simp [i2, wD]) ?_ (fun x hx => by simp [wipeR, numsD, tints])
        have := o.len; omega
      have ap : nApp h.m (.lst M) = some (.lst (M ++ [h.m])) := by
        rw [nApp_lst (b24 hM1)]
      have tp : gTup [.str h.name, .ftup (h.words.map D.str), .tup (h.worths.map tints)] = some h.m := tup3 _ _ _
      rw [t2]
      refine ⟨[some (namesD outs), some (handsD hs), some (.int (ways (hs.take (k + 1)))), some (.lst (M ++ [h.m])), some h.d, x5], ?_, _, _, rfl⟩
      simp [lc, i0, i1, show gTupF [namesD h.words] = some (.ftup (h.words.map D.str)) from id rfl, tp, ap])
  rw [e, Out.nx_bind]
  rw [List.take_length]
  have lcn : ∀ x4 x5, mLc [4] (tgN 4) (iAny (mVar 3)) (tYesM) (m2 gIx (mVar 4) (mC (.int 0))) [some (namesD outs), some (handsD hs), some (.int (ways hs)), some (.lst (hs.map Hand.m)), x4, x5] = .ok (namesD (hs.map Hand.name)) := fun x4 x5 => by
    rw [lc_m hs Hand.m (fun h => .str h.name) (by simp) (by omega) (fun x hx => by simp [wipeR, show gIx x.m (.int 0) = some (.str x.name) from id rfl])]
    unfold namesD; rw [List.map_map]; rfl
  have w2 := hh.many
  rw [sSeq_eq, show ∀ x4 x5, sIf (tOrM (mT (m2 gGt (mVar 2) (mC (.int 256)))) (mT (m2 gNe (m1 gLenSetT (mLc [4] (tgN 4) (iAny (mVar 3)) (tYesM) (m2 gIx (mVar 4) (mC (.int 0))))) (mL gLen (mA1 (mVar 3) (mA0)))))) (sDead) (sNil) [some (namesD outs), some (handsD hs), some (.int (ways hs)), some (.lst (hs.map Hand.m)), x4, x5] = .nx [some (namesD outs), some (handsD hs), some (.int (ways hs)), some (.lst (hs.map Hand.m)), x4, x5] from fun x4 x5 => by
    have : ¬ (256 : Int) < (ways hs : Int) := by omega
    simp [lcn, lenset_names hh.nd (by simp; omega), this], Out.nx_bind]
  simp [show gTupF [namesD outs] = some (.ftup (outs.map D.str)) from id rfl, tup2]
  rfl
end TW

-- TWHands
namespace TW
open PySem PySem.Spec PyProof.Rows L2
theorem mod_bnd (a : Int) {k : Int} (h : 0 < k) : 0 ≤ a % k ∧ a % k < k := ⟨Int.emod_nonneg _ (by omega), Int.emod_lt_of_pos _ h⟩
def sz (ns : List Int) (k : Nat) : Nat := (1 + cel ns 1 / 3 ^ k % 3).toNat
theorem sz_eq (ns : List Int) (k : Nat) : (sz ns k : Int) = 1 + cel ns 1 / 3 ^ k % 3 := by
  have := mod_bnd (cel ns 1 / 3 ^ k) (k := 3) (by decide)
  unfold sz; omega
theorem sz_bnd (ns : List Int) (k : Nat) : 1 ≤ sz ns k ∧ sz ns k ≤ 3 := by
  have := mod_bnd (cel ns 1 / 3 ^ k) (k := 3) (by decide)
  have := sz_eq ns k
  omega
def spotOf (ns : List Int) (p : Nat) : Nat → Nat
  | 0 => 8
  | k + 1 => spotOf ns p k + sz ns k * p
def wor (ns : List Int) (p : Nat) (top : Int) (s t : Nat) : List Int := (List.range p).map fun j => num (cel ns (s + t * p + j)) top
def handOf (ns : List Int) (p : Nat) (top : Int) (k : Nat) : Hand := ⟨nms (cel ns 6) k, drawn (cel ns (3 + k)) (sz ns k), (List.range (sz ns k)).map (wor ns p top (spotOf ns p k))⟩
def nh (ns : List Int) : Nat := (1 + cel ns 0 / 4 % 3).toNat
theorem nh_eq (ns : List Int) : (nh ns : Int) = 1 + cel ns 0 / 4 % 3 := by
  have := mod_bnd (cel ns 0 / 4) (k := 3) (by decide)
  unfold nh; omega
theorem nh_bnd (ns : List Int) : 1 ≤ nh ns ∧ nh ns ≤ 3 := by
  have := mod_bnd (cel ns 0 / 4) (k := 3) (by decide)
  have := nh_eq ns
  omega
def handsOf (ns : List Int) (p : Nat) (top : Int) : List Hand := (List.range (nh ns)).map (handOf ns p top)
theorem wor_num {ns : List Int} {p : Nat} {top : Int} {s t : Nat} (h : 10 ^ 18 ≤ top) (h2 : top < T60) : ∀ z ∈ wor ns p top s t, -T60 < z ∧ z < T60 := fun z hz => by
  obtain ⟨j, _, rfl⟩ := List.mem_map.mp hz
  have := num_le (cel ns (s + t * p + j)) top h
  omega
theorem handOf_ok (ns : List Int) {p : Nat} {top : Int} {k : Nat} (hk : k < 8) (h : 10 ^ 18 ≤ top) (h2 : top < T60) : (handOf ns p top k).Ok p where
  name := nms_name _ hk
  words := drawn_ok _ (sz_bnd ns k).1 (by have := (sz_bnd ns k).2; omega)
  len := by unfold handOf drawn; simp
  row := fun r hr => by
    obtain ⟨t, _, rfl⟩ := List.mem_map.mp hr
    unfold wor; simp
  num := fun r hr z hz => by
    obtain ⟨t, _, rfl⟩ := List.mem_map.mp hr
    exact wor_num h h2 z hz
theorem ways_le : ∀ {hs : List Hand}, (∀ h ∈ hs, h.words.length ≤ 3) → ways hs ≤ 3 ^ hs.length
  | [], _ => Nat.le_refl _
  | h :: hs, ho => by
    have a := ho h List.mem_cons_self
    have b := ways_le (hs := hs) fun g hg => ho g (List.mem_cons_of_mem _ hg)
    show h.words.length * ways hs ≤ 3 ^ (hs.length + 1)
    rw [Nat.pow_succ, Nat.mul_comm (3 ^ hs.length)]
    exact Nat.mul_le_mul a b
theorem handsOf_len {ns : List Int} {p : Nat} {top : Int} : (handsOf ns p top).length = nh ns := by unfold handsOf; simp
theorem handsOf_ok (ns : List Int) {p : Nat} {top : Int} (h : 10 ^ 18 ≤ top) (h2 : top < T60) : HandsOk p (handsOf ns p top) where
  lo := by rw [handsOf_len]; exact (nh_bnd ns).1
  hi := by rw [handsOf_len]; have := (nh_bnd ns).2; omega
  ok := fun g hg => by
    obtain ⟨k, hk, rfl⟩ := List.mem_map.mp hg
    exact handOf_ok ns (by have := List.mem_range.mp hk; have := (nh_bnd ns).2; omega) h h2
  many := by
    refine Nat.le_trans (ways_le fun g hg => ?_) ?_
    · obtain ⟨k, hk, rfl⟩ := List.mem_map.mp hg
      unfold handOf drawn
      simp
      exact (sz_bnd ns k).2
    · rw [handsOf_len]
      exact Nat.le_trans (Nat.pow_le_pow_right (by decide) (nh_bnd ns).2) (by decide)
  nd := by
    unfold handsOf
    rw [List.map_map, List.Nodup, List.pairwise_map]
    refine List.Pairwise.imp_of_mem ?_ (List.nodup_range (n := nh ns))
    intro x y hx hy hne e
    have := List.mem_range.mp hx
    have := List.mem_range.mp hy
    have := (nh_bnd ns).2
    exact hne (nms_inj (cel ns 6) (by omega) (by omega) e)
theorem names_ix {ss : List Str} {k : Nat} {s : Str} (h : ss[k]? = some s) : gIx (namesD ss) (.int k) = some (.str s) := by
  have hk : k < (ss.map D.str).length := by rw [List.length_map]; exact (List.getElem?_eq_some_iff.mp h).1
  show atI (ss.map D.str) (k : Int) = _
  rw [atI_nat hk, List.getElem?_map, h]; rfl
theorem drawn_at {c : Int} {many k : Nat} (h : k < many) : (drawn c many)[k]? = some (nms c k) := by
  unfold drawn
  rw [List.getElem?_map, List.getElem?_range h]; rfl
theorem law_hands_ok (ns : List Int) {p : Nat} {top : Int} (hp : p ≤ 100) (h : 0 ≤ top) (h2 : top < 10 ^ 70) : m__law_hands [.scr ns, .int p, .int top] = .ok (handsD (handsOf ns p top)) := by
  have hn := nh_eq ns
  have hb := nh_bnd ns
  have c0 : m__law_cell [.scr ns, .int 0] = .ok (.int (cel ns 0)) := cell_at ns 0 rfl
  have c1 : m__law_cell [.scr ns, .int 1] = .ok (.int (cel ns 1)) := cell_at ns 1 rfl
  have c6 : m__law_cell [.scr ns, .int 6] = .ok (.int (cel ns 6)) := cell_at ns 6 rfl
  have d4 : ∀ z : Int, gDiv (.int z) (.int 4) = some (.int (z / 4)) := fun z => gDiv_int (by decide) (by decide)
  rw [m__law_hands]
  refine call_rt ?_
  rw [b__law_hands]
  simp only [List.map_cons, List.map_nil, List.length_cons, List.length_nil, List.cons_append, List.nil_append, List.replicate, Nat.zero_add, Nat.reduceAdd, Nat.reduceSub, List.set_cons_zero, List.set_cons_succ]
  rw [seq_set (d := .int (nh ns)) (by simp [c0, d4, hn]), seq_set (d := namesD (drawn (cel ns 6) 3)) (by
    simp [c6]
    exact law_names_ok (cel ns 6) (many := 3) (by decide)), seq_set (d := .lst []) (by simp [nil_l]), seq_set (d := .int 8) (by simp)]
  simp only [List.map_cons, List.map_nil, List.length_cons, List.length_nil, List.cons_append, List.nil_append, List.replicate, Nat.zero_add, Nat.reduceAdd, Nat.reduceSub, List.set_cons_zero, List.set_cons_succ]
  rw [sSeq_eq]
  generalize hbb : sSeq (sSet 8 _) _ = b
  obtain ⟨ρ', e, x7, x8, x9, x10, x11, rfl⟩ := for_r (j := 7) (mi := mVar 3) (b := b) (ρ := [some (.scr ns), some (.int p), some (.int top), some (.int (nh ns)), some (namesD (drawn (cel ns 6) 3)), some (.lst []), some (.int 8), none, none, none, none, none])
    (fun k ρ => ∃ x7 x8 x9 x10 x11, ρ = [some (.scr ns), some (.int p), some (.int top), some (.int (nh ns)), some (namesD (drawn (cel ns 6) 3)), some (handsD ((List.range k).map (handOf ns p top))), some (.int (spotOf ns p k)), x7, x8, x9, x10, x11]) (nh ns) (by simp) (by omega)
    ⟨_, _, _, _, _, rfl⟩ (by
      rintro k ρ hk ⟨x7, x8, x9, x10, x11, rfl⟩
      subst hbb
      have c3 : m__law_cell [.scr ns, .int (3 + k)] = .ok (.int (cel ns (3 + k))) := cell_at ns (3 + k) (by simp)
      have sb := sz_bnd ns k
      have se := sz_eq ns k
      have div : gIx (.lst [.int 1, .int 3, .int 9]) (.int k) = some (.int (3 ^ k)) := by
        have : k = 0 ∨ k = 1 ∨ k = 2 := by omega
        rcases this with rfl | rfl | rfl <;> rfl
      have gd : gDiv (.int (cel ns 1)) (.int (3 ^ k)) = some (.int (cel ns 1 / 3 ^ k)) := by
        have : k = 0 ∨ k = 1 ∨ k = 2 := by omega
        rcases this with rfl | rfl | rfl <;> exact gDiv_int (by decide) (by decide)
      have l3 : gLst [.int 1, .int 3, .int 9] = some (.lst [.int 1, .int 3, .int 9]) := gLst_eq (show 3 ≤ sizeLine by decide)
      simp only [List.map_cons, List.map_nil, List.length_cons, List.length_nil, List.cons_append, List.nil_append, List.replicate, Nat.zero_add, Nat.reduceAdd, Nat.reduceSub, List.set_cons_zero, List.set_cons_succ]
      rw [seq_set (d := .int (sz ns k)) (by simp [c1, l3, div, gd, se]), seq_set (d := .lst []) (by simp [nil_l])]
      simp only [List.map_cons, List.map_nil, List.length_cons, List.length_nil, List.cons_append, List.nil_append, List.replicate, Nat.zero_add, Nat.reduceAdd, Nat.reduceSub, List.set_cons_zero, List.set_cons_succ]
      rw [sSeq_eq]
      generalize hM : (List.range k).map (handOf ns p top) = M
      obtain ⟨ρ', e, y10, y11, rfl⟩ := for_r (j := 10) (mi := mVar 8) (b := sSeq (sApp 9 (pNil) (mLc [11] (tgN 11) (iR1 (mVar 1)) (tYesM) (mArgs m__law_number (mA1 (mArgs m__law_cell (mA1 (mVar 0) (mA1 (m2 gAdd (mVar 6) (mVar 11)) (mA0)))) (mA1 (mVar 2) (mA0)))))) (sSet 6 (m2 gAdd (mVar 6) (mVar 1))))
        (ρ := [some (.scr ns), some (.int p), some (.int top), some (.int (nh ns)), some (namesD (drawn (cel ns 6) 3)), some (handsD M), some (.int (spotOf ns p k)), some (.int k), some (.int (sz ns k)), some (.lst []), x10, x11])
        (fun t ρ => ∃ y10 y11, ρ = [some (.scr ns), some (.int p), some (.int top), some (.int (nh ns)), some (namesD (drawn (cel ns 6) 3)), some (handsD M), some (.int (spotOf ns p k + t * p : Nat)), some (.int k), some (.int (sz ns k)), some (wD ((List.range t).map (wor ns p top (spotOf ns p k)))), y10, y11]) (sz ns k) (by simp) (by omega)
        ⟨x10, x11, by simp [wD]⟩ (by
          rintro t ρ ht ⟨y10, y11, rfl⟩
          simp only [List.map_cons, List.map_nil, List.length_cons, List.length_nil, List.cons_append, List.nil_append, List.replicate, Nat.zero_add, Nat.reduceAdd, Nat.reduceSub, List.set_cons_zero, List.set_cons_succ]
          have lc : mLc [11] (tgN 11) (iR1 (mVar 1)) (tYesM) (mArgs m__law_number (mA1 (mArgs m__law_cell (mA1 (mVar 0) (mA1 (m2 gAdd (mVar 6) (mVar 11)) (mA0)))) (mA1 (mVar 2) (mA0)))) [some (.scr ns), some (.int p), some (.int top), some (.int (nh ns)), some (namesD (drawn (cel ns 6) 3)), some (handsD M), some (.int (spotOf ns p k + t * p : Nat)), some (.int k), some (.int (sz ns k)), some (wD ((List.range t).map (wor ns p top (spotOf ns p k)))), some (.int t), y11] = .ok (numsD (wor ns p top (spotOf ns p k) t)) := by
            rw [lc_r (j := 11) p (fun j => .int (num (cel ns (spotOf ns p k + t * p + j)) top)) (by simp) (by omega) (fun j hj => by
              have c := cell_at ns (i := ((spotOf ns p k + t * p : Nat) : Int) + (j : Int)) (spotOf ns p k + t * p + j) (by simp)
              simp [wipeR] at c ⊢
              simp [c, num_ok _ top h h2])]
            unfold numsD wor
            rw [List.map_map]; rfl
          have ap : nApp (numsD (wor ns p top (spotOf ns p k) t)) (wD ((List.range t).map (wor ns p top (spotOf ns p k)))) = some (wD ((List.range (t + 1)).map (wor ns p top (spotOf ns p k)))) := by
            unfold wD
            rw [nApp_lst (b24 (by simp; omega)), List.range_succ]; simp
          generalize wD ((List.range t).map (wor ns p top (spotOf ns p k))) = A at *
          generalize wD ((List.range (t + 1)).map (wor ns p top (spotOf ns p k))) = A' at *
          rw [show spotOf ns p k + (t + 1) * p = spotOf ns p k + t * p + p by rw [Nat.add_mul, Nat.one_mul, Nat.add_assoc]]
          generalize spotOf ns p k + t * p = q at lc ⊢
          refine ⟨[some (.scr ns), some (.int p), some (.int top), some (.int (nh ns)), some (namesD (drawn (cel ns 6) 3)), some (handsD M), some (.int (q + p : Nat)), some (.int k), some (.int (sz ns k)), some A', some (.int t), y11], ?_, _, _, rfl⟩
          simp [lc, ap])
      have nm : m__law_names [.int (cel ns (3 + k)), .int (sz ns k)] = .ok (namesD (drawn (cel ns (3 + k)) (sz ns k))) := law_names_ok _ (by omega)
      have tp : gTup [.str (nms (cel ns 6) k), namesD (drawn (cel ns (3 + k)) (sz ns k)), wD ((List.range (sz ns k)).map (wor ns p top (spotOf ns p k)))] = some (handOf ns p top k).d := tup3 _ _ _
      have ix := names_ix (drawn_at (c := cel ns 6) (many := 3) (k := k) (by omega))
      have ap : nApp (handOf ns p top k).d (handsD M) = some (handsD ((List.range (k + 1)).map (handOf ns p top))) := by
        unfold handsD
        have : M.length = k := by rw [← hM]; simp
        rw [nApp_lst (b24 (by rw [List.length_map]; omega)), List.range_succ, List.map_append, hM]; simp
      generalize handsD ((List.range (k + 1)).map (handOf ns p top)) = A' at *
      generalize wD ((List.range (sz ns k)).map (wor ns p top (spotOf ns p k))) = B at *
      refine ⟨[some (.scr ns), some (.int p), some (.int top), some (.int (nh ns)), some (namesD (drawn (cel ns 6) 3)), some A', some (.int (spotOf ns p (k + 1))), some (.int k), some (.int (sz ns k)), some B, y10, y11], ?_, _, _, _, _, _, rfl⟩
      rw [e, Out.nx_bind]
      rw [show spotOf ns p (k + 1) = spotOf ns p k + sz ns k * p from rfl]
      simp [c3, nm, ix, tp, ap])
  rw [e]
  simp
  rfl
def T57 : Int := 10 ^ 57
def T59 : Int := 10 ^ 59
theorem pow57 : gPow (.int 10) (.int 57) = some (.int T57) := gPow_10 (k := 57) (by decide)
theorem pow59 : gPow (.int 10) (.int 59) = some (.int T59) := gPow_10 (k := 59) (by decide)
theorem num59 (c : Int) : m__law_number [.int c, .int T59] = .ok (.int (num c T59)) := num_ok _ _ (by decide) (by decide)
def Wof (ns : List Int) (k : Nat) : Int := 1 + (num (cel ns (44 + k)) T59).natAbs
def Cof (ns : List Int) (j : Nat) : Int := num (cel ns (47 + j)) T59
theorem Wof_bnd (ns : List Int) (k : Nat) : 1 ≤ Wof ns k ∧ Wof ns k ≤ T59 + 1 := by
  have := num_le (cel ns (44 + k)) T59 (by decide)
  unfold Wof; omega
theorem Cof_bnd (ns : List Int) (k : Nat) : -T59 ≤ Cof ns k ∧ Cof ns k ≤ T59 := num_le _ _ (by decide)
theorem weights_ok (ns : List Int) {n : Nat} (hn : n < 1000000) : m__law_weights [.scr ns, .int n] = .ok (rowD n (Wof ns)) := by
  rw [m__law_weights]
  refine call_rt ?_
  rw [b__law_weights]
  simp only [List.map_cons, List.map_nil, List.length_cons, List.length_nil, List.cons_append, List.nil_append, List.replicate, Nat.zero_add, Nat.reduceAdd, Nat.reduceSub, List.set_cons_zero, List.set_cons_succ]
  rw [sRet_eq, lc_r (j := 2) n (fun k => .int (Wof ns k)) (by simp) hn (fun k hk => by
    have c := cell_at ns (i := 44 + (k : Int)) (44 + k) (by simp)
    simp [wipeR, c, pow59, num59]
    unfold Wof
    split <;> omega)]
  rfl
theorem handicaps_ok (ns : List Int) {n : Nat} (hn : n < 1000000) : m__law_handicaps [.scr ns, .int n] = .ok (rowD n (Cof ns)) := by
  rw [m__law_handicaps]
  refine call_rt ?_
  rw [b__law_handicaps]
  simp only [List.map_cons, List.map_nil, List.length_cons, List.length_nil, List.cons_append, List.nil_append, List.replicate, Nat.zero_add, Nat.reduceAdd, Nat.reduceSub, List.set_cons_zero, List.set_cons_succ]
  rw [sRet_eq, lc_r (j := 2) n (fun k => .int (Cof ns k)) (by simp) hn (fun k hk => by
    have c := cell_at ns (i := 47 + (k : Int)) (47 + k) (by simp)
    simp [wipeR, c, pow59, num59]
    rfl)]
  rfl
def pl (ns : List Int) : Nat := (1 + cel ns 0 % 4).toNat
theorem pl_eq (ns : List Int) : (pl ns : Int) = 1 + cel ns 0 % 4 := by
  have := mod_bnd (cel ns 0) (k := 4) (by decide)
  unfold pl; omega
theorem pl_bnd (ns : List Int) : 1 ≤ pl ns ∧ pl ns ≤ 4 := by
  have := mod_bnd (cel ns 0) (k := 4) (by decide)
  have := pl_eq ns
  omega
theorem Wof_ok (ns : List Int) (k : Nat) : 1 ≤ Wof ns k ∧ Wof ns k < T60 := by
  have := Wof_bnd ns k
  have : T59 + 1 < T60 := by decide
  omega
theorem Cof_ok (ns : List Int) (k : Nat) : -T60 < Cof ns k ∧ Cof ns k < T60 := by
  have := Cof_bnd ns k
  have : T59 < T60 := by decide
  omega
def crossR (rows : List (List Str)) (words : List Str) : List (List Str) := rows.flatMap fun row => words.map fun w => row ++ [w]
def rowsW (ws : List (List Str)) : List (List Str) := ws.foldl crossR [[]]
def rowT (row : List Str) : D := .tup (row.map D.str)
def rowsD (rows : List (List Str)) : D := .lst (rows.map rowT)
theorem crossR_len (rows : List (List Str)) (words : List Str) : (crossR rows words).length = rows.length * words.length := by
  unfold crossR
  induction rows with
  | nil => simp
  | cons r rows ih => rw [List.flatMap_cons, List.length_append, ih, List.length_map, List.length_cons, Nat.add_mul, Nat.one_mul]; omega
end TW

-- TWRows
namespace TW
open PySem PySem.Spec PyProof.Rows L2
theorem crossR_snoc {rows : List (List Str)} {r : List Str} {words : List Str} : crossR (rows ++ [r]) words = crossR rows words ++ words.map (fun w => r ++ [w]) := by
  unfold crossR; rw [List.flatMap_append]; simp
theorem rowsD_snoc {rows : List (List Str)} {r : List Str} (h : rows.length < 1000000) : nApp (rowT r) (rowsD rows) = some (rowsD (rows ++ [r])) := by
  unfold rowsD
  rw [nApp_lst (b24 (by rw [List.length_map]; exact h)), List.map_append]; rfl
theorem rowT_add {r : List Str} {w : Str} (h : r.length < 1000) : gAdd (rowT r) (.tup [.str w]) = some (rowT (r ++ [w])) := by
  unfold rowT
  rw [gAdd_tup (b24' (by simp; omega)), List.map_append]; rfl
theorem one_t {x : D} : gTup [x] = some (.tup [x]) := gTup_eq (show 1 ≤ sizeLine by decide)
theorem cross_loop {mi : Rho → Res (List D)} {x0 x2 x4 x5 : Option D} {rows : List (List Str)} {words : List Str} (hm : ∀ x3 x4 x5, mi [x0, some (rowsD rows), x2, x3, x4, x5] = .ok (words.map D.str)) (hl : rows.length * words.length < 1000000) (hr : ∀ r ∈ rows, r.length < 1000) :
    ∃ y4 y5, sFor (tgN 4) (iAny (mVar 1)) (sFor (tgN 5) mi (sApp 3 (pNil) (m2 gAdd (mVar 4) (mL gTup (mA1 (mVar 5) (mA0)))))) [x0, some (rowsD rows), x2, some (.lst []), x4, x5] = .nx [x0, some (rowsD rows), x2, some (rowsD (crossR rows words)), y4, y5] := by
  obtain ⟨ρ', e, y4, y5, rfl⟩ := for_m (j := 4) (m := iAny (mVar 1)) (b := sFor (tgN 5) mi (sApp 3 (pNil) (m2 gAdd (mVar 4) (mL gTup (mA1 (mVar 5) (mA0)))))) (ρ := [x0, some (rowsD rows), x2, some (.lst []), x4, x5])
    (fun i ρ => ∃ y4 y5, ρ = [x0, some (rowsD rows), x2, some (rowsD (crossR (rows.take i) words)), y4, y5]) rows rowT (by simp [rowsD]) ⟨_, _, rfl⟩ (by
      rintro i r ρ hd ⟨y4, y5, rfl⟩
      have hrm := hr r (List.mem_of_getElem? hd)
      have hi : i < rows.length := (List.getElem?_eq_some_iff.mp hd).1
      have t1 : rows.take (i + 1) = rows.take i ++ [r] := by rw [List.take_add_one, hd]; rfl
      have hc : (rows.take i).length * words.length + words.length < 1000000 := by
        have : (i + 1) * words.length ≤ rows.length * words.length := Nat.mul_le_mul_right _ (by omega)
        rw [List.length_take, Nat.min_eq_left (by omega)]
        rw [Nat.add_mul, Nat.one_mul] at this
        omega
      simp only [List.map_cons, List.map_nil, List.length_cons, List.length_nil, List.cons_append, List.nil_append, List.replicate, Nat.zero_add, Nat.reduceAdd, Nat.reduceSub, List.set_cons_zero, List.set_cons_succ]
      obtain ⟨ρ', e, z5, rfl⟩ := for_m (j := 5) (m := mi) (b := sApp 3 (pNil) (m2 gAdd (mVar 4) (mL gTup (mA1 (mVar 5) (mA0))))) (ρ := [x0, some (rowsD rows), x2, some (rowsD (crossR (rows.take i) words)), some (rowT r), y5])
        (fun j ρ => ∃ z5, ρ = [x0, some (rowsD rows), x2, some (rowsD (crossR (rows.take i) words ++ (words.take j).map fun w => r ++ [w])), some (rowT r), z5]) words D.str (hm _ _ _) ⟨y5, by simp⟩ (by
          rintro j w ρ hw ⟨z5, rfl⟩
          have hj : j < words.length := (List.getElem?_eq_some_iff.mp hw).1
          have t2 : words.take (j + 1) = words.take j ++ [w] := by rw [List.take_add_one, hw]; rfl
          have ap := rowsD_snoc (rows := crossR (rows.take i) words ++ (words.take j).map fun w => r ++ [w]) (r := r ++ [w]) (by
            have : (words.take j).length ≤ words.length := by rw [List.length_take]; omega
            rw [List.length_append, crossR_len, List.length_map]; omega)
          rw [t2, List.map_append, ← List.append_assoc]
          generalize crossR (rows.take i) words ++ (words.take j).map (fun w => r ++ [w]) = A at *
          simp only [List.map_cons, List.map_nil, List.length_cons, List.length_nil, List.cons_append, List.nil_append, List.replicate, Nat.zero_add, Nat.reduceAdd, Nat.reduceSub, List.set_cons_zero, List.set_cons_succ]
          refine ⟨[x0, some (rowsD rows), x2, some (rowsD (A ++ [r ++ [w]])), some (rowT r), some (.str w)], ?_, _, rfl⟩
          simp [one_t, rowT_add hrm, ap])
      rw [List.take_length] at e
      rw [t1, crossR_snoc]
      exact ⟨_, e, _, _, rfl⟩)
  rw [List.take_length] at e
  exact ⟨y4, y5, e⟩
theorem rowsW_snoc {ws : List (List Str)} {w : List Str} : rowsW (ws ++ [w]) = crossR (rowsW ws) w := by unfold rowsW; rw [List.foldl_append]; rfl
def wordsOf (hs : List Hand) : List (List Str) := hs.map Hand.words
theorem rowsW_len : ∀ hs : List Hand, (rowsW (wordsOf hs)).length = ways hs := by
  intro hs
  have : ∀ (hs : List Hand) (rows : List (List Str)), ((wordsOf hs).foldl crossR rows).length = rows.length * ways hs := by
    intro hs
    induction hs with
    | nil => intro rows; simp [wordsOf, ways]
    | cons h hs ih =>
      intro rows
      show ((wordsOf hs).foldl crossR (crossR rows h.words)).length = rows.length * (h.words.length * ways hs)
      rw [ih, crossR_len, Nat.mul_assoc]
  have := this hs [[]]
  simpa [rowsW] using this
theorem mem_crossR {rows : List (List Str)} {words : List Str} {x : List Str} : x ∈ crossR rows words ↔ ∃ r ∈ rows, ∃ w ∈ words, x = r ++ [w] := by
  unfold crossR
  rw [List.mem_flatMap]
  constructor
  · rintro ⟨r, hr, hx⟩
    obtain ⟨w, hw, rfl⟩ := List.mem_map.mp hx
    exact ⟨r, hr, w, hw, rfl⟩
  · rintro ⟨r, hr, w, hw, rfl⟩
    exact ⟨r, hr, List.mem_map.mpr ⟨w, hw, rfl⟩⟩
def Row : List (List Str) → List Str → Prop
  | [], r => r = []
  | w :: ws, r => ∃ x r', r = x :: r' ∧ x ∈ w ∧ Row ws r'
theorem row_snoc : ∀ {ws : List (List Str)} {w : List Str} {r : List Str}, Row (ws ++ [w]) r ↔ ∃ r' x, r = r' ++ [x] ∧ Row ws r' ∧ x ∈ w
  | [], w, r => by
    constructor
    · rintro ⟨x, r', rfl, hx, h⟩
      exact ⟨[], x, by rw [show r' = [] from h]; rfl, rfl, hx⟩
    · rintro ⟨r', x, rfl, h, hx⟩
      exact ⟨x, [], by rw [show r' = [] from h]; rfl, hx, rfl⟩
  | v :: ws, w, r => by
    constructor
    · rintro ⟨x, r', rfl, hx, h⟩
      obtain ⟨r2, y, rfl, h2, hy⟩ := row_snoc.mp h
      exact ⟨x :: r2, y, rfl, ⟨x, r2, rfl, hx, h2⟩, hy⟩
    · rintro ⟨r2, y, rfl, ⟨x, r', rfl, hx, h⟩, hy⟩
      exact ⟨x, r' ++ [y], rfl, hx, row_snoc.mpr ⟨r', y, rfl, h, hy⟩⟩
theorem row_iff {ws : List (List Str)} : ∀ {r : List Str}, r ∈ rowsW ws ↔ Row ws r := by
  suffices h : ∀ vs : List (List Str), (∀ r, r ∈ rowsW vs.reverse ↔ Row vs.reverse r) by
    intro r
    have := h ws.reverse r
    rwa [List.reverse_reverse] at this
  intro vs
  induction vs with
  | nil => intro r; simp [rowsW, Row]
  | cons v vs ih =>
    intro r
    rw [List.reverse_cons, rowsW_snoc, mem_crossR, row_snoc]
    constructor
    · rintro ⟨r', h, x, hx, rfl⟩; exact ⟨r', x, rfl, (ih r').mp h, hx⟩
    · rintro ⟨r', x, rfl, h, hx⟩; exact ⟨r', (ih r').mpr h, x, hx, rfl⟩
theorem Row.len : ∀ {ws : List (List Str)} {r : List Str}, Row ws r → r.length = ws.length
  | [], r, h => by rw [show r = [] from h]; rfl
  | w :: ws, r, ⟨x, r', e, _, h⟩ => by rw [e, List.length_cons, List.length_cons, Row.len h]
theorem Row.at : ∀ {ws : List (List Str)} {r : List Str}, Row ws r → ∀ {k : Nat} {w : List Str}, ws[k]? = some w → ∃ x, r[k]? = some x ∧ x ∈ w
  | w :: ws, r, ⟨x, r', e, hx, h⟩, 0, v, hv => by cases hv; exact ⟨x, by rw [e]; rfl, hx⟩
  | w :: ws, r, ⟨x, r', e, hx, h⟩, k + 1, v, hv => by
    obtain ⟨y, hy, hm⟩ := Row.at h (k := k) hv
    exact ⟨y, by rw [e]; exact hy, hm⟩
theorem rows_len_lt {hs : List Hand} {r : List Str} (h : r ∈ rowsW (wordsOf hs)) : r.length = hs.length := by
  rw [(row_iff.mp h).len]; unfold wordsOf; simp
theorem law_rows_gen {hs : List Hand} (hl : hs.length < 900) (hw : ways hs < 1000) (ho : ∀ h ∈ hs, 1 ≤ h.words.length) : m__law_rows [handsD hs] = .ok (rowsD (rowsW (wordsOf hs))) := by
  rw [m__law_rows]
  refine call_rt ?_
  rw [b__law_rows]
  simp only [List.map_cons, List.map_nil, List.length_cons, List.length_nil, List.cons_append, List.nil_append, List.replicate, Nat.zero_add, Nat.reduceAdd, Nat.reduceSub, List.set_cons_zero, List.set_cons_succ]
  rw [seq_set (d := rowsD [[]]) (by
    simp [show gTup [] = some (.tup []) from gTup_eq (Nat.zero_le _), one_l]; rfl)]
  simp only [List.map_cons, List.map_nil, List.length_cons, List.length_nil, List.cons_append, List.nil_append, List.replicate, Nat.zero_add, Nat.reduceAdd, Nat.reduceSub, List.set_cons_zero, List.set_cons_succ]
  rw [sSeq_eq]
  generalize hb : sSeq (sSet 3 _) _ = b
  obtain ⟨ρ', e, x2, x3, x4, x5, rfl⟩ := for_m (j := 2) (m := iAny (mVar 0)) (b := b) (ρ := [some (handsD hs), some (rowsD [[]]), none, none, none, none])
    (fun i ρ => ∃ x2 x3 x4 x5, ρ = [some (handsD hs), some (rowsD (rowsW (wordsOf (hs.take i)))), x2, x3, x4, x5]) hs Hand.d (by simp [handsD]) ⟨_, _, _, _, rfl⟩ (by
      rintro i h ρ hd ⟨x2, x3, x4, x5, rfl⟩
      subst hb
      have hi : i < hs.length := (List.getElem?_eq_some_iff.mp hd).1
      have t1 : hs.take (i + 1) = hs.take i ++ [h] := by rw [List.take_add_one, hd]; rfl
      have w1 := ways_take ho (i + 1)
      rw [t1, ways_snoc] at w1
      have i1 : gIx h.d (.int 1) = some (namesD h.words) := id rfl
      have t2 : rowsW (wordsOf (hs.take (i + 1))) = crossR (rowsW (wordsOf (hs.take i))) h.words := by
        rw [t1, ← rowsW_snoc]; unfold wordsOf; rw [List.map_append]; rfl
      have hr : ∀ r ∈ rowsW (wordsOf (hs.take i)), r.length < 1000 := fun r hr => by
        have := rows_len_lt hr
        rw [List.length_take] at this; omega
      have rl := rowsW_len (hs.take i)
      rw [t2]
      generalize rowsW (wordsOf (hs.take i)) = R at *
      simp only [List.map_cons, List.map_nil, List.length_cons, List.length_nil, List.cons_append, List.nil_append, List.replicate, Nat.zero_add, Nat.reduceAdd, Nat.reduceSub, List.set_cons_zero, List.set_cons_succ]
      rw [seq_set (d := .lst []) (by simp [nil_l])]
      simp only [List.map_cons, List.map_nil, List.length_cons, List.length_nil, List.cons_append, List.nil_append, List.replicate, Nat.zero_add, Nat.reduceAdd, Nat.reduceSub, List.set_cons_zero, List.set_cons_succ]
      obtain ⟨y4, y5, e⟩ := cross_loop (mi := iAny (m2 gIx (mVar 2) (mC (.int 1)))) (x0 := some (handsD hs)) (x2 := some h.d) (x4 := x4) (x5 := x5) (rows := R) (words := h.words) (fun x3 x4 x5 => by simp [i1, iLoc_names]) (by rw [rl]; omega) hr
      refine ⟨[some (handsD hs), some (rowsD (crossR R h.words)), some h.d, some (rowsD (crossR R h.words)), y4, y5], ?_, _, _, _, _, rfl⟩
      rw [sSeq_eq, e]
      simp)
  rw [e, List.take_length]
  simp
theorem crossed_gen {hs : List Hand} (hl : hs.length < 900) (hw : ways hs < 1000) (ho : ∀ h ∈ hs, 1 ≤ h.words.length) : m_crossed [.lst (hs.map fun h => .ftup (h.words.map D.str))] = .ok (rowsD (rowsW (wordsOf hs))) := by
  rw [m_crossed]
  refine call_rt ?_
  rw [b_crossed]
  simp only [List.map_cons, List.map_nil, List.length_cons, List.length_nil, List.cons_append, List.nil_append, List.replicate, Nat.zero_add, Nat.reduceAdd, Nat.reduceSub, List.set_cons_zero, List.set_cons_succ]
  rw [seq_set (d := rowsD [[]]) (by
    simp [show gTup [] = some (.tup []) from gTup_eq (Nat.zero_le _), one_l]; rfl)]
  simp only [List.map_cons, List.map_nil, List.length_cons, List.length_nil, List.cons_append, List.nil_append, List.replicate, Nat.zero_add, Nat.reduceAdd, Nat.reduceSub, List.set_cons_zero, List.set_cons_succ]
  rw [sSeq_eq]
  generalize hb : sSeq (sSet 3 _) _ = b
  generalize hx0 : (D.lst (hs.map fun h => .ftup (h.words.map D.str))) = x0
  obtain ⟨ρ', e, x2, x3, x4, x5, rfl⟩ := for_m (j := 2) (m := iAny (mVar 0)) (b := b) (ρ := [some x0, some (rowsD [[]]), none, none, none, none])
    (fun i ρ => ∃ x2 x3 x4 x5, ρ = [some x0, some (rowsD (rowsW (wordsOf (hs.take i)))), x2, x3, x4, x5]) hs (fun h => .ftup (h.words.map D.str)) (by subst hx0; simp) ⟨_, _, _, _, rfl⟩ (by
      rintro i h ρ hd ⟨x2, x3, x4, x5, rfl⟩
      subst hb
      have hi : i < hs.length := (List.getElem?_eq_some_iff.mp hd).1
      have t1 : hs.take (i + 1) = hs.take i ++ [h] := by rw [List.take_add_one, hd]; rfl
      have w1 := ways_take ho (i + 1)
      rw [t1, ways_snoc] at w1
      have t2 : rowsW (wordsOf (hs.take (i + 1))) = crossR (rowsW (wordsOf (hs.take i))) h.words := by
        rw [t1, ← rowsW_snoc]; unfold wordsOf; rw [List.map_append]; rfl
      have hr : ∀ r ∈ rowsW (wordsOf (hs.take i)), r.length < 1000 := fun r hr => by
        have := rows_len_lt hr
        rw [List.length_take] at this; omega
      have rl := rowsW_len (hs.take i)
      rw [t2]
      generalize rowsW (wordsOf (hs.take i)) = R at *
      simp only [List.map_cons, List.map_nil, List.length_cons, List.length_nil, List.cons_append, List.nil_append, List.replicate, Nat.zero_add, Nat.reduceAdd, Nat.reduceSub, List.set_cons_zero, List.set_cons_succ]
      rw [seq_set (d := .lst []) (by simp [nil_l])]
      simp only [List.map_cons, List.map_nil, List.length_cons, List.length_nil, List.cons_append, List.nil_append, List.replicate, Nat.zero_add, Nat.reduceAdd, Nat.reduceSub, List.set_cons_zero, List.set_cons_succ]
      obtain ⟨y4, y5, e⟩ := cross_loop (mi := iAny (mVar 2)) (x0 := some x0) (x2 := some (.ftup (h.words.map D.str))) (x4 := x4) (x5 := x5) (rows := R) (words := h.words) (fun x3 x4 x5 => by simp) (by rw [rl]; omega) hr
      refine ⟨[some x0, some (rowsD (crossR R h.words)), some (.ftup (h.words.map D.str)), some (rowsD (crossR R h.words)), y4, y5], ?_, _, _, _, _, rfl⟩
      rw [sSeq_eq, e]
      simp)
  rw [e, List.take_length]
  simp
theorem HandsOk.pos {p : Nat} {hs : List Hand} (h : HandsOk p hs) : ∀ g ∈ hs, 1 ≤ g.words.length := fun g hg => (h.ok g hg).words.lo
theorem law_rows_ok {p : Nat} {hs : List Hand} (h : HandsOk p hs) : m__law_rows [handsD hs] = .ok (rowsD (rowsW (wordsOf hs))) := law_rows_gen (by have := h.hi; omega) (by have := h.many; omega) h.pos
theorem rows_of_ok {p : Nat} {outs : List Str} {hs : List Hand} (h : HandsOk p hs) : m_rows_of [houseD outs hs] = .ok (rowsD (rowsW (wordsOf hs))) := by
  rw [m_rows_of]
  refine call_rt ?_
  rw [b_rows_of]
  simp only [List.map_cons, List.map_nil, List.length_cons, List.length_nil, List.cons_append, List.nil_append, List.replicate, Nat.zero_add, Nat.reduceAdd, Nat.reduceSub, List.set_cons_zero, List.set_cons_succ]
  have i1 : gIx (houseD outs hs) (.int 1) = some (.tup (hs.map Hand.m)) := id rfl
  have hl := h.hi
  have e : mLc [1] (tgN 1) (iAny (m2 gIx (mVar 0) (mC (.int 1)))) (tYesM) (m2 gIx (mVar 1) (mC (.int 1))) [some (houseD outs hs), none] = .ok (.lst (hs.map fun h => .ftup (h.words.map D.str))) := by
    refine lc_m hs Hand.m _ (by simp [i1]) (by omega) (fun x hx => ?_)
    simp [wipeR, show gIx x.m (.int 1) = some (.ftup (x.words.map D.str)) from id rfl]
  simp [e, crossed_gen (hs := hs) (by omega) (by have := h.many; omega) h.pos]
end TW

-- TWScores
namespace TW
open PySem PySem.Spec PyProof.Rows L2
def wf (h : Hand) (w : Str) (j : Nat) : Int := (h.worths.getD (h.words.idxOf w) []).getD j 0
def nilH : Hand := ⟨Str.empty, [], []⟩
def hat (hs : List Hand) (k : Nat) : Hand := hs.getD k nilH
def wat (row : List Str) (k : Nat) : Str := row.getD k Str.empty
def sc (hs : List Hand) (W C : Nat → Int) (row : List Str) : Nat → Nat → Int
  | 0, j => C j
  | k + 1, j => sc hs W C row k j + W k * wf (hat hs k) (wat row k) j
theorem hat_at {hs : List Hand} {k : Nat} (h : k < hs.length) : hs[k]? = some (hat hs k) := by unfold hat; rw [List.getD_eq_getElem?_getD, List.getElem?_eq_getElem h]; rfl
theorem hat_mem {hs : List Hand} {k : Nat} (h : k < hs.length) : hat hs k ∈ hs := List.mem_of_getElem? (hat_at h)
theorem wat_at {row : List Str} {k : Nat} (h : k < row.length) : row[k]? = some (wat row k) := by unfold wat; rw [List.getD_eq_getElem?_getD, List.getElem?_eq_getElem h]; rfl
def RowOf (hs : List Hand) (row : List Str) : Prop := row.length = hs.length ∧ ∀ k, k < hs.length → wat row k ∈ (hat hs k).words
theorem Row.of {hs : List Hand} {row : List Str} (h : Row (wordsOf hs) row) : RowOf hs row := by
  have hl : row.length = hs.length := by rw [h.len]; unfold wordsOf; simp
  refine ⟨hl, fun k hk => ?_⟩
  obtain ⟨x, e, hx⟩ := h.at (k := k) (w := (hat hs k).words) (by unfold wordsOf; rw [List.getElem?_map, hat_at hk]; rfl)
  rw [wat_at (by omega)] at e
  cases e
  exact hx
theorem rowOf_mem {hs : List Hand} {row : List Str} (h : row ∈ rowsW (wordsOf hs)) : RowOf hs row := (row_iff.mp h).of
section
variable {hs : List Hand} {outs : List Str} {p : Nat} {row : List Str} {W C : Nat → Int}
theorem house_hand {k : Nat} (hk : k < hs.length) : gIx (.tup (hs.map Hand.m)) (.int k) = some (hat hs k).m := by
  show atI (hs.map Hand.m) (k : Int) = _
  rw [atI_nat (by simpa using hk), List.getElem?_map, hat_at hk]; rfl
theorem hands_hand {k : Nat} (hk : k < hs.length) : gIx (handsD hs) (.int k) = some (hat hs k).d := by
  show atI (hs.map Hand.d) (k : Int) = _
  rw [atI_nat (by simpa using hk), List.getElem?_map, hat_at hk]; rfl
theorem row_word {k : Nat} (hk : k < row.length) : gIx (rowT row) (.int k) = some (.str (wat row k)) := by
  show atI (row.map D.str) (k : Int) = _
  rw [atI_nat (by simpa using hk), List.getElem?_map, wat_at hk]; rfl
theorem idx_find {l : List Str} {w : Str} (h : w ∈ l) : l.findIdx? (· == w) = some (l.idxOf w) :=
  List.findIdx?_eq_some_of_exists ⟨w, h, beq_self_eq_true w⟩
theorem index_ft {l : List Str} {w : Str} (h : w ∈ l) : gIndex (.ftup (l.map D.str)) (.str w) = some (.int (l.idxOf w)) := by
  show ((strsOf (l.map D.str)).bind fun ss => (ss.findIdx? (· == w)).map fun j : Nat => D.int j) = _
  rw [strsOf_map]
  show ((l.findIdx? (· == w)).map fun j : Nat => D.int j) = _
  rw [idx_find h]; rfl
theorem index_names {l : List Str} {w : Str} (h : w ∈ l) : gIndex (namesD l) (.str w) = some (.int (l.idxOf w)) := by
  show ((strsOf (l.map D.str)).bind fun ss => (ss.findIdx? (· == w)).map fun j : Nat => D.int j) = _
  rw [strsOf_map]
  show ((l.findIdx? (· == w)).map fun j : Nat => D.int j) = _
  rw [idx_find h]; rfl
theorem Hand.Ok.wor {h : Hand} (o : h.Ok p) {w : Str} (hw : w ∈ h.words) : ∃ r, h.worths[h.words.idxOf w]? = some r ∧ r.length = p ∧ (∀ z ∈ r, -T60 < z ∧ z < T60) ∧ ∀ j, wf h w j = r.getD j 0 := by
  have hi := List.idxOf_lt_length_iff.mpr hw
  have hl : h.words.idxOf w < h.worths.length := by rw [o.len]; exact hi
  refine ⟨h.worths[h.words.idxOf w], List.getElem?_eq_getElem hl, o.row _ (List.getElem_mem _), o.num _ (List.getElem_mem _), fun j => ?_⟩
  unfold wf
  rw [List.getD_eq_getElem?_getD (l := h.worths), List.getElem?_eq_getElem hl]; rfl
theorem Hand.Ok.wf_bnd {h : Hand} (o : h.Ok p) {w : Str} (hw : w ∈ h.words) {j : Nat} (hj : j < p) : -T60 < wf h w j ∧ wf h w j < T60 := by
  obtain ⟨r, _, hr, hn, e⟩ := o.wor hw
  rw [e j, List.getD_eq_getElem?_getD, List.getElem?_eq_getElem (by omega)]
  exact hn _ (List.getElem_mem _)
theorem map_range {α β : Type} {r : List α} {d : α} (g : α → β) : r.map g = (List.range r.length).map fun j => g (r.getD j d) := by
  refine List.ext_getElem (by simp) fun i h1 h2 => ?_
  rw [List.getElem_map, List.getElem_map, List.getElem_range]
  rw [List.getD_eq_getElem?_getD, List.getElem?_eq_getElem (by simpa using h1)]; rfl
def B250 (W : Nat → Int) (n : Nat) : Prop := ∀ k, k < n → (W k).natAbs < 2 ^ 250
theorem T60_250 {z : Int} (h : -T60 < z ∧ z < T60) : z.natAbs < 2 ^ 250 := by
  have : z.natAbs < T60.natAbs := by omega
  exact Nat.lt_trans this (by decide)
theorem nums_row {r : List Int} (h : r.length = p) : numsD r = rowD p fun j => r.getD j 0 := by
  unfold numsD rowD
  rw [map_range (d := 0) (r := r), h]
theorem worths_at {k : Nat} {h : Hand} (o : h.Ok p) {w : Str} (hw : w ∈ h.words) : ∃ r, gIx (.tup (h.worths.map tints)) (.int (h.words.idxOf w)) = some (tints r) ∧ gIx (wD h.worths) (.int (h.words.idxOf w)) = some (rowD p (wf h w)) ∧ r.length = p ∧ (∀ z ∈ r, -T60 < z ∧ z < T60) ∧ ∀ j, wf h w j = r.getD j 0 := by
  obtain ⟨r, e, a, b, c⟩ := o.wor hw
  have hl := (List.getElem?_eq_some_iff.mp e).1
  refine ⟨r, ?_, ?_, a, b, c⟩
  · show atI _ ((h.words.idxOf w : Nat) : Int) = _
    rw [atI_nat (by simpa using hl), List.getElem?_map, e]; rfl
  · rw [show rowD p (wf h w) = numsD r from (rowD_congr fun j _ => c j).trans (nums_row a).symm]
    show atI _ ((h.words.idxOf w : Nat) : Int) = _
    rw [atI_nat (by simpa using hl), List.getElem?_map, e]; rfl
theorem parts_ok {k : Nat} (hh : HandsOk p hs) (hp : p < 1000) (hr : RowOf hs row) (hk : k < hs.length) (hW : B250 W hs.length) : m_parts [houseD outs hs, rowD hs.length W, rowT row, .int k] = .ok (rowD p fun j => W k * wf (hat hs k) (wat row k) j) := by
  have o := hh.ok _ (hat_mem hk)
  have hw := hr.2 k hk
  obtain ⟨r, e1, _, e2, e3, e4⟩ := worths_at (k := k) o hw
  rw [m_parts]
  refine call_rt ?_
  rw [b_parts]
  simp only [List.map_cons, List.map_nil, List.length_cons, List.length_nil, List.cons_append, List.nil_append, List.replicate, Nat.zero_add, Nat.reduceAdd, Nat.reduceSub, List.set_cons_zero, List.set_cons_succ]
  have i1 : gIx (houseD outs hs) (.int 1) = some (.tup (hs.map Hand.m)) := id rfl
  rw [seq_set (d := (hat hs k).m) (by simp [i1, house_hand hk])]
  simp only [List.map_cons, List.map_nil, List.length_cons, List.length_nil, List.cons_append, List.nil_append, List.replicate, Nat.zero_add, Nat.reduceAdd, Nat.reduceSub, List.set_cons_zero, List.set_cons_succ]
  rw [seq_set (d := tints r) (by
    simp [show gIx (hat hs k).m (.int 2) = some (.tup ((hat hs k).worths.map tints)) from id rfl, show gIx (hat hs k).m (.int 1) = some (.ftup ((hat hs k).words.map D.str)) from id rfl, row_word (show k < row.length by rw [hr.1]; exact hk), index_ft hw, e1])]
  simp only [List.map_cons, List.map_nil, List.length_cons, List.length_nil, List.cons_append, List.nil_append, List.replicate, Nat.zero_add, Nat.reduceAdd, Nat.reduceSub, List.set_cons_zero, List.set_cons_succ]
  rw [sRet_eq, lc_m r D.int (fun z => .int (W k * z)) (by simp [tints]) (by omega) (fun z hz => by
    simp [wipeR, row_ix hk, gMul_int (hW k hk) (T60_250 (e3 z hz))])]
  rw [map_range (d := 0) (r := r), e2]
  simp only [← e4]
  rfl
theorem zip_rows {n : Nat} {f g : Nat → Int} : gZip (rowD n f) (rowD n g) = some ((List.range n).map fun j => .tup [.int (f j), .int (g j)]) := by
  show some (zipL _ _) = _
  unfold zipL
  rw [List.zip_map']
  rw [List.map_map]; rfl
theorem lc_zip {ρ : Rho} {u v : Nat} {vs : List Nat} {me : Rho → Res D} {mi : Rho → Res (List D)} {n : Nat} {f g k : Nat → Int} (hn : n < 1000000) (hm : mi ρ = .ok ((List.range n).map fun j => .tup [.int (f j), .int (g j)])) (h : ∀ j, j < n → me (((wipeR ρ vs).set u (some (.int (f j)))).set v (some (.int (g j)))) = .ok (.int (k j))) :
    mLc vs (tgT [u, v]) mi tYesM me ρ = .ok (rowD n k) := by
  unfold mLc
  rw [hm, Res.bind_ok, if_pos (by rw [List.length_map, List.length_range]; exact b24 hn), compL_m (g := fun j => .int (k j)) (List.range n) (fun j hj => by
    have := h j (List.mem_range.mp hj)
    show (match some (((wipeR ρ vs).set u (some (.int (f j)))).set v (some (.int (g j)))) with
      | some ρ' => (tYesM ρ').bind fun k => if k = true then (me ρ').bind fun v => .ok (some v) else .ok none
      | none => .stuck) = _
    dsimp only
    rw [this]; rfl)]
  rfl
theorem summed_ok (hh : HandsOk p hs) (hp : p < 1000) (hr : RowOf hs row) (hW : B250 W hs.length) : m_summed [houseD outs hs, rowD hs.length W, rowD p C, rowT row] = .ok (rowD p (sc hs W C row hs.length)) := by
  have hl := hh.hi
  rw [m_summed]
  refine call_rt ?_
  rw [b_summed]
  simp only [List.map_cons, List.map_nil, List.length_cons, List.length_nil, List.cons_append, List.nil_append, List.replicate, Nat.zero_add, Nat.reduceAdd, Nat.reduceSub, List.set_cons_zero, List.set_cons_succ]
  have i1 : gIx (houseD outs hs) (.int 1) = some (.tup (hs.map Hand.m)) := id rfl
  rw [seq_set (d := rowD p C) (by simp [list_row])]
  simp only [List.map_cons, List.map_nil, List.length_cons, List.length_nil, List.cons_append, List.nil_append, List.replicate, Nat.zero_add, Nat.reduceAdd, Nat.reduceSub, List.set_cons_zero, List.set_cons_succ]
  rw [sSeq_eq]
  generalize hb : sSet 4 (mLc _ _ _ _ _) = b
  obtain ⟨ρ', e, x5, x6, x7, rfl⟩ := for_r (j := 5) (mi := mL gLen (mA1 (m2 gIx (mVar 0) (mC (.int 1))) (mA0))) (b := b) (ρ := [some (houseD outs hs), some (rowD hs.length W), some (rowD p C), some (rowT row), some (rowD p C), none, none, none])
    (fun k ρ => ∃ x5 x6 x7, ρ = [some (houseD outs hs), some (rowD hs.length W), some (rowD p C), some (rowT row), some (rowD p (sc hs W C row k)), x5, x6, x7]) hs.length (by simp [i1]) (by omega) ⟨_, _, _, rfl⟩ (by
      rintro k ρ hk ⟨x5, x6, x7, rfl⟩
      subst hb
      simp only [List.map_cons, List.map_nil, List.length_cons, List.length_nil, List.cons_append, List.nil_append, List.replicate, Nat.zero_add, Nat.reduceAdd, Nat.reduceSub, List.set_cons_zero, List.set_cons_succ]
      refine ⟨[some (houseD outs hs), some (rowD hs.length W), some (rowD p C), some (rowT row), some (rowD p (sc hs W C row (k + 1))), some (.int k), x6, x7], ?_, _, _, _, rfl⟩
      have e : mLc [6, 7] (tgT [6, 7]) (iZipM (mVar 4) (mArgs m_parts (mA1 (mVar 0) (mA1 (mVar 1) (mA1 (mVar 3) (mA1 (mVar 5) (mA0))))))) (tYesM) (m2 gAdd (mVar 6) (mVar 7)) [some (houseD outs hs), some (rowD hs.length W), some (rowD p C), some (rowT row), some (rowD p (sc hs W C row k)), some (.int k), x6, x7] = .ok (rowD p (sc hs W C row (k + 1))) := by
        refine lc_zip (n := p) (f := sc hs W C row k) (g := fun j => W k * wf (hat hs k) (wat row k) j) (by omega) ?_ (fun j hj => ?_)
        · have := parts_ok (outs := outs) hh hp hr hk hW
          show (Res.bind _ _) = _
          simp [this, zip_rows]
        · simp [wipeR]; rfl
      rw [sSet_eq, e]
      simp)
  rw [e]
  simp
theorem law_worths_ok {h : Hand} {w : Str} {r : D} (hw : w ∈ h.words) (e : gIx (wD h.worths) (.int (h.words.idxOf w)) = some r) : m__law_worths [h.d, .str w] = .ok r := by
  rw [m__law_worths]
  refine call_rt ?_
  rw [b__law_worths]
  simp only [List.map_cons, List.map_nil, List.length_cons, List.length_nil, List.cons_append, List.nil_append, List.replicate, Nat.zero_add, Nat.reduceAdd, Nat.reduceSub, List.set_cons_zero, List.set_cons_succ]
  simp [show gIx h.d (.int 2) = some (wD h.worths) from id rfl, show gIx h.d (.int 1) = some (namesD h.words) from id rfl, index_names hw, e]
theorem law_scores_ok (hh : HandsOk p hs) (hp : p < 1000) (hr : RowOf hs row) (hW : B250 W hs.length) : m__law_scores [handsD hs, rowD hs.length W, rowD p C, rowT row] = .ok (rowD p (sc hs W C row hs.length)) := by
  have hl := hh.hi
  rw [m__law_scores]
  refine call_rt ?_
  rw [b__law_scores]
  simp only [List.map_cons, List.map_nil, List.length_cons, List.length_nil, List.cons_append, List.nil_append, List.replicate, Nat.zero_add, Nat.reduceAdd, Nat.reduceSub, List.set_cons_zero, List.set_cons_succ]
  have ln : gLen [handsD hs] = some (.int hs.length) := by unfold handsD; simp
  rw [seq_set (d := rowD p C) (by simp [list_row])]
  simp only [List.map_cons, List.map_nil, List.length_cons, List.length_nil, List.cons_append, List.nil_append, List.replicate, Nat.zero_add, Nat.reduceAdd, Nat.reduceSub, List.set_cons_zero, List.set_cons_succ]
  rw [sSeq_eq]
  generalize hb : sSeq (sSet 6 _) _ = b
  obtain ⟨ρ', e, x5, x6, x7, rfl⟩ := for_r (j := 5) (mi := mL gLen (mA1 (mVar 0) (mA0))) (b := b) (ρ := [some (handsD hs), some (rowD hs.length W), some (rowD p C), some (rowT row), some (rowD p C), none, none, none])
    (fun k ρ => ∃ x5 x6 x7, ρ = [some (handsD hs), some (rowD hs.length W), some (rowD p C), some (rowT row), some (rowD p (sc hs W C row k)), x5, x6, x7]) hs.length (by simp [ln]) (by omega) ⟨_, _, _, rfl⟩ (by
      rintro k ρ hk ⟨x5, x6, x7, rfl⟩
      subst hb
      have o := hh.ok _ (hat_mem hk)
      have hw := hr.2 k hk
      obtain ⟨_, _, e1, _⟩ := worths_at (k := k) o hw
      simp only [List.map_cons, List.map_nil, List.length_cons, List.length_nil, List.cons_append, List.nil_append, List.replicate, Nat.zero_add, Nat.reduceAdd, Nat.reduceSub, List.set_cons_zero, List.set_cons_succ]
      rw [seq_set (d := rowD p (wf (hat hs k) (wat row k))) (by simp [hands_hand hk, row_word (show k < row.length by rw [hr.1]; exact hk), law_worths_ok hw e1])]
      simp only [List.map_cons, List.map_nil, List.length_cons, List.length_nil, List.cons_append, List.nil_append, List.replicate, Nat.zero_add, Nat.reduceAdd, Nat.reduceSub, List.set_cons_zero, List.set_cons_succ]
      obtain ⟨ρ', e, y7, rfl⟩ := for_r (j := 7) (mi := mL gLen (mA1 (mVar 4) (mA0))) (b := sPut 4 (pNil) (mVar 7) (m2 gAdd (m2 gIx (mVar 4) (mVar 7)) (m2 gMul (m2 gIx (mVar 1) (mVar 5)) (m2 gIx (mVar 6) (mVar 7)))))
        (ρ := [some (handsD hs), some (rowD hs.length W), some (rowD p C), some (rowT row), some (rowD p (sc hs W C row k)), some (.int k), some (rowD p (wf (hat hs k) (wat row k))), x7])
        (fun j ρ => ∃ y7, ρ = [some (handsD hs), some (rowD hs.length W), some (rowD p C), some (rowT row), some (rowD p fun i => if i < j then sc hs W C row (k + 1) i else sc hs W C row k i), some (.int k), some (rowD p (wf (hat hs k) (wat row k))), y7]) p (by simp [row_len]) (by omega) ⟨_, rfl⟩ (by
          rintro j ρ hj ⟨y7, rfl⟩
          have hz := T60_250 (o.wf_bnd hw hj)
          refine ⟨[some (handsD hs), some (rowD hs.length W), some (rowD p C), some (rowT row), some (rowD p fun i => if i < j + 1 then sc hs W C row (k + 1) i else sc hs W C row k i), some (.int k), some (rowD p (wf (hat hs k) (wat row k))), some (.int j)], ?_, _, rfl⟩
          have pt : nSet (.int j) (.int (sc hs W C row k j + W k * wf (hat hs k) (wat row k) j)) (rowD p fun i => if i < j then sc hs W C row (k + 1) i else sc hs W C row k i) = some (rowD p fun i => if i < j + 1 then sc hs W C row (k + 1) i else sc hs W C row k i) := by
            rw [row_putF hj]
            refine congrArg some (rowD_congr fun s _ => ?_)
            unfold setF
            show (if s = j then _ else (if s < j then sc hs W C row (k + 1) s else sc hs W C row k s)) = _
            split
            · rename_i h; subst h
              rw [if_pos (by omega)]
              rfl
            · rename_i h
              by_cases h2 : s < j
              · rw [if_pos h2, if_pos (by omega)]
              · rw [if_neg h2, if_neg (by omega)]
          simp only [List.map_cons, List.map_nil, List.length_cons, List.length_nil, List.cons_append, List.nil_append, List.replicate, Nat.zero_add, Nat.reduceAdd, Nat.reduceSub, List.set_cons_zero, List.set_cons_succ]
          simp [row_ix hj, row_ix hk, gMul_int (hW k hk) hz, pt])
      refine ⟨_, e, some (.int k), some (rowD p (wf (hat hs k) (wat row k))), y7, ?_⟩
      rw [rowD_congr (n := p) (g := sc hs W C row (k + 1)) fun s hs' => if_pos hs'])
  rw [e]
  simp
theorem is_number_ok {z : Int} (h : -T60 < z ∧ z < T60) : m_is_number [.int z] = .ok (.bl true) := by
  rw [m_is_number]
  refine call_rt ?_
  rw [b_is_number]
  simp only [List.map_cons, List.map_nil, List.length_cons, List.length_nil, List.cons_append, List.nil_append, List.replicate, Nat.zero_add, Nat.reduceAdd, Nat.reduceSub, List.set_cons_zero, List.set_cons_succ]
  have T : T60 = 1000000000000000000000000000000000000000000000000000000000000 := by decide
  rw [T] at h
  have e1 : gLt (.int (-1000000000000000000000000000000000000000000000000000000000000)) (.int z) = some (.bl true) := by rw [gLt_int, decide_eq_true h.1]
  have e2 : gLt (.int z) (.int 1000000000000000000000000000000000000000000000000000000000000) = some (.bl true) := by rw [gLt_int, decide_eq_true h.2]
  simp only [sRet_eq, mAnd_eq, m1_eq, mVar_eq, List.getElem?_cons_zero, Res.bind_ok, isi_int_int, isi_int_bool, ofO_some, gNot_bl, Bool.not_false, mChain_eq, mC_eq, gNeg_int, e1, e2, Res.out_ok]
theorem look_ok (hh : HandsOk p hs) (hp : outs.length = p) (hp2 : p < 1000) (hW : ∀ k, k < hs.length → 1 ≤ W k ∧ W k < T60) (hC : ∀ j, j < p → -T60 < C j ∧ C j < T60) : m_look [houseD outs hs, rowD hs.length W, rowD p C] = .ok .non := by
  have hl := hh.hi
  rw [m_look]
  have i1 : gIx (houseD outs hs) (.int 1) = some (.tup (hs.map Hand.m)) := id rfl
  have i0 : gIx (houseD outs hs) (.int 0) = some (.ftup (outs.map D.str)) := id rfl
  have isl : ∀ {n : Nat} {f : Nat → Int}, gIsi "list" (rowD n f) = some (.bl true) := isi_list_list
  have lnC : gLen [.ftup (outs.map D.str)] = some (.int p) := by rw [← hp]; simp
  have fin : ∃ ρ, b_look ([houseD outs hs, rowD hs.length W, rowD p C].map some ++ List.replicate (5 - [houseD outs hs, rowD hs.length W, rowD p C].length) none) = .nx ρ := by
    rw [b_look]
    simp only [List.map_cons, List.map_nil, List.length_cons, List.length_nil, List.cons_append, List.nil_append, List.replicate, Nat.zero_add, Nat.reduceAdd, Nat.reduceSub, List.set_cons_zero, List.set_cons_succ]
    rw [sSeq_eq, show sIf (tOrM (tNotM (mT (m1 (gIsi "list") (mVar 1)))) (mT (m2 gNe (mL gLen (mA1 (mVar 1) (mA0))) (mL gLen (mA1 (m2 gIx (mVar 0) (mC (.int 1))) (mA0)))))) (sDead) (sNil) [some (houseD outs hs), some (rowD hs.length W), some (rowD p C), none, none] = .nx _ from by
      simp [isl, i1, row_len]; rfl, Out.nx_bind, sSeq_eq]
    obtain ⟨ρ', e, x3, rfl⟩ := for_m (j := 3) (m := iAny (mVar 1)) (b := sIf (tOrM (tNotM (mT (mArgs m_is_number (mA1 (mVar 3) (mA0))))) (mT (m2 gLt (mVar 3) (mC (.int 1))))) (sDead) (sNil)) (ρ := [some (houseD outs hs), some (rowD hs.length W), some (rowD p C), none, none])
      (fun k ρ => ∃ x3, ρ = [some (houseD outs hs), some (rowD hs.length W), some (rowD p C), x3, none]) (List.range hs.length) (fun k => .int (W k)) (by simp [rowD]) ⟨_, rfl⟩ (by
        rintro i k ρ hd ⟨x3, rfl⟩
        have hk := List.mem_range.mp (List.mem_of_getElem? hd)
        have := hW k hk
        have T : 0 < T60 := by decide
        exact ⟨[some (houseD outs hs), some (rowD hs.length W), some (rowD p C), some (.int (W k)), none], by simp [is_number_ok (z := W k) (by omega), show ¬ W k < 1 by omega], _, rfl⟩)
    rw [e, Out.nx_bind]
    rw [sSeq_eq, show sIf (tOrM (tNotM (mT (m1 (gIsi "list") (mVar 2)))) (mT (m2 gNe (mL gLen (mA1 (mVar 2) (mA0))) (mL gLen (mA1 (m2 gIx (mVar 0) (mC (.int 0))) (mA0)))))) (sDead) (sNil) [some (houseD outs hs), some (rowD hs.length W), some (rowD p C), x3, none] = .nx _ from by
      simp [isl, i0, row_len, lnC, -gLen_ftup]; rfl, Out.nx_bind]
    obtain ⟨ρ', e, x4, rfl⟩ := for_m (j := 4) (m := iAny (mVar 2)) (b := sIf (tNotM (mT (mArgs m_is_number (mA1 (mVar 4) (mA0))))) (sDead) (sNil)) (ρ := [some (houseD outs hs), some (rowD hs.length W), some (rowD p C), x3, none])
      (fun k ρ => ∃ x4, ρ = [some (houseD outs hs), some (rowD hs.length W), some (rowD p C), x3, x4]) (List.range p) (fun k => .int (C k)) (by simp [rowD]) ⟨_, rfl⟩ (by
        rintro i k ρ hd ⟨x4, rfl⟩
        have hk := List.mem_range.mp (List.mem_of_getElem? hd)
        exact ⟨[some (houseD outs hs), some (rowD hs.length W), some (rowD p C), x3, some (.int (C k))], by simp [is_number_ok (hC k hk)], _, rfl⟩)
    exact ⟨_, e⟩
  obtain ⟨ρ, e⟩ := fin
  exact call_nx e
theorem scores_ok (hh : HandsOk p hs) (hp : outs.length = p) (hp2 : p < 1000) (hr : RowOf hs row) (hW : ∀ k, k < hs.length → 1 ≤ W k ∧ W k < T60) (hC : ∀ j, j < p → -T60 < C j ∧ C j < T60) : m_scores [houseD outs hs, rowD hs.length W, rowD p C, rowT row] = .ok (rowD p (sc hs W C row hs.length)) := by
  have a := look_ok hh hp hp2 hW hC
  have b := summed_ok (outs := outs) (C := C) hh hp2 hr (W := W) (fun k hk => T60_250 (by have := hW k hk; have T : 0 < T60 := by decide
                                                                                          omega))
  rw [m_scores]
  refine call_rt ?_
  rw [b_scores]
  simp only [List.map_cons, List.map_nil, List.length_cons, List.length_nil, List.cons_append, List.nil_append, List.replicate, Nat.zero_add, Nat.reduceAdd, Nat.reduceSub, List.set_cons_zero, List.set_cons_succ]
  simp [a, b]
end
end TW

-- TWBest
namespace TW
open PySem PySem.Spec PyProof.Rows L2
def best (f : Nat → Int) : Nat → Nat
  | 0 => 0
  | n + 1 => if f (best f n) < f n then n else best f n
theorem best_spec (f : Nat → Int) : ∀ n, 0 < n → best f n < n ∧ (∀ s, s < n → f s ≤ f (best f n)) ∧ ∀ s, s < best f n → f s < f (best f n)
  | 1, _ => by
    have : best f 1 = 0 := by show (if f 0 < f 0 then 0 else 0) = 0; simp
    rw [this]
    exact ⟨by omega, fun s hs => by rw [show s = 0 by omega]; omega, fun s hs => by omega⟩
  | n + 2, _ => by
    obtain ⟨a, b, c⟩ := best_spec f (n + 1) (by omega)
    show (if f (best f (n + 1)) < f (n + 1) then n + 1 else best f (n + 1)) < n + 2 ∧ _
    have e : best f (n + 2) = if f (best f (n + 1)) < f (n + 1) then n + 1 else best f (n + 1) := rfl
    rw [e]
    by_cases h : f (best f (n + 1)) < f (n + 1)
    · rw [if_pos h]
      refine ⟨by omega, fun s hs => ?_, fun s hs => ?_⟩
      · by_cases q : s = n + 1
        · rw [q]; omega
        · have := b s (by omega); omega
      · have := b s (by omega); omega
    · rw [if_neg h]
      refine ⟨by omega, fun s hs => ?_, c⟩
      by_cases q : s = n + 1
      · rw [q]; omega
      · exact b s (by omega)
theorem ints_rowB {n : Nat} {f : Nat → Int} : intsOf ((List.range n).map fun s => .int (f s)) = some ((List.range n).map f) := by
  induction List.range n with
  | nil => rfl
  | cons a l ih => rw [List.map_cons, List.map_cons]; show (intsOf (l.map fun s => D.int (f s))).map _ = _; rw [ih]; rfl
theorem max_best {n : Nat} {f : Nat → Int} (h : 0 < n) : gMax [rowD n f] = some (.int (f (best f n))) := by
  obtain ⟨m, e, a, s, hs, rfl⟩ := row_max (f := f) h
  obtain ⟨b1, b2, b3⟩ := best_spec f n h
  have := a _ b1
  have := b2 _ hs
  rw [e, show f s = f (best f n) by omega]
theorem index_best {n : Nat} {f : Nat → Int} (h : 0 < n) : gIndex (rowD n f) (.int (f (best f n))) = some (.int (best f n)) := by
  obtain ⟨b1, b2, b3⟩ := best_spec f n h
  show ((intsOf ((List.range n).map fun s => D.int (f s))).bind fun ns => (ns.findIdx? (· == f (best f n))).map fun j : Nat => D.int j) = _
  rw [ints_rowB]
  show ((((List.range n).map f).findIdx? (· == f (best f n))).map fun j : Nat => D.int j) = _
  have : ((List.range n).map f).findIdx? (· == f (best f n)) = some (best f n) := by
    rw [List.findIdx?_eq_some_iff_getElem]
    refine ⟨by simpa using b1, by simp, fun j hj => ?_⟩
    have := b3 j hj
    simp
    omega
  rw [this]; rfl
def off (hs : List Hand) (W C : Nat → Int) (row : List Str) (k j : Nat) : Int := sc hs W C row hs.length j - W k * wf (hat hs k) (wat row k) j
def piv (p : Nat) (hs : List Hand) (W C : Nat → Int) (row : List Str) (k : Nat) : Int := off hs W C row k (best (off hs W C row k) p) - off hs W C row k (best (sc hs W C row hs.length) p)
theorem piv_nn {p : Nat} {hs : List Hand} {W C : Nat → Int} {row : List Str} {k : Nat} (h : 0 < p) : 0 ≤ piv p hs W C row k := by
  have a := (best_spec (off hs W C row k) p h).2.1 _ (best_spec (sc hs W C row hs.length) p h).1
  unfold piv; omega
section
variable {hs : List Hand} {outs : List Str} {p : Nat} {row : List Str} {W C : Nat → Int}
theorem w250 (hW : ∀ k, k < hs.length → 1 ≤ W k ∧ W k < T60) : B250 W hs.length := fun k hk => T60_250 (by
  have := hW k hk
  have T : 0 < T60 := by decide
  omega)
theorem pivots_ok (hh : HandsOk p hs) (hp : outs.length = p) (h0 : 0 < p) (hp2 : p < 1000) (hr : RowOf hs row) (hW : ∀ k, k < hs.length → 1 ≤ W k ∧ W k < T60) (hC : ∀ j, j < p → -T60 < C j ∧ C j < T60) : m_pivots [houseD outs hs, rowD hs.length W, rowD p C, rowT row] = .ok (rowD hs.length (piv p hs W C row)) := by
  have hl := hh.hi
  have a := look_ok hh hp hp2 hW hC
  have b := summed_ok (outs := outs) (C := C) hh hp2 hr (w250 hW)
  have i1 : gIx (houseD outs hs) (.int 1) = some (.tup (hs.map Hand.m)) := id rfl
  rw [m_pivots]
  refine call_rt ?_
  rw [b_pivots]
  simp only [List.map_cons, List.map_nil, List.length_cons, List.length_nil, List.cons_append, List.nil_append, List.replicate, Nat.zero_add, Nat.reduceAdd, Nat.reduceSub, List.set_cons_zero, List.set_cons_succ]
  rw [sSeq_eq, sDo_eq]
  rw [show (mArgs m_look (mA1 (mVar 0) (mA1 (mVar 1) (mA1 (mVar 2) (mA0))))) [some (houseD outs hs), some (rowD hs.length W), some (rowD p C), some (rowT row), none, none, none, none, none, none, none] = .ok .non from by simp [a], Res.out_ok, Out.nx_bind]
  rw [seq_set (d := rowD p (sc hs W C row hs.length)) (by simp [b])]
  simp only [List.map_cons, List.map_nil, List.length_cons, List.length_nil, List.cons_append, List.nil_append, List.replicate, Nat.zero_add, Nat.reduceAdd, Nat.reduceSub, List.set_cons_zero, List.set_cons_succ]
  rw [seq_set (d := .int (best (sc hs W C row hs.length) p)) (by simp [max_best h0, index_best h0]), seq_set (d := .lst []) (by simp [nil_l])]
  simp only [List.map_cons, List.map_nil, List.length_cons, List.length_nil, List.cons_append, List.nil_append, List.replicate, Nat.zero_add, Nat.reduceAdd, Nat.reduceSub, List.set_cons_zero, List.set_cons_succ]
  rw [sSeq_eq]
  generalize hb : sSeq (sSet 8 _) _ = bb
  obtain ⟨ρ', e, x7, x8, x9, x10, rfl⟩ := for_r (j := 7) (mi := mL gLen (mA1 (m2 gIx (mVar 0) (mC (.int 1))) (mA0))) (b := bb) (ρ := [some (houseD outs hs), some (rowD hs.length W), some (rowD p C), some (rowT row), some (rowD p (sc hs W C row hs.length)), some (.int (best (sc hs W C row hs.length) p)), some (.lst []), none, none, none, none])
    (fun k ρ => ∃ x7 x8 x9 x10, ρ = [some (houseD outs hs), some (rowD hs.length W), some (rowD p C), some (rowT row), some (rowD p (sc hs W C row hs.length)), some (.int (best (sc hs W C row hs.length) p)), some (rowD k (piv p hs W C row)), x7, x8, x9, x10]) hs.length (by simp [i1]) (by omega) ⟨_, _, _, _, rfl⟩ (by
      rintro k ρ hk ⟨x7, x8, x9, x10, rfl⟩
      subst hb
      have pt := parts_ok (outs := outs) hh hp2 hr hk (w250 hW)
      have b1 := (best_spec (sc hs W C row hs.length) p h0).1
      have ap := rowD_snoc (n := k) (f := piv p hs W C row) (by omega)
      simp only [List.map_cons, List.map_nil, List.length_cons, List.length_nil, List.cons_append, List.nil_append, List.replicate, Nat.zero_add, Nat.reduceAdd, Nat.reduceSub, List.set_cons_zero, List.set_cons_succ]
      have e : mLc [9, 10] (tgT [9, 10]) (iZipM (mVar 4) (mArgs m_parts (mA1 (mVar 0) (mA1 (mVar 1) (mA1 (mVar 3) (mA1 (mVar 7) (mA0))))))) (tYesM) (m2 gSub (mVar 9) (mVar 10)) [some (houseD outs hs), some (rowD hs.length W), some (rowD p C), some (rowT row), some (rowD p (sc hs W C row hs.length)), some (.int (best (sc hs W C row hs.length) p)), some (rowD k (piv p hs W C row)), some (.int k), x8, x9, x10] = .ok (rowD p (off hs W C row k)) := by
        refine lc_zip (n := p) (f := sc hs W C row hs.length) (g := fun j => W k * wf (hat hs k) (wat row k) j) (by omega) ?_ (fun j hj => ?_)
        · show (Res.bind _ _) = _
          simp [pt, zip_rows]
        · simp [wipeR]; rfl
      rw [seq_set (d := rowD p (off hs W C row k)) (by rw [e])]
      simp only [List.map_cons, List.map_nil, List.length_cons, List.length_nil, List.cons_append, List.nil_append, List.replicate, Nat.zero_add, Nat.reduceAdd, Nat.reduceSub, List.set_cons_zero, List.set_cons_succ]
      refine ⟨[some (houseD outs hs), some (rowD hs.length W), some (rowD p C), some (rowT row), some (rowD p (sc hs W C row hs.length)), some (.int (best (sc hs W C row hs.length) p)), some (rowD (k + 1) (piv p hs W C row)), some (.int k), some (rowD p (off hs W C row k)), x9, x10], ?_, _, _, _, _, rfl⟩
      have ap2 : nApp (.int (off hs W C row k (best (off hs W C row k) p) - off hs W C row k (best (sc hs W C row hs.length) p))) (rowD k (piv p hs W C row)) = some (rowD (k + 1) (piv p hs W C row)) := ap
      simp [max_best h0, row_ix b1, ap2])
  rw [e]
  simp
theorem place_loop {mi : Rho → Res D} {a b : Nat} {m : Rho → Res D} {ρ : Rho} {f : Nat → Int} (ha : a < ρ.length) (hb : b < ρ.length) (hab : a ≠ b) (hi : mi ρ = .ok (.int p)) (hp : p < 1000000) (h0 : 0 < p) (h : ρ[a]? = some (some (.int 0)))
    (hm : ∀ x y, m ((ρ.set a x).set b y) = .ok (rowD p f)) :
    ∃ y, sFor (tgN b) (iR1 mi) (sIf (mT (m2 gGt (m2 gIx m (mVar b)) (m2 gIx m (mVar a)))) (sSet a (mVar b)) (sNil)) ρ = .nx ((ρ.set a (some (.int (best f p)))).set b y) := by
  obtain ⟨ρ', e, y, rfl⟩ := for_r (j := b) (mi := mi) (b := sIf (mT (m2 gGt (m2 gIx m (mVar b)) (m2 gIx m (mVar a)))) (sSet a (mVar b)) (sNil)) (ρ := ρ)
    (fun k ρ2 => ∃ y, ρ2 = (ρ.set a (some (.int (best f k)))).set b y) p hi hp ⟨ρ[b], by
      have : ρ.set a (some (.int (best f 0))) = ρ := by
        rw [List.getElem?_eq_getElem ha] at h
        have h := Option.some.inj h
        rw [show (some (D.int ((best f 0 : Nat) : Int)) : Option D) = ρ[a] from h.symm, List.set_getElem_self]
      rw [this, List.set_getElem_self]⟩ (by
      rintro k ρ2 hk ⟨y, rfl⟩
      rw [List.set_set]
      have hk0 : k = 0 ∨ 0 < k := by omega
      have bl : best f k < p := by
        rcases hk0 with rfl | h
        · exact h0
        · have := (best_spec f k h).1; omega
      have v1 : mVar b ((ρ.set a (some (.int (best f k)))).set b (some (.int k))) = .ok (.int k) := by
        rw [mVar_eq, List.getElem?_set_self (by simpa using hb)]
      have v2 : mVar a ((ρ.set a (some (.int (best f k)))).set b (some (.int k))) = .ok (.int (best f k)) := by
        rw [mVar_eq, List.getElem?_set_ne (Ne.symm hab), List.getElem?_set_self ha]
      by_cases q : f (best f k) < f k
      · refine ⟨((ρ.set a (some (.int (best f k)))).set b (some (.int k))).set a (some (.int k)), ?_, some (.int k), ?_⟩
        · rw [sIf_eq]
          simp only [mT_eq, m2_eq, hm, v1, v2, Res.bind_ok, row_ix hk, row_ix bl, ofO_some, gGt_int, ofB_eq, decide_eq_true q, Res.out_ok, sSet_eq, if_true]
        · rw [show best f (k + 1) = k from if_pos q, List.set_comm _ _ (Ne.symm hab), List.set_set, List.set_comm _ _ hab]
      · refine ⟨(ρ.set a (some (.int (best f k)))).set b (some (.int k)), ?_, some (.int k), ?_⟩
        · rw [sIf_eq]
          simp only [mT_eq, m2_eq, hm, v1, v2, Res.bind_ok, row_ix hk, row_ix bl, ofO_some, gGt_int, ofB_eq, decide_eq_false q, Res.out_ok, sNil_eq]
          rfl
        · rw [show best f (k + 1) = best f k from if_neg q])
  exact ⟨y, e⟩
theorem law_pivot_ok {k : Nat} (hh : HandsOk p hs) (h0 : 0 < p) (hp2 : p < 1000) (hr : RowOf hs row) (hk : k < hs.length) (hW : ∀ k, k < hs.length → 1 ≤ W k ∧ W k < T60) : m__law_pivot [handsD hs, rowD hs.length W, rowD p (sc hs W C row hs.length), rowT row, .int k] = .ok (.int (piv p hs W C row k)) := by
  have o := hh.ok _ (hat_mem hk)
  have hw := hr.2 k hk
  obtain ⟨_, _, e1, _⟩ := worths_at (k := k) o hw
  have b1 := (best_spec (sc hs W C row hs.length) p h0).1
  rw [m__law_pivot]
  refine call_rt ?_
  rw [b__law_pivot]
  simp only [List.map_cons, List.map_nil, List.length_cons, List.length_nil, List.cons_append, List.nil_append, List.replicate, Nat.zero_add, Nat.reduceAdd, Nat.reduceSub, List.set_cons_zero, List.set_cons_succ]
  rw [seq_set (d := .int 0) (by simp)]
  simp only [List.map_cons, List.map_nil, List.length_cons, List.length_nil, List.cons_append, List.nil_append, List.replicate, Nat.zero_add, Nat.reduceAdd, Nat.reduceSub, List.set_cons_zero, List.set_cons_succ]
  rw [sSeq_eq]
  obtain ⟨y, e⟩ := place_loop (p := p) (a := 5) (b := 6) (m := mVar 2) (mi := mL gLen (mA1 (mVar 2) (mA0))) (f := sc hs W C row hs.length) (ρ := [some (handsD hs), some (rowD hs.length W), some (rowD p (sc hs W C row hs.length)), some (rowT row), some (.int k), some (.int 0), none, none, none]) (by simp) (by simp) (by decide) (by simp [row_len]) (by omega) h0 rfl (fun x y => by simp)
  rw [e, Out.nx_bind]
  simp only [List.map_cons, List.map_nil, List.length_cons, List.length_nil, List.cons_append, List.nil_append, List.replicate, Nat.zero_add, Nat.reduceAdd, Nat.reduceSub, List.set_cons_zero, List.set_cons_succ]
  rw [seq_set (d := rowD p (wf (hat hs k) (wat row k))) (by simp [hands_hand hk, row_word (show k < row.length by rw [hr.1]; exact hk), law_worths_ok hw e1])]
  simp only [List.map_cons, List.map_nil, List.length_cons, List.length_nil, List.cons_append, List.nil_append, List.replicate, Nat.zero_add, Nat.reduceAdd, Nat.reduceSub, List.set_cons_zero, List.set_cons_succ]
  rw [seq_set (d := rowD p (off hs W C row k)) (by
    rw [lc_r (j := 6) p (fun j => .int (off hs W C row k j)) (by simp [row_len]) (by omega) (fun j hj => by
      simp [wipeR, row_ix hj, row_ix hk, gMul_int (w250 hW k hk) (T60_250 (o.wf_bnd hw hj))]
      rfl)]
    rfl)]
  simp only [List.map_cons, List.map_nil, List.length_cons, List.length_nil, List.cons_append, List.nil_append, List.replicate, Nat.zero_add, Nat.reduceAdd, Nat.reduceSub, List.set_cons_zero, List.set_cons_succ]
  simp [max_best h0, row_ix b1]
  rfl
end
end TW

-- TWTable
namespace TW
open PySem PySem.Spec PyProof.Rows L2
def rkey (r : List Str) : List Key := r.map Sum.inr
theorem rkey_inj {r s : List Str} (h : rkey r = rkey s) : r = s := by
  unfold rkey at h
  exact List.map_inj_right (fun x y e => Sum.inr.inj e) |>.mp h
theorem keysD_row : ∀ r : List Str, keysD (r.map D.str) = some (rkey r)
  | [] => rfl
  | x :: r => by show (keyD (.str x)).bind (fun k => (keysD (r.map D.str)).map fun s => k :: s) = _; rw [keysD_row r]; rfl
def tabD (rows : List (List Str)) (g : List Str → D) : D := .dT (rows.map rkey) (rows.map g)
theorem lookK_map {rows : List (List Str)} {g : List Str → D} {r : List Str} (h : r ∈ rows) : lookK (rows.map rkey) (rows.map g) (rkey r) = some (g r) := by
  induction rows with
  | nil => cases h
  | cons s rows ih =>
    show (if rkey s = rkey r then some (g s) else lookK (rows.map rkey) (rows.map g) (rkey r)) = _
    by_cases e : rkey s = rkey r
    · rw [if_pos e, rkey_inj e]
    · rw [if_neg e]
      rcases List.mem_cons.mp h with rfl | h
      · exact absurd rfl e
      · exact ih h
theorem tab_look {rows : List (List Str)} {g : List Str → D} {r : List Str} (h : r ∈ rows) : lookD (tabD rows g) (rowT r) = some (some (g r)) := by
  show (keysD (r.map D.str)).map (fun k => lookK (rows.map rkey) (rows.map g) k) = _
  rw [keysD_row]
  exact congrArg some (lookK_map h)
theorem tab_ix {rows : List (List Str)} {g : List Str → D} {r : List Str} (h : r ∈ rows) : gIx (tabD rows g) (rowT r) = some (g r) := by
  show (lookD (tabD rows g) (rowT r)).bind id = _
  rw [tab_look h]; rfl
theorem tab_nin {rows : List (List Str)} {g : List Str → D} {r : List Str} (h : r ∈ rows) : gNin (rowT r) (tabD rows g) = some (.bl false) := by
  show ((lookD (tabD rows g) (rowT r)).map fun o => D.bl o.isSome).bind _ = _
  rw [tab_look h]; rfl
theorem tab_in {rows : List (List Str)} {g : List Str → D} {r : List Str} (h : r ∈ rows) : gIn (rowT r) (tabD rows g) = some (.bl true) := by
  show (lookD (tabD rows g) (rowT r)).map (fun o => D.bl o.isSome) = _
  rw [tab_look h]; rfl
theorem putL_new {κ : Type} [DecidableEq κ] {ks : List κ} {vs : List D} {k : κ} {v : D} (h : k ∉ ks) : putL ks vs k v = (ks ++ [k], vs ++ [v]) := by
  unfold putL
  rw [List.idxOf?_eq_none_iff.mpr h]
theorem tab_put {rows : List (List Str)} {g : List Str → D} {r : List Str} (h : r ∉ rows) (hl : rows.length < 1000000) : putD (tabD rows g) (rowT r) (g r) = some (tabD (rows ++ [r]) g) := by
  show (if (rows.map rkey).length < sizeLine then (keysD (r.map D.str)).map fun k => D.dT (putL (rows.map rkey) (rows.map g) k (g r)).1 (putL (rows.map rkey) (rows.map g) k (g r)).2 else none) = _
  rw [if_pos (b24 (by rw [List.length_map]; exact hl)), keysD_row]
  show some (D.dT (putL (rows.map rkey) (rows.map g) (rkey r) (g r)).1 (putL (rows.map rkey) (rows.map g) (rkey r) (g r)).2) = _
  rw [putL_new fun q => by
    obtain ⟨s, hs, e⟩ := List.mem_map.mp q
    rw [rkey_inj e] at hs
    exact h hs]
  unfold tabD
  rw [List.map_append, List.map_append]; rfl
theorem tab_len {rows : List (List Str)} {g : List Str → D} : gLen [tabD rows g] = some (.int rows.length) := by
  show some (D.int ((rows.map rkey).length : Nat)) = _
  rw [List.length_map]
theorem isi_tab {rows : List (List Str)} {g : List Str → D} : gIsi "dict" (tabD rows g) = some (.bl true) := by show (kitB "dict" "dict").map D.bl = _; rw [show kitB "dict" "dict" = some true by decide +kernel]; rfl
theorem crossR_nodup {words : List Str} (hw : words.Nodup) : ∀ {rows : List (List Str)}, rows.Nodup → (crossR rows words).Nodup
  | [], _ => List.nodup_nil
  | r :: rows, h => by
    obtain ⟨h1, h2⟩ := List.nodup_cons.mp h
    unfold crossR
    rw [List.flatMap_cons]
    refine List.nodup_append.mpr ⟨?_, crossR_nodup hw h2, ?_⟩
    · rw [List.Nodup, List.pairwise_map]
      refine List.Pairwise.imp ?_ hw
      intro x y hne e
      exact hne (List.cons.inj (List.append_cancel_left e)).1
    · intro a ha b hb e
      subst e
      obtain ⟨x, _, rfl⟩ := List.mem_map.mp ha
      obtain ⟨s, hs, y, _, e⟩ := mem_crossR.mp hb
      have : r = s := (List.append_inj' e rfl).1
      exact h1 (this ▸ hs)
theorem rowsW_nodup {hs : List Hand} (h : ∀ g ∈ hs, g.words.Nodup) : (rowsW (wordsOf hs)).Nodup := by
  have : ∀ (hs : List Hand) (rows : List (List Str)), (∀ g ∈ hs, g.words.Nodup) → rows.Nodup → ((wordsOf hs).foldl crossR rows).Nodup := by
    intro hs
    induction hs with
    | nil => intro rows _ h; exact h
    | cons g hs ih =>
      intro rows hg h
      exact ih _ (fun x hx => hg x (List.mem_cons_of_mem _ hx)) (crossR_nodup (hg g List.mem_cons_self) h)
  exact this hs [[]] h (by simp)
theorem HandsOk.wnd {p : Nat} {hs : List Hand} (h : HandsOk p hs) : ∀ g ∈ hs, g.words.Nodup := fun g hg => (h.ok g hg).words.nd
section
variable {hs : List Hand} {outs : List Str} {p : Nat} {W C : Nat → Int}
def deal (p : Nat) (outs : List Str) (hs : List Hand) (W C : Nat → Int) (row : List Str) : Str := wat outs (best (sc hs W C row hs.length) p)
def dealT (p : Nat) (outs : List Str) (hs : List Hand) (W C : Nat → Int) : D := tabD (rowsW (wordsOf hs)) fun r => .str (deal p outs hs W C r)
theorem ft_ix {l : List Str} {k : Nat} (h : k < l.length) : gIx (.ftup (l.map D.str)) (.int k) = some (.str (wat l k)) := by
  show atI (l.map D.str) (k : Int) = _
  rw [atI_nat (by simpa using h), List.getElem?_map, wat_at h]; rfl
theorem best_table_ok (hh : HandsOk p hs) (hp : outs.length = p) (h0 : 0 < p) (hp2 : p < 1000) (hW : ∀ k, k < hs.length → 1 ≤ W k ∧ W k < T60) (hC : ∀ j, j < p → -T60 < C j ∧ C j < T60) : m_best_table [houseD outs hs, rowD hs.length W, rowD p C] = .ok (dealT p outs hs W C) := by
  have hl := hh.hi
  have a := look_ok hh hp hp2 hW hC
  have ro := rows_of_ok (outs := outs) hh
  have nd := rowsW_nodup hh.wnd
  have rl : (rowsW (wordsOf hs)).length ≤ 256 := by rw [rowsW_len]; exact hh.many
  have i0 : gIx (houseD outs hs) (.int 0) = some (.ftup (outs.map D.str)) := id rfl
  rw [m_best_table]
  refine call_rt ?_
  rw [b_best_table]
  simp only [List.map_cons, List.map_nil, List.length_cons, List.length_nil, List.cons_append, List.nil_append, List.replicate, Nat.zero_add, Nat.reduceAdd, Nat.reduceSub, List.set_cons_zero, List.set_cons_succ]
  rw [sSeq_eq, sDo_eq]
  rw [show (mArgs m_look (mA1 (mVar 0) (mA1 (mVar 1) (mA1 (mVar 2) (mA0))))) [some (houseD outs hs), some (rowD hs.length W), some (rowD p C), none, none, none] = .ok .non from by simp [a], Res.out_ok, Out.nx_bind]
  rw [seq_set (d := .dT [] []) (by simp)]
  simp only [List.map_cons, List.map_nil, List.length_cons, List.length_nil, List.cons_append, List.nil_append, List.replicate, Nat.zero_add, Nat.reduceAdd, Nat.reduceSub, List.set_cons_zero, List.set_cons_succ]
  rw [sSeq_eq]
  generalize hb : sSeq (sSet 5 _) _ = b
  have hrows : ∀ r ∈ rowsW (wordsOf hs), RowOf hs r := fun r hr => rowOf_mem hr
  unfold dealT
  generalize rowsW (wordsOf hs) = rows at *
  obtain ⟨ρ', e, x4, x5, rfl⟩ := for_m (j := 4) (m := iAny (mArgs m_rows_of (mA1 (mVar 0) (mA0)))) (b := b) (ρ := [some (houseD outs hs), some (rowD hs.length W), some (rowD p C), some (.dT [] []), none, none])
    (fun k ρ => ∃ x4 x5, ρ = [some (houseD outs hs), some (rowD hs.length W), some (rowD p C), some (tabD (rows.take k) fun r => .str (deal p outs hs W C r)), x4, x5]) rows rowT (by simp [ro, rowsD]) ⟨_, _, rfl⟩ (by
      rintro k r ρ hd ⟨x4, x5, rfl⟩
      subst hb
      have hr := hrows r (List.mem_of_getElem? hd)
      have hk := (List.getElem?_eq_some_iff.mp hd).1
      have b1 := (best_spec (sc hs W C r hs.length) p h0).1
      have t1 : rows.take (k + 1) = rows.take k ++ [r] := by rw [List.take_add_one, hd]; rfl
      have nin : r ∉ rows.take k := by
        intro q
        have : (rows.take k ++ [r]).Nodup := by rw [← t1]; exact nd.sublist (List.take_sublist _ _)
        exact (List.nodup_append.mp this).2.2 r q r (by simp) rfl
      have pt := tab_put (g := fun r => .str (deal p outs hs W C r)) nin (by rw [List.length_take]; omega)
      have sm := summed_ok (outs := outs) (C := C) hh hp2 hr (w250 hW)
      rw [t1]
      generalize rows.take k = R at *
      simp only [List.map_cons, List.map_nil, List.length_cons, List.length_nil, List.cons_append, List.nil_append, List.replicate, Nat.zero_add, Nat.reduceAdd, Nat.reduceSub, List.set_cons_zero, List.set_cons_succ]
      rw [seq_set (d := rowD p (sc hs W C r hs.length)) (by simp [sm])]
      simp only [List.map_cons, List.map_nil, List.length_cons, List.length_nil, List.cons_append, List.nil_append, List.replicate, Nat.zero_add, Nat.reduceAdd, Nat.reduceSub, List.set_cons_zero, List.set_cons_succ]
      refine ⟨[some (houseD outs hs), some (rowD hs.length W), some (rowD p C), some (tabD (R ++ [r]) fun r => .str (deal p outs hs W C r)), some (rowT r), some (rowD p (sc hs W C r hs.length))], ?_, _, _, rfl⟩
      have ix : gIx (.ftup (outs.map D.str)) (.int (best (sc hs W C r hs.length) p)) = some (.str (deal p outs hs W C r)) := ft_ix (by omega)
      simp [i0, max_best h0, index_best h0, ix, pt])
  rw [e, List.take_length]
  simp
end
end TW

-- TWLawRing
namespace TW
open PySem PySem.Spec PyProof.Rows L2
theorem lD_row {l : List Nat} : lD l = wordsD l.length (fun i => l.getD i 0) := by
  unfold lD wordsD rowD
  congr 1
  apply List.ext_getElem
  · simp
  · intro k h1 h2
    simp at h1 h2
    simp [wrd, h1]
theorem alo_wt {G : Nat → Nat → Int} {w : Nat → Nat} : ∀ k, alo G w k = wt (Tn G) ((List.range (k + 1)).map w)
  | 0 => by simp [alo, wt]
  | k + 1 => by
    rw [alo, alo_wt k, show List.range (k + 1 + 1) = List.range (k + 1) ++ [k + 1] from List.range_succ, List.map_append, List.map_singleton, wt_snoc' (by simp)]
    have : ((List.range (k + 1)).map w).getLastD 0 = w k := by rw [List.range_succ, List.map_append, List.map_singleton, last_app]
    rw [this]
    rfl
theorem map_getD {l : List Nat} : (List.range l.length).map (fun i => l.getD i 0) = l := by
  apply List.ext_getElem
  · simp
  · intro k h1 h2
    simp [h2]
theorem alo_list {G : Nat → Nat → Int} {l : List Nat} (h : l ≠ []) : alo G (fun i => l.getD i 0) (l.length - 1) = wt (Tn G) l := by
  have : l.length ≠ 0 := fun e => h (List.length_eq_zero_iff.mp e)
  rw [alo_wt, show l.length - 1 + 1 = l.length by omega, map_getD]
theorem lalong_list {n : Nat} {G : Nat → Nat → Int} {l : List Nat} (hl : l.length < 1000000) (h0 : l ≠ []) (hx : ∀ x ∈ l, x < n) : m__law_along [gridD n G, lD l] = .ok (.int (wt (Tn G) l)) := by
  have : l.length ≠ 0 := fun e => h0 (List.length_eq_zero_iff.mp e)
  rw [lD_row, lalong_ok hl (by omega) (fun i hi => by
    simp [hi]
    exact hx _ (List.getElem_mem _)), alo_list h0]
theorem ints_lD {l : List Nat} : intsOf (l.map fun x : Nat => .int x) = some (l.map fun x : Nat => (x : Int)) := by
  induction l with
  | nil => rfl
  | cons a l ih => simp [intsOf, ih]
theorem lenset_lD {l : List Nat} (h : l.Nodup) (hl : l.length ≤ 4000) : gLenSet (lD l) = some (.int l.length) := by
  unfold lD
  show (intsOf _).bind _ = _
  rw [ints_lD, Option.bind_some, if_pos ⟨List.Pairwise.map (fun x : Nat => (x : Int)) (fun a b hab e => hab (by omega)) h, by simpa using hl⟩]
  simp
theorem isi_list_lD {l : List Nat} : gIsi "list" (lD l) = some (.bl true) := isi_list_list
theorem lD_pl {l : List Nat} {m : Nat} : Pl (m + 1) (lD l) := fun x hx => by
  obtain ⟨s, _, rfl⟩ := List.mem_map.mp hx
  cases m <;> trivial
theorem len_lD {l : List Nat} : gLen [lD l] = some (.int l.length) := by unfold lD; simp
theorem lwords_ok {n : Nat} {l : List Nat} (h0 : l ≠ []) (hx : ∀ x ∈ l, x < n) (nd : l.Nodup) (hl : l.length ≤ 4000) : m__law_words [lD l, .int n] = .ok (.bl true) := by
  rw [m__law_words]
  refine call_rt ?_
  rw [b__law_words]
  obtain ⟨b, e, _, h⟩ := gEq_pl (n := 1) (d := lD l) (e := .lst []) lD_pl (fun x hx => by simp at hx)
  have eb : b = false := by
    cases b with
    | false => rfl
    | true =>
      have := h.mp rfl
      unfold lD at this
      simp at this
      exact absurd this h0
  subst eb
  generalize hc : sFor (tgN 2) _ _ = c
  simp [isi_list_lD, nil_l, e]
  subst hc
  obtain ⟨ρ', e2, x2, rfl⟩ := for_lN (j := 2) (m := iAny (mVar 0)) (b := sIf (tOrM (tNotM (mT (m1 (gIsi "int") (mVar 2)))) (tOrM (mT (m1 (gIsi "bool") (mVar 2))) (tOrM (mT (m2 gLt (mVar 2) (mC (.int 0)))) (mT (m2 gGe (mVar 2) (mVar 1)))))) (sRet (mC (.bl false))) (sNil)) (ρ := [some (lD l), some (.int n), none])
    (fun k ρ => ∃ x2, ρ = [some (lD l), some (.int n), x2]) (l.map fun x : Nat => .int x) (by simp [lD]) ⟨_, rfl⟩ (by
      rintro k d ρ hd ⟨x2, rfl⟩
      obtain ⟨x, hxl, rfl⟩ := List.mem_map.mp (List.mem_of_getElem? hd)
      have := hx x hxl
      simp [show ¬ ((x : Int) < 0) by omega, show ¬ (n ≤ x) by omega])
  rw [e2]
  simp [lenset_lD nd hl, len_lD]
theorem lnumbers_ok {n : Nat} {P : Nat → Int} (hn : n < 1000000) : m__law_numbers [rowD n P, .int n] = .ok (.bl true) := by
  rw [m__law_numbers]
  refine call_rt ?_
  rw [b__law_numbers]
  have il : gIsi "list" (rowD n P) = some (.bl true) := isi_list_list
  generalize hc : sFor (tgN 2) _ _ = c
  simp [il, row_len]
  subst hc
  obtain ⟨ρ', e2, x2, rfl⟩ := for_g (j := 2) (m := iAny (mVar 0)) (b := sIf (tOrM (tNotM (mT (m1 (gIsi "int") (mVar 2)))) (mT (m1 (gIsi "bool") (mVar 2)))) (sRet (mC (.bl false))) (sNil)) (ρ := [some (rowD n P), some (.int n), none])
    (fun k ρ => ∃ x2, ρ = [some (rowD n P), some (.int n), x2]) n (fun i => .int (P i)) (by simp [rowD]) ⟨_, rfl⟩ (by
      rintro k ρ hk ⟨x2, rfl⟩
      simp)
  rw [e2]
  simp
theorem lring_ok {n : Nat} {G : Nat → Nat → Int} {l : List Nat} (hn : n ≤ 900) (h : IsRing (Tn G) n l) : m__law_ring [gridD n G, lD l] = .ok (.bl true) := by
  have hle := nodup_le h.nd h.lt
  have h2 := h.two
  have hne : l ≠ [] := fun e => by subst e; simp at h2
  have w := lwords_ok (n := n) hne h.lt h.nd (by omega)
  rw [m__law_ring]
  refine call_rt ?_
  rw [b__law_ring]
  obtain ⟨a, r, rfl⟩ : ∃ a r, l = a :: r := by
    cases l with
    | nil => exact absurd rfl hne
    | cons a r => exact ⟨a, r, rfl⟩
  have i0 : gIx (lD (a :: r)) (.int 0) = some (.int a) := by
    unfold lD
    show atI _ ((0 : Nat) : Int) = _
    rw [atI_nat (by simp)]
    rfl
  have cat := lD_snoc (l := a :: r) (b := a) (by omega)
  have al := lalong_list (G := G) (n := n) (l := a :: r ++ [a]) (by simp at hle ⊢; omega) (by simp) (fun x hx => by
    rcases List.mem_append.mp hx with hx | hx
    · exact h.lt x hx
    · simp at hx; subst hx; exact h.lt _ (by simp))
  have neg := h.neg
  rw [cw_eq (by simp)] at neg
  simp only [List.headD_cons] at neg
  simp [w, grid_len, len_lD, i0, one_l, cat]
  simp at h2
  rw [if_neg (by omega)]
  rw [show lD (a :: (r ++ [a])) = lD (a :: r ++ [a]) from rfl, al]
  simpa using neg
end TW

-- TWColumn
namespace TW
open PySem PySem.Spec PyProof.Rows L2
theorem cut_to {α : Type} {l : List α} {k : Nat} (h : k ≤ l.length) : cutD l none (some (k : Int)) = l.take k := by
  unfold cutD
  rw [HT.sIx_none, HT.sIx_nat, List.drop_zero, Nat.sub_zero, Nat.min_eq_left h]
theorem cut_from {α : Type} {l : List α} {k : Nat} : cutD l (some (k : Int)) none = l.drop k := by
  unfold cutD
  rw [HT.sIx_none, HT.sIx_nat]
  by_cases h : k ≤ l.length
  · rw [Nat.min_eq_left h, List.take_of_length_le (by rw [List.length_drop]; omega)]
  · rw [Nat.min_eq_right (by omega), List.drop_eq_nil_of_le (by omega), List.drop_eq_nil_of_le (by omega), List.take_nil]
def oth (hs : List Hand) (k : Nat) : List Hand := hs.take k ++ hs.drop (k + 1)
def ins (k : Nat) (w : Str) (r : List Str) : List Str := r.take k ++ [w] ++ r.drop k
theorem row_app : ∀ {ws vs : List (List Str)} {r : List Str}, Row (ws ++ vs) r ↔ ∃ r1 r2, r = r1 ++ r2 ∧ Row ws r1 ∧ Row vs r2
  | [], vs, r => ⟨fun h => ⟨[], r, rfl, rfl, h⟩, fun ⟨r1, r2, e, h1, h2⟩ => by rw [show r1 = [] from h1] at e; rw [e]; exact h2⟩
  | w :: ws, vs, r => by
    constructor
    · rintro ⟨x, r', rfl, hx, h⟩
      obtain ⟨r1, r2, rfl, h1, h2⟩ := row_app.mp h
      exact ⟨x :: r1, r2, rfl, ⟨x, r1, rfl, hx, h1⟩, h2⟩
    · rintro ⟨_, r2, rfl, ⟨x, r1, rfl, hx, h1⟩, h2⟩
      exact ⟨x, r1 ++ r2, rfl, hx, row_app.mpr ⟨r1, r2, rfl, h1, h2⟩⟩
section
variable {hs : List Hand} {outs : List Str} {p k : Nat} {W C : Nat → Int} {r : List Str}
theorem oth_len (hk : k < hs.length) : (oth hs k).length + 1 = hs.length := by unfold oth; rw [List.length_append, List.length_take, List.length_drop]; omega
theorem oth_mem {h : Hand} (hm : h ∈ oth hs k) : h ∈ hs := by
  rcases List.mem_append.mp hm with q | q
  · exact List.mem_of_mem_take q
  · exact List.mem_of_mem_drop q
theorem split_at (hk : k < hs.length) : hs = hs.take k ++ hat hs k :: hs.drop (k + 1) := by
  have : hs.drop k = hat hs k :: hs.drop (k + 1) := by
    rw [List.drop_eq_getElem_cons hk]
    have := hat_at hk
    rw [List.getElem?_eq_getElem hk] at this
    rw [Option.some.inj this]
  rw [← this, List.take_append_drop]
theorem ways_app {a b : List Hand} : ways (a ++ b) = ways a * ways b := by
  induction a with
  | nil => simp [ways]
  | cons h a ih => simp only [List.cons_append, ways, ih, Nat.mul_assoc]
theorem oth_ways (hh : HandsOk p hs) (hk : k < hs.length) : ways (oth hs k) ≤ 256 := by
  have := hh.many
  rw [split_at hk, ways_app] at this
  unfold oth
  rw [ways_app]
  have h1 := hh.pos _ (hat_mem hk)
  have : ways (hs.take k) * ways (hs.drop (k + 1)) ≤ ways (hs.take k) * ways (hat hs k :: hs.drop (k + 1)) := by
    refine Nat.mul_le_mul_left _ ?_
    show _ ≤ (hat hs k).words.length * ways (hs.drop (k + 1))
    exact Nat.le_mul_of_pos_left _ h1
  omega
theorem oth_row (hk : k < hs.length) (h : Row (wordsOf (oth hs k)) r) : r.length + 1 = hs.length := by
  have := h.len
  unfold wordsOf at this
  rw [List.length_map] at this
  have := oth_len hk
  omega
theorem ins_row {w : Str} (hk : k < hs.length) (h : Row (wordsOf (oth hs k)) r) (hw : w ∈ (hat hs k).words) : Row (wordsOf hs) (ins k w r) := by
  have e : wordsOf hs = wordsOf (hs.take k) ++ (hat hs k).words :: wordsOf (hs.drop (k + 1)) := by
    conv => lhs; rw [split_at hk]
    unfold wordsOf
    rw [List.map_append, List.map_cons]
  have e2 : wordsOf (oth hs k) = wordsOf (hs.take k) ++ wordsOf (hs.drop (k + 1)) := by unfold oth wordsOf; rw [List.map_append]
  rw [e2] at h
  obtain ⟨r1, r2, rfl, h1, h2⟩ := row_app.mp h
  have l1 : r1.length = k := by rw [h1.len]; unfold wordsOf; rw [List.length_map, List.length_take]; omega
  unfold ins
  rw [List.take_append_of_le_length (by omega), List.take_of_length_le (by omega), show List.drop k (r1 ++ r2) = r2 by rw [← l1]; simp]
  rw [e]
  exact row_app.mpr ⟨r1, w :: r2, by simp, h1, w, r2, rfl, hw, h2⟩
theorem ins_at {w : Str} (hk : k < hs.length) (h : Row (wordsOf (oth hs k)) r) : wat (ins k w r) k = w := by
  have := oth_row hk h
  unfold wat ins
  rw [List.getD_eq_getElem?_getD, List.append_assoc, List.getElem?_append_right (by rw [List.length_take]; omega), List.length_take, Nat.min_eq_left (by omega), Nat.sub_self]
  rfl
theorem ins_ne {w v : Str} {i : Nat} (hk : k < hs.length) (h : Row (wordsOf (oth hs k)) r) (hi : i ≠ k) : wat (ins k w r) i = wat (ins k v r) i := by
  have := oth_row hk h
  unfold wat ins
  rw [List.getD_eq_getElem?_getD, List.getD_eq_getElem?_getD]
  by_cases q : i < k
  · rw [List.append_assoc, List.append_assoc, List.getElem?_append_left (by rw [List.length_take]; omega), List.getElem?_append_left (by rw [List.length_take]; omega)]
  · rw [List.getElem?_append_right (by simp; omega), List.getElem?_append_right (by simp; omega)]
    simp
theorem rowT_slice {w : Str} (hk : k ≤ r.length) (hr : r.length < 1000) : ∃ a b, gSl (rowT r) none (some (k : Int)) = some a ∧ gSl (rowT r) (some (k : Int)) none = some b ∧ (∃ c, gAdd a (.tup [.str w]) = some c ∧ gAdd c b = some (rowT (ins k w r))) := by
  refine ⟨rowT (r.take k), rowT (r.drop k), ?_, ?_, rowT (r.take k ++ [w]), ?_, ?_⟩
  · show some (D.tup (cutD (r.map D.str) none (some (k : Int)))) = _
    rw [cut_to (by simpa using hk)]
    unfold rowT; rw [List.map_take]
  · show some (D.tup (cutD (r.map D.str) (some (k : Int)) none)) = _
    rw [cut_from]
    unfold rowT; rw [List.map_drop]
  · exact rowT_add (by rw [List.length_take]; omega)
  · unfold rowT ins
    rw [gAdd_tup (b24' (by simp; omega))]
    refine congrArg some (congrArg D.tup ?_)
    simp
theorem row_with_ok {w : Str} (hk : k ≤ r.length) (hr : r.length < 1000) : m_row_with [rowT r, .int k, .str w] = .ok (rowT (ins k w r)) := by
  obtain ⟨a, b, e1, e2, c, e3, e4⟩ := rowT_slice (w := w) hk hr
  rw [m_row_with]
  refine call_rt ?_
  rw [b_row_with]
  simp only [List.map_cons, List.map_nil, List.length_cons, List.length_nil, List.cons_append, List.nil_append, List.replicate, Nat.zero_add, Nat.reduceAdd, Nat.reduceSub, List.set_cons_zero, List.set_cons_succ]
  simp [e1, e2, one_t, e3, e4]
def wn (hs : List Hand) (k : Nat) : Nat := (hat hs k).words.length
def Gcol (hs : List Hand) (q : List Str → Nat) (k : Nat) (r : List Str) (t s : Nat) : Int := wf (hat hs k) (wat (hat hs k).words t) (q (ins k (wat (hat hs k).words s) r))
theorem wf_row {h : Hand} (o : h.Ok p) {t : Nat} (ht : t < h.words.length) (j : Nat) : wf h (wat h.words t) j = (h.worths.getD t []).getD j 0 := by
  have e : wat h.words t = h.words[t] := by
    have := wat_at ht
    rw [List.getElem?_eq_getElem ht] at this
    exact (Option.some.inj this).symm
  unfold wf
  rw [e, o.words.nd.idxOf_getElem t ht]
theorem wat_mem {l : List Str} {t : Nat} (ht : t < l.length) : wat l t ∈ l := List.mem_of_getElem? (wat_at ht)
theorem idx_wat {l : List Str} (nd : l.Nodup) {t : Nat} (ht : t < l.length) : l.idxOf (wat l t) = t := by
  have e : wat l t = l[t] := by
    have := wat_at ht
    rw [List.getElem?_eq_getElem ht] at this
    exact (Option.some.inj this).symm
  rw [e]; exact nd.idxOf_getElem t ht
theorem words_range {l : List Str} (f : Str → D) : l.map f = (List.range l.length).map fun s => f (wat l s) := map_range (d := Str.empty) f
theorem col_lists {h : Hand} (o : h.Ok p) {q : Nat → Nat} (hq : ∀ s, s < h.words.length → q s < p) :
    (h.worths.map fun w => (.lst ((List.range h.words.length).map fun s => .int (w.getD (q s) 0)) : D)) = (List.range h.words.length).map fun t => rowD h.words.length fun s => wf h (wat h.words t) (q s) := by
  rw [map_range (d := []) (r := h.worths), o.len]
  refine List.map_congr_left fun t ht => ?_
  have ht := List.mem_range.mp ht
  unfold rowD
  refine congrArg D.lst (List.map_congr_left fun s _ => ?_)
  exact congrArg D.int (wf_row o ht _).symm
theorem tints_at {w : List Int} {j : Nat} (h : j < w.length) : gIx (tints w) (.int j) = some (.int (w.getD j 0)) := by
  show atI (w.map D.int) (j : Int) = _
  rw [atI_nat (by simpa using h), List.getElem?_map, List.getElem?_eq_getElem h, List.getD_eq_getElem?_getD, List.getElem?_eq_getElem h]; rfl
theorem nums_at {w : List Int} {j : Nat} (h : j < w.length) : gIx (numsD w) (.int j) = some (.int (w.getD j 0)) := by
  show atI (w.map D.int) (j : Int) = _
  rw [atI_nat (by simpa using h), List.getElem?_map, List.getElem?_eq_getElem h, List.getD_eq_getElem?_getD, List.getElem?_eq_getElem h]; rfl
def qT (outs : List Str) (hs : List Hand) (q : List Str → Nat) : D := tabD (rowsW (wordsOf hs)) fun r => .str (wat outs (q r))
def TabQ (T : D) (outs : List Str) (hs : List Hand) (q : List Str → Nat) : Prop := ∀ row, Row (wordsOf hs) row → gIx T (rowT row) = some (.str (wat outs (q row)))
theorem tabQ_qT {q : List Str → Nat} : TabQ (qT outs hs q) outs hs q := fun row h => tab_ix (g := fun r => .str (wat outs (q r))) (row_iff.mpr h)
theorem grid_of_gen {T : D} {q : List Str → Nat} (hT : TabQ T outs hs q) (hh : HandsOk p hs) (ao : AreNames outs 8) (hp : outs.length = p) (hq : ∀ r, q r < p) (hk : k < hs.length) (hr : Row (wordsOf (oth hs k)) r) : m_grid_of [houseD outs hs, T, .int k, rowT r] = .ok (gridD (wn hs k) (Gcol hs q k r)) := by
  have hl := hh.hi
  have o := hh.ok _ (hat_mem hk)
  have wl := o.words.hi
  have rl := oth_row hk hr
  rw [m_grid_of]
  refine call_rt ?_
  rw [b_grid_of]
  simp only [List.map_cons, List.map_nil, List.length_cons, List.length_nil, List.cons_append, List.nil_append, List.replicate, Nat.zero_add, Nat.reduceAdd, Nat.reduceSub, List.set_cons_zero, List.set_cons_succ]
  have i1 : gIx (houseD outs hs) (.int 1) = some (.tup (hs.map Hand.m)) := id rfl
  have i0 : gIx (houseD outs hs) (.int 0) = some (.ftup (outs.map D.str)) := id rfl
  have m1' : gIx (hat hs k).m (.int 1) = some (.ftup ((hat hs k).words.map D.str)) := id rfl
  have m2' : gIx (hat hs k).m (.int 2) = some (.tup ((hat hs k).worths.map tints)) := id rfl
  rw [seq_set (d := .lst ((List.range (wn hs k)).map fun s => .int (q (ins k (wat (hat hs k).words s) r)))) (by
    rw [lc_m (hat hs k).words D.str (fun w => .int (q (ins k w r))) (by simp [i1, house_hand hk, m1']) (by omega) (fun w hw => by
      have ix := hT _ (ins_row hk hr hw)
      have id := index_ft (wat_mem (l := outs) (t := q (ins k w r)) (by rw [hp]; exact hq _))
      rw [idx_wat ao.nd (by rw [hp]; exact hq _)] at id
      simp [wipeR, row_with_ok (w := w) (k := k) (r := r) (by omega) (by omega), i0, ix, id])]
    rw [words_range]; rfl)]
  simp only [List.map_cons, List.map_nil, List.length_cons, List.length_nil, List.cons_append, List.nil_append, List.replicate, Nat.zero_add, Nat.reduceAdd, Nat.reduceSub, List.set_cons_zero, List.set_cons_succ]
  rw [seq_set (d := .lst []) (by simp [nil_l])]
  simp only [List.map_cons, List.map_nil, List.length_cons, List.length_nil, List.cons_append, List.nil_append, List.replicate, Nat.zero_add, Nat.reduceAdd, Nat.reduceSub, List.set_cons_zero, List.set_cons_succ]
  rw [sSeq_eq]
  obtain ⟨ρ', e, x6, rfl⟩ := for_m (j := 6) (m := iAny (m2 gIx (m2 gIx (m2 gIx (mVar 0) (mC (.int 1))) (mVar 2)) (mC (.int 2)))) (b := sApp 5 (pNil) (mLc [8] (tgN 8) (iAny (mVar 4)) (tYesM) (m2 gIx (mVar 6) (mVar 8))))
    (ρ := [some (houseD outs hs), some T, some (.int k), some (rowT r), some (.lst ((List.range (wn hs k)).map fun s => .int (q (ins k (wat (hat hs k).words s) r)))), some (.lst []), none, none, none])
    (fun i ρ => ∃ x6, ρ = [some (houseD outs hs), some T, some (.int k), some (rowT r), some (.lst ((List.range (wn hs k)).map fun s => .int (q (ins k (wat (hat hs k).words s) r)))), some (.lst (((hat hs k).worths.take i).map fun w => .lst ((List.range (wn hs k)).map fun s => .int (w.getD (q (ins k (wat (hat hs k).words s) r)) 0)))), x6, none, none]) (hat hs k).worths tints (by simp [i1, house_hand hk, m2']) ⟨_, rfl⟩ (by
      rintro i w ρ hd ⟨x6, rfl⟩
      have hw := List.mem_of_getElem? hd
      have hi := (List.getElem?_eq_some_iff.mp hd).1
      have t1 : (hat hs k).worths.take (i + 1) = (hat hs k).worths.take i ++ [w] := by rw [List.take_add_one, hd]; rfl
      have hM : (((hat hs k).worths.take i).map fun w => (.lst ((List.range (wn hs k)).map fun s => .int (w.getD (q (ins k (wat (hat hs k).words s) r)) 0)) : D)).length < 1000000 := by
        rw [List.length_map, List.length_take]; have := o.len; omega
      rw [t1, List.map_append]
      generalize ((hat hs k).worths.take i).map (fun w => (.lst ((List.range (wn hs k)).map fun s => .int (w.getD (q (ins k (wat (hat hs k).words s) r)) 0)) : D)) = M at *
      simp only [List.map_cons, List.map_nil, List.length_cons, List.length_nil, List.cons_append, List.nil_append, List.replicate, Nat.zero_add, Nat.reduceAdd, Nat.reduceSub, List.set_cons_zero, List.set_cons_succ]
      have lc : mLc [8] (tgN 8) (iAny (mVar 4)) (tYesM) (m2 gIx (mVar 6) (mVar 8)) [some (houseD outs hs), some T, some (.int k), some (rowT r), some (.lst ((List.range (wn hs k)).map fun s => .int (q (ins k (wat (hat hs k).words s) r)))), some (.lst M), some (tints w), none, none] = .ok (.lst ((List.range (wn hs k)).map fun s => .int (w.getD (q (ins k (wat (hat hs k).words s) r)) 0))) := by
        refine lc_m (List.range (wn hs k)) (fun s => .int (q (ins k (wat (hat hs k).words s) r))) _ (by simp) (by rw [List.length_range]; unfold wn; omega) (fun s hs' => ?_)
        have := tints_at (w := w) (j := q (ins k (wat (hat hs k).words s) r)) (by rw [o.row w hw]; exact hq _)
        simp only [wipeR]
        simp at this ⊢
        simp [this]
      refine ⟨_, ?_, some (tints w), rfl⟩
      simp only [sApp_eq, atS_eq, List.getElem?_cons_succ, List.getElem?_cons_zero, pNil_eq, Res.out_ok, lc, noX_ok, mutO_eq, updP_nil, nApp_lst (b24 hM)]
      rfl)
  rw [e, List.take_length]
  have := col_lists (q := fun s => q (ins k (wat (hat hs k).words s) r)) o (fun s _ => hq _)
  simp only [Out.nx_bind, sRet_eq, mVar_eq, List.getElem?_cons_succ, List.getElem?_cons_zero, Res.out_ok]
  refine congrArg Out.rt ?_
  unfold gridD
  exact congrArg D.lst this
theorem law_column_gen {T : D} {q : List Str → Nat} (hT : TabQ T outs hs q) (hh : HandsOk p hs) (ao : AreNames outs 8) (hp : outs.length = p) (hq : ∀ r, q r < p) (hk : k < hs.length) (hr : Row (wordsOf (oth hs k)) r) : m__law_column [handsD hs, namesD outs, T, .int k, rowT r] = .ok (gridD (wn hs k) (Gcol hs q k r)) := by
  have hl := hh.hi
  have o := hh.ok _ (hat_mem hk)
  have wl := o.words.hi
  have rl := oth_row hk hr
  rw [m__law_column]
  refine call_rt ?_
  rw [b__law_column]
  simp only [List.map_cons, List.map_nil, List.length_cons, List.length_nil, List.cons_append, List.nil_append, List.replicate, Nat.zero_add, Nat.reduceAdd, Nat.reduceSub, List.set_cons_zero, List.set_cons_succ]
  have d1' : gIx (hat hs k).d (.int 1) = some (namesD (hat hs k).words) := id rfl
  have d2' : gIx (hat hs k).d (.int 2) = some (wD (hat hs k).worths) := id rfl
  rw [seq_set (d := .lst ((List.range (wn hs k)).map fun s => .int (q (ins k (wat (hat hs k).words s) r)))) (by
    rw [lc_m (hat hs k).words D.str (fun w => .int (q (ins k w r))) (by simp [hands_hand hk, d1', iLoc_names]) (by omega) (fun w hw => by
      have ix := hT _ (ins_row hk hr hw)
      have id := index_names (wat_mem (l := outs) (t := q (ins k w r)) (by rw [hp]; exact hq _))
      rw [idx_wat ao.nd (by rw [hp]; exact hq _)] at id
      obtain ⟨a, b, e1, e2, c, e3, e4⟩ := rowT_slice (w := w) (k := k) (r := r) (by omega) (by omega)
      simp [wipeR, e1, e2, e3, e4, one_t, ix, id])]
    rw [words_range]; rfl)]
  simp only [List.map_cons, List.map_nil, List.length_cons, List.length_nil, List.cons_append, List.nil_append, List.replicate, Nat.zero_add, Nat.reduceAdd, Nat.reduceSub, List.set_cons_zero, List.set_cons_succ]
  have := col_lists (q := fun s => q (ins k (wat (hat hs k).words s) r)) o (fun s _ => hq _)
  rw [sRet_eq, lc_m (hat hs k).worths numsD (fun w => .lst ((List.range (wn hs k)).map fun s => .int (w.getD (q (ins k (wat (hat hs k).words s) r)) 0))) (by simp [hands_hand hk, d2', wD]) (by have := o.len; omega) (fun w hw => by
    refine lc_m (List.range (wn hs k)) (fun s => .int (q (ins k (wat (hat hs k).words s) r))) _ (by simp [wipeR]) (by rw [List.length_range]; unfold wn; omega) (fun s hs' => ?_)
    have := nums_at (w := w) (j := q (ins k (wat (hat hs k).words s) r)) (by rw [o.row w hw]; exact hq _)
    simp only [wipeR]
    simp at this ⊢
    simp [this])]
  rw [Res.out_ok]
  refine congrArg Out.rt ?_
  unfold gridD
  exact congrArg D.lst this
theorem grid_of_ok {q : List Str → Nat} (hh : HandsOk p hs) (ao : AreNames outs 8) (hp : outs.length = p) (hq : ∀ r, q r < p) (hk : k < hs.length) (hr : Row (wordsOf (oth hs k)) r) : m_grid_of [houseD outs hs, qT outs hs q, .int k, rowT r] = .ok (gridD (wn hs k) (Gcol hs q k r)) := grid_of_gen tabQ_qT hh ao hp hq hk hr
theorem law_column_ok {q : List Str → Nat} (hh : HandsOk p hs) (ao : AreNames outs 8) (hp : outs.length = p) (hq : ∀ r, q r < p) (hk : k < hs.length) (hr : Row (wordsOf (oth hs k)) r) : m__law_column [handsD hs, namesD outs, qT outs hs q, .int k, rowT r] = .ok (gridD (wn hs k) (Gcol hs q k r)) := law_column_gen tabQ_qT hh ao hp hq hk hr
end
end TW

-- TWPivot
namespace TW
open PySem PySem.Spec PyProof.Rows L2
section
variable {hs : List Hand} {outs : List Str} {p k : Nat} {W C : Nat → Int} {r : List Str}
theorem sc_ne {row row' : List Str} (h : ∀ i, i ≠ k → wat row i = wat row' i) (j : Nat) : ∀ m, (m ≤ k → sc hs W C row m j = sc hs W C row' m j) ∧ (k < m → sc hs W C row m j - W k * wf (hat hs k) (wat row k) j = sc hs W C row' m j - W k * wf (hat hs k) (wat row' k) j)
  | 0 => ⟨fun _ => rfl, fun h => by omega⟩
  | m + 1 => by
    obtain ⟨a, b⟩ := sc_ne h j m
    have e : ∀ row, sc hs W C row (m + 1) j = sc hs W C row m j + W m * wf (hat hs m) (wat row m) j := fun _ => rfl
    refine ⟨fun hm => ?_, fun hm => ?_⟩
    · rw [e, e, a (by omega), h m (by omega)]
    · by_cases q : m = k
      · subst q
        have := a (Nat.le_refl _)
        rw [e, e]; omega
      · have := b (by omega)
        rw [e, e, h m q]; omega
def rowOf (hs : List Hand) (k : Nat) (r : List Str) (t : Nat) : List Str := ins k (wat (hat hs k).words t) r
def Oth (hs : List Hand) (W C : Nat → Int) (k : Nat) (r : List Str) (j : Nat) : Int := off hs W C (rowOf hs k r 0) k j
theorem off_oth (hk : k < hs.length) (h : Row (wordsOf (oth hs k)) r) (t j : Nat) : off hs W C (rowOf hs k r t) k j = Oth hs W C k r j :=
  (sc_ne (fun i hi => ins_ne hk h hi) j hs.length).2 hk
theorem sc_row (hk : k < hs.length) (h : Row (wordsOf (oth hs k)) r) (t j : Nat) : sc hs W C (rowOf hs k r t) hs.length j = Oth hs W C k r j + W k * wf (hat hs k) (wat (hat hs k).words t) j := by
  have := off_oth (W := W) (C := C) hk h t j
  unfold off at this
  rw [show wat (rowOf hs k r t) k = wat (hat hs k).words t from ins_at hk h] at this
  omega
def bq (p : Nat) (hs : List Hand) (W C : Nat → Int) (row : List Str) : Nat := best (sc hs W C row hs.length) p
theorem dealT_q : dealT p outs hs W C = qT outs hs (bq p hs W C) := rfl
theorem piv_row (hk : k < hs.length) (h : Row (wordsOf (oth hs k)) r) (t : Nat) : piv p hs W C (rowOf hs k r t) k = Oth hs W C k r (best (Oth hs W C k r) p) - Oth hs W C k r (bq p hs W C (rowOf hs k r t)) := by
  have e : off hs W C (rowOf hs k r t) k = Oth hs W C k r := funext fun j => off_oth hk h t j
  unfold piv
  rw [e]; rfl
theorem best_ge (h0 : 0 < p) (hk : k < hs.length) (h : Row (wordsOf (oth hs k)) r) (t j : Nat) (hj : j < p) :
    Oth hs W C k r j + W k * wf (hat hs k) (wat (hat hs k).words t) j ≤ Oth hs W C k r (bq p hs W C (rowOf hs k r t)) + W k * wf (hat hs k) (wat (hat hs k).words t) (bq p hs W C (rowOf hs k r t)) := by
  have := (best_spec (sc hs W C (rowOf hs k r t) hs.length) p h0).2.1 j hj
  rw [sc_row hk h, sc_row hk h] at this
  exact this
theorem bq_lt (h0 : 0 < p) (row : List Str) : bq p hs W C row < p := (best_spec _ p h0).1
abbrev Gb (p : Nat) (hs : List Hand) (W C : Nat → Int) (k : Nat) (r : List Str) : Nat → Nat → Int := Gcol hs (bq p hs W C) k r
theorem Gb_eq (t s : Nat) : Gb p hs W C k r t s = wf (hat hs k) (wat (hat hs k).words t) (bq p hs W C (rowOf hs k r s)) := rfl
theorem piv_honest (h0 : 0 < p) (hk : k < hs.length) (h : Row (wordsOf (oth hs k)) r) (t s : Nat) :
    W k * (Gb p hs W C k r t s - Gb p hs W C k r t t) ≤ piv p hs W C (rowOf hs k r s) k - piv p hs W C (rowOf hs k r t) k := by
  have := best_ge (W := W) (C := C) h0 hk h t (bq p hs W C (rowOf hs k r s)) (bq_lt h0 _)
  rw [piv_row hk h, piv_row hk h, Int.mul_sub]
  rw [Gb_eq, Gb_eq]
  omega
theorem wt_mul {T : Nat → Nat → Int} {w : Int} : ∀ l : List Nat, wt (fun a b => w * T a b) l = w * wt T l
  | [] => (Int.mul_zero w).symm
  | [a] => (Int.mul_zero w).symm
  | a :: b :: l => by
    show w * T a b + wt (fun a b => w * T a b) (b :: l) = w * (T a b + wt T (b :: l))
    rw [wt_mul (b :: l), Int.mul_add]
theorem cw_mul {T : Nat → Nat → Int} {w : Int} {l : List Nat} (h : l ≠ []) : cw (fun a b => w * T a b) l = w * cw T l := by
  rw [cw_eq h, cw_eq h, wt_mul]
theorem col_pot (h0 : 0 < p) (hk : k < hs.length) (h : Row (wordsOf (oth hs k)) r) (n : Nat) : ∀ s t, s < n → t < n → piv p hs W C (rowOf hs k r t) k - piv p hs W C (rowOf hs k r s) k ≤ W k * Tn (Gb p hs W C k r) s t := fun s t _ _ => by
  have := piv_honest (W := W) (C := C) h0 hk h t s
  unfold Tn
  rw [Int.mul_sub] at this ⊢
  omega
theorem col_noNeg (h0 : 0 < p) (hk : k < hs.length) (hW : 1 ≤ W k) (h : Row (wordsOf (oth hs k)) r) (n m : Nat) : NoNeg (Tn (Gb p hs W C k r)) n m := fun l h1 h2 h3 => by
  have := noNeg_of (T := fun a b => W k * Tn (Gb p hs W C k r) a b) (col_pot (W := W) (C := C) h0 hk h n) m l h1 h2 h3
  rw [cw_mul h1] at this
  by_cases q : 0 ≤ cw (Tn (Gb p hs W C k r)) l
  · exact q
  · have := Int.mul_neg_of_pos_of_neg (a := W k) (b := cw (Tn (Gb p hs W C k r)) l) (by omega) (by omega)
    omega
theorem col_ring (h0 : 0 < p) (hk : k < hs.length) (hW : 1 ≤ W k) (h : Row (wordsOf (oth hs k)) r) {n : Nat} (hn : n < 900) : m_ring [gridD n (Gb p hs W C k r)] = .ok .non := by
  rcases ring_ok (n := n) (G := Gb p hs W C k r) hn with ⟨e, _⟩ | ⟨l, _, hr⟩
  · exact e
  · have h2 := hr.two
    have := col_noNeg (W := W) (C := C) h0 hk hW h n l.length l (by intro e; rw [e] at h2; simp at h2) hr.lt (Nat.le_refl _)
    have := hr.neg
    omega
end
theorem oth_sl {hs : List Hand} {k : Nat} (hl : hs.length < 1000) (hk : k < hs.length) : ∃ a b, gSl (handsD hs) none (some (k : Int)) = some a ∧ gSl (handsD hs) (some ((k : Int) + 1)) none = some b ∧ gAdd a b = some (handsD (oth hs k)) := by
  refine ⟨handsD (hs.take k), handsD (hs.drop (k + 1)), ?_, ?_, ?_⟩
  · show some (D.lst (cutD (hs.map Hand.d) none (some (k : Int)))) = _
    rw [cut_to (by rw [List.length_map]; omega)]
    unfold handsD; rw [List.map_take]
  · show some (D.lst (cutD (hs.map Hand.d) (some ((k + 1 : Nat) : Int)) none)) = _
    rw [cut_from]
    unfold handsD; rw [List.map_drop]
  · unfold handsD oth
    rw [gAdd_lst (b24' (by simp; omega))]
    refine congrArg some (congrArg D.lst ?_)
    simp
theorem oth_rows {p : Nat} {hs : List Hand} {k : Nat} (hh : HandsOk p hs) (hk : k < hs.length) : m__law_rows [handsD (oth hs k)] = .ok (rowsD (rowsW (wordsOf (oth hs k)))) :=
  law_rows_gen (by have := oth_len hk; have := hh.hi; omega) (by have := oth_ways hh hk; omega) fun g hg => hh.pos g (oth_mem hg)
end TW

-- TWVerdict
namespace TW
open PySem PySem.Spec PyProof.Rows L2
theorem compL_app {F : D → Res (Option D)} {b : List D} {l2 : List D} : ∀ {a l1 : List D}, compL F a = .ok l1 → compL F b = .ok l2 → compL F (a ++ b) = .ok (l1 ++ l2)
  | [], l1, h1, h2 => by cases h1; exact h2
  | d :: a, l1, h1, h2 => by
    rw [compL] at h1
    rw [List.cons_append, compL]
    cases hd : noX (F d) with
    | stuck => rw [hd] at h1; cases h1
    | exn c => rw [hd] at h1; cases h1
    | ok o =>
      rw [hd] at h1
      rw [Res.bind_ok] at h1 ⊢
      cases hr : compL F a with
      | stuck => rw [hr] at h1; cases h1
      | exn c => rw [hr] at h1; cases h1
      | ok r =>
        rw [hr] at h1
        cases h1
        rw [compL_app hr h2, Res.bind_ok, List.append_assoc]
theorem take_range {hs : List Hand} {k : Nat} {α : Type} (g : Hand → α) (hk : k ≤ hs.length) : (hs.take k).map g = (List.range k).map fun j => g (hat hs j) := by
  refine List.ext_getElem (by simp; omega) fun i h1 h2 => ?_
  simp only [List.length_map, List.length_take] at h1
  rw [List.getElem_map, List.getElem_map, List.getElem_range, List.getElem_take]
  have := hat_at (hs := hs) (k := i) (by omega)
  rw [List.getElem?_eq_getElem (by omega)] at this
  rw [Option.some.inj this]
theorem drop_range {hs : List Hand} {k : Nat} {α : Type} (g : Hand → α) : (hs.drop k).map g = (List.range (hs.length - k)).map fun j => g (hat hs (k + j)) := by
  refine List.ext_getElem (by simp) fun i h1 h2 => ?_
  simp only [List.length_map, List.length_drop] at h1
  rw [List.getElem_map, List.getElem_map, List.getElem_range, List.getElem_drop]
  have := hat_at (hs := hs) (k := k + i) (by omega)
  rw [List.getElem?_eq_getElem (by omega)] at this
  rw [Option.some.inj this]
theorem lc_but {ρ : Rho} {vs : List Nat} {v k : Nat} {mi me : Rho → Res D} {tt : Rho → Res Bool} {hs : List Hand} (g : Hand → D) (hk : k < hs.length) (hl : hs.length < 1000000) (hm : mi ρ = .ok (.int hs.length))
    (ht : ∀ j, j < hs.length → tt ((wipeR ρ vs).set v (some (.int j))) = .ok (!decide (j = k))) (he : ∀ j, j < hs.length → me ((wipeR ρ vs).set v (some (.int j))) = .ok (g (hat hs j))) :
    mLc vs (tgN v) (iR1 mi) tt me ρ = .ok (.lst ((oth hs k).map g)) := by
  unfold mLc
  rw [iR1_ok hm hl, Res.bind_ok, if_pos (by rw [List.length_map, List.length_range]; exact b24 hl)]
  have e1 : (List.range hs.length).map (fun j : Nat => D.int j) = (List.range k).map (fun j : Nat => D.int j) ++ ([D.int k] ++ (List.range (hs.length - (k + 1))).map fun j : Nat => D.int ((k + 1 + j : Nat) : Int)) := by
    have : hs.length = k + (1 + (hs.length - (k + 1))) := by omega
    conv => lhs; rw [this]
    rw [List.range_add, List.map_append, List.map_map, Nat.add_comm 1, List.range_succ_eq_map]
    simp [List.map_map]
    intro a ha
    omega
  have yes : ∀ j, j < hs.length → j ≠ k → (match tgN v (.int j) (wipeR ρ vs) with
      | some ρ' => (tt ρ').bind fun q => if q = true then (me ρ').bind fun v => .ok (some v) else .ok none
      | none => .stuck) = .ok (some (g (hat hs j))) := fun j hj hne => by
    show (match some ((wipeR ρ vs).set v (some (.int j))) with
      | some ρ' => (tt ρ').bind fun q => if q = true then (me ρ').bind fun v => .ok (some v) else .ok none
      | none => .stuck) = _
    dsimp only
    rw [ht j hj, he j hj, decide_eq_false hne]; rfl
  rw [e1, compL_app (compL_m (g := fun j => g (hat hs j)) _ fun j hj => yes j (by have := List.mem_range.mp hj; omega) (by have := List.mem_range.mp hj; omega)) (compL_app (l1 := []) ?_ (compL_m (g := fun j => g (hat hs (k + 1 + j))) _ fun j hj => yes (k + 1 + j) (by have := List.mem_range.mp hj; omega) (by omega)))]
  · rw [← take_range g (by omega), ← drop_range g, List.nil_append, ← List.map_append]; rfl
  · rw [compL, compL]
    show (noX (match some ((wipeR ρ vs).set v (some (.int k))) with
      | some ρ' => (tt ρ').bind fun q => if q = true then (me ρ').bind fun v => .ok (some v) else .ok none
      | none => .stuck)).bind _ = _
    dsimp only
    rw [ht k hk, decide_eq_true rfl]; rfl
section
variable {hs : List Hand} {outs : List Str} {p k : Nat} {W C : Nat → Int} {r : List Str}
theorem others_of_ok (hh : HandsOk p hs) (hk : k < hs.length) : m_others_of [houseD outs hs, .int k] = .ok (rowsD (rowsW (wordsOf (oth hs k)))) := by
  have hl := hh.hi
  rw [m_others_of]
  refine call_rt ?_
  rw [b_others_of]
  simp only [List.map_cons, List.map_nil, List.length_cons, List.length_nil, List.cons_append, List.nil_append, List.replicate, Nat.zero_add, Nat.reduceAdd, Nat.reduceSub, List.set_cons_zero, List.set_cons_succ]
  have i1 : gIx (houseD outs hs) (.int 1) = some (.tup (hs.map Hand.m)) := id rfl
  have cr := crossed_gen (hs := oth hs k) (by have := oth_len hk; omega) (by have := oth_ways hh hk; omega) fun g hg => hh.pos g (oth_mem hg)
  have lc : mLc [2] (tgN 2) (iR1 (mL gLen (mA1 (m2 gIx (mVar 0) (mC (.int 1))) (mA0)))) (mT (m2 gNe (mVar 2) (mVar 1))) (m2 gIx (m2 gIx (m2 gIx (mVar 0) (mC (.int 1))) (mVar 2)) (mC (.int 1))) [some (houseD outs hs), some (.int k), none] = .ok (.lst ((oth hs k).map fun h => .ftup (h.words.map D.str))) := by
    refine lc_but _ hk (by omega) (by simp [i1]) (fun j hj => ?_) (fun j hj => ?_)
    · simp [wipeR]
      omega
    · simp [wipeR, i1, house_hand hj, show ∀ h : Hand, gIx h.m (.int 1) = some (.ftup (h.words.map D.str)) from fun h => id rfl]
  simp [lc, cr]
def Calm (p : Nat) (hs : List Hand) (q : List Str → Nat) : Prop := ∀ k, k < hs.length → ∀ r, Row (wordsOf (oth hs k)) r → m_ring [gridD (wn hs k) (Gcol hs q k r)] = .ok .non ∧ NoNeg (Tn (Gcol hs q k r)) (wn hs k) (wn hs k)
theorem first_ring_ok {q : List Str → Nat} (hh : HandsOk p hs) (ao : AreNames outs 8) (hp : outs.length = p) (hq : ∀ r, q r < p) (c : Calm p hs q) : m_first_ring [houseD outs hs, qT outs hs q] = .ok .non := by
  have hl := hh.hi
  have i1 : gIx (houseD outs hs) (.int 1) = some (.tup (hs.map Hand.m)) := id rfl
  rw [m_first_ring]
  refine call_rt ?_
  rw [b_first_ring]
  simp only [List.map_cons, List.map_nil, List.length_cons, List.length_nil, List.cons_append, List.nil_append, List.replicate, Nat.zero_add, Nat.reduceAdd, Nat.reduceSub, List.set_cons_zero, List.set_cons_succ]
  rw [sSeq_eq]
  generalize hb : sFor (tgN 3) _ _ = b
  generalize hT : qT outs hs q = T
  obtain ⟨ρ', e, x2, x3, x4, rfl⟩ := for_r (j := 2) (mi := mL gLen (mA1 (m2 gIx (mVar 0) (mC (.int 1))) (mA0))) (b := b) (ρ := [some (houseD outs hs), some T, none, none, none])
    (fun k ρ => ∃ x2 x3 x4, ρ = [some (houseD outs hs), some T, x2, x3, x4]) hs.length (by simp [i1]) (by omega) ⟨_, _, _, rfl⟩ (by
      rintro k ρ hk ⟨x2, x3, x4, rfl⟩
      subst hb
      simp only [List.map_cons, List.map_nil, List.length_cons, List.length_nil, List.cons_append, List.nil_append, List.replicate, Nat.zero_add, Nat.reduceAdd, Nat.reduceSub, List.set_cons_zero, List.set_cons_succ]
      generalize hb : sSeq (sSet 4 _) _ = b
      obtain ⟨ρ', e, y3, y4, rfl⟩ := for_m (j := 3) (m := iAny (mArgs m_others_of (mA1 (mVar 0) (mA1 (mVar 2) (mA0))))) (b := b) (ρ := [some (houseD outs hs), some T, some (.int k), x3, x4])
        (fun i ρ => ∃ x3 x4, ρ = [some (houseD outs hs), some T, some (.int k), x3, x4]) (rowsW (wordsOf (oth hs k))) rowT (by simp [others_of_ok hh hk, rowsD]) ⟨_, _, rfl⟩ (by
          rintro i r ρ hd ⟨x3, x4, rfl⟩
          subst hb
          have hr := row_iff.mp (List.mem_of_getElem? hd)
          have g := grid_of_ok hh ao hp hq hk hr
          rw [hT] at g
          simp only [List.map_cons, List.map_nil, List.length_cons, List.length_nil, List.cons_append, List.nil_append, List.replicate, Nat.zero_add, Nat.reduceAdd, Nat.reduceSub, List.set_cons_zero, List.set_cons_succ]
          rw [seq_set (d := .non) (by simp [g, (c k hk r hr).1])]
          simp only [List.map_cons, List.map_nil, List.length_cons, List.length_nil, List.cons_append, List.nil_append, List.replicate, Nat.zero_add, Nat.reduceAdd, Nat.reduceSub, List.set_cons_zero, List.set_cons_succ]
          refine ⟨[some (houseD outs hs), some T, some (.int k), some (rowT r), some .non], ?_, _, _, rfl⟩
          simp [gNotN_non])
      exact ⟨_, e, _, _, _, rfl⟩)
  rw [e]
  simp
structure Paper (p : Nat) (hs : List Hand) (q : List Str → Nat) (d : D) (k : Nat) (r : List Str) : Prop where
  lt : k < hs.length
  row : Row (wordsOf (oth hs k)) r
  pay : ∃ P R, d = .tup [.int k, rowT r, rowD (wn hs k) P, wrow (wn hs k) R] ∧ Fit (Tn (Gcol hs q k r)) (wn hs k) (fun t => Gcol hs q k r t t) P R ∧ Hon (wn hs k) (Gcol hs q k r) P
def cases1 (hs : List Hand) (k : Nat) : List (Nat × List Str) := (rowsW (wordsOf (oth hs k))).map fun r => (k, r)
def casesT (hs : List Hand) (n : Nat) : List (Nat × List Str) := (List.range n).flatMap (cases1 hs)
def Papers (p : Nat) (hs : List Hand) (q : List Str → Nat) (ds : List D) (cs : List (Nat × List Str)) : Prop := ds.length = cs.length ∧ ∀ (i : Nat) (d : D) (c : Nat × List Str), ds[i]? = some d → cs[i]? = some c → Paper p hs q d c.1 c.2
theorem Papers.snoc {q : List Str → Nat} {ds : List D} {cs : List (Nat × List Str)} {d : D} {c : Nat × List Str} (h : Papers p hs q ds cs) (g : Paper p hs q d c.1 c.2) : Papers p hs q (ds ++ [d]) (cs ++ [c]) := by
  refine ⟨by simp [h.1], fun i x y e1 e2 => ?_⟩
  by_cases hi : i < ds.length
  · rw [List.getElem?_append_left hi] at e1
    rw [List.getElem?_append_left (by rw [← h.1]; exact hi)] at e2
    exact h.2 i x y e1 e2
  · have hi2 : i = ds.length := by
      have := (List.getElem?_eq_some_iff.mp e1).1
      simp at this; omega
    subst hi2
    rw [List.getElem?_append_right (Nat.le_refl _)] at e1
    rw [List.getElem?_append_right (by rw [h.1]; exact Nat.le_refl _), h.1] at e2
    simp at e1 e2
    subst e1 e2
    exact g
theorem casesT_len (hh : HandsOk p hs) : ∀ n, n ≤ hs.length → (casesT hs n).length ≤ n * 256
  | 0, _ => by simp [casesT]
  | n + 1, h => by
    unfold casesT
    rw [List.range_succ, List.flatMap_append, List.length_append]
    have a := casesT_len hh n (by omega)
    unfold casesT at a
    have b : ([n].flatMap (cases1 hs)).length ≤ 256 := by
      simp [cases1, rowsW_len]
      exact oth_ways hh (by omega)
    omega
theorem verdict_ok {q : List Str → Nat} (hh : HandsOk p hs) (ao : AreNames outs 8) (hp : outs.length = p) (hq : ∀ r, q r < p) (c : Calm p hs q) : ∃ ds, m_verdict [houseD outs hs, qT outs hs q] = .ok (.tup [.str "pays", .lst ds]) ∧ Papers p hs q ds (casesT hs hs.length) := by
  have hl := hh.hi
  have i1 : gIx (houseD outs hs) (.int 1) = some (.tup (hs.map Hand.m)) := id rfl
  have fr := first_ring_ok hh ao hp hq c
  suffices h : ∃ ds, b_verdict ([houseD outs hs, qT outs hs q].map some ++ List.replicate (8 - [houseD outs hs, qT outs hs q].length) none) = .rt (.tup [.str "pays", .lst ds]) ∧ Papers p hs q ds (casesT hs hs.length) by
    obtain ⟨ds, e, h⟩ := h
    refine ⟨ds, ?_, h⟩
    rw [m_verdict]
    exact call_rt e
  rw [b_verdict]
  simp only [List.map_cons, List.map_nil, List.length_cons, List.length_nil, List.cons_append, List.nil_append, List.replicate, Nat.zero_add, Nat.reduceAdd, Nat.reduceSub, List.set_cons_zero, List.set_cons_succ]
  rw [seq_set (d := .non) (by simp [fr])]
  simp only [List.map_cons, List.map_nil, List.length_cons, List.length_nil, List.cons_append, List.nil_append, List.replicate, Nat.zero_add, Nat.reduceAdd, Nat.reduceSub, List.set_cons_zero, List.set_cons_succ]
  rw [sSeq_eq, show sIf (mT (m1 (fun d => gNotN d .non) (mVar 2))) (sRet (mVar 2)) (sNil) [some (houseD outs hs), some (qT outs hs q), some .non, none, none, none, none, none] = .nx _ from by simp [gNotN_non]; rfl, Out.nx_bind]
  rw [seq_set (d := .lst []) (by simp [nil_l])]
  simp only [List.map_cons, List.map_nil, List.length_cons, List.length_nil, List.cons_append, List.nil_append, List.replicate, Nat.zero_add, Nat.reduceAdd, Nat.reduceSub, List.set_cons_zero, List.set_cons_succ]
  rw [sSeq_eq]
  generalize hb : sFor (tgN 5) _ _ = b
  generalize hT : qT outs hs q = T
  obtain ⟨ρ', e, x4, x5, x6, x7, ds, hds, rfl⟩ := for_r (j := 4) (mi := mL gLen (mA1 (m2 gIx (mVar 0) (mC (.int 1))) (mA0))) (b := b) (ρ := [some (houseD outs hs), some T, some .non, some (.lst []), none, none, none, none])
    (fun k ρ => ∃ x4 x5 x6 x7 ds, Papers p hs q ds (casesT hs k) ∧ ρ = [some (houseD outs hs), some T, some .non, some (.lst ds), x4, x5, x6, x7]) hs.length (by simp [i1]) (by omega) ⟨_, _, _, _, [], ⟨rfl, fun i d c e => by simp at e⟩, rfl⟩ (by
      rintro k ρ hk ⟨x4, x5, x6, x7, ds, hds, rfl⟩
      subst hb
      simp only [List.map_cons, List.map_nil, List.length_cons, List.length_nil, List.cons_append, List.nil_append, List.replicate, Nat.zero_add, Nat.reduceAdd, Nat.reduceSub, List.set_cons_zero, List.set_cons_succ]
      generalize hb : sSeq (sAsg _ _) _ = b
      have w := oth_ways hh hk
      have rlen := rowsW_len (oth hs k)
      obtain ⟨ρ', e, y5, y6, y7, es, hes, rfl⟩ := for_m (j := 5) (m := iAny (mArgs m_others_of (mA1 (mVar 0) (mA1 (mVar 4) (mA0))))) (b := b) (ρ := [some (houseD outs hs), some T, some .non, some (.lst ds), some (.int k), x5, x6, x7])
        (fun i ρ => ∃ x5 x6 x7 es, Papers p hs q es (casesT hs k ++ ((rowsW (wordsOf (oth hs k))).take i).map fun r => (k, r)) ∧ ρ = [some (houseD outs hs), some T, some .non, some (.lst es), some (.int k), x5, x6, x7]) (rowsW (wordsOf (oth hs k))) rowT (by simp [others_of_ok hh hk, rowsD]) ⟨_, _, _, ds, by simpa using hds, rfl⟩ (by
          rintro i r ρ hd ⟨x5, x6, x7, es, hes, rfl⟩
          subst hb
          have hr := row_iff.mp (List.mem_of_getElem? hd)
          have hi := (List.getElem?_eq_some_iff.mp hd).1
          have g := grid_of_ok hh ao hp hq hk hr
          rw [hT] at g
          have o := hh.ok _ (hat_mem hk)
          have wl := o.words.hi
          have wl0 := o.words.lo
          obtain ⟨P, R, eg, f, hon⟩ := greatest_ok (n := wn hs k) (by unfold wn; omega) (by unfold wn; omega) (c k hk r hr).2 (c k hk r hr).1
          have t1 : (rowsW (wordsOf (oth hs k))).take (i + 1) = (rowsW (wordsOf (oth hs k))).take i ++ [r] := by rw [List.take_add_one, hd]; rfl
          have el : es.length < 1000000 := by
            rw [hes.1, List.length_append, List.length_map, List.length_take]
            have := casesT_len hh k (by omega)
            omega
          simp only [List.map_cons, List.map_nil, List.length_cons, List.length_nil, List.cons_append, List.nil_append, List.replicate, Nat.zero_add, Nat.reduceAdd, Nat.reduceSub, List.set_cons_zero, List.set_cons_succ]
          rw [sSeq_eq]
          have asg : sAsg (tgT [6, 7]) (mArgs m_greatest (mA1 (mArgs m_grid_of (mA1 (mVar 0) (mA1 (mVar 1) (mA1 (mVar 4) (mA1 (mVar 5) (mA0)))))) (mA0))) [some (houseD outs hs), some T, some .non, some (.lst es), some (.int k), some (rowT r), x6, x7] = .nx [some (houseD outs hs), some T, some .non, some (.lst es), some (.int k), some (rowT r), some (rowD (wn hs k) P), some (wrow (wn hs k) R)] := by
            simp [g, eg]
          rw [asg, Out.nx_bind]
          have t4 : ∀ a b c d : D, gTup [a, b, c, d] = some (.tup [a, b, c, d]) := fun a b c d => gTup_eq (show 4 ≤ sizeLine by decide)
          refine ⟨[some (houseD outs hs), some T, some .non, some (.lst (es ++ [.tup [.int k, rowT r, rowD (wn hs k) P, wrow (wn hs k) R]])), some (.int k), some (rowT r), some (rowD (wn hs k) P), some (wrow (wn hs k) R)], ?_, _, _, _, _, ?_, rfl⟩
          · simp [t4, nApp_lst (b24 el)]
          · rw [t1, List.map_append, ← List.append_assoc]
            exact hes.snoc ⟨hk, hr, P, R, rfl, f, hon_T.mpr hon⟩)
      rw [List.take_length] at hes
      refine ⟨_, e, _, _, _, _, es, ?_, rfl⟩
      unfold casesT
      rw [List.range_succ, List.flatMap_append]
      simpa [casesT, cases1] using hes)
  rw [e]
  have t2 : ∀ a b : D, gTup [a, b] = some (.tup [a, b]) := tup2
  exact ⟨ds, by simp [t2], hds⟩
theorem best_calm (hh : HandsOk p hs) (h0 : 0 < p) (hW : ∀ k, k < hs.length → 1 ≤ W k) : Calm p hs (bq p hs W C) := fun k hk r hr =>
  have wl := (hh.ok _ (hat_mem hk)).words.hi
  ⟨col_ring h0 hk (hW k hk) hr (by unfold wn; omega), col_noNeg h0 hk (hW k hk) hr _ _⟩
end
end TW

-- TWParts
namespace TW
open PySem PySem.Spec PyProof.Rows L2
theorem cellat_ok (ns : List Int) (k : Nat) : m__law_cell_at [.scr ns, .int k] = .ok (.int (cel ns k)) := by
  rw [m__law_cell_at]
  refine call_rt ?_
  rw [b__law_cell_at]
  unfold cel
  by_cases h : k < ns.length
  · have e : gIx (.scr ns) (.int k) = some (.int (ns.getD k 0)) := by
      show (atI ns (k : Int)).map D.int = _
      rw [atI_nat h, List.getElem?_eq_getElem h, List.getD_eq_getElem?_getD, List.getElem?_eq_getElem h]; rfl
    simp [h, e]
  · simp [h, List.getD_eq_getElem?_getD, List.getElem?_eq_none (show ns.length ≤ k by omega)]
theorem cellat (ns : List Int) {i : Int} (k : Nat) (h : i = k) : m__law_cell_at [.scr ns, .int i] = .ok (.int (cel ns k)) := by rw [h]; exact cellat_ok ns k
theorem big250 {z : Int} (h0 : 0 ≤ z) (h : z < 2 ^ 64) : z.natAbs < 2 ^ 250 := by
  have : z.natAbs < 2 ^ 64 := by omega
  exact Nat.lt_trans this (by decide)
def pn (c : Int) : Int := (c % 2147483647 * 48271 + 11) % 2147483647
def stepOf (N : Int) : Int := match (N / 2028 % 12).toNat with
  | 0 => 1 | 1 => 3 | 2 => 5 | 3 => 7 | 4 => 9 | 5 => 11 | 6 => 15 | 7 => 17 | 8 => 19 | 9 => 21 | 10 => 23 | _ => 25
def pszI (N : Int) : Int := 1 + N / 24336 % 8
def pplI (N : Int) : Int := N / 194688 % pszI N
def poolA (N : Int) (k : Nat) : Str := strRep (sgn (N % 26)) (k + 1)
def poolB (N : Int) (k : Nat) : Str := strRep (sgn (N % 26)) (pplI N).toNat ++ sgn ((N / 78 % 26 + stepOf N * k) % 26) ++ strRep (sgn (N % 26)) (pszI N - 1 - pplI N).toNat
def poolN (c : Int) (k : Nat) : Str := if pn c / 26 % 3 = 1 then poolA (pn c) k else poolB (pn c) k
def pool (c : Int) (many : Nat) : List Str := (List.range many).map (poolN c)
theorem step_cases (N : Int) : stepOf N = 1 ∨ stepOf N = 3 ∨ stepOf N = 5 ∨ stepOf N = 7 ∨ stepOf N = 9 ∨ stepOf N = 11 ∨ stepOf N = 15 ∨ stepOf N = 17 ∨ stepOf N = 19 ∨ stepOf N = 21 ∨ stepOf N = 23 ∨ stepOf N = 25 := by
  unfold stepOf
  split <;> simp
theorem psz_bnd (N : Int) : 1 ≤ pszI N ∧ pszI N ≤ 8 := by
  have := mod_bnd (N / 24336) (k := 8) (by decide)
  unfold pszI; omega
theorem ppl_bnd (N : Int) : 0 ≤ pplI N ∧ pplI N < pszI N := mod_bnd (N / 194688) (by have := psz_bnd N; omega)
theorem pool_name (c : Int) {k : Nat} (hk : k < 8) : IsName (poolN c k) := by
  generalize hN : pn c = N
  have a := mod_bnd N (k := 26) (by decide)
  have b := mod_bnd (N / 78 % 26 + stepOf N * k) (k := 26) (by decide)
  have s := psz_bnd N
  have p := ppl_bnd N
  unfold poolN
  rw [hN]
  split
  · unfold poolA
    have : (strRep (sgn (N % 26)) (k + 1)).length = k + 1 := by rw [strRep_length, sgn_length]; omega
    exact ⟨by omega, by omega, fun x hx => by have := rep_mem hx; omega⟩
  · unfold poolB
    refine ⟨?_, ?_, fun x hx => ?_⟩
    · rw [str_append_length, str_append_length, sgn_length]; omega
    · rw [str_append_length, str_append_length, sgn_length, strRep_length, strRep_length, sgn_length]; omega
    · rw [str_append_list, str_append_list, sgn_list] at hx
      rcases List.mem_append.mp hx with hx | hx
      · rcases List.mem_append.mp hx with hx | hx
        · have := rep_mem hx; omega
        · have := List.mem_singleton.mp hx; omega
      · have := rep_mem hx; omega
theorem pool_inj (c : Int) {k j : Nat} (hk : k < 8) (hj : j < 8) (h : poolN c k = poolN c j) : k = j := by
  generalize hN : pn c = N at *
  unfold poolN at h
  rw [hN] at h
  split at h
  · have := congrArg Str.length h
    unfold poolA at this
    rw [strRep_length, strRep_length, sgn_length] at this
    omega
  · have := congrArg (fun s : Str => s.cps.toList) h
    replace this : (poolB N k).cps.toList = (poolB N j).cps.toList := this
    unfold poolB at this
    simp only [str_append_list, List.append_assoc] at this
    have := List.append_cancel_left this
    rw [sgn_list, sgn_list] at this
    have := (List.cons.inj this).1
    have st := step_cases N
    generalize N / 78 % 26 = a at *
    generalize stepOf N = m at *
    rcases st with rfl | rfl | rfl | rfl | rfl | rfl | rfl | rfl | rfl | rfl | rfl | rfl <;> omega
theorem pool_are (c : Int) {many : Nat} (h0 : 1 ≤ many) (h : many ≤ 8) : AreNames (pool c many) 8 where
  lo := by unfold pool; simpa using h0
  hi := by unfold pool; simpa using h
  nd := by
    unfold pool
    rw [List.Nodup, List.pairwise_map]
    refine List.Pairwise.imp_of_mem ?_ (List.nodup_range (n := many))
    intro x y hx hy hne e
    have := List.mem_range.mp hx
    have := List.mem_range.mp hy
    exact hne (pool_inj c (by omega) (by omega) e)
  nm := fun s hs => by
    obtain ⟨k, hk, rfl⟩ := List.mem_map.mp hs
    exact pool_name c (by have := List.mem_range.mp hk; omega)
theorem pool_len {c : Int} {many : Nat} : (pool c many).length = many := by unfold pool; simp
theorem pool_at {c : Int} {many k : Nat} (h : k < many) : (pool c many)[k]? = some (poolN c k) := by
  unfold pool
  rw [List.getElem?_map, List.getElem?_range h]; rfl
theorem pool_ok (c : Int) {many : Nat} (h : many ≤ 8) : m__law_pool [.int c, .int many] = .ok (namesD (pool c many)) := by
  have m0 := mod_bnd c (k := 2147483647) (by decide)
  have n0 := mod_bnd (c % 2147483647 * 48271 + 11) (k := 2147483647) (by decide)
  have d26 : ∀ z : Int, gDiv (.int z) (.int 26) = some (.int (z / 26)) := fun z => gDiv_int (by decide) (by decide)
  have d78 : ∀ z : Int, gDiv (.int z) (.int 78) = some (.int (z / 78)) := fun z => gDiv_int (by decide) (by decide)
  have d2028 : ∀ z : Int, gDiv (.int z) (.int 2028) = some (.int (z / 2028)) := fun z => gDiv_int (by decide) (by decide)
  have d24336 : ∀ z : Int, gDiv (.int z) (.int 24336) = some (.int (z / 24336)) := fun z => gDiv_int (by decide) (by decide)
  have d194688 : ∀ z : Int, gDiv (.int z) (.int 194688) = some (.int (z / 194688)) := fun z => gDiv_int (by decide) (by decide)
  have e1 : gMul (.int (c % 2147483647)) (.int 48271) = some (.int (c % 2147483647 * 48271)) := gMul_int (big250 m0.1 (by omega)) (by decide)
  rw [m__law_pool]
  refine call_rt ?_
  rw [b__law_pool]
  simp only [List.map_cons, List.map_nil, List.length_cons, List.length_nil, List.cons_append, List.nil_append, List.replicate, Nat.zero_add, Nat.reduceAdd, Nat.reduceSub, List.set_cons_zero, List.set_cons_succ]
  rw [seq_set (d := .str "abcdefghijklmnopqrstuvwxyz") (by simp)]
  simp only [List.map_cons, List.map_nil, List.length_cons, List.length_nil, List.cons_append, List.nil_append, List.replicate, Nat.zero_add, Nat.reduceAdd, Nat.reduceSub, List.set_cons_zero, List.set_cons_succ]
  have eN : pn c = (c % 2147483647 * 48271 + 11) % 2147483647 := rfl
  rw [seq_set (d := .int (pn c)) (by
    rw [eN]
    simp only [m2_eq, mVar_eq, mC_eq, List.getElem?_cons_zero, Res.bind_ok, gMod_int (show (0 : Int) < 2147483647 by decide), ofO_some, e1, gAdd_int])]
  simp only [List.map_cons, List.map_nil, List.length_cons, List.length_nil, List.cons_append, List.nil_append, List.replicate, Nat.zero_add, Nat.reduceAdd, Nat.reduceSub, List.set_cons_zero, List.set_cons_succ]
  have pd : pool c many = (List.range many).map fun k => if pn c / 26 % 3 = 1 then poolA (pn c) k else poolB (pn c) k := rfl
  rw [pd]
  generalize pn c = N at *
  have a := mod_bnd N (k := 26) (by decide)
  have s := psz_bnd N
  have p := ppl_bnd N
  rw [seq_set (d := .str (sgn (N % 26))) (by simp [ix_abc a.1 a.2])]
  simp only [List.map_cons, List.map_nil, List.length_cons, List.length_nil, List.cons_append, List.nil_append, List.replicate, Nat.zero_add, Nat.reduceAdd, Nat.reduceSub, List.set_cons_zero, List.set_cons_succ]
  by_cases h3 : N / 26 % 3 = 1
  · have e : mLc [11] (tgN 11) (iR1 (mVar 1)) (tYesM) (m2 gMul (mVar 4) (m2 gAdd (mVar 11) (mC (.int 1)))) [some (.int c), some (.int many), some (.str "abcdefghijklmnopqrstuvwxyz"), some (.int N), some (.str (sgn (N % 26))), none, none, none, none, none, none, none] = .ok (namesD ((List.range many).map fun k => if N / 26 % 3 = 1 then poolA N k else poolB N k)) := by
      rw [lc_r (j := 11) many (fun k => .str (if N / 26 % 3 = 1 then poolA N k else poolB N k)) (by simp) (by omega) (fun k hk => by
        rw [if_pos h3]
        simp only [wipeR]
        simp [mul_str (s := sgn (N % 26)) (k := (k : Int) + 1) (by omega) (by omega) (by rw [sgn_length]; decide)]
        rfl)]
      unfold namesD
      rw [List.map_map]; rfl
    generalize ((List.range many).map fun k => if N / 26 % 3 = 1 then poolA N k else poolB N k) = L at *
    simp [d26, h3, e]
  · rw [sSeq_eq, show sIf (mT (m2 gEq (m2 gMod (m2 gDiv (mVar 3) (mC (.int 26))) (mC (.int 3))) (mC (.int 1)))) (sRet (mLc [11] (tgN 11) (iR1 (mVar 1)) (tYesM) (m2 gMul (mVar 4) (m2 gAdd (mVar 11) (mC (.int 1)))))) (sNil) [some (.int c), some (.int many), some (.str "abcdefghijklmnopqrstuvwxyz"), some (.int N), some (.str (sgn (N % 26))), none, none, none, none, none, none, none] = .nx _ from by simp [d26, h3]; rfl, Out.nx_bind]
    have tw := mod_bnd (N / 2028) (k := 12) (by decide)
    have stp : ∃ L, gLst [.int 1, .int 3, .int 5, .int 7, .int 9, .int 11, .int 15, .int 17, .int 19, .int 21, .int 23, .int 25] = some L ∧ gIx L (.int (N / 2028 % 12)) = some (.int (stepOf N)) := by
      refine ⟨_, gLst_eq (show 12 ≤ sizeLine by decide), ?_⟩
      unfold stepOf
      generalize N / 2028 % 12 = q at *
      have : q = 0 ∨ q = 1 ∨ q = 2 ∨ q = 3 ∨ q = 4 ∨ q = 5 ∨ q = 6 ∨ q = 7 ∨ q = 8 ∨ q = 9 ∨ q = 10 ∨ q = 11 := by omega
      rcases this with rfl | rfl | rfl | rfl | rfl | rfl | rfl | rfl | rfl | rfl | rfl | rfl <;> rfl
    obtain ⟨SL, sl1, sl2⟩ := stp
    rw [seq_set (d := .int (N / 78 % 26)) (by simp [d78])]
    simp only [List.map_cons, List.map_nil, List.length_cons, List.length_nil, List.cons_append, List.nil_append, List.replicate, Nat.zero_add, Nat.reduceAdd, Nat.reduceSub, List.set_cons_zero, List.set_cons_succ]
    rw [seq_set (d := .int (stepOf N)) (by simp [sl1, sl2, d2028])]
    simp only [List.map_cons, List.map_nil, List.length_cons, List.length_nil, List.cons_append, List.nil_append, List.replicate, Nat.zero_add, Nat.reduceAdd, Nat.reduceSub, List.set_cons_zero, List.set_cons_succ]
    rw [seq_set (d := .int (pszI N)) (by simp [d24336]; rfl)]
    simp only [List.map_cons, List.map_nil, List.length_cons, List.length_nil, List.cons_append, List.nil_append, List.replicate, Nat.zero_add, Nat.reduceAdd, Nat.reduceSub, List.set_cons_zero, List.set_cons_succ]
    rw [seq_set (d := .int (pplI N)) (by simp [d194688, gMod_int (show (0 : Int) < pszI N by omega)]; rfl)]
    simp only [List.map_cons, List.map_nil, List.length_cons, List.length_nil, List.cons_append, List.nil_append, List.replicate, Nat.zero_add, Nat.reduceAdd, Nat.reduceSub, List.set_cons_zero, List.set_cons_succ]
    rw [seq_set (d := .str (strRep (sgn (N % 26)) (pplI N).toNat)) (by simp [mul_str (s := sgn (N % 26)) (k := pplI N) p.1 (by omega) (by rw [sgn_length]; decide)])]
    simp only [List.map_cons, List.map_nil, List.length_cons, List.length_nil, List.cons_append, List.nil_append, List.replicate, Nat.zero_add, Nat.reduceAdd, Nat.reduceSub, List.set_cons_zero, List.set_cons_succ]
    rw [seq_set (d := .str (strRep (sgn (N % 26)) (pszI N - 1 - pplI N).toNat)) (by simp [mul_str (s := sgn (N % 26)) (k := pszI N - 1 - pplI N) (by omega) (by omega) (by rw [sgn_length]; decide)])]
    simp only [List.map_cons, List.map_nil, List.length_cons, List.length_nil, List.cons_append, List.nil_append, List.replicate, Nat.zero_add, Nat.reduceAdd, Nat.reduceSub, List.set_cons_zero, List.set_cons_succ]
    have l1 : (strRep (sgn (N % 26)) (pplI N).toNat).length ≤ 8 := by rw [strRep_length, sgn_length]; omega
    have l2 : (strRep (sgn (N % 26)) (pszI N - 1 - pplI N).toNat).length ≤ 8 := by rw [strRep_length, sgn_length]; omega
    have sc := step_cases N
    rw [sRet_eq, lc_r (j := 11) many (fun k => .str (if N / 26 % 3 = 1 then poolA N k else poolB N k)) (by simp) (by omega) (fun k hk => by
      rw [if_neg h3]
      have b := mod_bnd (N / 78 % 26 + stepOf N * k) (k := 26) (by decide)
      have g2 : gMul (.int (stepOf N)) (.int k) = some (.int (stepOf N * k)) := gMul_int (nat250 (by omega)) (nat250 (by omega))
      have e1 : gAdd (.str (strRep (sgn (N % 26)) (pplI N).toNat)) (.str (sgn ((N / 78 % 26 + stepOf N * k) % 26))) = some (.str _) := add_str (by rw [sgn_length]; omega)
      have e2 : gAdd (.str (strRep (sgn (N % 26)) (pplI N).toNat ++ sgn ((N / 78 % 26 + stepOf N * k) % 26))) (.str (strRep (sgn (N % 26)) (pszI N - 1 - pplI N).toNat)) = some (.str (poolB N k)) := by
        rw [add_str (by rw [str_append_length, sgn_length]; omega)]
        rfl
      have ix2 : gIx (.str "abcdefghijklmnopqrstuvwxyz") (.int ((N / 78 + stepOf N * k) % 26)) = some (.str (sgn ((N / 78 % 26 + stepOf N * k) % 26))) := by
        rw [show (N / 78 + stepOf N * k) % 26 = (N / 78 % 26 + stepOf N * k) % 26 by omega]
        exact ix_abc b.1 b.2
      generalize sgn ((N / 78 % 26 + stepOf N * k) % 26) = Z at e1 e2 ix2
      simp only [wipeR]
      simp [g2, ix2, e1, e2])]
    rw [Res.out_ok]
    unfold namesD
    rw [List.map_map]; rfl
theorem worth_ok (z : Int) : ∃ y, m__law_worth [.int z] = .ok (.int y) ∧ -T60 < y ∧ y < T60 := by
  have p18 : gPow (.int 10) (.int 18) = some (.int (10 ^ 18)) := gPow_10 (k := 18) (by decide)
  have p17 : gPow (.int 10) (.int 17) = some (.int (10 ^ 17)) := gPow_10 (k := 17) (by decide)
  have d5 : ∀ z : Int, gDiv (.int z) (.int 5) = some (.int (z / 5)) := fun z => gDiv_int (by decide) (by decide)
  have e5 : gMul (.int 5) (.int (10 ^ 17)) = some (.int (5 * 10 ^ 17)) := gMul_int (by decide) (by decide)
  have e2 : gMul (.int 2) (.int T60) = some (.int (2 * T60)) := gMul_int (by decide) (by decide)
  have m18 : gMod (.int (z / 5)) (.int (10 ^ 18)) = some (.int (z / 5 % 10 ^ 18)) := gMod_int (by decide)
  have mT : gMod (.int (z / 5)) (.int (2 * T60 - 1)) = some (.int (z / 5 % (2 * T60 - 1))) := gMod_int (by decide)
  have b18 := mod_bnd (z / 5) (k := 10 ^ 18) (by decide)
  have bT := mod_bnd (z / 5) (k := 2 * T60 - 1) (by decide)
  have b19 := mod_bnd (z / 5) (k := 19) (by decide)
  have t18 : (10 : Int) ^ 18 < T60 := by decide
  have tp : 19 < T60 := by decide
  have h17 : (10 : Int) ^ 17 * 10 = 10 ^ 18 := by decide
  generalize hq18 : (10 : Int) ^ 18 = q18 at *
  generalize hq17 : (10 : Int) ^ 17 = q17 at *
  suffices h : ∃ y, b__law_worth ([D.int z].map some ++ List.replicate (1 - [D.int z].length) none) = .rt (.int y) ∧ -T60 < y ∧ y < T60 by
    obtain ⟨y, e, h⟩ := h
    refine ⟨y, ?_, h⟩
    rw [m__law_worth]
    exact call_rt e
  rw [b__law_worth]
  simp only [List.map_cons, List.map_nil, List.length_cons, List.length_nil, List.cons_append, List.nil_append, List.replicate, Nat.zero_add, Nat.reduceAdd, Nat.reduceSub, List.set_cons_zero, List.set_cons_succ]
  have b0 := mod_bnd z (k := 5) (by decide)
  have : z % 5 = 0 ∨ z % 5 = 1 ∨ z % 5 = 2 ∨ z % 5 = 3 ∨ z % 5 = 4 := by omega
  rcases this with h | h | h | h | h
  · exact ⟨z / 5 % 19 - 9, by simp [h, d5], by omega, by omega⟩
  · exact ⟨z / 5 % 19 - 9, by simp [h, d5], by omega, by omega⟩
  · exact ⟨z / 5 % q18 - 5 * q17, by simp [h, d5, p18, p17, e5, m18], by omega, by omega⟩
  · exact ⟨z / 5 % (2 * T60 - 1) - T60 + 1, by simp [h, d5, pow60, e2, mT], by omega, by omega⟩
  · exact ⟨0, by simp [h], by omega, by omega⟩
theorem drawnk_ok (ns : List Int) (hl : ns.length ≤ 1000) (k : Nat) (hk : k < 100000) : ∃ y, m__law_drawn [.scr ns, .int k] = .ok (.int y) := by
  suffices h : ∃ y, b__law_drawn ([D.scr ns, D.int k].map some ++ List.replicate (5 - [D.scr ns, D.int k].length) none) = .rt (.int y) by
    obtain ⟨y, e⟩ := h
    refine ⟨y, ?_⟩
    rw [m__law_drawn]
    exact call_rt e
  rw [b__law_drawn]
  simp only [List.map_cons, List.map_nil, List.length_cons, List.length_nil, List.cons_append, List.nil_append, List.replicate, Nat.zero_add, Nat.reduceAdd, Nat.reduceSub, List.set_cons_zero, List.set_cons_succ]
  obtain ⟨m, hm⟩ : ∃ m : Nat, max 1 (min (ns.length : Int) 63 - 5) = m := ⟨(max 1 (min (ns.length : Int) 63 - 5)).toNat, by omega⟩
  have mge : 1 ≤ m := by omega
  have mle : m ≤ 63 := by omega
  have mpos : (0 : Int) < m := by omega
  rw [seq_set (d := .int m) (by simp [hm])]
  simp only [List.map_cons, List.map_nil, List.length_cons, List.length_nil, List.cons_append, List.nil_append, List.replicate, Nat.zero_add, Nat.reduceAdd, Nat.reduceSub, List.set_cons_zero, List.set_cons_succ]
  have cc : m__law_cell_at [.scr ns, .int (5 + (k : Int) % m)] = .ok (.int (cel ns (5 + k % m))) := cellat ns (5 + k % m) (by simp)
  rw [seq_set (d := .int (cel ns (5 + k % m))) (by simp [gMod_int mpos, cc])]
  simp only [List.map_cons, List.map_nil, List.length_cons, List.length_nil, List.cons_append, List.nil_append, List.replicate, Nat.zero_add, Nat.reduceAdd, Nat.reduceSub, List.set_cons_zero, List.set_cons_succ]
  generalize cel ns (5 + k % m) = z
  by_cases h : k < m
  · exact ⟨z, by simp [h]⟩
  · rw [sSeq_eq, show sIf (mT (m2 gLt (mVar 1) (mVar 2))) (sRet (mVar 3)) (sNil) [some (.scr ns), some (.int k), some (.int m), some (.int z), none] = .nx _ from by simp [h]; rfl, Out.nx_bind]
    have a := mod_bnd z (k := 2147483647) (by decide)
    have e1 : gMul (.int (z % 2147483647)) (.int 48271) = some (.int (z % 2147483647 * 48271)) := gMul_int (big250 a.1 (by omega)) (by decide)
    have gd : gDiv (.int k) (.int m) = some (.int (((k / m : Nat) : Int))) := by
      rw [gDiv_int mpos (Nat.lt_trans (log2_lt (k := 64) (show (m : Int).natAbs < 2 ^ 64 by omega) (by decide)) (by decide))]
      simp
    have kd : k / m ≤ k := Nat.div_le_self _ _
    generalize k / m = qn at gd kd
    have e2 : gMul (.int (qn : Int)) (.int 7919) = some (.int ((qn : Int) * 7919)) := gMul_int (big250 (by omega) (by omega)) (by decide)
    have gm : ∀ y : Int, gMod (.int y) (.int 2147483647) = some (.int (y % 2147483647)) := fun y => gMod_int (by decide)
    have gm2 : ∀ y : Int, gMod (.int y) (.int 2147483629) = some (.int (y % 2147483629)) := fun y => gMod_int (by decide)
    generalize (qn : Int) = q at *
    obtain ⟨w, hw⟩ : ∃ w, (z % 2147483647 * 48271 + q * 7919 + k) % 2147483647 = w := ⟨_, rfl⟩
    have wb := mod_bnd (z % 2147483647 * 48271 + q * 7919 + k) (k := 2147483647) (by decide)
    rw [hw] at wb
    have e3 : gMul (.int w) (.int w) = some (.int (w * w)) := gMul_int (big250 wb.1 (by omega)) (big250 wb.1 (by omega))
    rw [seq_set (d := .int w) (by
      simp only [m2_eq, mVar_eq, mC_eq, List.getElem?_cons_zero, List.getElem?_cons_succ, Res.bind_ok, gm, ofO_some, e1, gAdd_int, gd, e2, hw])]
    simp only [List.map_cons, List.map_nil, List.length_cons, List.length_nil, List.cons_append, List.nil_append, List.replicate, Nat.zero_add, Nat.reduceAdd, Nat.reduceSub, List.set_cons_zero, List.set_cons_succ]
    exact ⟨w * w % 2147483629, by
      simp only [sRet_eq, m2_eq, mVar_eq, mC_eq, List.getElem?_cons_zero, List.getElem?_cons_succ, Res.bind_ok, e3, ofO_some, gm2, Res.out_ok]⟩
def wdr (ns : List Int) (k : Nat) : Int := match (m__law_drawn [.scr ns, .int k]).bind fun d => m__law_worth [d] with
  | .ok (.int y) => y
  | _ => 0
theorem wdr_ok (ns : List Int) (hl : ns.length ≤ 1000) (k : Nat) (hk : k < 100000) : ∃ z, m__law_drawn [.scr ns, .int k] = .ok (.int z) ∧ m__law_worth [.int z] = .ok (.int (wdr ns k)) ∧ -T60 < wdr ns k ∧ wdr ns k < T60 := by
  obtain ⟨z, ez⟩ := drawnk_ok ns hl k hk
  obtain ⟨y, ey, b⟩ := worth_ok z
  have : wdr ns k = y := by
    unfold wdr
    rw [ez, Res.bind_ok, ey]
  rw [this]
  exact ⟨z, ez, ey, b⟩
structure Tops (ts : List Int) (T : Nat → Nat) : Prop where
  at' : ∀ j : Nat, j < 4 → gIx (.lst (ts.map D.int)) (.int j) = some (.int (T j))
  lo : ∀ j : Nat, j < 4 → 1 ≤ T j ∧ T j ≤ 8
  way : ∀ j : Nat, j < 4 → T j ^ (j + 1) ≤ 256
theorem ways_pow {t : Nat} : ∀ {hs : List Hand}, (∀ h ∈ hs, h.words.length ≤ t) → ways hs ≤ t ^ hs.length
  | [], _ => Nat.le_refl _
  | h :: hs, ho => by
    have a := ho h List.mem_cons_self
    have b := ways_pow (hs := hs) fun g hg => ho g (List.mem_cons_of_mem _ hg)
    show h.words.length * ways hs ≤ t ^ (hs.length + 1)
    rw [Nat.pow_succ, Nat.mul_comm (t ^ hs.length)]
    exact Nat.mul_le_mul a b
theorem parts_are (ns : List Int) (hl : ns.length ≤ 63) {ts : List Int} {T : Nat → Nat} (hT : Tops ts T) :
    ∃ outs hs, m__law_parts [.scr ns, .lst (ts.map D.int)] = .ok (.tup [namesD outs, handsD hs]) ∧ AreNames outs 8 ∧ HandsOk outs.length hs := by
  have d3 : ∀ (z k : Int), 0 < k → k < 1000 → gDiv (.int z) (.int k) = some (.int (z / k)) := fun z k h1 h2 => gDiv_int h1 (Nat.lt_trans (log2_lt (k := 64) (show k.natAbs < 2 ^ 64 by omega) (by decide)) (by decide))
  suffices h : ∃ outs hs, b__law_parts ([D.scr ns, .lst (ts.map D.int)].map some ++ List.replicate (13 - [D.scr ns, .lst (ts.map D.int)].length) none) = .rt (.tup [namesD outs, handsD hs]) ∧ AreNames outs 8 ∧ HandsOk outs.length hs by
    obtain ⟨outs, hs, e, h⟩ := h
    refine ⟨outs, hs, ?_, h⟩
    rw [m__law_parts]
    exact call_rt e
  rw [b__law_parts]
  generalize hLt : (.lst (ts.map D.int) : D) = Lt at *
  simp only [List.map_cons, List.map_nil, List.length_cons, List.length_nil, List.cons_append, List.nil_append, List.replicate, Nat.zero_add, Nat.reduceAdd, Nat.reduceSub, List.set_cons_zero, List.set_cons_succ]
  have a0 := cellat ns (i := 0) 0 rfl
  have a1 := cellat ns (i := 1) 1 rfl
  have a2 := cellat ns (i := 2) 2 rfl
  have a3 := cellat ns (i := 3) 3 rfl
  rw [seq_set (d := .int (cel ns 0)) (by simp [a0]), seq_set (d := .int (cel ns 1)) (by simp [a1])]
  simp only [List.map_cons, List.map_nil, List.length_cons, List.length_nil, List.cons_append, List.nil_append, List.replicate, Nat.zero_add, Nat.reduceAdd, Nat.reduceSub, List.set_cons_zero, List.set_cons_succ]
  generalize cel ns 0 = f at *
  generalize cel ns 1 = sh at *
  have b8 := mod_bnd sh (k := 8) (by decide)
  obtain ⟨p, hp⟩ : ∃ p : Nat, 1 + sh % 8 = p := ⟨(1 + sh % 8).toNat, by omega⟩
  have po := pool_ok f (many := p) (by omega)
  have pa := pool_are f (many := p) (by omega) (by omega)
  have pl := pool_len (c := f) (many := p)
  rw [seq_set (d := namesD (pool f p)) (by simp [hp, po])]
  simp only [List.map_cons, List.map_nil, List.length_cons, List.length_nil, List.cons_append, List.nil_append, List.replicate, Nat.zero_add, Nat.reduceAdd, Nat.reduceSub, List.set_cons_zero, List.set_cons_succ]
  refine ⟨pool f p, ?_⟩
  rw [pl]
  generalize pool f p = outs at *
  rw [seq_set (d := .lst []) (by simp [nil_l]), seq_set (d := .int 0) (by simp)]
  simp only [List.map_cons, List.map_nil, List.length_cons, List.length_nil, List.cons_append, List.nil_append, List.replicate, Nat.zero_add, Nat.reduceAdd, Nat.reduceSub, List.set_cons_zero, List.set_cons_succ]
  have b4 := mod_bnd (sh / 8) (k := 4) (by decide)
  obtain ⟨n, hn⟩ : ∃ n : Nat, sh / 8 % 4 = n := ⟨(sh / 8 % 4).toNat, by omega⟩
  have hn4 : n < 4 := by omega
  obtain ⟨hT1, hT2⟩ := hT.lo n hn4
  have hTa : gIx Lt (.int n) = some (.int (T n)) := by rw [← hLt]; exact hT.at' n hn4
  have hTw := hT.way n hn4
  generalize T n = tt at *
  rw [sSeq_eq]
  generalize hb : sSeq (sSet 8 _) _ = b
  -- the names' seed
  have c2 : ∃ y, gIx (.lst [.int f, .int (f / 7 + 2)]) (.int (sh / 96 % 2)) = some (.int y) := by
    have := mod_bnd (sh / 96) (k := 2) (by decide)
    have : sh / 96 % 2 = 0 ∨ sh / 96 % 2 = 1 := by omega
    rcases this with h | h <;> rw [h] <;> exact ⟨_, rfl⟩
  obtain ⟨y2, c2⟩ := c2
  have two : ∀ a b : D, gLst [a, b] = some (.lst [a, b]) := fun a b => gLst_eq (show 2 ≤ sizeLine by decide)
  have three : ∀ a b c : D, gLst [a, b, c] = some (.lst [a, b, c]) := fun a b c => gLst_eq (show 3 ≤ sizeLine by decide)
  have four : gLst [.int 1, .int 9, .int 83, .int 761] = some (.lst [.int 1, .int 9, .int 83, .int 761]) := gLst_eq (show 4 ≤ sizeLine by decide)
  have p4 := pool_ok y2 (many := 4) (by decide)
  obtain ⟨ρ', e, x7, x8, x9, x10, x11, x12, hs, K, ok, nm, wd, hk, rfl⟩ := for_r (j := 7) (mi := m2 gAdd (mC (.int 1)) (m2 gMod (m2 gDiv (mVar 3) (mC (.int 8))) (mC (.int 4)))) (b := b) (ρ := [some (.scr ns), some Lt, some (.int f), some (.int sh), some (namesD outs), some (.lst []), some (.int 0), none, none, none, none, none, none])
    (fun j ρ => ∃ x7 x8 x9 x10 x11 x12, ∃ (hs : List Hand) (K : Nat), (∀ h ∈ hs, h.Ok p) ∧ hs.map Hand.name = (List.range j).map (poolN y2) ∧ (∀ h ∈ hs, h.words.length ≤ tt) ∧ K ≤ j * 100 ∧ ρ = [some (.scr ns), some Lt, some (.int f), some (.int sh), some (namesD outs), some (handsD hs), some (.int K), x7, x8, x9, x10, x11, x12]) (n + 1) (by simp [d3, hn]; omega) (by omega) ⟨_, _, _, _, _, _, [], 0, by simp, rfl, by simp, by omega, rfl⟩ (by
      rintro j ρ hj ⟨x7, x8, x9, x10, x11, x12, hs, K, ok, nm, wd, hK, rfl⟩
      subst hb
      have hlen : hs.length = j := by have := congrArg List.length nm; simpa using this
      simp only [List.map_cons, List.map_nil, List.length_cons, List.length_nil, List.cons_append, List.nil_append, List.replicate, Nat.zero_add, Nat.reduceAdd, Nat.reduceSub, List.set_cons_zero, List.set_cons_succ]
      have dj : ∃ q : Int, gIx (.lst [.int 1, .int 9, .int 83, .int 761]) (.int j) = some (.int q) ∧ 0 < q ∧ q < 1000 := by
        have : j = 0 ∨ j = 1 ∨ j = 2 ∨ j = 3 := by omega
        rcases this with rfl | rfl | rfl | rfl <;> exact ⟨_, rfl, by decide, by decide⟩
      obtain ⟨q, dj, q0, q1⟩ := dj
      have tb := mod_bnd (cel ns 2 / q) (k := (tt : Int)) (by omega)
      obtain ⟨sz, hsz⟩ : ∃ s : Nat, 1 + cel ns 2 / q % tt = s := ⟨(1 + cel ns 2 / q % tt).toNat, by omega⟩
      rw [seq_set (d := .int sz) (by simp [a2, four, dj, d3 _ q q0 q1, d3, hn, hTa, gMod_int (show (0 : Int) < tt by omega), hsz])]
      simp only [List.map_cons, List.map_nil, List.length_cons, List.length_nil, List.cons_append, List.nil_append, List.replicate, Nat.zero_add, Nat.reduceAdd, Nat.reduceSub, List.set_cons_zero, List.set_cons_succ]
      have c3 : ∃ y, gIx (.lst [.int f, .int (f / 5 + j), .int (cel ns 3 + 31 * j)]) (.int (sh / 32 % 3)) = some (.int y) := by
        have := mod_bnd (sh / 32) (k := 3) (by decide)
        have : sh / 32 % 3 = 0 ∨ sh / 32 % 3 = 1 ∨ sh / 32 % 3 = 2 := by omega
        rcases this with h | h | h <;> rw [h] <;> exact ⟨_, rfl⟩
      obtain ⟨y3, c3⟩ := c3
      have e31 : gMul (.int 31) (.int j) = some (.int (31 * (j : Int))) := gMul_int (nat250 (by decide)) (nat250 (by omega))
      have pw := pool_ok y3 (many := sz) (by omega)
      have paw := pool_are y3 (many := sz) (by omega) (by omega)
      have plw := pool_len (c := y3) (many := sz)
      rw [seq_set (d := namesD (pool y3 sz)) (by simp [a3, three, d3, e31, c3, pw])]
      simp only [List.map_cons, List.map_nil, List.length_cons, List.length_nil, List.cons_append, List.nil_append, List.replicate, Nat.zero_add, Nat.reduceAdd, Nat.reduceSub, List.set_cons_zero, List.set_cons_succ]
      generalize pool y3 sz = words at *
      rw [seq_set (d := .lst []) (by simp [nil_l])]
      simp only [List.map_cons, List.map_nil, List.length_cons, List.length_nil, List.cons_append, List.nil_append, List.replicate, Nat.zero_add, Nat.reduceAdd, Nat.reduceSub, List.set_cons_zero, List.set_cons_succ]
      rw [sSeq_eq]
      generalize hb : sSeq (sApp 10 _ _) _ = b
      obtain ⟨ρ', e, z11, z12, ws, K2, wlen, wrow, wnum, hK2, rfl⟩ := for_m (j := 11) (m := iAny (mVar 9)) (b := b) (ρ := [some (.scr ns), some Lt, some (.int f), some (.int sh), some (namesD outs), some (handsD hs), some (.int K), some (.int j), some (.int sz), some (namesD words), some (.lst []), x11, x12])
        (fun t ρ => ∃ z11 z12, ∃ (ws : List (List Int)) (K2 : Nat), ws.length = t ∧ (∀ r ∈ ws, r.length = p) ∧ (∀ r ∈ ws, ∀ z ∈ r, -T60 < z ∧ z < T60) ∧ K2 = K + t * p ∧ ρ = [some (.scr ns), some Lt, some (.int f), some (.int sh), some (namesD outs), some (handsD hs), some (.int K2), some (.int j), some (.int sz), some (namesD words), some (wD ws), z11, z12]) words D.str (by simp [iLoc_names]) ⟨_, _, [], K, rfl, by simp, by simp, by omega, rfl⟩ (by
          rintro t w ρ hd ⟨z11, z12, ws, K2, wlen, wrow, wnum, hK2, rfl⟩
          subst hb
          have ht := (List.getElem?_eq_some_iff.mp hd).1
          have htp : t * p ≤ 8 * 8 := Nat.mul_le_mul (by omega) (by omega)
          simp only [List.map_cons, List.map_nil, List.length_cons, List.length_nil, List.cons_append, List.nil_append, List.replicate, Nat.zero_add, Nat.reduceAdd, Nat.reduceSub, List.set_cons_zero, List.set_cons_succ]
          have lc : mLc [12] (tgN 12) (iR1 (mL gLen (mA1 (mVar 4) (mA0)))) (tYesM) (mArgs m__law_worth (mA1 (mArgs m__law_drawn (mA1 (mVar 0) (mA1 (m2 gAdd (mVar 6) (mVar 12)) (mA0)))) (mA0))) [some (.scr ns), some Lt, some (.int f), some (.int sh), some (namesD outs), some (handsD hs), some (.int K2), some (.int j), some (.int sz), some (namesD words), some (wD ws), some (.str w), z12] = .ok (numsD ((List.range p).map fun i => wdr ns (K2 + i))) := by
            rw [lc_r (j := 12) p (fun i => .int (wdr ns (K2 + i))) (by simp [len_names, pl]) (by omega) (fun i hi => by
              obtain ⟨z, e1, e2, _⟩ := wdr_ok ns (by omega) (K2 + i) (by omega)
              have e1' : m__law_drawn [.scr ns, .int ((K2 : Int) + i)] = .ok (.int z) := by
                rw [show (K2 : Int) + i = ((K2 + i : Nat) : Int) by simp]; exact e1
              simp only [wipeR]
              simp [e1', e2])]
            unfold numsD
            rw [List.map_map]; rfl
          have ap : nApp (numsD ((List.range p).map fun i => wdr ns (K2 + i))) (wD ws) = some (wD (ws ++ [(List.range p).map fun i => wdr ns (K2 + i)])) := by
            unfold wD
            rw [nApp_lst (b24 (by rw [List.length_map]; omega)), List.map_append]; rfl
          refine ⟨[some (.scr ns), some Lt, some (.int f), some (.int sh), some (namesD outs), some (handsD hs), some (.int (K2 + p : Nat)), some (.int j), some (.int sz), some (namesD words), some (wD (ws ++ [(List.range p).map fun i => wdr ns (K2 + i)])), some (.str w), z12], by simp [lc, ap, len_names, pl], _, _, ws ++ [(List.range p).map fun i => wdr ns (K2 + i)], K2 + p, by simp [wlen], ?_, ?_, by rw [hK2, Nat.add_mul]; omega, rfl⟩
          · intro r hr
            rcases List.mem_append.mp hr with hr | hr
            · exact wrow r hr
            · rw [List.mem_singleton.mp hr]; simp
          · intro r hr z hz
            rcases List.mem_append.mp hr with hr | hr
            · exact wnum r hr z hz
            · rw [List.mem_singleton.mp hr] at hz
              obtain ⟨i, hi, rfl⟩ := List.mem_map.mp hz
              have := List.mem_range.mp hi
              obtain ⟨_, _, _, b⟩ := wdr_ok ns (by omega) (K2 + i) (by omega)
              exact b)
      rw [e, Out.nx_bind]
      have ixn : gIx (namesD (pool y2 4)) (.int j) = some (.str (poolN y2 j)) := names_ix (pool_at (by omega))
      have wl : words.length * p ≤ 8 * 8 := Nat.mul_le_mul (by omega) (by omega)
      have ap : nApp (Hand.d ⟨poolN y2 j, words, ws⟩) (handsD hs) = some (handsD (hs ++ [⟨poolN y2 j, words, ws⟩])) := by
        unfold handsD
        rw [nApp_lst (b24 (by rw [List.length_map]; omega)), List.map_append]; rfl
      have tp : gTup [.str (poolN y2 j), namesD words, wD ws] = some (Hand.d ⟨poolN y2 j, words, ws⟩) := gTup_eq (show 3 ≤ sizeLine by decide)
      refine ⟨[some (.scr ns), some Lt, some (.int f), some (.int sh), some (namesD outs), some (handsD (hs ++ [⟨poolN y2 j, words, ws⟩])), some (.int K2), some (.int j), some (.int sz), some (namesD words), some (wD ws), z11, z12], ?_, _, _, _, _, _, _, hs ++ [⟨poolN y2 j, words, ws⟩], K2, ?_, ?_, ?_, by omega, rfl⟩
      · have p4' : m__law_pool [.int y2, .int 4] = .ok (namesD (pool y2 4)) := p4
        simp [d3, two, c2, p4', ixn, tp, ap]
      · intro h hh
        rcases List.mem_append.mp hh with hh | hh
        · exact ok h hh
        · rw [List.mem_singleton.mp hh]
          exact ⟨pool_name y2 (by omega), paw, wlen, wrow, wnum⟩
      · rw [List.map_append, nm, List.range_succ, List.map_append]; rfl
      · intro h hh
        rcases List.mem_append.mp hh with hh | hh
        · exact wd h hh
        · rw [List.mem_singleton.mp hh]
          show words.length ≤ tt
          omega)
  rw [e, Out.nx_bind]
  have hlen : hs.length = n + 1 := by have := congrArg List.length nm; simpa using this
  refine ⟨hs, by simp [tup2], pa, ?_⟩
  exact {
    lo := by omega
    hi := by omega
    ok := ok
    many := by
      have := ways_pow wd
      rw [hlen] at this
      omega
    nd := by
      rw [nm, List.Nodup, List.pairwise_map]
      refine List.Pairwise.imp_of_mem ?_ (List.nodup_range (n := n + 1))
      intro x y hx hy hne e
      have := List.mem_range.mp hx
      have := List.mem_range.mp hy
      exact hne (pool_inj y2 (by omega) (by omega) e) }
end TW

-- Mth_k34
namespace TW
open PySem PySem.Spec PyProof.Rows L2
theorem crossed2_gen {hs : List Hand} (hl : hs.length < 900) (hw : ways hs < 1000) (ho : ∀ h ∈ hs, 1 ≤ h.words.length) : m_crossed_v2 [.lst (hs.map fun h => .ftup (h.words.map D.str))] = .ok (rowsD (rowsW (wordsOf hs))) := by
  rw [m_crossed_v2]
  refine call_rt ?_
  rw [b_crossed_v2]
  simp only [List.map_cons, List.map_nil, List.length_cons, List.length_nil, List.cons_append, List.nil_append, List.replicate, Nat.zero_add, Nat.reduceAdd, Nat.reduceSub, List.set_cons_zero, List.set_cons_succ]
  rw [seq_set (d := rowsD [[]]) (by
    simp [show gTup [] = some (.tup []) from gTup_eq (Nat.zero_le _), one_l]; rfl)]
  simp only [List.map_cons, List.map_nil, List.length_cons, List.length_nil, List.cons_append, List.nil_append, List.replicate, Nat.zero_add, Nat.reduceAdd, Nat.reduceSub, List.set_cons_zero, List.set_cons_succ]
  rw [sSeq_eq]
  generalize hb : sSeq (sSet 3 _) _ = b
  generalize hx0 : (D.lst (hs.map fun h => .ftup (h.words.map D.str))) = x0
  obtain ⟨ρ', e, x2, x3, x4, x5, rfl⟩ := for_m (j := 2) (m := iAny (mVar 0)) (b := b) (ρ := [some x0, some (rowsD [[]]), none, none, none, none])
    (fun i ρ => ∃ x2 x3 x4 x5, ρ = [some x0, some (rowsD (rowsW (wordsOf (hs.take i)))), x2, x3, x4, x5]) hs (fun h => .ftup (h.words.map D.str)) (by subst hx0; simp) ⟨_, _, _, _, rfl⟩ (by
      rintro i h ρ hd ⟨x2, x3, x4, x5, rfl⟩
      subst hb
      have hi : i < hs.length := (List.getElem?_eq_some_iff.mp hd).1
      have t1 : hs.take (i + 1) = hs.take i ++ [h] := by rw [List.take_add_one, hd]; rfl
      have w1 := ways_take ho (i + 1)
      rw [t1, ways_snoc] at w1
      have t2 : rowsW (wordsOf (hs.take (i + 1))) = crossR (rowsW (wordsOf (hs.take i))) h.words := by
        rw [t1, ← rowsW_snoc]; unfold wordsOf; rw [List.map_append]; rfl
      have hr : ∀ r ∈ rowsW (wordsOf (hs.take i)), r.length < 1000 := fun r hr => by
        have := rows_len_lt hr
        rw [List.length_take] at this; omega
      have rl := rowsW_len (hs.take i)
      rw [t2]
      generalize rowsW (wordsOf (hs.take i)) = R at *
      simp only [List.map_cons, List.map_nil, List.length_cons, List.length_nil, List.cons_append, List.nil_append, List.replicate, Nat.zero_add, Nat.reduceAdd, Nat.reduceSub, List.set_cons_zero, List.set_cons_succ]
      rw [seq_set (d := .lst []) (by simp [nil_l])]
      simp only [List.map_cons, List.map_nil, List.length_cons, List.length_nil, List.cons_append, List.nil_append, List.replicate, Nat.zero_add, Nat.reduceAdd, Nat.reduceSub, List.set_cons_zero, List.set_cons_succ]
      obtain ⟨y4, y5, e⟩ := cross_loop (mi := iAny (mVar 2)) (x0 := some x0) (x2 := some (.ftup (h.words.map D.str))) (x4 := x4) (x5 := x5) (rows := R) (words := h.words) (fun x3 x4 x5 => by simp) (by rw [rl]; omega) hr
      refine ⟨[some x0, some (rowsD (crossR R h.words)), some (.ftup (h.words.map D.str)), none, y4, y5], ?_, _, _, _, _, rfl⟩
      rw [sSeq_eq, e]
      simp)
  rw [e, List.take_length]
  simp
theorem rows_of2_ok {p : Nat} {outs : List Str} {hs : List Hand} (h : HandsOk p hs) : m_rows_of_v2 [houseD outs hs] = .ok (rowsD (rowsW (wordsOf hs))) := by
  rw [m_rows_of_v2]
  refine call_rt ?_
  rw [b_rows_of_v2]
  simp only [List.map_cons, List.map_nil, List.length_cons, List.length_nil, List.cons_append, List.nil_append, List.replicate, Nat.zero_add, Nat.reduceAdd, Nat.reduceSub, List.set_cons_zero, List.set_cons_succ]
  have i1 : gIx (houseD outs hs) (.int 1) = some (.tup (hs.map Hand.m)) := id rfl
  have hl := h.hi
  have e : mLc [1] (tgN 1) (iAny (m2 gIx (mVar 0) (mC (.int 1)))) (tYesM) (m2 gIx (mVar 1) (mC (.int 1))) [some (houseD outs hs), none] = .ok (.lst (hs.map fun h => .ftup (h.words.map D.str))) := by
    refine lc_m hs Hand.m _ (by simp [i1]) (by omega) (fun x hx => ?_)
    simp [wipeR, show gIx x.m (.int 1) = some (.ftup (x.words.map D.str)) from id rfl]
  simp [e, crossed2_gen (hs := hs) (by omega) (by have := h.many; omega) h.pos]
section
variable {hs : List Hand} {outs : List Str} {p k : Nat} {W C : Nat → Int} {r : List Str}
theorem others_of2_ok (hh : HandsOk p hs) (hk : k < hs.length) : m_others_of_v2 [houseD outs hs, .int k] = .ok (rowsD (rowsW (wordsOf (oth hs k)))) := by
  have hl := hh.hi
  rw [m_others_of_v2]
  refine call_rt ?_
  rw [b_others_of_v2]
  simp only [List.map_cons, List.map_nil, List.length_cons, List.length_nil, List.cons_append, List.nil_append, List.replicate, Nat.zero_add, Nat.reduceAdd, Nat.reduceSub, List.set_cons_zero, List.set_cons_succ]
  have i1 : gIx (houseD outs hs) (.int 1) = some (.tup (hs.map Hand.m)) := id rfl
  have cr := crossed2_gen (hs := oth hs k) (by have := oth_len hk; omega) (by have := oth_ways hh hk; omega) fun g hg => hh.pos g (oth_mem hg)
  have lc : mLc [2] (tgN 2) (iR1 (mL gLen (mA1 (m2 gIx (mVar 0) (mC (.int 1))) (mA0)))) (mT (m2 gNe (mVar 2) (mVar 1))) (m2 gIx (m2 gIx (m2 gIx (mVar 0) (mC (.int 1))) (mVar 2)) (mC (.int 1))) [some (houseD outs hs), some (.int k), none] = .ok (.lst ((oth hs k).map fun h => .ftup (h.words.map D.str))) := by
    refine lc_but _ hk (by omega) (by simp [i1]) (fun j hj => ?_) (fun j hj => ?_)
    · simp [wipeR]
      omega
    · simp [wipeR, i1, house_hand hj, show ∀ h : Hand, gIx h.m (.int 1) = some (.ftup (h.words.map D.str)) from fun h => id rfl]
  simp [lc, cr]
end
theorem crossR_at {words : List Str} (h0 : 0 < words.length) : ∀ {rows : List (List Str)} {i : Nat} {x : List Str}, (crossR rows words)[i]? = some x → ∃ r, rows[i / words.length]? = some r ∧ x = r ++ [wat words (i % words.length)]
  | [], i, x, h => by simp [crossR] at h
  | r :: rows, i, x, h => by
    have e : crossR (r :: rows) words = words.map (fun w => r ++ [w]) ++ crossR rows words := by unfold crossR; rw [List.flatMap_cons]
    rw [e] at h
    by_cases hi : i < words.length
    · rw [List.getElem?_append_left (by rw [List.length_map]; exact hi), List.getElem?_map, List.getElem?_eq_getElem hi] at h
      have hx := (Option.some.inj h).symm
      refine ⟨r, by rw [Nat.div_eq_of_lt hi]; rfl, ?_⟩
      rw [Nat.mod_eq_of_lt hi, hx]
      unfold wat
      rw [List.getD_eq_getElem?_getD, List.getElem?_eq_getElem hi]; rfl
    · obtain ⟨t, rfl⟩ : ∃ t, i = words.length + t := ⟨i - words.length, by omega⟩
      rw [List.getElem?_append_right (by rw [List.length_map]; omega), List.length_map, Nat.add_sub_cancel_left] at h
      obtain ⟨r', h1, h2⟩ := crossR_at h0 h
      refine ⟨r', ?_, by rw [Nat.add_mod_left]; exact h2⟩
      rw [Nat.add_div_left t h0]
      exact h1
theorem iR3_down {L : Nat} (h : L ≤ 4) {ma mb mc : Rho → Res D} {ρ : Rho} (ha : ma ρ = .ok (.int ((L : Int) - 1))) (hb : mb ρ = .ok (.int (-1))) (hc : mc ρ = .ok (.int (-1))) : iR3 ma mb mc ρ = .ok ((List.range L).map fun m : Nat => .int ((L : Int) - 1 - m)) := by
  unfold iR3
  rw [ha, hb, hc]
  have : L = 0 ∨ L = 1 ∨ L = 2 ∨ L = 3 ∨ L = 4 := by omega
  rcases this with rfl | rfl | rfl | rfl | rfl
  all_goals
    simp only [Res.bind_ok]
    rw [if_pos (by decide)]
    rfl
theorem divmod_ok {a b : Nat} (h0 : 0 < b) (h : b ≤ 8) : gDivmod [.int a, .int b] = some (.tup [.int ((a / b : Nat) : Int), .int ((a % b : Nat) : Int)]) := by
  have hd : Builtin.divisionGoesByPylong a b = false := by
    have : b = 1 ∨ b = 2 ∨ b = 3 ∨ b = 4 ∨ b = 5 ∨ b = 6 ∨ b = 7 ∨ b = 8 := by omega
    unfold Builtin.divisionGoesByPylong
    rcases this with rfl | rfl | rfl | rfl | rfl | rfl | rfl | rfl <;> rfl
  show (if 0 < (b : Int) ∧ Builtin.divisionGoesByPylong a b = false then some (D.tup [.int ((a : Int) / b), .int ((a : Int) % b)]) else none) = _
  rw [if_pos ⟨by omega, hd⟩]
  rfl
def rst (hs : List Hand) (kk : Nat) : Nat → Nat
  | 0 => kk
  | m + 1 => rst hs kk m / (hat hs (hs.length - 1 - m)).words.length
theorem digits {hs : List Hand} {kk : Nat} {row : List Str} (ho : ∀ h ∈ hs, 1 ≤ h.words.length) (h : (rowsW (wordsOf hs))[kk]? = some row) : ∀ m, m ≤ hs.length → (rowsW (wordsOf (hs.take (hs.length - m))))[rst hs kk m]? = some (row.take (hs.length - m)) ∧ (∀ j, j < m → row[hs.length - 1 - j]? = some (wat (hat hs (hs.length - 1 - j)).words (rst hs kk j % (hat hs (hs.length - 1 - j)).words.length)))
  | 0, _ => by
    have hl := rows_len_lt (List.mem_of_getElem? h)
    rw [Nat.sub_zero, List.take_length]
    refine ⟨?_, fun j hj => absurd hj (Nat.not_lt_zero j)⟩
    rw [← hl, List.take_length]
    exact h
  | m + 1, hm => by
    obtain ⟨a, b⟩ := digits ho h m (by omega)
    have hl := rows_len_lt (List.mem_of_getElem? h)
    obtain ⟨j, hj⟩ : ∃ j, hs.length - 1 - m = j := ⟨_, rfl⟩
    have e1 : hs.length - m = j + 1 := by omega
    have e2 : hs.length - (m + 1) = j := by omega
    have hjl : j < hs.length := by omega
    have t1 : hs.take (j + 1) = hs.take j ++ [hat hs j] := by rw [List.take_add_one, hat_at hjl]; rfl
    have t2 : rowsW (wordsOf (hs.take (j + 1))) = crossR (rowsW (wordsOf (hs.take j))) (hat hs j).words := by
      rw [t1, ← rowsW_snoc]; unfold wordsOf; rw [List.map_append]; rfl
    have h0 := ho _ (hat_mem hjl)
    rw [e1, t2] at a
    obtain ⟨r', a1, a2⟩ := crossR_at (by omega) a
    have rl := rows_len_lt (List.mem_of_getElem? a1)
    rw [List.length_take, Nat.min_eq_left (by omega)] at rl
    have er : row.take j = r' := by
      have := congrArg (List.take j) a2
      rw [List.take_take, Nat.min_eq_left (by omega), List.take_left' rl] at this
      exact this
    rw [e2]
    refine ⟨?_, fun i hi => ?_⟩
    · show (rowsW _)[rst hs kk m / (hat hs (hs.length - 1 - m)).words.length]? = _
      rw [hj, a1, er]
    · by_cases q : i = m
      · subst q
        rw [hj]
        have : (row.take (j + 1))[j]? = row[j]? := List.getElem?_take_of_lt (by omega)
        rw [← this, a2, List.getElem?_append_right (by omega), rl, Nat.sub_self]
        rfl
      · exact b i (by omega)
def listsD (hs : List Hand) : D := .lst (hs.map fun h => namesD h.words)
theorem in_order_ok {hs : List Hand} (hl : hs.length ≤ 4) (hw : ways hs ≤ 256) (ho : ∀ h ∈ hs, AreNames h.words 8) : m__law_in_order [rowsD (rowsW (wordsOf hs)), listsD hs] = .ok (.bl true) := by
  have ho1 : ∀ h ∈ hs, 1 ≤ h.words.length := fun h hm => (ho h hm).lo
  have rl : (rowsW (wordsOf hs)).length = ways hs := rowsW_len hs
  have lR : gLen [rowsD (rowsW (wordsOf hs))] = some (.int (ways hs)) := by unfold rowsD; simp [rl]
  have iR : gIsi "list" (rowsD (rowsW (wordsOf hs))) = some (.bl true) := isi_list_list
  have lL : gLen [listsD hs] = some (.int hs.length) := by unfold listsD; simp
  have oL : iLoc (listsD hs) = some (hs.map fun h => namesD h.words) := rfl
  have ixL : ∀ j, j < hs.length → gIx (listsD hs) (.int j) = some (namesD (hat hs j).words) := fun j hj => by
    show atI (hs.map fun h => namesD h.words) (j : Int) = _
    rw [atI_nat (by simpa using hj), List.getElem?_map, hat_at hj]; rfl
  have ixR : ∀ (k : Nat) (row : List Str), (rowsW (wordsOf hs))[k]? = some row → gIx (rowsD (rowsW (wordsOf hs))) (.int k) = some (rowT row) := fun k row h => by
    show atI ((rowsW (wordsOf hs)).map rowT) (k : Int) = _
    rw [atI_nat (by rw [List.length_map]; exact (List.getElem?_eq_some_iff.mp h).1), List.getElem?_map, h]; rfl
  have get : ∀ k, k < ways hs → ∃ row, (rowsW (wordsOf hs))[k]? = some row := fun k hk => ⟨_, List.getElem?_eq_getElem (by rw [rl]; exact hk)⟩
  rw [m__law_in_order]
  refine call_rt ?_
  rw [b__law_in_order]
  simp only [List.map_cons, List.map_nil, List.length_cons, List.length_nil, List.cons_append, List.nil_append, List.replicate, Nat.zero_add, Nat.reduceAdd, Nat.reduceSub, List.set_cons_zero, List.set_cons_succ]
  have dg := fun {kk : Nat} {row : List Str} => digits (hs := hs) (kk := kk) (row := row) ho1
  have rlt : ∀ {kk : Nat} {row : List Str}, (rowsW (wordsOf hs))[kk]? = some row → row.length = hs.length := fun h => rows_len_lt (List.mem_of_getElem? h)
  generalize hRD : rowsD (rowsW (wordsOf hs)) = RD at *
  generalize hLD : listsD hs = LD at *
  rw [seq_set (d := .int 1) (by simp)]
  simp only [List.map_cons, List.map_nil, List.length_cons, List.length_nil, List.cons_append, List.nil_append, List.replicate, Nat.zero_add, Nat.reduceAdd, Nat.reduceSub, List.set_cons_zero, List.set_cons_succ]
  rw [sSeq_eq]
  obtain ⟨ρ', e, x3, rfl⟩ := for_m (j := 3) (m := iAny (mVar 1)) (b := sSet 2 (m2 gMul (mVar 2) (mL gLen (mA1 (mVar 3) (mA0))))) (ρ := [some RD, some LD, some (.int 1), none, none, none, none, none])
    (fun i ρ => ∃ x3, ρ = [some RD, some LD, some (.int (ways (hs.take i))), x3, none, none, none, none]) hs (fun h => namesD h.words) (by simp [oL]) ⟨none, by simp [ways]⟩ (by
      rintro i h ρ hd ⟨x3, rfl⟩
      have t1 : hs.take (i + 1) = hs.take i ++ [h] := by rw [List.take_add_one, hd]; rfl
      have w1 := ways_take ho1 i
      have w2 := (ho h (List.mem_of_getElem? hd)).hi
      have mu := mul_nat (a := ways (hs.take i)) (b := h.words.length) (by omega) (by omega)
      rw [t1, ways_snoc]
      exact ⟨[some RD, some LD, some (.int ((ways (hs.take i) * h.words.length : Nat) : Int)), some (namesD h.words), none, none, none, none], by simp [len_names, mu], _, rfl⟩)
  rw [e, Out.nx_bind, List.take_length]
  rw [sSeq_eq, show sIf (tOrM (tNotM (mT (m1 (gIsi "list") (mVar 0)))) (mT (m2 gNe (mL gLen (mA1 (mVar 0) (mA0))) (mVar 2)))) (sRet (mC (.bl false))) (sNil) [some RD, some LD, some (.int (ways hs)), x3, none, none, none, none] = .nx [some RD, some LD, some (.int (ways hs)), x3, none, none, none, none] from by simp [iR, lR], Out.nx_bind, sSeq_eq]
  generalize hb : sSeq (sSet 5 _) _ = b
  obtain ⟨ρ', e, x4, x5, x6, x7, rfl⟩ := for_r (j := 4) (mi := mVar 2) (b := b) (ρ := [some RD, some LD, some (.int (ways hs)), x3, none, none, none, none])
    (fun k ρ => ∃ x4 x5 x6 x7, ρ = [some RD, some LD, some (.int (ways hs)), x3, x4, x5, x6, x7]) (ways hs) (by simp) (by omega) ⟨_, _, _, _, rfl⟩ (by
      rintro k ρ hk ⟨x4, x5, x6, x7, rfl⟩
      subst hb
      obtain ⟨row, hrow⟩ := get k hk
      have ir := ixR k row hrow
      have rlen := rlt hrow
      have lr : gLen [rowT row] = some (.int hs.length) := by rw [← rlen]; unfold rowT; simp
      have it : gIsi "tuple" (rowT row) = some (.bl true) := isi_tup
      have dd := (dg hrow hs.length (Nat.le_refl _)).2
      have rw' : ∀ j, j < hs.length → gIx (rowT row) (.int j) = some (.str (wat row j)) := fun j hj => row_word (by omega)
      generalize rowT row = RT at *
      simp only [List.map_cons, List.map_nil, List.length_cons, List.length_nil, List.cons_append, List.nil_append, List.replicate, Nat.zero_add, Nat.reduceAdd, Nat.reduceSub, List.set_cons_zero, List.set_cons_succ]
      rw [seq_set (d := .int k) (by simp)]
      simp only [List.map_cons, List.map_nil, List.length_cons, List.length_nil, List.cons_append, List.nil_append, List.replicate, Nat.zero_add, Nat.reduceAdd, Nat.reduceSub, List.set_cons_zero, List.set_cons_succ]
      rw [sSeq_eq, show sIf (tOrM (tNotM (mT (m1 (gIsi "tuple") (m2 gIx (mVar 0) (mVar 4))))) (mT (m2 gNe (mL gLen (mA1 (m2 gIx (mVar 0) (mVar 4)) (mA0))) (mL gLen (mA1 (mVar 1) (mA0)))))) (sRet (mC (.bl false))) (sNil) [some RD, some LD, some (.int (ways hs)), x3, some (.int k), some (.int k), x6, x7] = .nx [some RD, some LD, some (.int (ways hs)), x3, some (.int k), some (.int k), x6, x7] from by simp [ir, it, lr, lL], Out.nx_bind]
      generalize hb : sSeq (sAsg _ _) _ = b
      obtain ⟨ρ', e, y6, y7, rfl⟩ := for_m (j := 6) (m := iR3 (m2 gSub (mL gLen (mA1 (mVar 1) (mA0))) (mC (.int 1))) (m1 gNeg (mC (.int 1))) (m1 gNeg (mC (.int 1)))) (b := b) (ρ := [some RD, some LD, some (.int (ways hs)), x3, some (.int k), some (.int k), x6, x7])
        (fun m ρ => ∃ x6 x7, ρ = [some RD, some LD, some (.int (ways hs)), x3, some (.int k), some (.int (rst hs k m)), x6, x7]) (List.range hs.length) (fun m : Nat => .int ((hs.length : Int) - 1 - m)) (iR3_down hl (by simp [lL]) (by simp) (by simp)) ⟨_, _, rfl⟩ (by
          rintro i m ρ hd ⟨x6, x7, rfl⟩
          subst hb
          have hmi : m = i := by
            have := (List.getElem?_eq_some_iff.mp hd).2
            rw [List.getElem_range] at this
            exact this.symm
          subst hmi
          have hm := List.mem_range.mp (List.mem_of_getElem? hd)
          obtain ⟨j, hj⟩ : ∃ j, hs.length - 1 - m = j := ⟨_, rfl⟩
          have ej : (hs.length : Int) - 1 - m = (j : Nat) := by omega
          have hjl : j < hs.length := by omega
          have dm := dd m hm
          rw [hj] at dm
          have an := ho _ (hat_mem hjl)
          have alo := an.lo
          have ahi := an.hi
          have dv := divmod_ok (a := rst hs k m) (b := (hat hs j).words.length) (by omega) (by omega)
          have rs : rst hs k (m + 1) = rst hs k m / (hat hs j).words.length := by
            show rst hs k m / (hat hs (hs.length - 1 - m)).words.length = _
            rw [hj]
          have pl := Nat.mod_lt (rst hs k m) (show 0 < (hat hs j).words.length by omega)
          rw [← rs] at dv
          have nx : gIx (namesD (hat hs j).words) (.int ((rst hs k m % (hat hs j).words.length : Nat) : Int)) = some (.str (wat row j)) := by
            rw [names_ix (wat_at pl)]
            have : wat row j = wat (hat hs j).words (rst hs k m % (hat hs j).words.length) := by
              have := wat_at (row := row) (k := j) (by omega)
              rw [dm] at this
              exact (Option.some.inj this).symm
            rw [this]
          have ps : Pl 0 (.str (wat row j)) := by
            have : wat row j = wat (hat hs j).words (rst hs k m % (hat hs j).words.length) := by
              have := wat_at (row := row) (k := j) (by omega)
              rw [dm] at this
              exact (Option.some.inj this).symm
            rw [this]
            exact (an.nm _ (wat_mem pl)).ok
          have lj := ixL j hjl
          have rj := rw' j hjl
          rw [ej]
          simp only [List.map_cons, List.map_nil, List.length_cons, List.length_nil, List.cons_append, List.nil_append, List.replicate, Nat.zero_add, Nat.reduceAdd, Nat.reduceSub, List.set_cons_zero, List.set_cons_succ]
          rw [sSeq_eq, show sAsg (tgT [5, 7]) (mL gDivmod (mA1 (mVar 5) (mA1 (mL gLen (mA1 (m2 gIx (mVar 1) (mVar 6)) (mA0))) (mA0)))) [some RD, some LD, some (.int (ways hs)), x3, some (.int k), some (.int (rst hs k m)), some (.int j), x7] = .nx [some RD, some LD, some (.int (ways hs)), x3, some (.int k), some (.int (rst hs k (m + 1))), some (.int j), some (.int ((rst hs k m % (hat hs j).words.length : Nat) : Int))] from by
            simp only [sAsg_eq, mL_eq, mA1_eq, mA0_eq, mVar_eq, m2_eq, List.getElem?_cons_succ, List.getElem?_cons_zero, Res.bind_ok, ofO_some, lj, len_names, dv, Res.out_ok]
            rfl, Out.nx_bind]
          generalize (rst hs k m % (hat hs j).words.length : Nat) = pp at *
          refine ⟨[some RD, some LD, some (.int (ways hs)), x3, some (.int k), some (.int (rst hs k (m + 1))), some (.int j), some (.int pp)], ?_, _, _, rfl⟩
          simp only [sIf_eq, mT_eq, m2_eq, mVar_eq, List.getElem?_cons_succ, List.getElem?_cons_zero, Res.bind_ok, ofO_some, ir, rj, lj, nx, gNe_same (n := 0) ps]
          simp)
      rw [List.length_range] at e
      exact ⟨_, e, _, _, _, _, rfl⟩)
  rw [e]
  simp
theorem tops_k34 : Tops [8, 8, 6, 4] (fun j => match j with | 0 => 8 | 1 => 8 | 2 => 6 | _ => 4) where
  at' := fun j hj => by
    have : j = 0 ∨ j = 1 ∨ j = 2 ∨ j = 3 := by omega
    rcases this with rfl | rfl | rfl | rfl <;> rfl
  lo := fun j hj => by
    have : j = 0 ∨ j = 1 ∨ j = 2 ∨ j = 3 := by omega
    rcases this with rfl | rfl | rfl | rfl <;> exact ⟨by decide, by decide⟩
  way := fun j hj => by
    have : j = 0 ∨ j = 1 ∨ j = 2 ∨ j = 3 := by omega
    rcases this with rfl | rfl | rfl | rfl <;> decide
@[simp] theorem still_eq {m : Rho → Res D} {ρ : Rho} : mStill m ρ = (m ρ).bind fun d => if d.still then .ok d else .stuck := id rfl
end TW
namespace Lk34
open PySem PySem.Spec PyProof.Rows L2 TW
theorem law_holds : ∀ ns : List Int, ns.length ≤ 63 → (∀ z ∈ ns, Builtin.Int.intBits z ≤ 1048576) → m_law_k34 [.scr ns] = .ok (.bl true) := by
  intro ns hns _
  obtain ⟨outs, hs, ep, ao, hh⟩ := parts_are ns hns tops_k34
  have ho := house_of_ok ao hh
  have hl := hh.hi
  have ln : gLen [handsD hs] = some (.int hs.length) := by unfold handsD; simp
  have ro := rows_of2_ok (outs := outs) hh
  have oo := fun k (hk : k < hs.length) => others_of2_ok (outs := outs) hh hk
  have io := in_order_ok (hs := hs) hl hh.many (fun h hm => (hh.ok h hm).words)
  have iok := fun k (hk : k < hs.length) => in_order_ok (hs := oth hs k) (by have := oth_len hk; omega) (oth_ways hh hk) (fun h hm => (hh.ok h (oth_mem hm)).words)
  have bF : (D.bl true).still = true := rfl
  rw [m_law_k34]
  refine call_rt ?_
  rw [b_law_k34]
  simp only [List.map_cons, List.map_nil, List.length_cons, List.length_nil, List.cons_append, List.nil_append, List.replicate, Nat.zero_add, Nat.reduceAdd, Nat.reduceSub, List.set_cons_zero, List.set_cons_succ]
  have l4 : TW.gLst [.int 8, .int 8, .int 6, .int 4] = some (.lst ([8, 8, 6, 4].map D.int)) := gLst_eq (show 4 ≤ sizeLine by decide)
  generalize (.lst ([8, 8, 6, 4].map D.int) : D) = L4 at *
  rw [sSeq_eq, show sAsg (tgT [1, 2]) (mArgs m__law_parts (mA1 (mVar 0) (mA1 (mL gLst (mA1 (mC (.int 8)) (mA1 (mC (.int 8)) (mA1 (mC (.int 6)) (mA1 (mC (.int 4)) (mA0)))))) (mA0)))) [some (.scr ns), none, none, none, none, none, none, none, none] = .nx [some (.scr ns), some (namesD outs), some (handsD hs), none, none, none, none, none, none] from by simp [l4, ep], Out.nx_bind]
  rw [seq_set (d := houseD outs hs) (by simp [ho])]
  simp only [List.map_cons, List.map_nil, List.length_cons, List.length_nil, List.cons_append, List.nil_append, List.replicate, Nat.zero_add, Nat.reduceAdd, Nat.reduceSub, List.set_cons_zero, List.set_cons_succ]
  rw [seq_set (d := listsD hs) (by
    rw [lc_m hs Hand.d (fun h => namesD h.words) (by simp [handsD]) (by omega) (fun x hx => by simp [wipeR, show gIx x.d (.int 1) = some (namesD x.words) from id rfl])]
    rfl)]
  simp only [List.map_cons, List.map_nil, List.length_cons, List.length_nil, List.cons_append, List.nil_append, List.replicate, Nat.zero_add, Nat.reduceAdd, Nat.reduceSub, List.set_cons_zero, List.set_cons_succ]
  generalize hRD : rowsD (rowsW (wordsOf hs)) = RD at *
  have cR : nClr RD = some (.lst []) := by rw [← hRD]; rfl
  rw [seq_set (d := RD) (by simp [ro])]
  simp only [List.map_cons, List.map_nil, List.length_cons, List.length_nil, List.cons_append, List.nil_append, List.replicate, Nat.zero_add, Nat.reduceAdd, Nat.reduceSub, List.set_cons_zero, List.set_cons_succ]
  rw [sSeq_eq, show sIf (tNotM (mT (mStill (mArgs m__law_in_order (mA1 (mVar 5) (mA1 (mVar 4) (mA0))))))) (sRet (mC (.bl false))) (sNil) [some (.scr ns), some (namesD outs), some (handsD hs), some (houseD outs hs), some (listsD hs), some RD, none, none, none] = .nx [some (.scr ns), some (namesD outs), some (handsD hs), some (houseD outs hs), some (listsD hs), some RD, none, none, none] from by simp [io, bF], Out.nx_bind]
  rw [sSeq_eq, show sMut 5 (pNil) nClr [some (.scr ns), some (namesD outs), some (handsD hs), some (houseD outs hs), some (listsD hs), some RD, none, none, none] = .nx [some (.scr ns), some (namesD outs), some (handsD hs), some (houseD outs hs), some (listsD hs), some (.lst []), none, none, none] from by simp [cR], Out.nx_bind, sSeq_eq]
  generalize hb : sSeq (sSet 7 _) _ = b
  obtain ⟨ρ', e, x5, x6, x7, rfl⟩ := for_r (j := 6) (mi := mL gLen (mA1 (mVar 2) (mA0))) (b := b) (ρ := [some (.scr ns), some (namesD outs), some (handsD hs), some (houseD outs hs), some (listsD hs), some (.lst []), none, none, none])
    (fun k ρ => ∃ x5 x6 x7, ρ = [some (.scr ns), some (namesD outs), some (handsD hs), some (houseD outs hs), some (listsD hs), x5, x6, x7, none]) hs.length (by simp [ln]) (by omega) ⟨_, _, _, rfl⟩ (by
      rintro k ρ hk ⟨x5, x6, x7, rfl⟩
      subst hb
      have s1 : gSl (listsD hs) none (some (k : Int)) = some (listsD (hs.take k)) := by
        show some (D.lst (cutD (hs.map fun h => namesD h.words) none (some (k : Int)))) = _
        rw [cut_to (by simp; omega), ← List.map_take]; rfl
      have s2 : gSl (listsD hs) (some ((k : Int) + 1)) none = some (listsD (hs.drop (k + 1))) := by
        show some (D.lst (cutD (hs.map fun h => namesD h.words) (some ((k : Int) + 1)) none)) = _
        rw [show ((k : Int) + 1) = ((k + 1 : Nat) : Int) by omega, cut_from, ← List.map_drop]; rfl
      have s3 : gAdd (listsD (hs.take k)) (listsD (hs.drop (k + 1))) = some (listsD (oth hs k)) := by
        unfold listsD oth
        rw [gAdd_lst (b24' (by simp; omega)), List.map_append]
      have ok := oo k hk
      have iq := iok k hk
      have lenO : (rowsW (wordsOf (oth hs k))).length < 1000000 := by rw [rowsW_len]; have := oth_ways hh hk; omega
      have ap : ∃ Z, nApp (.tup [.str "x"]) (rowsD (rowsW (wordsOf (oth hs k)))) = some Z := ⟨_, nApp_lst (b24 (by rw [List.length_map]; exact lenO))⟩
      obtain ⟨Z, ap⟩ := ap
      have tx : TW.gTup [.str "x"] = some (.tup [.str "x"]) := one_t
      generalize rowsD (rowsW (wordsOf (oth hs k))) = OD at *
      simp only [List.map_cons, List.map_nil, List.length_cons, List.length_nil, List.cons_append, List.nil_append, List.replicate, Nat.zero_add, Nat.reduceAdd, Nat.reduceSub, List.set_cons_zero, List.set_cons_succ]
      rw [seq_set (d := listsD (oth hs k)) (by simp [s1, s2, s3]), seq_set (d := OD) (by simp [ok])]
      simp only [List.map_cons, List.map_nil, List.length_cons, List.length_nil, List.cons_append, List.nil_append, List.replicate, Nat.zero_add, Nat.reduceAdd, Nat.reduceSub, List.set_cons_zero, List.set_cons_succ]
      rw [sSeq_eq, show sIf (tNotM (mT (mStill (mArgs m__law_in_order (mA1 (mVar 5) (mA1 (mVar 7) (mA0))))))) (sRet (mC (.bl false))) (sNil) [some (.scr ns), some (namesD outs), some (handsD hs), some (houseD outs hs), some (listsD hs), some OD, some (.int k), some (listsD (oth hs k)), none] = .nx [some (.scr ns), some (namesD outs), some (handsD hs), some (houseD outs hs), some (listsD hs), some OD, some (.int k), some (listsD (oth hs k)), none] from by simp [iq, bF], Out.nx_bind]
      refine ⟨[some (.scr ns), some (namesD outs), some (handsD hs), some (houseD outs hs), some (listsD hs), some Z, some (.int k), some (listsD (oth hs k)), none], ?_, _, _, _, rfl⟩
      simp [tx, ap, ok, iq])
  rw [e]
  simp [ro, io]
end Lk34

-- End_k34
open PySem PySem.W PyProof.Rows
set_option maxHeartbeats 0 in
theorem PySem.Challenge.cw_trueword_k34_rows_in_order_holds : PySem.Challenge.rw_trueword_k34_rows_in_order.Holds := by
  w_on; o_law; k_head; (case hw => w_witness2)
  k_fill
  refine L2.walk_ofB (l := PySem.Challenge.rw_trueword_k34_rows_in_order) (n := 63) (k := 5) (x := "script") (CX := fun w => L2.CX (PySem.Challenge.rw_trueword_k34_rows_in_order).prog w) (sp := fun w => TW.spLaw _) rfl (by decide) rfl ⟨rfl, by decide, by decide⟩ (fun w h Y => PySem.W.kIn_of Y) ?F (fun _ _ a ns hl hb hO hS => ⟨a, ns, rfl, TW.scr_of hO hS, hl, hb, fun _ => rfl⟩) (fun w H s e s1 h => TW.no_cx (P := (PySem.Challenge.rw_trueword_k34_rows_in_order).prog) h)
  case F =>
    intro w mg fa h KX G hmg
    refine' Lk34.all_mk KX G hmg ?a_is_name ?l_is_name ?c_is_name ?k_is_name ?a_are_names ?l_are_names ?c_are_names ?k_are_names ?a_is_worth ?l_is_worth ?c_is_worth ?k_is_worth ?a_are_worths ?l_are_worths ?c_are_worths ?k_are_worths ?a_is_hand ?l_is_hand ?c_is_hand ?k_is_hand ?a_house_of ?l_house_of ?c_house_of ?k_house_of ?a_crossed ?l_crossed ?c_crossed ?k_crossed ?a_rows_of ?l_rows_of ?c_rows_of ?k_rows_of ?a_others_of ?l_others_of ?c_others_of ?k_others_of ?a__law_cell_at ?l__law_cell_at ?c__law_cell_at ?k__law_cell_at ?a__law_pool ?l__law_pool ?c__law_pool ?k__law_pool ?a__law_drawn ?l__law_drawn ?c__law_drawn ?k__law_drawn ?a__law_worth ?l__law_worth ?c__law_worth ?k__law_worth ?a__law_parts ?l__law_parts ?c__law_parts ?k__law_parts ?a__law_in_order ?l__law_in_order ?c__law_in_order ?k__law_in_order ?a_law ?l_law ?c_law ?k_law ?n_bool ?n_divmod ?n_int ?n_isinstance ?n_len ?n_list ?n_max ?n_min ?n_range ?n_set ?n_str ?n_tuple ?w_LETTERS ?r_LETTERS Lk34.law_holds
    (case a_is_name => k_is); (case l_is_name => k_is); (case c_is_name => k_is); (case k_is_name => k_is); (case a_are_names => k_is); (case l_are_names => k_is); (case c_are_names => k_is); (case k_are_names => k_is); (case a_is_worth => k_is); (case l_is_worth => k_is); (case c_is_worth => k_is); (case k_is_worth => k_is); (case a_are_worths => k_is); (case l_are_worths => k_is); (case c_are_worths => k_is); (case k_are_worths => k_is); (case a_is_hand => k_is); (case l_is_hand => k_is); (case c_is_hand => k_is); (case k_is_hand => k_is); (case a_house_of => k_is); (case l_house_of => k_is); (case c_house_of => k_is); (case k_house_of => k_is); (case a_crossed => k_is); (case l_crossed => k_is); (case c_crossed => k_is); (case k_crossed => k_is); (case a_rows_of => k_is); (case l_rows_of => k_is); (case c_rows_of => k_is); (case k_rows_of => k_is); (case a_others_of => k_is); (case l_others_of => k_is); (case c_others_of => k_is); (case k_others_of => k_is); (case a__law_cell_at => k_is); (case l__law_cell_at => k_is); (case c__law_cell_at => k_is); (case k__law_cell_at => k_is); (case a__law_pool => k_is); (case l__law_pool => k_is); (case c__law_pool => k_is); (case k__law_pool => k_is); (case a__law_drawn => k_is); (case l__law_drawn => k_is); (case c__law_drawn => k_is); (case k__law_drawn => k_is); (case a__law_worth => k_is); (case l__law_worth => k_is); (case c__law_worth => k_is); (case k__law_worth => k_is); (case a__law_parts => k_is); (case l__law_parts => k_is); (case c__law_parts => k_is); (case k__law_parts => k_is); (case a__law_in_order => k_is); (case l__law_in_order => k_is); (case c__law_in_order => k_is); (case k__law_in_order => k_is); (case a_law => k_is); (case l_law => k_is); (case c_law => k_is); (case k_law => k_is); (case n_bool => k_is); (case n_divmod => k_is); (case n_int => k_is); (case n_isinstance => k_is); (case n_len => k_is); (case n_list => k_is); (case n_max => k_is); (case n_min => k_is); (case n_range => k_is); (case n_set => k_is); (case n_str => k_is); (case n_tuple => k_is); (case w_LETTERS => k_is); (case r_LETTERS => first | exact .int ⟨_, rfl⟩ | exact .str rfl | exact .str ⟨_, rfl⟩)
