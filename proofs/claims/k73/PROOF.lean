import PyProof.Rows.All
import HandS.ForMost
import HandS.ForExc
import HandS.Strs
import HandS.Wide
import HandS.TupAny
import HandS.IsInst
import HandS.Dict
import HandS.TupLen
import HandS.Conv
import HandS.Zip
import HandS.EndBits
import HandS.Deep
import HandS.TupLe
import HandS.WideBits
import HandS.Small
import HandS.ExcIs
import HandS.Style
import PyProof.EnumMake
import PyProof.Draws
import KE.GoesMore
import HandS.More
import KE.KEqDict
import PyProof.DictFindH
import PyProof.DictRoadsH
import HandS.Finally
import KE.GoesComp
import HandS.OwnEq
import PySem.Challenge.RW_trueword_k73_rules_said
import HandS.Text
import PyProof.StrLawsChain
set_option Elab.async false
set_option linter.all false
set_option maxRecDepth 100000
set_option autoImplicit false
-- TWBase
namespace TW
open PySem PySem.Spec PyProof.Rows L2
inductive D where
  | non | bl (b : Bool) | int (i : Int) | str (s : Str)
  | lst (l : List D) | tup (l : List D)
  | dK (ks : List Key) (vs : List D) | dT (ks : List (List Key)) (vs : List D)
  | scr (l : List Int)
  | junk
  | ftup (l : List D)
  | ins (C : Nat) (h t : D)
def ScrAt (K : PySem.W.Frag) (H : Hp) (a : Addr) (xs : List V) : Prop :=
  (∃ o, H a = some (.frz o (.lst xs))) ∨ ∃ (o : Obj) (its : Array Value) (n : Nat), K.lookup a = some o ∧ o.cls = .type "list" ∧ o.dict = none ∧ o.data = .seq its n ∧ its.size ≤ sizeLine ∧ Vals xs its.toList
theorem ScrAt.sq {K : PySem.W.Frag} {H : Hp} {a : Addr} {xs : List V} (h : ScrAt K H a xs) : SqL K H a xs := h.imp .inr id
mutual
def Dat (K : PySem.W.Frag) (H : Hp) : D → Nat → V → List Addr → List Addr → Prop
  | .non, _, v, S, R => v = .non ∧ S = [] ∧ R = []
  | .bl b, _, v, S, R => v = .bl b ∧ S = [] ∧ R = []
  | .int i, _, v, S, R => v = .int i ∧ S = [] ∧ R = []
  | .str s, _, v, S, R => v = .str s ∧ S = [] ∧ R = []
  | .scr l, _, v, S, R => (∃ a, v = .ref a ∧ ScrAt K H a (l.map V.int)) ∧ S = [] ∧ R = []
  | .junk, _, _, S, R => S = [] ∧ R = []
  | .ins C h t, n, v, S, R => match n with
    | 0 => ∃ a dx x y R1 R2, v = .ref a ∧ H a = some (.ins C dx [("house", x), ("table", y)]) ∧ H dx = some (.own a) ∧ S = [] ∧ R = a :: dx :: (R1 ++ R2) ∧ Dat K H h 0 x [] R1 ∧ Dat K H t 0 y [] R2
    | n + 1 => ∃ a dx x y S1 S2 R1 R2, v = .ref a ∧ H a = some (.ins C dx [("house", x), ("table", y)]) ∧ H dx = some (.own a) ∧ S = a :: (S1 ++ S2) ∧ R = dx :: (R1 ++ R2) ∧ Dat K H h n x S1 R1 ∧ Dat K H t n y S2 R2
  | .ftup ds, n, v, S, R => ∃ a xs, v = .ref a ∧ (∃ o : Obj, o.dict = none ∧ H a = some (.frz o (.tup xs))) ∧ Dats K H ds (n - 1) xs S R
  | .lst ds, n, v, S, R => match n with
    | 0 => ∃ a xs R', v = .ref a ∧ H a = some (.lst xs) ∧ S = [] ∧ R = a :: R' ∧ Dats K H ds 0 xs [] R'
    | n + 1 => ∃ a xs S', v = .ref a ∧ H a = some (.lst xs) ∧ S = a :: S' ∧ Dats K H ds n xs S' R
  | .tup ds, n, v, S, R => ∃ a xs, v = .ref a ∧ H a = some (.tup xs) ∧ Dats K H ds (n - 1) xs S R
  | .dK ks ds, n, v, S, R => match n with
    | 0 => ∃ a ws R', v = .ref a ∧ Rd H a (.dK ws) ∧ ws.map (·.1) = ks ∧ S = [] ∧ R = a :: R' ∧ Dats K H ds 0 (ws.map (·.2)) [] R'
    | n + 1 => ∃ a ws S', v = .ref a ∧ H a = some (.dK ws) ∧ ws.map (·.1) = ks ∧ S = a :: S' ∧ Dats K H ds n (ws.map (·.2)) S' R
  | .dT ks ds, n, v, S, R => match n with
    | 0 => ∃ a ws R', v = .ref a ∧ Rd H a (.dT ws) ∧ ws.map (·.1) = ks ∧ S = [] ∧ R = a :: R' ∧ Dats K H ds 0 (ws.map (·.2)) [] R'
    | n + 1 => ∃ a ws S', v = .ref a ∧ H a = some (.dT ws) ∧ ws.map (·.1) = ks ∧ S = a :: S' ∧ Dats K H ds n (ws.map (·.2)) S' R
def Dats (K : PySem.W.Frag) (H : Hp) : List D → Nat → List V → List Addr → List Addr → Prop
  | [], _, xs, S, R => xs = [] ∧ S = [] ∧ R = []
  | d :: ds, n, xs, S, R => ∃ x xs' S1 S2 R1 R2, xs = x :: xs' ∧ S = S1 ++ S2 ∧ R = R1 ++ R2 ∧ Dat K H d n x S1 R1 ∧ Dats K H ds n xs' S2 R2
end
structure Stay (H H' : Hp) (S R : List Addr) : Prop where
  tup : ∀ b xs, H b = some (.tup xs) → H' b = some (.tup xs)
  frz : ∀ b o xs, H b = some (.frz o (.tup xs)) → H' b = some (.frz o (.tup xs))
  scr : ∀ b o xs, H b = some (.frz o (.lst xs)) → H' b = some (.frz o (.lst xs))
  own : ∀ b ∈ S, ∀ o, H b = some o → H' b = some o
  res : ∀ b ∈ R, ∀ o, H b = some o → H' b = some o

section
variable {K : PySem.W.Frag} {H H' : Hp}
theorem Stay.mono {S R S' R' : List Addr} (h : Stay H H' S R) (hs : ∀ b ∈ S', b ∈ S) (hr : ∀ b ∈ R', b ∈ R) : Stay H H' S' R' :=
  ⟨h.tup, h.frz, h.scr, fun b hb => h.own b (hs b hb), fun b hb => h.res b (hr b hb)⟩
theorem Stay.rd {S R : List Addr} (h : Stay H H' S R) {a : Addr} {u : HO} (ha : a ∈ R) (q : Rd H a u) : Rd H' a u := by
  rcases q with q | ⟨o, q⟩
  · exact .inl (h.res _ ha _ q)
  · exact .inr ⟨o, h.res _ ha _ q⟩
theorem Stay.of_same (h : Same H H') (S R : List Addr) : Stay H H' S R :=
  ⟨fun b xs q => h _ _ q, fun b o xs q => h _ _ q, fun b o xs q => h _ _ q, fun b _ o q => h _ _ q, fun b _ o q => h _ _ q⟩

mutual
theorem Dat.stay : ∀ (d : D) (n : Nat) (v : V) (S R : List Addr), Stay H H' S R → Dat K H d n v S R → Dat K H' d n v S R
  | .non, _, _, _, _, _, h => by simpa [Dat] using h
  | .bl b, _, _, _, _, _, h => by simpa [Dat] using h
  | .int i, _, _, _, _, _, h => by simpa [Dat] using h
  | .str s, _, _, _, _, _, h => by simpa [Dat] using h
  | .junk, _, _, _, _, _, h => by simpa [Dat] using h
  | .ins C h t, 0, v, S, R, st, e => by
    simp only [Dat] at e ⊢
    obtain ⟨a, dx, x, y, R1, R2, rfl, q, qd, rfl, rfl, h1, h2⟩ := e
    exact ⟨a, dx, x, y, R1, R2, rfl, st.res _ List.mem_cons_self _ q, st.res _ (List.mem_cons_of_mem _ List.mem_cons_self) _ qd, rfl, rfl,
      Dat.stay h 0 x [] R1 (st.mono (fun _ z => z) fun b z => List.mem_cons_of_mem _ (List.mem_cons_of_mem _ (List.mem_append_left _ z))) h1,
      Dat.stay t 0 y [] R2 (st.mono (fun _ z => z) fun b z => List.mem_cons_of_mem _ (List.mem_cons_of_mem _ (List.mem_append_right _ z))) h2⟩
  | .ins C h t, n + 1, v, S, R, st, e => by
    simp only [Dat] at e ⊢
    obtain ⟨a, dx, x, y, S1, S2, R1, R2, rfl, q, qd, rfl, rfl, h1, h2⟩ := e
    exact ⟨a, dx, x, y, S1, S2, R1, R2, rfl, st.own _ List.mem_cons_self _ q, st.res _ List.mem_cons_self _ qd, rfl, rfl,
      Dat.stay h n x S1 R1 (st.mono (fun b z => List.mem_cons_of_mem _ (List.mem_append_left _ z)) fun b z => List.mem_cons_of_mem _ (List.mem_append_left _ z)) h1,
      Dat.stay t n y S2 R2 (st.mono (fun b z => List.mem_cons_of_mem _ (List.mem_append_right _ z)) fun b z => List.mem_cons_of_mem _ (List.mem_append_right _ z)) h2⟩
  | .scr l, _, _, _, _, st, h => by
    simp only [Dat] at h ⊢
    obtain ⟨⟨a, e, q⟩, h⟩ := h
    exact ⟨⟨a, e, q.imp (fun ⟨o, q⟩ => ⟨o, st.scr _ _ _ q⟩) id⟩, h⟩
  | .lst ds, 0, v, S, R, st, h => by
    simp only [Dat] at h ⊢
    obtain ⟨a, xs, R', rfl, q, rfl, rfl, hd⟩ := h
    exact ⟨a, xs, R', rfl, st.res _ List.mem_cons_self _ q, rfl, rfl, Dats.stay ds 0 xs [] R' (st.mono (fun _ z => z) fun b z => List.mem_cons_of_mem _ z) hd⟩
  | .lst ds, n + 1, v, S, R, st, h => by
    simp only [Dat] at h ⊢
    obtain ⟨a, xs, S', rfl, q, rfl, hd⟩ := h
    exact ⟨a, xs, S', rfl, st.own _ List.mem_cons_self _ q, rfl, Dats.stay ds n xs S' R (st.mono (fun b z => List.mem_cons_of_mem _ z) fun _ z => z) hd⟩
  | .tup ds, n, v, S, R, st, h => by
    simp only [Dat] at h ⊢
    obtain ⟨a, xs, rfl, q, hd⟩ := h
    exact ⟨a, xs, rfl, st.tup _ _ q, Dats.stay ds (n - 1) xs S R st hd⟩
  | .ftup ds, n, v, S, R, st, h => by
    simp only [Dat] at h ⊢
    obtain ⟨a, xs, rfl, q, hd⟩ := h
    exact ⟨a, xs, rfl, q.imp fun o q => ⟨q.1, st.frz _ _ _ q.2⟩, Dats.stay ds (n - 1) xs S R st hd⟩
  | .dK ks ds, 0, v, S, R, st, h => by
    simp only [Dat] at h ⊢
    obtain ⟨a, ws, R', rfl, q, hk, rfl, rfl, hd⟩ := h
    exact ⟨a, ws, R', rfl, st.rd List.mem_cons_self q, hk, rfl, rfl, Dats.stay ds 0 _ [] R' (st.mono (fun _ z => z) fun b z => List.mem_cons_of_mem _ z) hd⟩
  | .dK ks ds, n + 1, v, S, R, st, h => by
    simp only [Dat] at h ⊢
    obtain ⟨a, ws, S', rfl, q, hk, rfl, hd⟩ := h
    exact ⟨a, ws, S', rfl, st.own _ List.mem_cons_self _ q, hk, rfl, Dats.stay ds n _ S' R (st.mono (fun b z => List.mem_cons_of_mem _ z) fun _ z => z) hd⟩
  | .dT ks ds, 0, v, S, R, st, h => by
    simp only [Dat] at h ⊢
    obtain ⟨a, ws, R', rfl, q, hk, rfl, rfl, hd⟩ := h
    exact ⟨a, ws, R', rfl, st.rd List.mem_cons_self q, hk, rfl, rfl, Dats.stay ds 0 _ [] R' (st.mono (fun _ z => z) fun b z => List.mem_cons_of_mem _ z) hd⟩
  | .dT ks ds, n + 1, v, S, R, st, h => by
    simp only [Dat] at h ⊢
    obtain ⟨a, ws, S', rfl, q, hk, rfl, hd⟩ := h
    exact ⟨a, ws, S', rfl, st.own _ List.mem_cons_self _ q, hk, rfl, Dats.stay ds n _ S' R (st.mono (fun b z => List.mem_cons_of_mem _ z) fun _ z => z) hd⟩
theorem Dats.stay : ∀ (ds : List D) (n : Nat) (xs : List V) (S R : List Addr), Stay H H' S R → Dats K H ds n xs S R → Dats K H' ds n xs S R
  | [], _, _, _, _, _, h => by simpa [Dats] using h
  | d :: ds, n, xs, S, R, st, h => by
    simp only [Dats] at h ⊢
    obtain ⟨x, xs', S1, S2, R1, R2, rfl, rfl, rfl, h1, h2⟩ := h
    exact ⟨x, xs', S1, S2, R1, R2, rfl, rfl, rfl,
      Dat.stay d n x S1 R1 (st.mono (fun b z => List.mem_append_left _ z) fun b z => List.mem_append_left _ z) h1,
      Dats.stay ds n xs' S2 R2 (st.mono (fun b z => List.mem_append_right _ z) fun b z => List.mem_append_right _ z) h2⟩
end
theorem Dat.same {d : D} {n : Nat} {v : V} {S R : List Addr} (h : Dat K H d n v S R) (s : Same H H') : Dat K H' d n v S R := Dat.stay d n v S R (.of_same s S R) h
theorem Dats.same {ds : List D} {n : Nat} {xs : List V} {S R : List Addr} (h : Dats K H ds n xs S R) (s : Same H H') : Dats K H' ds n xs S R := Dats.stay ds n xs S R (.of_same s S R) h

mutual
theorem Dat.weak : ∀ (d : D) (n k : Nat) (v : V) (S R : List Addr), k ≤ n → Dat K H d n v S R →
    ∃ S' R', Dat K H d k v S' R' ∧ S'.Sublist S ∧ (∀ a ∈ R', a ∈ S ∨ a ∈ R)
  | .non, _, _, _, S, R, _, h => by
    simp only [Dat] at h ⊢
    obtain ⟨rfl, rfl, rfl⟩ := h
    exact ⟨[], [], ⟨rfl, rfl, rfl⟩, .slnil, fun _ z => .inr z⟩
  | .bl b, _, _, _, S, R, _, h => by
    simp only [Dat] at h ⊢
    obtain ⟨rfl, rfl, rfl⟩ := h
    exact ⟨[], [], ⟨rfl, rfl, rfl⟩, .slnil, fun _ z => .inr z⟩
  | .int i, _, _, _, S, R, _, h => by
    simp only [Dat] at h ⊢
    obtain ⟨rfl, rfl, rfl⟩ := h
    exact ⟨[], [], ⟨rfl, rfl, rfl⟩, .slnil, fun _ z => .inr z⟩
  | .str s, _, _, _, S, R, _, h => by
    simp only [Dat] at h ⊢
    obtain ⟨rfl, rfl, rfl⟩ := h
    exact ⟨[], [], ⟨rfl, rfl, rfl⟩, .slnil, fun _ z => .inr z⟩
  | .junk, _, _, _, S, R, _, h => by
    simp only [Dat] at h ⊢
    obtain ⟨rfl, rfl⟩ := h
    exact ⟨[], [], ⟨rfl, rfl⟩, .slnil, fun _ z => .inr z⟩
  | .ins C h t, 0, k, v, S, R, hk, e => by
    obtain rfl : k = 0 := by omega
    exact ⟨S, R, e, .refl _, fun _ z => .inr z⟩
  | .ins C h t, n + 1, 0, v, S, R, hk, e => by
    simp only [Dat] at e ⊢
    obtain ⟨a, dx, x, y, S1, S2, R1, R2, rfl, q, qd, rfl, rfl, h1, h2⟩ := e
    obtain ⟨S1', R1', g1, s1, r1⟩ := Dat.weak h n 0 x S1 R1 (Nat.zero_le _) h1
    obtain ⟨S2', R2', g2, s2, r2⟩ := Dat.weak t n 0 y S2 R2 (Nat.zero_le _) h2
    obtain rfl : S1' = [] := Dat.noS g1
    obtain rfl : S2' = [] := Dat.noS g2
    refine ⟨[], a :: dx :: (R1' ++ R2'), ⟨a, dx, x, y, R1', R2', rfl, q, qd, rfl, rfl, g1, g2⟩, List.nil_sublist _, fun b z => ?_⟩
    rcases List.mem_cons.mp z with rfl | z
    · exact .inl List.mem_cons_self
    rcases List.mem_cons.mp z with rfl | z
    · exact .inr List.mem_cons_self
    · rcases List.mem_append.mp z with z | z
      · exact (r1 b z).imp (fun z => List.mem_cons_of_mem _ (List.mem_append_left _ z)) fun z => List.mem_cons_of_mem _ (List.mem_append_left _ z)
      · exact (r2 b z).imp (fun z => List.mem_cons_of_mem _ (List.mem_append_right _ z)) fun z => List.mem_cons_of_mem _ (List.mem_append_right _ z)
  | .ins C h t, n + 1, k + 1, v, S, R, hk, e => by
    simp only [Dat] at e ⊢
    obtain ⟨a, dx, x, y, S1, S2, R1, R2, rfl, q, qd, rfl, rfl, h1, h2⟩ := e
    obtain ⟨S1', R1', g1, s1, r1⟩ := Dat.weak h n k x S1 R1 (by omega) h1
    obtain ⟨S2', R2', g2, s2, r2⟩ := Dat.weak t n k y S2 R2 (by omega) h2
    refine ⟨a :: (S1' ++ S2'), dx :: (R1' ++ R2'), ⟨a, dx, x, y, S1', S2', R1', R2', rfl, q, qd, rfl, rfl, g1, g2⟩, (s1.append s2).cons₂ a, fun b z => ?_⟩
    rcases List.mem_cons.mp z with rfl | z
    · exact .inr List.mem_cons_self
    · rcases List.mem_append.mp z with z | z
      · exact (r1 b z).imp (fun z => List.mem_cons_of_mem _ (List.mem_append_left _ z)) fun z => List.mem_cons_of_mem _ (List.mem_append_left _ z)
      · exact (r2 b z).imp (fun z => List.mem_cons_of_mem _ (List.mem_append_right _ z)) fun z => List.mem_cons_of_mem _ (List.mem_append_right _ z)
  | .scr l, _, _, _, S, R, _, h => by
    simp only [Dat] at h ⊢
    obtain ⟨e, rfl, rfl⟩ := h
    exact ⟨[], [], ⟨e, rfl, rfl⟩, .slnil, fun _ z => .inr z⟩
  | .lst ds, 0, k, v, S, R, hk, h => by
    obtain rfl : k = 0 := by omega
    exact ⟨S, R, h, .refl _, fun _ z => .inr z⟩
  | .lst ds, n + 1, 0, v, S, R, hk, h => by
    simp only [Dat] at h ⊢
    obtain ⟨a, xs, S', rfl, q, rfl, hd⟩ := h
    obtain ⟨S1, R1, h1, s1, r1⟩ := Dats.weak ds n 0 xs S' R (Nat.zero_le _) hd
    obtain rfl : S1 = [] := Dats.noS h1
    exact ⟨[], a :: R1, ⟨a, xs, R1, rfl, q, rfl, rfl, h1⟩, List.nil_sublist _, fun b z => by
      rcases List.mem_cons.mp z with rfl | z
      · exact .inl List.mem_cons_self
      · exact (r1 b z).imp (List.mem_cons_of_mem _) id⟩
  | .lst ds, n + 1, k + 1, v, S, R, hk, h => by
    simp only [Dat] at h ⊢
    obtain ⟨a, xs, S', rfl, q, rfl, hd⟩ := h
    obtain ⟨S1, R1, h1, s1, r1⟩ := Dats.weak ds n k xs S' R (by omega) hd
    exact ⟨a :: S1, R1, ⟨a, xs, S1, rfl, q, rfl, h1⟩, s1.cons₂ a, fun b z => (r1 b z).imp (List.mem_cons_of_mem _) id⟩
  | .tup ds, n, k, v, S, R, hk, h => by
    simp only [Dat] at h ⊢
    obtain ⟨a, xs, rfl, q, hd⟩ := h
    obtain ⟨S1, R1, h1, s1, r1⟩ := Dats.weak ds (n - 1) (k - 1) xs S R (by omega) hd
    exact ⟨S1, R1, ⟨a, xs, rfl, q, h1⟩, s1, r1⟩
  | .ftup ds, n, k, v, S, R, hk, h => by
    simp only [Dat] at h ⊢
    obtain ⟨a, xs, rfl, q, hd⟩ := h
    obtain ⟨S1, R1, h1, s1, r1⟩ := Dats.weak ds (n - 1) (k - 1) xs S R (by omega) hd
    exact ⟨S1, R1, ⟨a, xs, rfl, q, h1⟩, s1, r1⟩
  | .dK ks ds, 0, k, v, S, R, hk, h => by
    obtain rfl : k = 0 := by omega
    exact ⟨S, R, h, .refl _, fun _ z => .inr z⟩
  | .dK ks ds, n + 1, 0, v, S, R, hk, h => by
    simp only [Dat] at h ⊢
    obtain ⟨a, xs, S', rfl, q, hks, rfl, hd⟩ := h
    obtain ⟨S1, R1, h1, s1, r1⟩ := Dats.weak ds n 0 _ S' R (Nat.zero_le _) hd
    obtain rfl : S1 = [] := Dats.noS h1
    exact ⟨[], a :: R1, ⟨a, xs, R1, rfl, .of q, hks, rfl, rfl, h1⟩, List.nil_sublist _, fun b z => by
      rcases List.mem_cons.mp z with rfl | z
      · exact .inl List.mem_cons_self
      · exact (r1 b z).imp (List.mem_cons_of_mem _) id⟩
  | .dK ks ds, n + 1, k + 1, v, S, R, hk, h => by
    simp only [Dat] at h ⊢
    obtain ⟨a, xs, S', rfl, q, hks, rfl, hd⟩ := h
    obtain ⟨S1, R1, h1, s1, r1⟩ := Dats.weak ds n k _ S' R (by omega) hd
    exact ⟨a :: S1, R1, ⟨a, xs, S1, rfl, q, hks, rfl, h1⟩, s1.cons₂ a, fun b z => (r1 b z).imp (List.mem_cons_of_mem _) id⟩
  | .dT ks ds, 0, k, v, S, R, hk, h => by
    obtain rfl : k = 0 := by omega
    exact ⟨S, R, h, .refl _, fun _ z => .inr z⟩
  | .dT ks ds, n + 1, 0, v, S, R, hk, h => by
    simp only [Dat] at h ⊢
    obtain ⟨a, xs, S', rfl, q, hks, rfl, hd⟩ := h
    obtain ⟨S1, R1, h1, s1, r1⟩ := Dats.weak ds n 0 _ S' R (Nat.zero_le _) hd
    obtain rfl : S1 = [] := Dats.noS h1
    exact ⟨[], a :: R1, ⟨a, xs, R1, rfl, .of q, hks, rfl, rfl, h1⟩, List.nil_sublist _, fun b z => by
      rcases List.mem_cons.mp z with rfl | z
      · exact .inl List.mem_cons_self
      · exact (r1 b z).imp (List.mem_cons_of_mem _) id⟩
  | .dT ks ds, n + 1, k + 1, v, S, R, hk, h => by
    simp only [Dat] at h ⊢
    obtain ⟨a, xs, S', rfl, q, hks, rfl, hd⟩ := h
    obtain ⟨S1, R1, h1, s1, r1⟩ := Dats.weak ds n k _ S' R (by omega) hd
    exact ⟨a :: S1, R1, ⟨a, xs, S1, rfl, q, hks, rfl, h1⟩, s1.cons₂ a, fun b z => (r1 b z).imp (List.mem_cons_of_mem _) id⟩
theorem Dats.weak : ∀ (ds : List D) (n k : Nat) (xs : List V) (S R : List Addr), k ≤ n → Dats K H ds n xs S R →
    ∃ S' R', Dats K H ds k xs S' R' ∧ S'.Sublist S ∧ (∀ a ∈ R', a ∈ S ∨ a ∈ R)
  | [], _, _, _, S, R, _, h => by
    simp only [Dats] at h ⊢
    obtain ⟨rfl, rfl, rfl⟩ := h
    exact ⟨[], [], ⟨rfl, rfl, rfl⟩, .slnil, fun _ z => .inr z⟩
  | d :: ds, n, k, xs, S, R, hk, h => by
    simp only [Dats] at h ⊢
    obtain ⟨x, xs', S1, S2, R1, R2, rfl, rfl, rfl, h1, h2⟩ := h
    obtain ⟨S1', R1', g1, s1, r1⟩ := Dat.weak d n k x S1 R1 hk h1
    obtain ⟨S2', R2', g2, s2, r2⟩ := Dats.weak ds n k xs' S2 R2 hk h2
    refine ⟨S1' ++ S2', R1' ++ R2', ⟨x, xs', S1', S2', R1', R2', rfl, rfl, rfl, g1, g2⟩, s1.append s2, fun a z => ?_⟩
    rcases List.mem_append.mp z with z | z
    · exact (r1 a z).imp (List.mem_append_left _) (List.mem_append_left _)
    · exact (r2 a z).imp (List.mem_append_right _) (List.mem_append_right _)
theorem Dat.noS : ∀ {d : D} {v : V} {S R : List Addr}, Dat K H d 0 v S R → S = []
  | .non, _, _, _, h => by simp only [Dat] at h; exact h.2.1
  | .bl _, _, _, _, h => by simp only [Dat] at h; exact h.2.1
  | .int _, _, _, _, h => by simp only [Dat] at h; exact h.2.1
  | .str _, _, _, _, h => by simp only [Dat] at h; exact h.2.1
  | .junk, _, _, _, h => by simp only [Dat] at h; exact h.1
  | .ins _ _ _, _, _, _, h => by simp only [Dat] at h; obtain ⟨_, _, _, _, _, _, _, _, _, z, _⟩ := h; exact z
  | .scr _, _, _, _, h => by simp only [Dat] at h; exact h.2.1
  | .lst ds, _, _, _, h => by simp only [Dat] at h; obtain ⟨_, _, _, _, _, z, _⟩ := h; exact z
  | .tup ds, _, _, _, h => by simp only [Dat] at h; obtain ⟨_, _, _, _, z⟩ := h; exact Dats.noS z
  | .ftup ds, _, _, _, h => by simp only [Dat] at h; obtain ⟨_, _, _, _, z⟩ := h; exact Dats.noS z
  | .dK _ ds, _, _, _, h => by simp only [Dat] at h; obtain ⟨_, _, _, _, _, _, z, _⟩ := h; exact z
  | .dT _ ds, _, _, _, h => by simp only [Dat] at h; obtain ⟨_, _, _, _, _, _, z, _⟩ := h; exact z
theorem Dats.noS : ∀ {ds : List D} {xs : List V} {S R : List Addr}, Dats K H ds 0 xs S R → S = []
  | [], _, _, _, h => by simp only [Dats] at h; exact h.2.1
  | d :: ds, _, _, _, h => by
    simp only [Dats] at h
    obtain ⟨x, xs', S1, S2, R1, R2, rfl, rfl, rfl, h1, h2⟩ := h
    rw [Dat.noS h1, Dats.noS h2]; rfl
end

mutual
theorem Dat.weakP : ∀ (d : D) (n k : Nat) (v : V) (S R : List Addr), k ≤ n → Dat K H d n v S R →
    ∃ S' R' Ex, Dat K H d k v S' R' ∧ (S' ++ Ex).Perm S ∧ (∀ a ∈ R', a ∈ Ex ∨ a ∈ R)
  | .non, _, _, _, S, R, _, h => by
    simp only [Dat] at h ⊢
    obtain ⟨rfl, rfl, rfl⟩ := h
    exact ⟨[], [], [], ⟨rfl, rfl, rfl⟩, .refl _, fun _ z => .inr z⟩
  | .bl b, _, _, _, S, R, _, h => by
    simp only [Dat] at h ⊢
    obtain ⟨rfl, rfl, rfl⟩ := h
    exact ⟨[], [], [], ⟨rfl, rfl, rfl⟩, .refl _, fun _ z => .inr z⟩
  | .int i, _, _, _, S, R, _, h => by
    simp only [Dat] at h ⊢
    obtain ⟨rfl, rfl, rfl⟩ := h
    exact ⟨[], [], [], ⟨rfl, rfl, rfl⟩, .refl _, fun _ z => .inr z⟩
  | .str s, _, _, _, S, R, _, h => by
    simp only [Dat] at h ⊢
    obtain ⟨rfl, rfl, rfl⟩ := h
    exact ⟨[], [], [], ⟨rfl, rfl, rfl⟩, .refl _, fun _ z => .inr z⟩
  | .junk, _, _, _, S, R, _, h => by
    simp only [Dat] at h ⊢
    obtain ⟨rfl, rfl⟩ := h
    exact ⟨[], [], [], ⟨rfl, rfl⟩, .refl _, fun _ z => .inr z⟩
  | .ins C h t, 0, k, v, S, R, hk, e => by
    obtain rfl : k = 0 := by omega
    exact ⟨S, R, [], e, by simp, fun _ z => .inr z⟩
  | .ins C h t, n + 1, 0, v, S, R, hk, e => by
    simp only [Dat] at e ⊢
    obtain ⟨a, dx, x, y, S1, S2, R1, R2, rfl, q, qd, rfl, rfl, h1, h2⟩ := e
    obtain ⟨S1', R1', E1, g1, s1, r1⟩ := Dat.weakP h n 0 x S1 R1 (Nat.zero_le _) h1
    obtain ⟨S2', R2', E2, g2, s2, r2⟩ := Dat.weakP t n 0 y S2 R2 (Nat.zero_le _) h2
    obtain rfl : S1' = [] := Dat.noS g1
    obtain rfl : S2' = [] := Dat.noS g2
    refine ⟨[], a :: dx :: (R1' ++ R2'), a :: (E1 ++ E2), ⟨a, dx, x, y, R1', R2', rfl, q, qd, rfl, rfl, g1, g2⟩, ?_, fun b z => ?_⟩
    · exact List.Perm.cons a (s1.append s2)
    rcases List.mem_cons.mp z with rfl | z
    · exact .inl List.mem_cons_self
    rcases List.mem_cons.mp z with rfl | z
    · exact .inr List.mem_cons_self
    · rcases List.mem_append.mp z with z | z
      · exact (r1 b z).imp (fun z => List.mem_cons_of_mem _ (List.mem_append_left _ z)) fun z => List.mem_cons_of_mem _ (List.mem_append_left _ z)
      · exact (r2 b z).imp (fun z => List.mem_cons_of_mem _ (List.mem_append_right _ z)) fun z => List.mem_cons_of_mem _ (List.mem_append_right _ z)
  | .ins C h t, n + 1, k + 1, v, S, R, hk, e => by
    simp only [Dat] at e ⊢
    obtain ⟨a, dx, x, y, S1, S2, R1, R2, rfl, q, qd, rfl, rfl, h1, h2⟩ := e
    obtain ⟨S1', R1', E1, g1, s1, r1⟩ := Dat.weakP h n k x S1 R1 (by omega) h1
    obtain ⟨S2', R2', E2, g2, s2, r2⟩ := Dat.weakP t n k y S2 R2 (by omega) h2
    refine ⟨a :: (S1' ++ S2'), dx :: (R1' ++ R2'), E1 ++ E2, ⟨a, dx, x, y, S1', S2', R1', R2', rfl, q, qd, rfl, rfl, g1, g2⟩, ?_, fun b z => ?_⟩
    · have e1 : ((S1' ++ S2') ++ (E1 ++ E2)).Perm ((S1' ++ E1) ++ (S2' ++ E2)) := by
        simp only [List.append_assoc]
        refine List.Perm.append_left _ ?_
        rw [← List.append_assoc, ← List.append_assoc]
        exact List.Perm.append_right _ List.perm_append_comm
      exact List.Perm.cons a (e1.trans (s1.append s2))
    rcases List.mem_cons.mp z with rfl | z
    · exact .inr List.mem_cons_self
    · rcases List.mem_append.mp z with z | z
      · exact (r1 b z).imp (List.mem_append_left _) fun z => List.mem_cons_of_mem _ (List.mem_append_left _ z)
      · exact (r2 b z).imp (List.mem_append_right _) fun z => List.mem_cons_of_mem _ (List.mem_append_right _ z)
  | .scr l, _, _, _, S, R, _, h => by
    simp only [Dat] at h ⊢
    obtain ⟨e, rfl, rfl⟩ := h
    exact ⟨[], [], [], ⟨e, rfl, rfl⟩, .refl _, fun _ z => .inr z⟩
  | .lst ds, 0, k, v, S, R, hk, h => by
    obtain rfl : k = 0 := by omega
    exact ⟨S, R, [], h, by simp, fun _ z => .inr z⟩
  | .lst ds, n + 1, 0, v, S, R, hk, h => by
    simp only [Dat] at h ⊢
    obtain ⟨a, xs, S', rfl, q, rfl, hd⟩ := h
    obtain ⟨S1, R1, E1, h1, s1, r1⟩ := Dats.weakP ds n 0 xs S' R (Nat.zero_le _) hd
    obtain rfl : S1 = [] := Dats.noS h1
    exact ⟨[], a :: R1, a :: E1, ⟨a, xs, R1, rfl, q, rfl, rfl, h1⟩, s1.cons a, fun b z => by
      rcases List.mem_cons.mp z with rfl | z
      · exact .inl List.mem_cons_self
      · exact (r1 b z).imp (List.mem_cons_of_mem _) id⟩
  | .lst ds, n + 1, k + 1, v, S, R, hk, h => by
    simp only [Dat] at h ⊢
    obtain ⟨a, xs, S', rfl, q, rfl, hd⟩ := h
    obtain ⟨S1, R1, E1, h1, s1, r1⟩ := Dats.weakP ds n k xs S' R (by omega) hd
    exact ⟨a :: S1, R1, E1, ⟨a, xs, S1, rfl, q, rfl, h1⟩, s1.cons a, r1⟩
  | .tup ds, n, k, v, S, R, hk, h => by
    simp only [Dat] at h ⊢
    obtain ⟨a, xs, rfl, q, hd⟩ := h
    obtain ⟨S1, R1, E1, h1, s1, r1⟩ := Dats.weakP ds (n - 1) (k - 1) xs S R (by omega) hd
    exact ⟨S1, R1, E1, ⟨a, xs, rfl, q, h1⟩, s1, r1⟩
  | .ftup ds, n, k, v, S, R, hk, h => by
    simp only [Dat] at h ⊢
    obtain ⟨a, xs, rfl, q, hd⟩ := h
    obtain ⟨S1, R1, E1, h1, s1, r1⟩ := Dats.weakP ds (n - 1) (k - 1) xs S R (by omega) hd
    exact ⟨S1, R1, E1, ⟨a, xs, rfl, q, h1⟩, s1, r1⟩
  | .dK ks ds, 0, k, v, S, R, hk, h => by
    obtain rfl : k = 0 := by omega
    exact ⟨S, R, [], h, by simp, fun _ z => .inr z⟩
  | .dK ks ds, n + 1, 0, v, S, R, hk, h => by
    simp only [Dat] at h ⊢
    obtain ⟨a, xs, S', rfl, q, hks, rfl, hd⟩ := h
    obtain ⟨S1, R1, E1, h1, s1, r1⟩ := Dats.weakP ds n 0 _ S' R (Nat.zero_le _) hd
    obtain rfl : S1 = [] := Dats.noS h1
    exact ⟨[], a :: R1, a :: E1, ⟨a, xs, R1, rfl, .of q, hks, rfl, rfl, h1⟩, s1.cons a, fun b z => by
      rcases List.mem_cons.mp z with rfl | z
      · exact .inl List.mem_cons_self
      · exact (r1 b z).imp (List.mem_cons_of_mem _) id⟩
  | .dK ks ds, n + 1, k + 1, v, S, R, hk, h => by
    simp only [Dat] at h ⊢
    obtain ⟨a, xs, S', rfl, q, hks, rfl, hd⟩ := h
    obtain ⟨S1, R1, E1, h1, s1, r1⟩ := Dats.weakP ds n k _ S' R (by omega) hd
    exact ⟨a :: S1, R1, E1, ⟨a, xs, S1, rfl, q, hks, rfl, h1⟩, s1.cons a, r1⟩
  | .dT ks ds, 0, k, v, S, R, hk, h => by
    obtain rfl : k = 0 := by omega
    exact ⟨S, R, [], h, by simp, fun _ z => .inr z⟩
  | .dT ks ds, n + 1, 0, v, S, R, hk, h => by
    simp only [Dat] at h ⊢
    obtain ⟨a, xs, S', rfl, q, hks, rfl, hd⟩ := h
    obtain ⟨S1, R1, E1, h1, s1, r1⟩ := Dats.weakP ds n 0 _ S' R (Nat.zero_le _) hd
    obtain rfl : S1 = [] := Dats.noS h1
    exact ⟨[], a :: R1, a :: E1, ⟨a, xs, R1, rfl, .of q, hks, rfl, rfl, h1⟩, s1.cons a, fun b z => by
      rcases List.mem_cons.mp z with rfl | z
      · exact .inl List.mem_cons_self
      · exact (r1 b z).imp (List.mem_cons_of_mem _) id⟩
  | .dT ks ds, n + 1, k + 1, v, S, R, hk, h => by
    simp only [Dat] at h ⊢
    obtain ⟨a, xs, S', rfl, q, hks, rfl, hd⟩ := h
    obtain ⟨S1, R1, E1, h1, s1, r1⟩ := Dats.weakP ds n k _ S' R (by omega) hd
    exact ⟨a :: S1, R1, E1, ⟨a, xs, S1, rfl, q, hks, rfl, h1⟩, s1.cons a, r1⟩
theorem Dats.weakP : ∀ (ds : List D) (n k : Nat) (xs : List V) (S R : List Addr), k ≤ n → Dats K H ds n xs S R →
    ∃ S' R' Ex, Dats K H ds k xs S' R' ∧ (S' ++ Ex).Perm S ∧ (∀ a ∈ R', a ∈ Ex ∨ a ∈ R)
  | [], _, _, _, S, R, _, h => by
    simp only [Dats] at h ⊢
    obtain ⟨rfl, rfl, rfl⟩ := h
    exact ⟨[], [], [], ⟨rfl, rfl, rfl⟩, .refl _, fun _ z => .inr z⟩
  | d :: ds, n, k, xs, S, R, hk, h => by
    simp only [Dats] at h ⊢
    obtain ⟨x, xs', S1, S2, R1, R2, rfl, rfl, rfl, h1, h2⟩ := h
    obtain ⟨S1', R1', E1, g1, s1, r1⟩ := Dat.weakP d n k x S1 R1 hk h1
    obtain ⟨S2', R2', E2, g2, s2, r2⟩ := Dats.weakP ds n k xs' S2 R2 hk h2
    refine ⟨S1' ++ S2', R1' ++ R2', E1 ++ E2, ⟨x, xs', S1', S2', R1', R2', rfl, rfl, rfl, g1, g2⟩, ?_, fun a z => ?_⟩
    · refine List.Perm.trans ?_ (s1.append s2)
      simp only [List.append_assoc]
      refine List.Perm.append_left _ ?_
      rw [← List.append_assoc, ← List.append_assoc]
      exact List.Perm.append_right _ List.perm_append_comm
    rcases List.mem_append.mp z with z | z
    · exact (r1 a z).imp (List.mem_append_left _) (List.mem_append_left _)
    · exact (r2 a z).imp (List.mem_append_right _) (List.mem_append_right _)
end
theorem Dat.weakS {d : D} {n k : Nat} {v : V} {S R : List Addr} (hk : k ≤ n) (h : Dat K H d n v S R) :
    ∃ S' R', Dat K H d k v S' R' ∧ (S.Nodup → S'.Nodup) ∧ (∀ a ∈ S', a ∈ S) ∧ (∀ a ∈ R', a ∈ S ∨ a ∈ R) ∧ (S.Nodup → (∀ a ∈ S, a ∉ R) → ∀ a ∈ S', a ∉ R') := by
  obtain ⟨S', R', Ex, g, p, r⟩ := Dat.weakP d n k v S R hk h
  have sub : ∀ a ∈ S', a ∈ S := fun a ha => p.subset (List.mem_append_left _ ha)
  refine ⟨S', R', g, fun nd => (List.nodup_append.mp (p.nodup_iff.mpr nd)).1, sub, fun a ha => ?_, fun nd hR a ha hr => ?_⟩
  · rcases r a ha with z | z
    · exact .inl (p.subset (List.mem_append_right _ z))
    · exact .inr z
  · rcases r a hr with z | z
    · exact (List.nodup_append.mp (p.nodup_iff.mpr nd)).2.2 a ha a z rfl
    · exact hR a (sub a ha) z
mutual
theorem Dat.dom : ∀ {d : D} {n : Nat} {v : V} {S R : List Addr}, Dat K H d n v S R → ∀ a ∈ S, H a ≠ none
  | .non, _, _, _, _, h, a, z => by simp only [Dat] at h; rw [h.2.1] at z; simp at z
  | .bl _, _, _, _, _, h, a, z => by simp only [Dat] at h; rw [h.2.1] at z; simp at z
  | .int _, _, _, _, _, h, a, z => by simp only [Dat] at h; rw [h.2.1] at z; simp at z
  | .str _, _, _, _, _, h, a, z => by simp only [Dat] at h; rw [h.2.1] at z; simp at z
  | .junk, _, _, _, _, h, a, z => by simp only [Dat] at h; rw [h.1] at z; simp at z
  | .ins _ _ _, 0, _, _, _, h, a, z => by rw [Dat.noS h] at z; simp at z
  | .ins _ _ _, n + 1, _, _, _, h, a, z => by
    simp only [Dat] at h
    obtain ⟨b, dx, x, y, S1, S2, R1, R2, rfl, q, qd, rfl, rfl, h1, h2⟩ := h
    rcases List.mem_cons.mp z with rfl | z
    · rw [q]; simp
    · rcases List.mem_append.mp z with z | z
      · exact Dat.dom h1 a z
      · exact Dat.dom h2 a z
  | .scr _, _, _, _, _, h, a, z => by simp only [Dat] at h; rw [h.2.1] at z; simp at z
  | .lst ds, 0, _, _, _, h, a, z => by rw [Dat.noS h] at z; simp at z
  | .lst ds, n + 1, _, _, _, h, a, z => by
    simp only [Dat] at h
    obtain ⟨b, xs, S', rfl, q, rfl, hd⟩ := h
    rcases List.mem_cons.mp z with rfl | z
    · rw [q]; simp
    · exact Dats.dom hd a z
  | .tup ds, n, _, _, _, h, a, z => by
    simp only [Dat] at h
    obtain ⟨b, xs, rfl, q, hd⟩ := h
    exact Dats.dom hd a z
  | .ftup ds, n, _, _, _, h, a, z => by
    simp only [Dat] at h
    obtain ⟨b, xs, rfl, q, hd⟩ := h
    exact Dats.dom hd a z
  | .dK _ ds, 0, _, _, _, h, a, z => by rw [Dat.noS h] at z; simp at z
  | .dK _ ds, n + 1, _, _, _, h, a, z => by
    simp only [Dat] at h
    obtain ⟨b, xs, S', rfl, q, _, rfl, hd⟩ := h
    rcases List.mem_cons.mp z with rfl | z
    · rw [q]; simp
    · exact Dats.dom hd a z
  | .dT _ ds, 0, _, _, _, h, a, z => by rw [Dat.noS h] at z; simp at z
  | .dT _ ds, n + 1, _, _, _, h, a, z => by
    simp only [Dat] at h
    obtain ⟨b, xs, S', rfl, q, _, rfl, hd⟩ := h
    rcases List.mem_cons.mp z with rfl | z
    · rw [q]; simp
    · exact Dats.dom hd a z
theorem Dats.dom : ∀ {ds : List D} {n : Nat} {xs : List V} {S R : List Addr}, Dats K H ds n xs S R → ∀ a ∈ S, H a ≠ none
  | [], _, _, _, _, h, a, z => by simp only [Dats] at h; rw [h.2.1] at z; simp at z
  | d :: ds, n, _, _, _, h, a, z => by
    simp only [Dats] at h
    obtain ⟨x, xs', S1, S2, R1, R2, rfl, rfl, rfl, h1, h2⟩ := h
    rcases List.mem_append.mp z with z | z
    · exact Dat.dom h1 a z
    · exact Dats.dom h2 a z
end
mutual
theorem Dat.domR : ∀ {d : D} {n : Nat} {v : V} {S R : List Addr}, Dat K H d n v S R → ∀ a ∈ R, H a ≠ none
  | .non, _, _, _, _, h, a, z => by simp only [Dat] at h; rw [h.2.2] at z; simp at z
  | .bl _, _, _, _, _, h, a, z => by simp only [Dat] at h; rw [h.2.2] at z; simp at z
  | .int _, _, _, _, _, h, a, z => by simp only [Dat] at h; rw [h.2.2] at z; simp at z
  | .str _, _, _, _, _, h, a, z => by simp only [Dat] at h; rw [h.2.2] at z; simp at z
  | .junk, _, _, _, _, h, a, z => by simp only [Dat] at h; rw [h.2] at z; simp at z
  | .ins _ _ _, 0, _, _, _, h, a, z => by
    simp only [Dat] at h
    obtain ⟨b, dx, x, y, R1, R2, rfl, q, qd, rfl, rfl, h1, h2⟩ := h
    rcases List.mem_cons.mp z with rfl | z
    · rw [q]; simp
    rcases List.mem_cons.mp z with rfl | z
    · rw [qd]; simp
    · rcases List.mem_append.mp z with z | z
      · exact Dat.domR h1 a z
      · exact Dat.domR h2 a z
  | .ins _ _ _, n + 1, _, _, _, h, a, z => by
    simp only [Dat] at h
    obtain ⟨b, dx, x, y, S1, S2, R1, R2, rfl, q, qd, rfl, rfl, h1, h2⟩ := h
    rcases List.mem_cons.mp z with rfl | z
    · rw [qd]; simp
    · rcases List.mem_append.mp z with z | z
      · exact Dat.domR h1 a z
      · exact Dat.domR h2 a z
  | .scr _, _, _, _, _, h, a, z => by simp only [Dat] at h; rw [h.2.2] at z; simp at z
  | .lst ds, 0, _, _, _, h, a, z => by
    simp only [Dat] at h
    obtain ⟨b, xs, R', rfl, q, rfl, rfl, hd⟩ := h
    rcases List.mem_cons.mp z with rfl | z
    · rw [q]; simp
    · exact Dats.domR hd a z
  | .lst ds, n + 1, _, _, _, h, a, z => by
    simp only [Dat] at h
    obtain ⟨b, xs, S', rfl, q, rfl, hd⟩ := h
    exact Dats.domR hd a z
  | .tup ds, n, _, _, _, h, a, z => by
    simp only [Dat] at h
    obtain ⟨b, xs, rfl, q, hd⟩ := h
    exact Dats.domR hd a z
  | .ftup ds, n, _, _, _, h, a, z => by
    simp only [Dat] at h
    obtain ⟨b, xs, rfl, q, hd⟩ := h
    exact Dats.domR hd a z
  | .dK _ ds, 0, _, _, _, h, a, z => by
    simp only [Dat] at h
    obtain ⟨b, xs, R', rfl, q, _, rfl, rfl, hd⟩ := h
    rcases List.mem_cons.mp z with rfl | z
    · rcases q with q | ⟨o, q⟩ <;> (rw [q]; simp)
    · exact Dats.domR hd a z
  | .dK _ ds, n + 1, _, _, _, h, a, z => by
    simp only [Dat] at h
    obtain ⟨b, xs, S', rfl, q, _, rfl, hd⟩ := h
    exact Dats.domR hd a z
  | .dT _ ds, 0, _, _, _, h, a, z => by
    simp only [Dat] at h
    obtain ⟨b, xs, R', rfl, q, _, rfl, rfl, hd⟩ := h
    rcases List.mem_cons.mp z with rfl | z
    · rcases q with q | ⟨o, q⟩ <;> (rw [q]; simp)
    · exact Dats.domR hd a z
  | .dT _ ds, n + 1, _, _, _, h, a, z => by
    simp only [Dat] at h
    obtain ⟨b, xs, S', rfl, q, _, rfl, hd⟩ := h
    exact Dats.domR hd a z
theorem Dats.domR : ∀ {ds : List D} {n : Nat} {xs : List V} {S R : List Addr}, Dats K H ds n xs S R → ∀ a ∈ R, H a ≠ none
  | [], _, _, _, _, h, a, z => by simp only [Dats] at h; rw [h.2.2] at z; simp at z
  | d :: ds, n, _, _, _, h, a, z => by
    simp only [Dats] at h
    obtain ⟨x, xs', S1, S2, R1, R2, rfl, rfl, rfl, h1, h2⟩ := h
    rcases List.mem_append.mp z with z | z
    · exact Dat.domR h1 a z
    · exact Dats.domR h2 a z
end
theorem Dats.length : ∀ {ds : List D} {n : Nat} {xs : List V} {S R : List Addr}, Dats K H ds n xs S R → xs.length = ds.length
  | [], _, _, _, _, h => by simp only [Dats] at h; rw [h.1]; rfl
  | d :: ds, n, _, _, _, h => by
    simp only [Dats] at h
    obtain ⟨x, xs', S1, S2, R1, R2, rfl, rfl, rfl, h1, h2⟩ := h
    simp [Dats.length h2]
theorem Dats.get : ∀ {ds : List D} {n : Nat} {xs : List V} {S R : List Addr} {i : Nat} {d : D}, Dats K H ds n xs S R → ds[i]? = some d →
    ∃ x S' R', xs[i]? = some x ∧ Dat K H d n x S' R' ∧ S'.Sublist S ∧ ∀ a ∈ R', a ∈ R
  | [], _, _, _, _, _, _, h, e => by simp at e
  | d :: ds, n, _, _, _, 0, _, h, e => by
    simp only [Dats] at h
    obtain ⟨x, xs', S1, S2, R1, R2, rfl, rfl, rfl, h1, h2⟩ := h
    simp at e
    subst e
    exact ⟨x, S1, R1, rfl, h1, List.sublist_append_left _ _, fun a z => List.mem_append_left _ z⟩
  | d :: ds, n, _, _, _, i + 1, d', h, e => by
    simp only [Dats] at h
    obtain ⟨x, xs', S1, S2, R1, R2, rfl, rfl, rfl, h1, h2⟩ := h
    obtain ⟨y, S', R', e1, q, s, r⟩ := Dats.get (i := i) (d := d') h2 (by simpa using e)
    exact ⟨y, S', R', by simpa using e1, q, s.trans (List.sublist_append_right _ _), fun a z => List.mem_append_right _ (r a z)⟩
theorem Dats.append : ∀ {ds es : List D} {n : Nat} {xs ys : List V} {S R S' R' : List Addr}, Dats K H ds n xs S R → Dats K H es n ys S' R' → Dats K H (ds ++ es) n (xs ++ ys) (S ++ S') (R ++ R')
  | [], es, n, _, ys, _, _, S', R', h, g => by
    simp only [Dats] at h
    obtain ⟨rfl, rfl, rfl⟩ := h
    simpa using g
  | d :: ds, es, n, _, ys, _, _, S', R', h, g => by
    simp only [Dats] at h
    obtain ⟨x, xs', S1, S2, R1, R2, rfl, rfl, rfl, h1, h2⟩ := h
    show Dats K H (d :: (ds ++ es)) n _ _ _
    simp only [Dats]
    exact ⟨x, xs' ++ ys, S1, S2 ++ S', R1, R2 ++ R', rfl, by simp, by simp, h1, Dats.append h2 g⟩
theorem Dats.one {d : D} {n : Nat} {x : V} {S R : List Addr} (h : Dat K H d n x S R) : Dats K H [d] n [x] S R := by
  simp only [Dats]
  exact ⟨x, [], S, [], R, [], rfl, by simp, by simp, h, rfl, rfl, rfl⟩
theorem Dats.nil {n : Nat} : Dats K H [] n [] [] [] := by simp [Dats]
theorem Dats.cons {d : D} {ds : List D} {n : Nat} {x : V} {xs : List V} {S1 R1 S2 R2 : List Addr} (h1 : Dat K H d n x S1 R1) (h2 : Dats K H ds n xs S2 R2) : Dats K H (d :: ds) n (x :: xs) (S1 ++ S2) (R1 ++ R2) := by
  simp only [Dats]
  exact ⟨x, xs, S1, S2, R1, R2, rfl, rfl, rfl, h1, h2⟩
end
end TW
-- TWRe
namespace TW
open PySem PySem.Spec PyProof.Rows L2
inductive Res (α : Type) where
  | ok (a : α) | exn (c : Str) | stuck
def Res.bind {α β : Type} (m : Res α) (f : α → Res β) : Res β := match m with
  | .ok a => f a
  | .exn c => .exn c
  | .stuck => .stuck
@[simp] theorem Res.bind_ok {α β : Type} (a : α) (f : α → Res β) : (Res.ok a).bind f = f a := id rfl
@[simp] theorem Res.bind_exn {α β : Type} (c : Str) (f : α → Res β) : (Res.exn c : Res α).bind f = .exn c := id rfl
@[simp] theorem Res.bind_stuck {α β : Type} (f : α → Res β) : (Res.stuck : Res α).bind f = .stuck := id rfl
abbrev Rho := List (Option D)
structure Fr where
  no : Addr → Prop
  pin : Nat → Option V
instance : CoeFun Fr (fun _ => Addr → Prop) := ⟨Fr.no⟩
def Fr.plus (F : Fr) (A : List Addr) : Fr := ⟨fun a => F.no a ∨ a ∈ A, F.pin⟩
def Fr.un (F : Fr) : Fr := ⟨F.no, fun _ => none⟩
structure Sto (K : PySem.W.Frag) (F : Fr) (H0 : Hp) (Γ : List Nat) (ρ : Rho) (σ : L2.St) (H : Hp) (S R : Nat → List Addr) : Prop where
  same : Same H0 H
  len : σ.length = ρ.length
  slot : ∀ i d, ρ[i]? = some (some d) → ∃ x, σ[i]? = some (some x) ∧ Dat K H d (Γ.getD i 0) x (S i) (R i)
  emp : ∀ i, (∀ d, ρ[i]? ≠ some (some d)) → S i = [] ∧ R i = []
  new : ∀ i, ∀ a ∈ S i, H0 a = none
  nd : ∀ i, (S i).Nodup
  dj : ∀ i j, i ≠ j → ∀ a ∈ S i, a ∉ S j
  rs : ∀ i j, ∀ a ∈ R i, a ∉ S j
  rf : ∀ i, ∀ a ∈ R i, ¬ F a
  sf : ∀ i, ∀ a ∈ S i, ¬ F a
  fd : ∀ a, F a → H a ≠ none
  pin : ∀ i v, F.pin i = some v → Γ.getD i 0 = 99 ∧ σ[i]? = some (some v)
def Av (F : Fr) (S : Nat → List Addr) (a : Addr) : Prop := F a ∨ ∃ i, a ∈ S i

section
variable {K : PySem.W.Frag} {F : Fr} {H0 H H' : Hp} {Γ : List Nat} {ρ : Rho} {σ : L2.St} {S R : Nat → List Addr}
theorem Sto.domS (h : Sto K F H0 Γ ρ σ H S R) (i : Nat) : ∀ a ∈ S i, H a ≠ none := fun a ha => by
  by_cases e : ∃ d, ρ[i]? = some (some d)
  · obtain ⟨d, e⟩ := e
    obtain ⟨x, _, q⟩ := h.slot i d e
    exact Dat.dom q a ha
  · rw [(h.emp i fun d q => e ⟨d, q⟩).1] at ha
    simp at ha
theorem Sto.domR (h : Sto K F H0 Γ ρ σ H S R) (i : Nat) : ∀ a ∈ R i, H a ≠ none := fun a ha => by
  by_cases e : ∃ d, ρ[i]? = some (some d)
  · obtain ⟨d, e⟩ := e
    obtain ⟨x, _, q⟩ := h.slot i d e
    exact Dat.domR q a ha
  · rw [(h.emp i fun d q => e ⟨d, q⟩).2] at ha
    simp at ha
theorem Sto.avd (h : Sto K F H0 Γ ρ σ H S R) : ∀ a, Av F S a → H a ≠ none := fun a ha => by
  rcases ha with ha | ⟨i, ha⟩
  · exact h.fd a ha
  · exact h.domS i a ha
theorem Sto.more {A : List Addr} (h : Sto K F H0 Γ ρ σ H S R) (hd : ∀ a ∈ A, H a ≠ none) (hs : ∀ a ∈ A, ∀ i, a ∉ S i) (hr : ∀ a ∈ A, ∀ i, a ∉ R i) : Sto K (F.plus A) H0 Γ ρ σ H S R :=
  ⟨h.same, h.len, h.slot, h.emp, h.new, h.nd, h.dj, h.rs, fun i a ha z => z.elim (h.rf i a ha) fun z => hr a z i ha, fun i a ha z => z.elim (h.sf i a ha) fun z => hs a z i ha, fun a z => z.elim (h.fd a) (hd a), h.pin⟩
theorem Sto.grow (h : Sto K F H0 Γ ρ σ H S R) (e : Same H H') : Sto K F H0 Γ ρ σ H' S R where
  same := h.same.trans e
  len := h.len
  slot := fun i d q => let ⟨x, e1, e2⟩ := h.slot i d q; ⟨x, e1, e2.same e⟩
  emp := h.emp
  new := h.new
  nd := h.nd
  dj := h.dj
  rs := h.rs
  rf := h.rf
  sf := h.sf
  fd := fun a ha z => by
    cases q : H a with
    | none => exact h.fd a ha q
    | some o => rw [e a o q] at z; cases z
  pin := h.pin
end
def New (H : Hp) (A B : List Addr) : Prop := A.Nodup ∧ ∀ a ∈ A, H a = none ∧ a ∉ B
def PostV (K : PySem.W.Frag) (Z : Addr → Prop) (n : Nat) (fr : Bool) (H : Hp) (Q : VK) (d : D) : Prop :=
  ∀ x H' A B, Same H H' → Dat K H' d n x A B → (∀ a ∈ B, ¬ Z a) → (fr = true → New H A B) → Q x H'
def PostE (X : Cx) (W : WX) (Z : Addr → Prop) (n : Nat) (fr : Bool) (σ : L2.St) (H : Hp) (Q : VK) : Res D → Prop
  | .ok d => PostV X.K Z n fr H Q d
  | .exn c => ∀ C H', X.mg c = some (.ref C) → Same H H' → W (.ref C) none σ H'
  | .stuck => False
def RE (X : Cx) (W : WX) (Γ : List Nat) (n : Nat) (fr : Bool) (e : Expr) (m : Rho → Res D) : Prop :=
  ∃ t, PE X e t ∧ ∀ F H0 ρ σ H S R Q, Sto X.K F H0 Γ ρ σ H S R → PostE X W (Av F S) n fr σ H Q (m ρ) → t σ H Q
def PostT (X : Cx) (W : WX) (σ : L2.St) (H : Hp) (Q : Bool → Hp → Prop) : Res Bool → Prop
  | .ok b => ∀ H', Same H H' → Q b H'
  | .exn c => ∀ C H', X.mg c = some (.ref C) → Same H H' → W (.ref C) none σ H'
  | .stuck => False
def RT (X : Cx) (W : WX) (Γ : List Nat) (e : Expr) (m : Rho → Res Bool) : Prop :=
  ∃ t, PT X e t ∧ ∀ F H0 ρ σ H S R Q, Sto X.K F H0 Γ ρ σ H S R → PostT X W σ H Q (m ρ) → t σ H Q
def PostA (X : Cx) (W : WX) (Z : Addr → Prop) (n : Nat) (fr : Bool) (σ : L2.St) (H : Hp) (Q : List V → Hp → Prop) : Res (List D) → Prop
  | .ok ds => ∀ xs H' A B, Same H H' → Dats X.K H' ds n xs A B → (∀ a ∈ B, ¬ Z a) → (fr = true → New H A B) → Q xs H'
  | .exn c => ∀ C H', X.mg c = some (.ref C) → Same H H' → W (.ref C) none σ H'
  | .stuck => False
def RA (X : Cx) (W : WX) (Γ : List Nat) (n : Nat) (fr : Bool) (es : List Expr) (m : Rho → Res (List D)) : Prop :=
  (∀ ρ ds, m ρ = .ok ds → ds.length = es.length) ∧ ∃ t, PA X es t ∧ ∀ F H0 ρ σ H S R Q, Sto X.K F H0 Γ ρ σ H S R → PostA X W (Av F S) n fr σ H Q (m ρ) → t σ H Q
inductive Out where
  | nx (ρ : Rho) | rt (d : D) | ex (c : Str) (ρ : Rho) | stuck
def Keep (S : Nat → List Addr) (H H' : Hp) : Prop := ∀ a o, H a = some o → (∀ i, a ∉ S i) → H' a = some o
def Grow (S : Nat → List Addr) (H : Hp) (S' : Nat → List Addr) : Prop := ∀ i, ∀ a ∈ S' i, (∃ j, a ∈ S j) ∨ H a = none
def D.flat : D → Bool
  | .non => true
  | .bl _ => true
  | .int _ => true
  | .str _ => true
  | _ => false
def PostRt (X : Cx) (F : Fr) (H0 : Hp) (n : Nat) (E : Ends) (d : D) : Prop :=
  if n < 1000 then ∀ x H' A B, Same H0 H' → Dat X.K H' d n x A B → New H0 A B → (∀ a ∈ B, ¬ F a) → E.rt x H'
  else ∃ v s, d = .tup [v, s] ∧ v.flat = true ∧ ∀ x x0 H' A B, (∀ p, F.pin 0 = some p → p = x0) → Same H0 H' → Dat X.K H' v 0 x [] [] → Dat X.K H' s 99 x0 A B → New H0 A B → (∀ a ∈ B, ¬ F a) → (∀ a ∈ A, ¬ F a) → E.rt x H'
theorem PostRt.lo {X : Cx} {F : Fr} {H0 : Hp} {n : Nat} {E : Ends} {d : D} (h : PostRt X F H0 n E d) (hn : n < 1000) : ∀ x H' A B, Same H0 H' → Dat X.K H' d n x A B → New H0 A B → (∀ a ∈ B, ¬ F a) → E.rt x H' := by
  unfold PostRt at h
  rw [if_pos hn] at h
  exact h
theorem PostRt.of {X : Cx} {F : Fr} {H0 : Hp} {n : Nat} {E : Ends} {d : D} (hn : n < 1000) (h : ∀ x H' A B, Same H0 H' → Dat X.K H' d n x A B → New H0 A B → (∀ a ∈ B, ¬ F a) → E.rt x H') : PostRt X F H0 n E d := by
  unfold PostRt
  rw [if_pos hn]
  exact h
def PostS (X : Cx) (W : WX) (F : Fr) (H0 : Hp) (Γ' : List Nat) (n : Nat) (S : Nat → List Addr) (H : Hp) (E : Ends) : Out → Prop
  | .nx ρ' => ∀ σ' H' S' R', Sto X.K F H0 Γ' ρ' σ' H' S' R' → Keep S H H' → Grow S H S' → E.nx σ' H'
  | .rt d => PostRt X F H0 n E d
  | .ex c ρ' => ∀ C σ' H' S' R', X.mg c = some (.ref C) → Sto X.K F.un H0 [] ρ' σ' H' S' R' → Keep S H H' → Grow S H S' → W (.ref C) none σ' H'
  | .stuck => False
def RS (X : Cx) (W : WX) (n : Nat) (Γ Γ' : List Nat) (st : Stmt) (m : Rho → Out) : Prop :=
  ∃ t, PS X st t ∧ ∀ F H0 ρ σ H S R E, Sto X.K F H0 Γ ρ σ H S R → PostS X W F H0 Γ' n S H E (m ρ) → t E σ H
def RSs (X : Cx) (W : WX) (n : Nat) (Γ Γ' : List Nat) (st : List Stmt) (m : Rho → Out) : Prop :=
  ∃ t, PSs X st t ∧ ∀ F H0 ρ σ H S R E, Sto X.K F H0 Γ ρ σ H S R → PostS X W F H0 Γ' n S H E (m ρ) → t E σ H

section
variable {X : Cx} {W : WX} {Γ : List Nat} {F : Fr} {S : Nat → List Addr} {H H' H0 : Hp} {σ : L2.St}
theorem Keep.refl : Keep S H H := fun _ _ e _ => e
theorem Keep.of_same (h : Same H H') : Keep S H H' := fun a o e _ => h a o e
theorem Grow.refl : Grow S H S := fun i a h => .inl ⟨i, h⟩
theorem Grow.trans {S1 S2 : Nat → List Addr} (g1 : Grow S H S1) (k : Keep S H H') (g2 : Grow S1 H' S2) : Grow S H S2 := fun i a h => by
  rcases g2 i a h with ⟨j, h⟩ | h
  · exact g1 j a h
  · by_cases e : ∃ j, a ∈ S j
    · exact .inl e
    · refine .inr ?_
      cases q : H a with
      | none => rfl
      | some o =>
        rw [k a o q fun i hi => e ⟨i, hi⟩] at h
        cases h
theorem Keep.trans {S1 : Nat → List Addr} {H2 : Hp} (k1 : Keep S H H') (g1 : Grow S H S1) (k2 : Keep S1 H' H2) : Keep S H H2 := fun a o e h => by
  refine k2 a o (k1 a o e h) fun i hi => ?_
  rcases g1 i a hi with ⟨j, hj⟩ | hn
  · exact h j hj
  · rw [e] at hn
    cases hn
theorem PostE.imp {Z : Addr → Prop} {n : Nat} {fr : Bool} {Q Q' : VK} {m : Res D} (h : PostE X W Z n fr σ H Q m) (q : ∀ x H', Q x H' → Q' x H') : PostE X W Z n fr σ H Q' m := by
  cases m with
  | ok d => exact fun x H' A B s d v f => q _ _ (h x H' A B s d v f)
  | exn c => exact h
  | stuck => exact h
theorem PostS.later {Γ' : List Nat} {n : Nat} {E : Ends} {S1 : Nat → List Addr} {o : Out} (h : PostS X W F H0 Γ' n S H E o) (k : Keep S H H') (g : Grow S H S1) : PostS X W F H0 Γ' n S1 H' E o := by
  cases o with
  | nx ρ' => exact fun σ' H2 S' R' st k' g' => h σ' H2 S' R' st (k.trans g k') (g.trans k g')
  | rt d => exact h
  | ex c ρ' => exact fun C σ' H2 S' R' hc st k' g' => h C σ' H2 S' R' hc st (k.trans g k') (g.trans k g')
  | stuck => exact h
end

section
variable {X : Cx} {W : WX} {Γ : List Nat} {e : Expr} {m : Rho → Res D}
theorem RE.w {n k : Nat} (h : RE X W Γ n true e m) (hk : k ≤ n := by decide) : RE X W Γ k true e m := by
  obtain ⟨t, p, q⟩ := h
  refine ⟨t, p, fun F H0 ρ σ H S R Q st po => q F H0 ρ σ H S R Q st ?_⟩
  cases e : m ρ with
  | stuck => rw [e] at po; exact po
  | exn c => rw [e] at po; exact po
  | ok d =>
    rw [e] at po
    refine fun x H' A B s d' v f => ?_
    obtain ⟨A', B', g, snd, sl, hb, ap⟩ := Dat.weakS hk d'
    obtain ⟨nd, new⟩ := f rfl
    refine po x H' A' B' s g (fun a ha => ?_) fun _ => ⟨snd nd, fun a ha => ⟨(new a (sl a ha)).1, ap nd (fun a ha => (new a ha).2) a ha⟩⟩
    rcases hb a ha with ha | ha
    · exact fun z => st.avd a z (new a ha).1
    · exact v a ha
theorem RE.own0 (h : RE X W Γ 0 false e m) : RE X W Γ 0 true e m := by
  obtain ⟨t, p, q⟩ := h
  refine ⟨t, p, fun F H0 ρ σ H S R Q st po => q F H0 ρ σ H S R Q st ?_⟩
  cases e : m ρ with
  | stuck => rw [e] at po; exact po
  | exn c => rw [e] at po; exact po
  | ok d =>
    rw [e] at po
    refine fun x H' A B s d' v f => ?_
    obtain rfl : A = [] := Dat.noS d'
    exact po x H' [] B s d' v fun _ => ⟨List.nodup_nil, fun a z => by simp at z⟩
end
theorem Dat.flat {K : PySem.W.Frag} {H : Hp} {d : D} {n : Nat} {v : V} {A B : List Addr} (h : Dat K H d n v A B) (f : d.flat = true) : A = [] ∧ B = [] ∧ ∀ k, Dat K H d k v [] [] := by
  cases d with
  | non => simp only [Dat] at h; obtain ⟨rfl, rfl, rfl⟩ := h; exact ⟨rfl, rfl, fun _ => by simp [Dat]⟩
  | bl b => simp only [Dat] at h; obtain ⟨rfl, rfl, rfl⟩ := h; exact ⟨rfl, rfl, fun _ => by simp [Dat]⟩
  | int i => simp only [Dat] at h; obtain ⟨rfl, rfl, rfl⟩ := h; exact ⟨rfl, rfl, fun _ => by simp [Dat]⟩
  | str s => simp only [Dat] at h; obtain ⟨rfl, rfl, rfl⟩ := h; exact ⟨rfl, rfl, fun _ => by simp [Dat]⟩
  | lst l => cases f
  | tup l => cases f
  | dK a b => cases f
  | dT a b => cases f
  | scr l => cases f
  | junk => cases f
  | ins C h t => cases f
  | ftup l => cases f
def mFlat (m : Rho → Res D) : Rho → Res D := fun ρ => (m ρ).bind fun d => if d.flat then .ok d else .stuck
section
variable {X : Cx} {W : WX} {Γ : List Nat} {e : Expr} {m : Rho → Res D}
theorem RE.flat {n k : Nat} {fr : Bool} (h : RE X W Γ n fr e m) : RE X W Γ k true e (mFlat m) := by
  obtain ⟨t, p, q⟩ := h
  refine ⟨t, p, fun F H0 ρ σ H S R Q st po => q F H0 ρ σ H S R Q st ?_⟩
  unfold mFlat at po
  cases e : m ρ with
  | stuck => rw [e] at po; exact po
  | exn c => rw [e] at po; exact po
  | ok d =>
    rw [e] at po
    simp only [Res.bind_ok] at po
    by_cases f : d.flat = true
    · rw [if_pos f] at po
      refine fun x H' A B s d' v fr' => ?_
      obtain ⟨rfl, rfl, g⟩ := d'.flat f
      exact po x H' [] [] s (g k) (fun a z => by simp at z) fun _ => ⟨List.nodup_nil, fun a z => by simp at z⟩
    · rw [if_neg f] at po
      exact po.elim
end
end TW
-- TWStrs
namespace TW
open PySem PySem.Spec PyProof.Rows L2
def strRep (s : Str) (k : Nat) : Str := ⟨(List.replicate k s.cps).foldl (· ++ ·) #[]⟩
theorem foldl_rep (a : Array Nat) : ∀ (k : Nat) (b : Array Nat), ((List.replicate k a).foldl (· ++ ·) b).toList = b.toList ++ (List.replicate k a.toList).flatten
  | 0, b => by simp
  | k + 1, b => by rw [List.replicate_succ, List.foldl_cons, foldl_rep a k, List.replicate_succ, List.flatten_cons]; simp
theorem strRep_list (s : Str) (k : Nat) : (strRep s k).cps.toList = (List.replicate k s.cps.toList).flatten := by
  unfold strRep
  rw [foldl_rep]; simp
theorem strRep_length (s : Str) (k : Nat) : (strRep s k).length = s.length * k := by
  show (strRep s k).cps.size = s.cps.size * k
  rw [← Array.length_toList, strRep_list, List.length_flatten, List.map_replicate, List.sum_replicate_nat, Array.length_toList, Nat.mul_comm]
def rRepS : R2 := fun x y H Q => ∃ (s : Str) (k : Int), x = .str s ∧ y = .int k ∧ -(2 ^ 63) ≤ k ∧ k < 2 ^ 63 ∧ s.length * k.toNat ≤ sizeLine ∧ Q (.str (strRep s k.toNat)) H
theorem op_mulS {X : Cx} : OpR X (binaryOp .Mult) rRepS := by
  intro pins s σ H x y v u Q I rx ry h
  obtain ⟨a, k, rfl, rfl, h1, h2, h3, q⟩ := h
  obtain ⟨t, rfl⟩ := rx
  obtain ⟨t', rfl⟩ := ry
  refine P.mul_str (by rw [decide_eq_false (by omega), decide_eq_false (by omega)]; rfl) (fun c1 c2 z => ?_) (fun c1 c2 => ?_) ?_
  · have hk : 0 < k := by omega
    have e : (a.length : Int) * k ≤ sizeLine := by
      have : k = (k.toNat : Int) := by omega
      rw [this]; exact_mod_cast h3
    have e2 : (a.length : Int) ≤ (2 ^ 63 - 1) / k := by
      refine (Int.le_ediv_iff_mul_le hk).mpr (Int.le_trans e ?_)
      show ((sizeLine : Nat) : Int) ≤ _
      decide
    omega
  · simpa [Builtin.Str.tooLong] using h3
  · have hl : (strRep a k.toNat).length ≤ sizeLine := by rw [strRep_length]; exact h3
    split
    · rename_i c
      have e : strRep a k.toNat = Str.empty := by rw [show k.toNat = 0 by omega]; rfl
      rw [e] at q hl
      exact ⟨hl, .str Str.empty, H, I.tok _, ⟨_, rfl⟩, q⟩
    · rename_i c
      split
      · rename_i d
        have e : strRep a k.toNat = a := by
          rcases Bool.or_eq_true_iff.mp d with d | d
          · have := eq_of_beq d
            subst this
            show (⟨_⟩ : Str) = a
            cases a
            simp
          · have d : a.cps.size = 0 := eq_of_beq d
            have d2 : a.cps.toList = [] := List.length_eq_zero_iff.mp (by rw [Array.length_toList]; exact d)
            have : (strRep a k.toNat).cps.toList = a.cps.toList := by rw [strRep_list, d2]; simp
            cases a with
            | mk c =>
              show (⟨(strRep ⟨c⟩ k.toNat).cps⟩ : Str) = ⟨c⟩
              congr 1
              exact Array.toList_inj.mp this
        rw [e] at q
        exact ⟨.str a, H, I, ⟨_, rfl⟩, q⟩
      · exact ⟨hl, .str _, H, I.tok _, ⟨_, rfl⟩, q⟩
end TW
-- TWOps
namespace TW
open PySem PySem.Spec PyProof.Rows L2

def mVar (i : Nat) : Rho → Res D := fun ρ => match ρ[i]? with
  | some (some d) => .ok d
  | _ => .stuck
def mC (d : D) : Rho → Res D := fun _ => .ok d
def ofO {α : Type} : Option α → Res α
  | some a => .ok a
  | none => .stuck
@[simp] theorem ofO_some {α : Type} (a : α) : ofO (some a) = .ok a := id rfl
@[simp] theorem ofO_none {α : Type} : ofO (none : Option α) = .stuck := id rfl
def m1 (g : D → Option D) (a : Rho → Res D) : Rho → Res D := fun ρ => (a ρ).bind fun x => ofO (g x)
def m2 (g : D → D → Option D) (a b : Rho → Res D) : Rho → Res D := fun ρ => (a ρ).bind fun x => (b ρ).bind fun y => ofO (g x y)
def mA0 : Rho → Res (List D) := fun _ => .ok []
def mA1 (a : Rho → Res D) (r : Rho → Res (List D)) : Rho → Res (List D) := fun ρ => (a ρ).bind fun x => (r ρ).bind fun xs => .ok (x :: xs)
def mArgs (g : List D → Res D) (a : Rho → Res (List D)) : Rho → Res D := fun ρ => (a ρ).bind g
def mL (g : List D → Option D) (a : Rho → Res (List D)) : Rho → Res D := fun ρ => (a ρ).bind fun x => ofO (g x)

section
variable {K : PySem.W.Frag} {Z : Addr → Prop} {n : Nat} {fr : Bool} {H H' : Hp} {Q : VK} {d : D}
theorem New.later {A B : List Addr} (h : New H' A B) (s : Same H H') : New H A B := ⟨h.1, fun a ha => ⟨s.free (h.2 a ha).1, (h.2 a ha).2⟩⟩
theorem New.nil {B : List Addr} : New H [] B := ⟨List.nodup_nil, fun a z => by simp at z⟩
theorem PostV.later (h : PostV K Z n fr H Q d) (s : Same H H') : PostV K Z n fr H' Q d := fun x H2 A B s2 g v f =>
  h x H2 A B (s.trans s2) g v fun e => (f e).later s
theorem PostV.flat (h : PostV K Z n fr H Q d) (f : d.flat = true) {x : V} (g : ∀ k, Dat K H d k x [] []) : Q x H :=
  h x H [] [] (Same.refl H) (g n) (fun a z => by simp at z) fun _ => New.nil
theorem same_new {p : Addr} {o : HO} (h : H p = none) : Same H (upd H p o) := fun b x e => by
  rw [upd_ne (ne_of_none e h)]
  exact e
end
section
variable {X : Cx} {W : WX} {Γ : List Nat} {n : Nat} {fr : Bool} {F : Fr} {S R : Nat → List Addr} {H H' H0 : Hp} {σ : L2.St} {ρ : Rho} {Q : VK}
theorem PostE.later {Z : Addr → Prop} {m : Res D} (h : PostE X W Z n fr σ H Q m) (s : Same H H') : PostE X W Z n fr σ H' Q m := by
  cases m with
  | ok d => exact PostV.later h s
  | exn c => exact fun C H2 e s2 => h C H2 e (s.trans s2)
  | stuck => exact h
theorem PostA.later {Z : Addr → Prop} {Q : List V → Hp → Prop} {m : Res (List D)} (h : PostA X W Z n fr σ H Q m) (s : Same H H') : PostA X W Z n fr σ H' Q m := by
  cases m with
  | ok d => exact fun x H2 A B s2 g v f => h x H2 A B (s.trans s2) g v fun e => (f e).later s
  | exn c => exact fun C H2 e s2 => h C H2 e (s.trans s2)
  | stuck => exact h
theorem PostT.later {Q : Bool → Hp → Prop} {m : Res Bool} (h : PostT X W σ H Q m) (s : Same H H') : PostT X W σ H' Q m := by
  cases m with
  | ok d => exact fun H2 s2 => h H2 (s.trans s2)
  | exn c => exact fun C H2 e s2 => h C H2 e (s.trans s2)
  | stuck => exact h
def PostX (X : Cx) (W : WX) (σ : L2.St) (H : Hp) {α : Type} (ok : α → Prop) : Res α → Prop
  | .ok d => ok d
  | .exn c => ∀ C H', X.mg c = some (.ref C) → Same H H' → W (.ref C) none σ H'
  | .stuck => False
theorem PostX.imp {α : Type} {ok ok' : α → Prop} {m : Res α} (h : PostX X W σ H ok m) (q : ∀ d, m = .ok d → ok d → ok' d) : PostX X W σ H ok' m := by
  cases m with
  | ok d => exact q d rfl h
  | exn c => exact h
  | stuck => exact h
theorem PostX.bind {α β : Type} {ok : β → Prop} {m : Res α} {f : α → Res β} (h : PostX X W σ H ok (m.bind f)) : PostX X W σ H (fun d => PostX X W σ H ok (f d)) m := by
  cases m with
  | ok d => exact h
  | exn c => exact h
  | stuck => exact h
theorem PostX.later {α : Type} {ok ok' : α → Prop} {m : Res α} (h : PostX X W σ H ok m) (s : Same H H') (q : ∀ d, m = .ok d → ok d → ok' d) : PostX X W σ H' ok' m := by
  cases m with
  | ok d => exact q d rfl h
  | exn c => exact fun C H2 e s2 => h C H2 e (s.trans s2)
  | stuck => exact h
theorem PostE.iff {Z : Addr → Prop} {m : Res D} : PostE X W Z n fr σ H Q m ↔ PostX X W σ H (PostV X.K Z n fr H Q) m := by
  cases m <;> exact Iff.rfl
theorem PostT.iff {Q : Bool → Hp → Prop} {m : Res Bool} : PostT X W σ H Q m ↔ PostX X W σ H (fun b => ∀ H', Same H H' → Q b H') m := by
  cases m <;> exact Iff.rfl
theorem PostA.iff {Z : Addr → Prop} {Q : List V → Hp → Prop} {m : Res (List D)} : PostA X W Z n fr σ H Q m ↔ PostX X W σ H (fun ds => ∀ xs H' A B, Same H H' → Dats X.K H' ds n xs A B → (∀ a ∈ B, ¬ Z a) → (fr = true → New H A B) → Q xs H') m := by
  cases m <;> exact Iff.rfl
end

section
variable {X : Cx} {W : WX} {Γ : List Nat} {n : Nat} {e : Expr} {x : Str} {pos : Pos} {m : Rho → Res D}
theorem re_own {i : Nat} (hv : PE X e (tVar i)) (k : Nat) (hk : Γ.getD i 0 = k := by rfl) : RE X W Γ k false e (mVar i) := by
  refine ⟨_, hv, fun F H0 ρ σ H S R Q st po => ?_⟩
  unfold mVar at po
  split at po
  · rename_i d e
    obtain ⟨x, e1, q⟩ := st.slot i d e
    rw [hk] at q
    exact ⟨x, e1, po x H _ _ (Same.refl H) q (fun a ha z => z.elim (st.rf i a ha) fun ⟨j, hj⟩ => st.rs i j a ha hj) fun z => nomatch z⟩
  · exact po.elim
theorem re_v {i : Nat} (hv : PE X e (tVar i)) (hk : Γ.getD i 0 = 0 := by rfl) : RE X W Γ 0 true e (mVar i) := (re_own hv 0 hk).own0
theorem re_c {v : V} {d : D} (hc : PE X e (tC v)) (f : d.flat = true) (h : ∀ K H k, Dat K H d k v [] []) : RE X W Γ n true e (mC d) := by
  refine ⟨_, hc, fun F H0 ρ σ H S R Q st po => ?_⟩
  exact PostV.flat po f (h X.K H)
theorem re_int {i : Int} {j} : RE X W Γ n true (.Constant (.int i) j pos) (mC (.int i)) := re_c pe_int rfl fun _ _ _ => by simp [Dat]
theorem re_str {i : Str} {j} : RE X W Γ n true (.Constant (.str i) j pos) (mC (.str i)) := re_c pe_str rfl fun _ _ _ => by simp [Dat]
theorem re_bl {i : Bool} {j} : RE X W Γ n true (.Constant (.bool i) j pos) (mC (.bl i)) := re_c pe_bl rfl fun _ _ _ => by simp [Dat]
theorem re_non {j} : RE X W Γ n true (.Constant .none j pos) (mC .non) := re_c pe_non rfl fun _ _ _ => by simp [Dat]
end
def BinV (K : PySem.W.Frag) (r : R2) (g : D → D → Option D) (n : Nat) : Prop :=
  ∀ (Z : Addr → Prop) (x y : V) (d e z : D) (H : Hp) (B1 B2 : List Addr) (Q : VK), (∀ a, Z a → H a ≠ none) → Dat K H d 0 x [] B1 → Dat K H e 0 y [] B2 → (∀ a ∈ B1, ¬ Z a) → (∀ a ∈ B2, ¬ Z a) →
    g d e = some z → PostV K Z n true H Q z → r x y H Q
def BinF (K : PySem.W.Frag) (r : R2) (g : D → D → Option D) : Prop :=
  ∀ (x y : V) (d e z : D) (H : Hp) (B1 B2 : List Addr) (Q : VK), Dat K H d 0 x [] B1 → Dat K H e 0 y [] B2 → g d e = some z → (z.flat = true → ∀ v, (∀ k, Dat K H z k v [] []) → Q v H) → r x y H Q
theorem PostE.ofO {X : Cx} {W : WX} {Z : Addr → Prop} {n : Nat} {fr : Bool} {σ : L2.St} {H : Hp} {Q : VK} {o : Option D} (h : PostE X W Z n fr σ H Q (ofO o)) : ∃ z, o = some z ∧ PostV X.K Z n fr H Q z := by
  cases o with
  | none => exact h.elim
  | some z => exact ⟨z, rfl, h⟩
section
variable {X : Cx} {W : WX} {Γ : List Nat} {n n1 n2 : Nat} {f1 f2 fr : Bool} {a b : Expr} {pos : Pos} {ma mb : Rho → Res D} {r : R2} {g : D → D → Option D}
theorem bin_run (hv : BinV X.K r g n) {ta tb : TE} {F : Fr} {H0 : Hp} {ρ : Rho} {σ : L2.St} {H : Hp} {S R : Nat → List Addr} {Q : VK}
    (qa : ∀ F H0 ρ σ H S R Q, Sto X.K F H0 Γ ρ σ H S R → PostE X W (Av F S) 0 true σ H Q (ma ρ) → ta σ H Q) (qb : ∀ F H0 ρ σ H S R Q, Sto X.K F H0 Γ ρ σ H S R → PostE X W (Av F S) 0 true σ H Q (mb ρ) → tb σ H Q)
    (st : Sto X.K F H0 Γ ρ σ H S R) (po : PostE X W (Av F S) n true σ H Q (m2 g ma mb ρ)) : tOp r ta tb σ H Q := by
  refine qa F H0 ρ σ H S R _ st (PostE.iff.mpr ((PostE.iff.mp po).bind.imp fun d _ po => ?_))
  intro x H1 A B s1 d1 v1 _
  refine qb F H0 ρ σ H1 S R _ (st.grow s1) (PostE.iff.mpr (po.bind.later s1 fun e ee po => ?_))
  intro y H2 A' B' s2 d2 v2 _
  obtain rfl : A = [] := Dat.noS d1
  obtain rfl : A' = [] := Dat.noS d2
  obtain ⟨z, ez, po⟩ := PostE.ofO (PostE.iff.mpr po)
  exact hv (Av F S) x y d e z H2 B B' Q ((st.grow s1).grow s2).avd (d1.same s2) d2 v1 v2 ez (PostV.later po (s1.trans s2))
theorem binf_run (hv : BinF X.K r g) {ta tb : TE} {F : Fr} {H0 : Hp} {ρ : Rho} {σ : L2.St} {H : Hp} {S R : Nat → List Addr} {Q : VK}
    (qa : ∀ F H0 ρ σ H S R Q, Sto X.K F H0 Γ ρ σ H S R → PostE X W (Av F S) n1 f1 σ H Q (ma ρ) → ta σ H Q) (qb : ∀ F H0 ρ σ H S R Q, Sto X.K F H0 Γ ρ σ H S R → PostE X W (Av F S) n2 f2 σ H Q (mb ρ) → tb σ H Q)
    (st : Sto X.K F H0 Γ ρ σ H S R) (po : PostX X W σ H (fun z => ∀ H', Same H H' → z.flat = true → ∀ v, (∀ k, Dat X.K H' z k v [] []) → Q v H') (m2 g ma mb ρ)) : tOp r ta tb σ H Q := by
  refine qa F H0 ρ σ H S R _ st (PostE.iff.mpr (po.bind.imp fun d _ po => ?_))
  intro x H1 A B s1 d1 _ _
  refine qb F H0 ρ σ H1 S R _ (st.grow s1) (PostE.iff.mpr (po.bind.later s1 fun e ee po => ?_))
  intro y H2 A' B' s2 d2 _ _
  obtain ⟨S1, R1, d1, l1, _⟩ := Dat.weak d n1 0 x A B (Nat.zero_le _) d1
  obtain ⟨S2, R2, d2, l2, _⟩ := Dat.weak e n2 0 y A' B' (Nat.zero_le _) d2
  obtain rfl : S1 = [] := Dat.noS d1
  obtain rfl : S2 = [] := Dat.noS d2
  cases ez : g d e with
  | none => rw [ez] at po; exact po.elim
  | some z =>
    rw [ez] at po
    exact hv x y d e z H2 R1 R2 Q (d1.same s2) d2 ez (po H2 (s1.trans s2))
theorem re_bin {op : Operator} (ho : OpR X (binaryOp op) r) (hv : BinV X.K r g n) (ha : RE X W Γ 0 true a ma) (hb : RE X W Γ 0 true b mb) : RE X W Γ n true (.BinOp a op b pos) (m2 g ma mb) := by
  obtain ⟨ta, pa, qa⟩ := ha
  obtain ⟨tb, pb, qb⟩ := hb
  exact ⟨_, pe_op ho pa pb, fun F H0 ρ σ H S R Q st po => bin_run hv qa qb st po⟩
theorem re_cmp {op : CmpOp} (ho : OpR X (compareOp op) r) (hv : BinF X.K r g) (hm : behindInMarks op b = false) (ha : RE X W Γ n1 f1 a ma) (hb : RE X W Γ n2 f2 b mb) : RE X W Γ n true (.Compare a [op] [b] pos) (m2 g ma mb) := by
  obtain ⟨ta, pa, qa⟩ := ha
  obtain ⟨tb, pb, qb⟩ := hb
  exact ⟨_, pe_cmpR ho pa pb hm, fun F H0 ρ σ H S R Q st po => binf_run hv qa qb st ((PostE.iff.mp po).imp fun z _ po H' s f v hd =>
    po v H' [] [] s (hd n) (fun a z => by simp at z) fun _ => New.nil)⟩
def ofB : D → Res Bool
  | .bl b => .ok b
  | _ => .stuck
def mT (m : Rho → Res D) : Rho → Res Bool := fun ρ => (m ρ).bind ofB
theorem dat_bl {K : PySem.W.Frag} {H : Hp} {b : Bool} {n : Nat} {v : V} {A B : List Addr} (h : Dat K H (.bl b) n v A B) : v = .bl b := by
  simp only [Dat] at h
  exact h.1
theorem rt_cmp {op : CmpOp} (ho : OpR X (compareOp op) r) (hv : BinF X.K r g) (hm : behindInMarks op b = false) (ha : RE X W Γ n1 f1 a ma) (hb : RE X W Γ n2 f2 b mb) : RT X W Γ (.Compare a [op] [b] pos) (mT (m2 g ma mb)) := by
  obtain ⟨ta, pa, qa⟩ := ha
  obtain ⟨tb, pb, qb⟩ := hb
  refine ⟨_, pt_cmpR ho pa pb hm, fun F H0 ρ σ H S R Q st po => ?_⟩
  unfold mT at po
  refine binf_run (Q := fun x H1 => ∃ k, x = .bl k ∧ Q k H1) hv qa qb st ((PostT.iff.mp po).bind.imp fun z _ po H' s f v hd => ?_)
  cases z with
  | bl c => exact ⟨c, dat_bl (hd 0), po H' s⟩
  | _ => exact po.elim
theorem rt_val (ha : RE X W Γ n1 f1 a ma) (he : ∀ whole, isTrue a X.env whole = (do let v ← whole; standAt a.pos; holding [v] (truthy v)) := by intro _; rfl) : RT X W Γ a (mT ma) := by
  obtain ⟨ta, pa, qa⟩ := ha
  refine ⟨_, pt_val pa he, fun F H0 ρ σ H S R Q st po => ?_⟩
  unfold mT at po
  refine qa F H0 ρ σ H S R _ st (PostE.iff.mpr ((PostT.iff.mp po).bind.imp fun z _ po => ?_))
  intro x H1 A B s1 d1 _ _
  cases z with
  | bl c => exact ⟨c, dat_bl d1, po H1 s1⟩
  | _ => exact po.elim
end

def gAdd : D → D → Option D
  | .int i, .int j => some (.int (i + j))
  | .str i, .str j => if i.length + j.length ≤ sizeLine then some (.str (i ++ j)) else none
  | .lst i, .lst j => if i.length + j.length ≤ sizeLine then some (.lst (i ++ j)) else none
  | .tup i, .tup j => if i.length + j.length ≤ sizeLine then some (.tup (i ++ j)) else none
  | _, _ => none
def gSub : D → D → Option D
  | .int i, .int j => some (.int (i - j))
  | _, _ => none
def gMul : D → D → Option D
  | .int i, .int j => if i.natAbs.log2 + j.natAbs.log2 < 1000000 then some (.int (i * j)) else none
  | .lst i, .int k => if -(2 ^ 63) ≤ k ∧ k < 2 ^ 63 ∧ i.length * k.toNat ≤ sizeLine then some (.lst (List.replicate k.toNat i).flatten) else none
  | .str s, .int k => if -(2 ^ 63) ≤ k ∧ k < 2 ^ 63 ∧ s.length * k.toNat ≤ sizeLine then some (.str (strRep s k.toNat)) else none
  | _, _ => none
def gDiv : D → D → Option D
  | .int i, .int j => if 0 < j ∧ j.natAbs.log2 < 9000 then some (.int (i / j)) else none
  | _, _ => none
def gMod : D → D → Option D
  | .int i, .int j => if 0 < j then some (.int (i % j)) else none
  | _, _ => none
def gPow : D → D → Option D
  | .int i, .int j => if 0 ≤ j ∧ j ≤ 1000000 ∧ i.natAbs < 2 ^ 64 then some (.int (i ^ j.toNat)) else none
  | _, _ => none
theorem OpR.or {X : Cx} {f : Value → Value → Sem Value} {r r' : R2} (h : OpR X f r) (h' : OpR X f r') : OpR X f (fun x y H Q => r x y H Q ∨ r' x y H Q) :=
  fun pins s σ H x y v u Q I rx ry q => q.elim (h pins s σ H x y v u Q I rx ry) (h' pins s σ H x y v u Q I rx ry)
theorem dat_int {K : PySem.W.Frag} {H : Hp} {i : Int} {n : Nat} {v : V} {A B : List Addr} (h : Dat K H (.int i) n v A B) : v = .int i := by
  simp only [Dat] at h
  exact h.1
theorem dat_str {K : PySem.W.Frag} {H : Hp} {i : Str} {n : Nat} {v : V} {A B : List Addr} (h : Dat K H (.str i) n v A B) : v = .str i := by
  simp only [Dat] at h
  exact h.1
theorem dat_of_int {K : PySem.W.Frag} {H : Hp} {i : Int} (k : Nat) : Dat K H (.int i) k (.int i) [] [] := by simp [Dat]
theorem dat_of_str {K : PySem.W.Frag} {H : Hp} {i : Str} (k : Nat) : Dat K H (.str i) k (.str i) [] [] := by simp [Dat]
theorem dat_of_bl {K : PySem.W.Frag} {H : Hp} {i : Bool} (k : Nat) : Dat K H (.bl i) k (.bl i) [] [] := by simp [Dat]
theorem dat_of_non {K : PySem.W.Frag} {H : Hp} (k : Nat) : Dat K H .non k .non [] [] := by simp [Dat]
theorem dat_lst0 {K : PySem.W.Frag} {H : Hp} {ds : List D} {v : V} {B : List Addr} (h : Dat K H (.lst ds) 0 v [] B) : ∃ a xs R', v = .ref a ∧ H a = some (.lst xs) ∧ B = a :: R' ∧ Dats K H ds 0 xs [] R' := by
  simp only [Dat] at h
  obtain ⟨a, xs, R', e, q, _, r, d⟩ := h
  exact ⟨a, xs, R', e, q, r, d⟩
theorem dat_tup0 {K : PySem.W.Frag} {H : Hp} {ds : List D} {v : V} {B : List Addr} (h : Dat K H (.tup ds) 0 v [] B) : ∃ a xs, v = .ref a ∧ H a = some (.tup xs) ∧ Dats K H ds 0 xs [] B := by
  simp only [Dat] at h
  exact h
theorem dat_ftup0 {K : PySem.W.Frag} {H : Hp} {ds : List D} {v : V} {B : List Addr} (h : Dat K H (.ftup ds) 0 v [] B) : ∃ a xs, v = .ref a ∧ (∃ o : Obj, o.dict = none ∧ H a = some (.frz o (.tup xs))) ∧ Dats K H ds 0 xs [] B := by
  simp only [Dat] at h
  exact h
theorem sqt_frz {K : PySem.W.Frag} {H : Hp} {a : Addr} {xs : List V} (h : ∃ o : Obj, o.dict = none ∧ H a = some (.frz o (.tup xs))) : SqT K H a xs := let ⟨o, _, q⟩ := h; .inl (.inr ⟨o, q⟩)
theorem new_lst {K : PySem.W.Frag} {Z : Addr → Prop} {H : Hp} {Q : VK} {ds : List D} {xs : List V} {B : List Addr} {p : Addr} {n : Nat} (po : PostV K Z n true H Q (.lst ds)) (hp : H p = none) (hd : Dats K H ds (n - 1) xs [] B) (hb : ∀ a ∈ B, ¬ Z a) (hz : ∀ a, Z a → H a ≠ none) : Q (.ref p) (upd H p (.lst xs)) := by
  cases n with
  | zero =>
    refine po (.ref p) _ [] (p :: B) (same_new hp) ?_ (fun a ha z => ?_) fun _ => New.nil
    · unfold Dat
      exact ⟨p, xs, B, rfl, upd_same, rfl, rfl, hd.same (same_new hp)⟩
    · rcases List.mem_cons.mp ha with rfl | ha
      · exact hz _ z hp
      · exact hb a ha z
  | succ n =>
    refine po (.ref p) _ [p] B (same_new hp) ?_ hb fun _ => ⟨by simp, fun a z => by simp at z; rw [z]; exact ⟨hp, fun hB => Dats.domR hd p hB hp⟩⟩
    show Dat K _ (.lst ds) (n + 1) _ _ _
    unfold Dat
    exact ⟨p, xs, [], rfl, upd_same, rfl, hd.same (same_new hp)⟩
theorem new_tup {K : PySem.W.Frag} {Z : Addr → Prop} {H : Hp} {Q : VK} {ds : List D} {xs : List V} {B : List Addr} {p : Addr} {n : Nat} (po : PostV K Z n true H Q (.tup ds)) (hp : H p = none) (hd : Dats K H ds (n - 1) xs [] B) (hb : ∀ a ∈ B, ¬ Z a) : Q (.ref p) (upd H p (.tup xs)) := by
  refine po (.ref p) _ [] B (same_new hp) ?_ hb fun _ => New.nil
  unfold Dat
  exact ⟨p, xs, rfl, upd_same, hd.same (same_new hp)⟩
def rAdd (K : PySem.W.Frag) : R2 := fun x y H Q => (rI0 (fun i j => .int (i + j)) x y H Q ∨ ∃ i j, x = .str i ∧ y = .str j ∧ i.length + j.length ≤ sizeLine ∧ Q (.str (i ++ j)) H) ∨ (rCat x y H Q ∨ rCatA K x y H Q)
theorem op_addD {X : Cx} : OpR X (binaryOp .Add) (rAdd X.K) := OpR.or (OpR.or op_add op_add_str) (OpR.or op_cat op_catA)
theorem bv_add {K : PySem.W.Frag} {n : Nat} (hn : n ≤ 1 := by decide) : BinV K (rAdd K) gAdd n := by
  intro Z x y d e z H B1 B2 Q hz h1 h2 v1 v2 ez po
  unfold gAdd at ez
  split at ez
  · cases ez
    rename_i i j
    exact .inl (.inl ⟨i, j, dat_int h1, dat_int h2, po.flat rfl dat_of_int⟩)
  · rename_i i j
    split at ez
    · rename_i hl
      cases ez
      exact .inl (.inr ⟨i, j, dat_str h1, dat_str h2, hl, po.flat rfl dat_of_str⟩)
    · cases ez
  · rename_i i j
    split at ez
    · rename_i hl
      cases ez
      obtain ⟨a, xs, R1, rfl, q1, rfl, d1⟩ := dat_lst0 h1
      obtain ⟨b, ys, R2, rfl, q2, rfl, d2⟩ := dat_lst0 h2
      refine .inr (.inl ⟨a, b, xs, ys, rfl, rfl, q1, q2, by rw [d1.length, d2.length]; exact hl, fun p hp => ?_⟩)
      have dd : Dats K H (i ++ j) (n - 1) (xs ++ ys) ([] ++ []) (R1 ++ R2) := by
        rw [show n - 1 = 0 by omega]
        exact d1.append d2
      refine new_lst po hp dd (fun a ha => ?_) hz
      rcases List.mem_append.mp ha with ha | ha
      · exact v1 a (List.mem_cons_of_mem _ ha)
      · exact v2 a (List.mem_cons_of_mem _ ha)
    · cases ez
  · rename_i i j
    split at ez
    · rename_i hl
      cases ez
      obtain ⟨a, xs, rfl, q1, d1⟩ := dat_tup0 h1
      obtain ⟨b, ys, rfl, q2, d2⟩ := dat_tup0 h2
      have e0 : n - 1 = 0 := by omega
      refine .inr (.inr ⟨a, b, xs, ys, rfl, rfl, .of q1, .of q2, by rw [d1.length, d2.length]; exact hl, fun e => ?_, fun e e' => ?_, fun e e' p hp => ?_⟩)
      · subst e
        have : i = [] := List.length_eq_zero_iff.mp (by rw [← d1.length]; rfl)
        subst this
        refine po _ H [] B2 (Same.refl H) ?_ v2 fun _ => New.nil
        unfold Dat
        exact ⟨b, ys, rfl, q2, by rw [e0]; simpa using d2⟩
      · subst e'
        have : j = [] := List.length_eq_zero_iff.mp (by rw [← d2.length]; rfl)
        subst this
        refine po _ H [] B1 (Same.refl H) ?_ v1 fun _ => New.nil
        unfold Dat
        exact ⟨a, xs, rfl, q1, by rw [e0]; simpa using d1⟩
      · have dd : Dats K H (i ++ j) (n - 1) (xs ++ ys) ([] ++ []) (B1 ++ B2) := by
          rw [e0]
          exact d1.append d2
        refine new_tup po hp dd fun a ha => ?_
        rcases List.mem_append.mp ha with ha | ha
        · exact v1 a ha
        · exact v2 a ha
    · cases ez
  · cases ez
theorem bv_sub {K : PySem.W.Frag} {n : Nat} : BinV K (rI0 fun i j => .int (i - j)) gSub n := by
  intro Z x y d e z H B1 B2 Q hz h1 h2 v1 v2 ez po
  unfold gSub at ez
  split at ez
  · cases ez
    rename_i i j
    exact ⟨i, j, dat_int h1, dat_int h2, po.flat rfl dat_of_int⟩
  · cases ez
def rMul : R2 := fun x y H Q => (rI CMulW (fun i j => .int (i * j)) x y H Q ∨ rRep x y H Q) ∨ rRepS x y H Q
theorem op_mulD {X : Cx} : OpR X (binaryOp .Mult) rMul := OpR.or (OpR.or op_mulW op_rep) op_mulS
theorem Dats.rep {K : PySem.W.Frag} {H : Hp} {ds : List D} {n : Nat} {xs : List V} {R : List Addr} (h : Dats K H ds n xs [] R) : ∀ k : Nat, ∃ R', Dats K H (List.replicate k ds).flatten n (List.replicate k xs).flatten [] R' ∧ ∀ a ∈ R', a ∈ R
  | 0 => ⟨[], by simpa using Dats.nil, fun a z => by simp at z⟩
  | k + 1 => by
    obtain ⟨R', q, i⟩ := Dats.rep h k
    refine ⟨R ++ R', ?_, fun a ha => ?_⟩
    · rw [List.replicate_succ, List.replicate_succ, List.flatten_cons, List.flatten_cons]
      simpa using h.append q
    · rcases List.mem_append.mp ha with ha | ha
      · exact ha
      · exact i a ha
theorem bv_mul {K : PySem.W.Frag} {n : Nat} (hn : n ≤ 1 := by decide) : BinV K rMul gMul n := by
  intro Z x y d e z H B1 B2 Q hz h1 h2 v1 v2 ez po
  unfold gMul at ez
  split at ez
  · rename_i i j
    split at ez
    · rename_i hl
      cases ez
      exact .inl <| .inl ⟨i, j, dat_int h1, dat_int h2, hl, po.flat rfl dat_of_int⟩
    · cases ez
  · rename_i i k
    split at ez
    · rename_i hl
      cases ez
      obtain ⟨a, xs, R1, rfl, q1, rfl, d1⟩ := dat_lst0 h1
      obtain ⟨R', dd, hr⟩ := d1.rep k.toNat
      refine .inl <| .inr ⟨a, k, xs, rfl, dat_int h2, q1, hl.1, hl.2.1, by rw [d1.length]; exact hl.2.2, fun p hp => ?_⟩
      refine new_lst po hp (B := R') (by rw [show n - 1 = 0 by omega]; exact dd) (fun a ha => v1 a (List.mem_cons_of_mem _ (hr a ha))) hz
    · cases ez
  · rename_i s k
    split at ez
    · rename_i hl
      cases ez
      exact .inr ⟨s, k, dat_str h1, dat_int h2, hl.1, hl.2.1, hl.2.2, po.flat rfl dat_of_str⟩
    · cases ez
  · cases ez
theorem bv_div {K : PySem.W.Frag} {n : Nat} : BinV K (rI CDivW fun i j => .int (i / j)) gDiv n := by
  intro Z x y d e z H B1 B2 Q hz h1 h2 v1 v2 ez po
  unfold gDiv at ez
  split at ez
  · rename_i i j
    split at ez
    · rename_i hl
      cases ez
      exact ⟨i, j, dat_int h1, dat_int h2, hl, po.flat rfl dat_of_int⟩
    · cases ez
  · cases ez
theorem bv_mod {K : PySem.W.Frag} {n : Nat} : BinV K (rI (fun _ j => 0 < j) fun i j => .int (i % j)) gMod n := by
  intro Z x y d e z H B1 B2 Q hz h1 h2 v1 v2 ez po
  unfold gMod at ez
  split at ez
  · rename_i i j
    split at ez
    · rename_i hl
      cases ez
      exact ⟨i, j, dat_int h1, dat_int h2, hl, po.flat rfl dat_of_int⟩
    · cases ez
  · cases ez
theorem bv_pow {K : PySem.W.Frag} {n : Nat} : BinV K (rI CPow fun i j => .int (i ^ j.toNat)) gPow n := by
  intro Z x y d e z H B1 B2 Q hz h1 h2 v1 v2 ez po
  unfold gPow at ez
  split at ez
  · rename_i i j
    split at ez
    · rename_i hl
      cases ez
      exact ⟨i, j, dat_int h1, dat_int h2, hl, po.flat rfl dat_of_int⟩
    · cases ez
  · cases ez
section
variable {X : Cx} {W : WX} {Γ : List Nat} {n : Nat} {a b : Expr} {pos : Pos} {ma mb : Rho → Res D}
theorem re_add (ha : RE X W Γ 0 true a ma) (hb : RE X W Γ 0 true b mb) (hn : n ≤ 1 := by decide) : RE X W Γ n true (.BinOp a .Add b pos) (m2 gAdd ma mb) := re_bin op_addD (bv_add hn) ha hb
theorem re_sub (ha : RE X W Γ 0 true a ma) (hb : RE X W Γ 0 true b mb) : RE X W Γ n true (.BinOp a .Sub b pos) (m2 gSub ma mb) := re_bin op_sub bv_sub ha hb
theorem re_mul (ha : RE X W Γ 0 true a ma) (hb : RE X W Γ 0 true b mb) (hn : n ≤ 1 := by decide) : RE X W Γ n true (.BinOp a .Mult b pos) (m2 gMul ma mb) := re_bin op_mulD (bv_mul hn) ha hb
theorem re_div (ha : RE X W Γ 0 true a ma) (hb : RE X W Γ 0 true b mb) : RE X W Γ n true (.BinOp a .FloorDiv b pos) (m2 gDiv ma mb) := re_bin op_fdivW bv_div ha hb
theorem re_mod (ha : RE X W Γ 0 true a ma) (hb : RE X W Γ 0 true b mb) : RE X W Γ n true (.BinOp a .Mod b pos) (m2 gMod ma mb) := re_bin op_mod bv_mod ha hb
theorem re_pow (ha : RE X W Γ 0 true a ma) (hb : RE X W Γ 0 true b mb) : RE X W Γ n true (.BinOp a .Pow b pos) (m2 gPow ma mb) := re_bin op_pow bv_pow ha hb
end
end TW
-- TWExpr
namespace TW
open PySem PySem.Spec PyProof.Rows L2

def gLt : D → D → Option D
  | .int i, .int j => some (.bl (decide (i < j)))
  | _, _ => none
def gLe : D → D → Option D
  | .int i, .int j => some (.bl (decide (i ≤ j)))
  | _, _ => none
def gGt : D → D → Option D
  | .int i, .int j => some (.bl (decide (j < i)))
  | _, _ => none
def gGe : D → D → Option D
  | .int i, .int j => some (.bl (decide (j ≤ i)))
  | _, _ => none
mutual
def toPy : D → Option PyData
  | .non => some .none
  | .bl b => some (.bool b)
  | .int i => some (.int i)
  | .str s => some (.str s)
  | .lst l => (toPys l).map .list
  | .tup l => (toPys l).map .tuple
  | .dK _ _ => none
  | .dT _ _ => none
  | .scr _ => none
  | .junk => none
  | .ins _ _ _ => none
  | .ftup l => (toPys l).map .tuple
def toPys : List D → Option (List PyData)
  | [] => some []
  | d :: ds => (toPy d).bind fun p => (toPys ds).map fun r => p :: r
end
def gEq (d e : D) : Option D := (toPy d).bind fun p => (toPy e).bind fun q => if SeqAt.shaped p = true ∧ SeqAt.shaped q = true then some (.bl (PyData.eqv p q)) else none
def gNe (d e : D) : Option D := (toPy d).bind fun p => (toPy e).bind fun q => if SeqAt.shaped p = true ∧ SeqAt.shaped q = true then some (.bl (!PyData.eqv p q)) else none
section
variable {K : PySem.W.Frag} {H : Hp}
mutual
theorem Dat.dp : ∀ {d : D} {v : V} {R : List Addr} {p : PyData}, Dat K H d 0 v [] R → toPy d = some p → Dp K H v p
  | .non, _, _, _, h, e => by simp only [Dat] at h; simp only [toPy] at e; cases e; rw [h.1]; exact .non
  | .bl b, _, _, _, h, e => by simp only [Dat] at h; simp only [toPy] at e; cases e; rw [h.1]; exact .bl b
  | .int b, _, _, _, h, e => by simp only [Dat] at h; simp only [toPy] at e; cases e; rw [h.1]; exact .int b
  | .str b, _, _, _, h, e => by simp only [Dat] at h; simp only [toPy] at e; cases e; rw [h.1]; exact .str b
  | .lst l, _, _, _, h, e => by
    obtain ⟨a, xs, R', rfl, q, rfl, dd⟩ := dat_lst0 h
    simp only [toPy] at e
    cases ep : toPys l with
    | none => rw [ep] at e; cases e
    | some ps =>
      rw [ep] at e; cases e
      exact .lst (.of q) (Dats.dp dd ep)
  | .tup l, _, _, _, h, e => by
    obtain ⟨a, xs, rfl, q, dd⟩ := dat_tup0 h
    simp only [toPy] at e
    cases ep : toPys l with
    | none => rw [ep] at e; cases e
    | some ps =>
      rw [ep] at e; cases e
      exact .tup (.of q) (Dats.dp dd ep)
  | .ftup l, _, _, _, h, e => by
    obtain ⟨a, xs, rfl, q, dd⟩ := dat_ftup0 h
    simp only [toPy] at e
    cases ep : toPys l with
    | none => rw [ep] at e; cases e
    | some ps =>
      rw [ep] at e; cases e
      exact .tup (sqt_frz q) (Dats.dp dd ep)
  | .dK _ _, _, _, _, h, e => by simp only [toPy] at e; cases e
  | .dT _ _, _, _, _, h, e => by simp only [toPy] at e; cases e
  | .scr _, _, _, _, h, e => by simp only [toPy] at e; cases e
  | .junk, _, _, _, h, e => by simp only [toPy] at e; cases e
  | .ins _ _ _, _, _, _, h, e => by simp only [toPy] at e; cases e
theorem Dats.dp : ∀ {ds : List D} {xs : List V} {R : List Addr} {ps : List PyData}, Dats K H ds 0 xs [] R → toPys ds = some ps → DpAll K H xs ps
  | [], _, _, _, h, e => by simp only [Dats] at h; simp only [toPys] at e; cases e; rw [h.1]; exact .nil
  | d :: ds, _, _, _, h, e => by
    simp only [Dats] at h
    obtain ⟨x, xs', S1, S2, R1, R2, rfl, e0, rfl, h1, h2⟩ := h
    obtain ⟨rfl, rfl⟩ := List.append_eq_nil_iff.mp e0.symm
    simp only [toPys] at e
    cases ep : toPy d with
    | none => rw [ep] at e; cases e
    | some p =>
      rw [ep] at e
      cases er : toPys ds with
      | none => rw [er] at e; cases e
      | some r =>
        rw [er] at e; cases e
        exact .cons (Dat.dp h1 ep) (Dats.dp h2 er)
end
end
section
variable {K : PySem.W.Frag}
theorem bf_lt : BinF K (rI0 fun i j => .bl (decide (i < j))) gLt := by
  intro x y d e z H B1 B2 Q h1 h2 ez po
  unfold gLt at ez
  split at ez
  · cases ez
    exact ⟨_, _, dat_int h1, dat_int h2, po rfl _ dat_of_bl⟩
  · cases ez
theorem bf_le : BinF K (rI0 fun i j => .bl (decide (i ≤ j))) gLe := by
  intro x y d e z H B1 B2 Q h1 h2 ez po
  unfold gLe at ez
  split at ez
  · cases ez
    exact ⟨_, _, dat_int h1, dat_int h2, po rfl _ dat_of_bl⟩
  · cases ez
theorem bf_gt : BinF K (rI0 fun i j => .bl (decide (j < i))) gGt := by
  intro x y d e z H B1 B2 Q h1 h2 ez po
  unfold gGt at ez
  split at ez
  · cases ez
    exact ⟨_, _, dat_int h1, dat_int h2, po rfl _ dat_of_bl⟩
  · cases ez
theorem bf_ge : BinF K (rI0 fun i j => .bl (decide (j ≤ i))) gGe := by
  intro x y d e z H B1 B2 Q h1 h2 ez po
  unfold gGe at ez
  split at ez
  · cases ez
    exact ⟨_, _, dat_int h1, dat_int h2, po rfl _ dat_of_bl⟩
  · cases ez
theorem bf_eq : BinF K (rEqD K) gEq := by
  intro x y d e z H B1 B2 Q h1 h2 ez po
  unfold gEq at ez
  cases ep : toPy d with
  | none => rw [ep] at ez; cases ez
  | some p =>
    cases eq : toPy e with
    | none => rw [ep, eq] at ez; cases ez
    | some q =>
      rw [ep, eq] at ez
      simp only [Option.bind_some] at ez
      split at ez
      · rename_i hs
        cases ez
        exact ⟨p, q, h1.dp ep, h2.dp eq, hs.1, hs.2, po rfl _ dat_of_bl⟩
      · cases ez
theorem bf_ne : BinF K (rNeD K) gNe := by
  intro x y d e z H B1 B2 Q h1 h2 ez po
  unfold gNe at ez
  cases ep : toPy d with
  | none => rw [ep] at ez; cases ez
  | some p =>
    cases eq : toPy e with
    | none => rw [ep, eq] at ez; cases ez
    | some q =>
      rw [ep, eq] at ez
      simp only [Option.bind_some] at ez
      split at ez
      · rename_i hs
        cases ez
        exact ⟨p, q, h1.dp ep, h2.dp eq, hs.1, hs.2, po rfl _ dat_of_bl⟩
      · cases ez
end
def gIsN : D → D → Option D
  | d, .non => match d with
    | .non => some (.bl true)
    | .junk => none
    | .ins _ _ _ => none
    | _ => some (.bl false)
  | _, _ => none
def D.known : D → Bool
  | .junk => false
  | .ins _ _ _ => false
  | _ => true
theorem dat_isN {K : PySem.W.Frag} {H : Hp} {d : D} {n : Nat} {v : V} {A B : List Addr} (h : Dat K H d n v A B) (hj : d.known = true) : (v = .non) ↔ d = .non := by
  cases d with
  | junk => cases hj
  | ins _ _ _ => cases hj
  | non => simp only [Dat] at h; simp [h.1]
  | bl b => simp only [Dat] at h; simp [h.1]
  | int b => simp only [Dat] at h; simp [h.1]
  | str b => simp only [Dat] at h; simp [h.1]
  | lst l => cases n <;> (simp only [Dat] at h; obtain ⟨a, _, _, rfl, _⟩ := h; simp)
  | tup l => simp only [Dat] at h; obtain ⟨a, _, rfl, _⟩ := h; simp
  | ftup l => simp only [Dat] at h; obtain ⟨a, _, rfl, _⟩ := h; simp
  | dK _ l => cases n <;> (simp only [Dat] at h; obtain ⟨a, _, _, rfl, _⟩ := h; simp)
  | dT _ l => cases n <;> (simp only [Dat] at h; obtain ⟨a, _, _, rfl, _⟩ := h; simp)
  | scr l => simp only [Dat] at h; obtain ⟨⟨a, rfl, _⟩, _⟩ := h; simp
section
variable {X : Cx} {W : WX} {Γ : List Nat} {n n1 n2 : Nat} {f1 f2 : Bool} {a b c : Expr} {pos pos' : Pos} {ma mb mc : Rho → Res D} {j : Nat}
theorem dec_isN {K : PySem.W.Frag} {H : Hp} {d : D} {n : Nat} {v : V} {A B : List Addr} (h : Dat K H d n v A B) {z : D} (e : gIsN d .non = some z) : z = .bl (decide (v = .non)) := by
  have hj : d.known = true := by cases d <;> first | rfl | cases e
  have q := dat_isN h hj
  cases d with
  | junk => cases e
  | ins _ _ _ => cases e
  | non => cases e; rw [decide_eq_true (q.mpr rfl)]
  | bl b => cases e; rw [decide_eq_false fun z => D.noConfusion (q.mp z)]
  | int b => cases e; rw [decide_eq_false fun z => D.noConfusion (q.mp z)]
  | str b => cases e; rw [decide_eq_false fun z => D.noConfusion (q.mp z)]
  | lst l => cases e; rw [decide_eq_false fun z => D.noConfusion (q.mp z)]
  | tup l => cases e; rw [decide_eq_false fun z => D.noConfusion (q.mp z)]
  | ftup l => cases e; rw [decide_eq_false fun z => D.noConfusion (q.mp z)]
  | dK _ l => cases e; rw [decide_eq_false fun z => D.noConfusion (q.mp z)]
  | dT _ l => cases e; rw [decide_eq_false fun z => D.noConfusion (q.mp z)]
  | scr l => cases e; rw [decide_eq_false fun z => D.noConfusion (q.mp z)]
theorem rt_isN (ha : RE X W Γ n1 f1 a ma) : RT X W Γ (.Compare a [.Is] [.Constant .none j pos'] pos) (mT (m1 (fun d => gIsN d .non) ma)) := by
  obtain ⟨ta, pa, qa⟩ := ha
  refine ⟨_, pt_cmp (pc_isN pa), fun F H0 ρ σ H S R Q st po => ?_⟩
  unfold mT m1 at po
  refine qa F H0 ρ σ H S R _ st (PostE.iff.mpr ((PostT.iff.mp po).bind.bind.imp fun d _ po => ?_))
  intro x H1 A B s1 d1 _ _
  dsimp only at po
  cases ez : gIsN d .non with
  | none => rw [ez] at po; exact po.elim
  | some z =>
    rw [ez] at po
    obtain rfl := dec_isN d1 ez
    exact ⟨_, rfl, po H1 s1⟩
theorem re_ge (ha : RE X W Γ n1 f1 a ma) (hb : RE X W Γ n2 f2 b mb) : RE X W Γ n true (.Compare a [.GtE] [b] pos) (m2 gGe ma mb) := re_cmp op_ge bf_ge (nomark _) ha hb
theorem re_eq (hu : X.A.units + 64 < cLine) (ha : RE X W Γ n1 f1 a ma) (hb : RE X W Γ n2 f2 b mb) : RE X W Γ n true (.Compare a [.Eq] [b] pos) (m2 gEq ma mb) := re_cmp (op_eqD hu) bf_eq (nomark _) ha hb
theorem rt_lt (ha : RE X W Γ n1 f1 a ma) (hb : RE X W Γ n2 f2 b mb) : RT X W Γ (.Compare a [.Lt] [b] pos) (mT (m2 gLt ma mb)) := rt_cmp op_lt bf_lt (nomark _) ha hb
theorem rt_gt (ha : RE X W Γ n1 f1 a ma) (hb : RE X W Γ n2 f2 b mb) : RT X W Γ (.Compare a [.Gt] [b] pos) (mT (m2 gGt ma mb)) := rt_cmp op_gt bf_gt (nomark _) ha hb
theorem rt_ge (ha : RE X W Γ n1 f1 a ma) (hb : RE X W Γ n2 f2 b mb) : RT X W Γ (.Compare a [.GtE] [b] pos) (mT (m2 gGe ma mb)) := rt_cmp op_ge bf_ge (nomark _) ha hb
theorem rt_eq (hu : X.A.units + 64 < cLine) (ha : RE X W Γ n1 f1 a ma) (hb : RE X W Γ n2 f2 b mb) : RT X W Γ (.Compare a [.Eq] [b] pos) (mT (m2 gEq ma mb)) := rt_cmp (op_eqD hu) bf_eq (nomark _) ha hb
theorem rt_ne (hu : X.A.units + 64 < cLine) (ha : RE X W Γ n1 f1 a ma) (hb : RE X W Γ n2 f2 b mb) : RT X W Γ (.Compare a [.NotEq] [b] pos) (mT (m2 gNe ma mb)) := rt_cmp (op_neD hu) bf_ne (nomark _) ha hb
end

def mAnd (a b : Rho → Res D) : Rho → Res D := fun ρ => (a ρ).bind fun d => match d with
  | .bl true => b ρ
  | .bl false => .ok (.bl false)
  | _ => .stuck
def mOr (a b : Rho → Res D) : Rho → Res D := fun ρ => (a ρ).bind fun d => match d with
  | .bl true => .ok (.bl true)
  | .bl false => b ρ
  | _ => .stuck
def gNot : D → Option D
  | .bl b => some (.bl (!b))
  | _ => none
def tAndM (a b : Rho → Res Bool) : Rho → Res Bool := fun ρ => (a ρ).bind fun d => if d = true then b ρ else .ok false
def tOrM (a b : Rho → Res Bool) : Rho → Res Bool := fun ρ => (a ρ).bind fun d => if d = true then .ok true else b ρ
def tNotM (a : Rho → Res Bool) : Rho → Res Bool := fun ρ => (a ρ).bind fun d => .ok (!d)
def RW (X : Cx) (W : WX) (Γ : List Nat) (e : Expr) (m : Rho → Res Bool) : Prop :=
  ∃ t, PW X e t ∧ ∀ F H0 ρ σ H S R Q, Sto X.K F H0 Γ ρ σ H S R → PostT X W σ H Q (m ρ) → t σ H Q
section
variable {X : Cx} {W : WX} {Γ : List Nat} {n n1 n2 : Nat} {f1 f2 : Bool} {a b c : Expr} {rest : List Expr} {pos : Pos} {ma mb mc : Rho → Res D} {ta' tb' : Rho → Res Bool}
theorem re_one {op} (h : RE X W Γ n true a ma) : RE X W Γ n true (.BoolOp op [a] pos) ma := by
  obtain ⟨ta, pa, qa⟩ := h
  exact ⟨_, pe_one pa, qa⟩
theorem re_and (ha : RE X W Γ n1 f1 a ma) (hb : RE X W Γ n true (.BoolOp .And (b :: rest) pos) mb) : RE X W Γ n true (.BoolOp .And (a :: b :: rest) pos) (mAnd ma mb) := by
  obtain ⟨ta, pa, qa⟩ := ha
  obtain ⟨tb, pb, qb⟩ := hb
  refine ⟨_, pe_and pa pb, fun F H0 ρ σ H S R Q st po => ?_⟩
  refine qa F H0 ρ σ H S R _ st (PostE.iff.mpr ((PostE.iff.mp po).bind.imp fun d _ po => ?_))
  intro x H1 A B s1 d1 _ _
  cases d with
  | bl k =>
    refine ⟨k, dat_bl d1, ?_⟩
    cases k with
    | true => exact iteT (qb F H0 ρ σ H1 S R _ (st.grow s1) (PostE.later (PostE.iff.mpr po) s1))
    | false => exact iteF (PostV.flat (PostV.later po s1) rfl dat_of_bl)
  | _ => exact po.elim
theorem re_or (ha : RE X W Γ n1 f1 a ma) (hb : RE X W Γ n true (.BoolOp .Or (b :: rest) pos) mb) : RE X W Γ n true (.BoolOp .Or (a :: b :: rest) pos) (mOr ma mb) := by
  obtain ⟨ta, pa, qa⟩ := ha
  obtain ⟨tb, pb, qb⟩ := hb
  refine ⟨_, pe_or pa pb, fun F H0 ρ σ H S R Q st po => ?_⟩
  refine qa F H0 ρ σ H S R _ st (PostE.iff.mpr ((PostE.iff.mp po).bind.imp fun d _ po => ?_))
  intro x H1 A B s1 d1 _ _
  cases d with
  | bl k =>
    refine ⟨k, dat_bl d1, ?_⟩
    cases k with
    | false => exact iteF (qb F H0 ρ σ H1 S R _ (st.grow s1) (PostE.later (PostE.iff.mpr po) s1))
    | true => exact iteT (PostV.flat (PostV.later po s1) rfl dat_of_bl)
  | _ => exact po.elim
theorem re_not (ha : RE X W Γ n1 f1 a ma) : RE X W Γ n true (.UnaryOp .Not a pos) (m1 gNot ma) := by
  obtain ⟨ta, pa, qa⟩ := ha
  refine ⟨_, pe_not pa, fun F H0 ρ σ H S R Q st po => ?_⟩
  refine qa F H0 ρ σ H S R _ st (PostE.iff.mpr ((PostE.iff.mp po).bind.imp fun d _ po => ?_))
  intro x H1 A B s1 d1 _ _
  cases d with
  | bl k => exact ⟨k, dat_bl d1, PostV.flat (PostV.later po s1) rfl dat_of_bl⟩
  | _ => exact po.elim
theorem RW.t {t : Rho → Res Bool} (h : RW X W Γ a t) : RT X W Γ a t := by
  obtain ⟨t, p, q⟩ := h
  exact ⟨t, p.pt, q⟩
theorem rw_and1 {t : Rho → Res Bool} (ha : RT X W Γ a t) : RW X W Γ (.BoolOp .And [a] pos) t := by
  obtain ⟨t, p, q⟩ := ha
  exact ⟨t, pw_and1 p, q⟩
theorem rw_or1 {t : Rho → Res Bool} (ha : RT X W Γ a t) : RW X W Γ (.BoolOp .Or [a] pos) t := by
  obtain ⟨t, p, q⟩ := ha
  exact ⟨t, pw_or1 p, q⟩
theorem rw_and (ha : RT X W Γ a ta') (hb : RW X W Γ (.BoolOp .And (b :: rest) pos) tb') : RW X W Γ (.BoolOp .And (a :: b :: rest) pos) (tAndM ta' tb') := by
  obtain ⟨ta, pa, qa⟩ := ha
  obtain ⟨tb, pb, qb⟩ := hb
  refine ⟨_, pw_and pa pb, fun F H0 ρ σ H S R Q st po => ?_⟩
  refine qa F H0 ρ σ H S R _ st (PostT.iff.mpr ((PostT.iff.mp po).bind.imp fun d _ po => ?_))
  intro H1 s1
  cases d with
  | true => exact iteT (qb F H0 ρ σ H1 S R _ (st.grow s1) (PostT.later (PostT.iff.mpr po) s1))
  | false => exact iteF (po H1 s1)
theorem rw_or (ha : RT X W Γ a ta') (hb : RW X W Γ (.BoolOp .Or (b :: rest) pos) tb') : RW X W Γ (.BoolOp .Or (a :: b :: rest) pos) (tOrM ta' tb') := by
  obtain ⟨ta, pa, qa⟩ := ha
  obtain ⟨tb, pb, qb⟩ := hb
  refine ⟨_, pw_or pa pb, fun F H0 ρ σ H S R Q st po => ?_⟩
  refine qa F H0 ρ σ H S R _ st (PostT.iff.mpr ((PostT.iff.mp po).bind.imp fun d _ po => ?_))
  intro H1 s1
  cases d with
  | false => exact iteF (qb F H0 ρ σ H1 S R _ (st.grow s1) (PostT.later (PostT.iff.mpr po) s1))
  | true => exact iteT (po H1 s1)
theorem rt_not (ha : RT X W Γ a ta') : RT X W Γ (.UnaryOp .Not a pos) (tNotM ta') := by
  obtain ⟨ta, pa, qa⟩ := ha
  refine ⟨_, pt_not pa, fun F H0 ρ σ H S R Q st po => ?_⟩
  exact qa F H0 ρ σ H S R _ st (PostT.iff.mpr ((PostT.iff.mp po).bind.imp fun d _ po => po))
def mChain (g g' : D → D → Option D) (a b c : Rho → Res D) : Rho → Res D := fun ρ => (a ρ).bind fun x => (b ρ).bind fun y => (ofO (g x y)).bind fun z => match z with
  | .bl true => (c ρ).bind fun w => ofO (g' y w)
  | .bl false => .ok (.bl false)
  | _ => .stuck
theorem chain_run {r r' : R2} {g g' : D → D → Option D} (hv : BinF X.K r g) (hv' : BinF X.K r' g') {ta tb tc : TE} {F : Fr} {H0 : Hp} {ρ : Rho} {σ : L2.St} {H : Hp} {S R : Nat → List Addr} {Q : VK}
    (qa : ∀ F H0 ρ σ H S R Q, Sto X.K F H0 Γ ρ σ H S R → PostE X W (Av F S) 0 true σ H Q (ma ρ) → ta σ H Q) (qb : ∀ F H0 ρ σ H S R Q, Sto X.K F H0 Γ ρ σ H S R → PostE X W (Av F S) 0 true σ H Q (mb ρ) → tb σ H Q)
    (qc : ∀ F H0 ρ σ H S R Q, Sto X.K F H0 Γ ρ σ H S R → PostE X W (Av F S) 0 true σ H Q (mc ρ) → tc σ H Q)
    (st : Sto X.K F H0 Γ ρ σ H S R) (po : PostX X W σ H (fun z => ∀ H', Same H H' → z.flat = true → ∀ v, (∀ k, Dat X.K H' z k v [] []) → Q v H') (mChain g g' ma mb mc ρ)) : tChain r r' ta tb tc σ H Q := by
  unfold mChain at po
  refine qa F H0 ρ σ H S R _ st (PostE.iff.mpr (po.bind.imp fun d _ po => ?_))
  intro x H1 A B s1 d1 _ _
  refine qb F H0 ρ σ H1 S R _ (st.grow s1) (PostE.iff.mpr (po.bind.later s1 fun e ee po => ?_))
  intro y H2 A' B' s2 d2 _ _
  obtain rfl : A = [] := Dat.noS d1
  obtain rfl : A' = [] := Dat.noS d2
  cases ez : g d e with
  | none => rw [ez] at po; exact po.elim
  | some z =>
    rw [ez] at po
    refine hv x y d e z H2 B B' _ (d1.same s2) d2 ez fun fz v hz => ?_
    simp only [ofO_some, Res.bind_ok] at po
    cases z with
    | bl k =>
      refine ⟨k, dat_bl (hz 0), ?_⟩
      cases k with
      | false => exact iteF (po H2 (s1.trans s2) rfl _ dat_of_bl)
      | true =>
        refine iteT (qc F H0 ρ σ H2 S R _ ((st.grow s1).grow s2) (PostE.iff.mpr (PostX.bind po |>.later (s1.trans s2) fun w ew po => ?_)))
        intro u H3 A3 B3 s3 d3 _ _
        obtain rfl : A3 = [] := Dat.noS d3
        cases ez2 : g' e w with
        | none => rw [ez2] at po; exact po.elim
        | some z2 =>
          rw [ez2] at po
          exact hv' y u e w z2 H3 B' B3 Q (d2.same s3) d3 ez2 (po H3 ((s1.trans s2).trans s3))
    | _ => exact po.elim
theorem re_chain {op op' : CmpOp} {r r' : R2} {g g' : D → D → Option D} (ho : OpR X (compareOp op) r) (ho' : OpR X (compareOp op') r') (hv : BinF X.K r g) (hv' : BinF X.K r' g') (ha : RE X W Γ 0 true a ma) (hb : RE X W Γ 0 true b mb) (hc : RE X W Γ 0 true c mc)
    (hm : lastMarks [op, op'] [b, c] = false := by with_unfolding_all rfl) : RE X W Γ n true (.Compare a [op, op'] [b, c] pos) (mChain g g' ma mb mc) := by
  obtain ⟨ta, pa, qa⟩ := ha
  obtain ⟨tb, pb, qb⟩ := hb
  obtain ⟨tc, pc, qc⟩ := hc
  exact ⟨_, pe_chain ho ho' pa pb pc hm, fun F H0 ρ σ H S R Q st po => chain_run hv hv' qa qb qc st ((PostE.iff.mp po).imp fun z _ po H' s f v hd =>
    po v H' [] [] s (hd n) (fun a z => by simp at z) fun _ => New.nil)⟩
theorem rt_chain {op op' : CmpOp} {r r' : R2} {g g' : D → D → Option D} (ho : OpR X (compareOp op) r) (ho' : OpR X (compareOp op') r') (hv : BinF X.K r g) (hv' : BinF X.K r' g') (ha : RE X W Γ 0 true a ma) (hb : RE X W Γ 0 true b mb) (hc : RE X W Γ 0 true c mc)
    (hm : lastMarks [op, op'] [b, c] = false := by with_unfolding_all rfl) : RT X W Γ (.Compare a [op, op'] [b, c] pos) (mT (mChain g g' ma mb mc)) := by
  obtain ⟨ta, pa, qa⟩ := ha
  obtain ⟨tb, pb, qb⟩ := hb
  obtain ⟨tc, pc, qc⟩ := hc
  refine ⟨_, pt_chain ho ho' pa pb pc hm, fun F H0 ρ σ H S R Q st po => ?_⟩
  unfold mT at po
  refine chain_run (Q := fun x H1 => ∃ k, x = .bl k ∧ Q k H1) hv hv' qa qb qc st ((PostT.iff.mp po).bind.imp fun z _ po H' s f v hd => ?_)
  cases z with
  | bl c => exact ⟨c, dat_bl (hd 0), po H' s⟩
  | _ => exact po.elim
end
end TW
-- TWDict0
namespace TW
open PySem PySem.Spec PyProof.Rows L2
def keyD : D → Option Key
  | .int i => some (.inl i)
  | .str s => some (.inr s)
  | _ => none
def keysD : List D → Option (List Key)
  | [] => some []
  | d :: ds => (keyD d).bind fun k => (keysD ds).map fun r => k :: r
def lookK {κ : Type} [DecidableEq κ] : List κ → List D → κ → Option D
  | j :: ks, d :: ds, k => if j = k then some d else lookK ks ds k
  | _, _, _ => none
def lookD (d k : D) : Option (Option D) := match d with
  | .dK ks vs => (keyD k).map fun k => lookK ks vs k
  | .dT ks vs => match k with
    | .tup l => (keysD l).map fun k => lookK ks vs k
    | _ => none
  | _ => none
section
variable {K : PySem.W.Frag} {H : Hp}
theorem dat_key {d : D} {k : Key} {n : Nat} {x : V} {S R : List Addr} (h : Dat K H d n x S R) (e : keyD d = some k) : x = kV k := by
  cases d with
  | int i => cases e; exact dat_int h
  | str s => cases e; exact dat_str h
  | _ => cases e
theorem dats_keys : ∀ {ds : List D} {ks : List Key} {n : Nat} {xs : List V} {S R : List Addr}, Dats K H ds n xs S R → keysD ds = some ks → xs = ks.map kV
  | [], _, _, _, _, _, h, e => by
    cases e
    simp only [Dats] at h
    rw [h.1]; rfl
  | d :: ds, _, _, _, _, _, h, e => by
    unfold Dats at h
    obtain ⟨x, xs', S1, S2, R1, R2, rfl, rfl, rfl, h1, h2⟩ := h
    unfold keysD at e
    cases e1 : keyD d with
    | none => rw [e1] at e; cases e
    | some k =>
      rw [e1] at e
      cases e2 : keysD ds with
      | none => rw [e2] at e; cases e
      | some r =>
        rw [e2] at e
        cases e
        rw [dat_key h1 e1, dats_keys h2 e2]
        rfl
def Fnd (K : PySem.W.Frag) (H : Hp) (n : Nat) (A B : List Addr) : Option D → Option V → Prop
  | none, r => r = none
  | some z, r => ∃ v S' R', r = some v ∧ Dat K H z n v S' R' ∧ S'.Sublist A ∧ ∀ a ∈ R', a ∈ B
theorem Fnd.more {n : Nat} {A B A' B' : List Addr} {o : Option D} {r : Option V} (h : Fnd K H n A B o r) (hA : A.Sublist A') (hB : ∀ a ∈ B, a ∈ B') : Fnd K H n A' B' o r := by
  cases o with
  | none => exact h
  | some z =>
    obtain ⟨v, S', R', a1, a2, a3, a4⟩ := h
    exact ⟨v, S', R', a1, a2, a3.trans hA, fun a ha => hB a (a4 a ha)⟩
theorem dats_look {κ : Type} [DecidableEq κ] {k : κ} : ∀ {ws : List (κ × V)} {ds : List D} {n : Nat} {S R : List Addr}, Dats K H ds n (ws.map (·.2)) S R → Fnd K H n S R (lookK (ws.map (·.1)) ds k) (valV ws k)
  | [], ds, n, S, R, h => by
    have : lookK ([] : List κ) ds k = none := by cases ds <;> rfl
    rw [List.map_nil, this]
    rfl
  | w :: ws, [], n, S, R, h => by simp only [Dats] at h; simp at h
  | w :: ws, d :: ds, n, S, R, h => by
    unfold Dats at h
    obtain ⟨x, xs', S1, S2, R1, R2, e, rfl, rfl, h1, h2⟩ := h
    simp only [List.map_cons, List.cons.injEq] at e
    obtain ⟨rfl, rfl⟩ := e
    have ih := dats_look (k := k) h2
    simp only [List.map_cons, lookK]
    by_cases e : w.1 = k
    · rw [if_pos e]
      exact ⟨w.2, S1, R1, valV_pos e, h1, List.sublist_append_left _ _, fun a ha => List.mem_append_left _ ha⟩
    · rw [if_neg e, valV_neg e]
      exact ih.more (List.sublist_append_right _ _) fun a ha => List.mem_append_right _ ha
theorem look_at {d e : D} {o : Option D} {n : Nat} {x y : V} {A B B2 : List Addr} (h : Dat K H d n x A B) (hy : Dat K H e 0 y [] B2) (ez : lookD d e = some o) :
    ∃ a r, x = .ref a ∧ DGet H a y r ∧ Fnd K H (n - 1) A B o r := by
  cases d with
  | dK ks vs =>
    simp only [lookD, Option.map_eq_some_iff] at ez
    obtain ⟨k, ek, rfl⟩ := ez
    have ey := dat_key hy ek
    cases n with
    | zero =>
      unfold Dat at h
      obtain ⟨a, ws, R', rfl, q, rfl, rfl, rfl, hd⟩ := h
      exact ⟨a, _, rfl, .inl ⟨ws, k, q, ey, rfl⟩, (dats_look hd).more (.refl _) fun a ha => List.mem_cons_of_mem _ ha⟩
    | succ n =>
      unfold Dat at h
      obtain ⟨a, ws, S1, rfl, q, rfl, rfl, hd⟩ := h
      exact ⟨a, _, rfl, .inl ⟨ws, k, .of q, ey, rfl⟩, (dats_look hd).more (List.sublist_cons_self _ _) fun a ha => ha⟩
  | dT ks vs =>
    unfold lookD at ez
    cases e with
    | tup l =>
      simp only [Option.map_eq_some_iff] at ez
      obtain ⟨k, ek, rfl⟩ := ez
      obtain ⟨b, xs, rfl, hb, hl⟩ := dat_tup0 hy
      obtain rfl := dats_keys hl ek
      cases n with
      | zero =>
        unfold Dat at h
        obtain ⟨a, ws, R', rfl, q, rfl, rfl, rfl, hd⟩ := h
        exact ⟨a, _, rfl, .inr ⟨ws, k, b, q, rfl, hb, rfl⟩, (dats_look hd).more (.refl _) fun a ha => List.mem_cons_of_mem _ ha⟩
      | succ n =>
        unfold Dat at h
        obtain ⟨a, ws, S1, rfl, q, rfl, rfl, hd⟩ := h
        exact ⟨a, _, rfl, .inr ⟨ws, k, b, .of q, rfl, hb, rfl⟩, (dats_look hd).more (List.sublist_cons_self _ _) fun a ha => ha⟩
    | _ => cases ez
  | _ => cases ez
end
def rIxD : R2 := fun x y H Q => ∃ a v, x = .ref a ∧ DGet H a y (some v) ∧ Q v H
theorem ix_dict {X : Cx} (hu : X.A.units + 1 < cLine) : IxR X rIxD := by
  intro value slice pins s σ H x y v u Q I rx ry h hs
  obtain ⟨a, z, rfl, g, q⟩ := h
  cases rx
  exact tail_any (dict_typeIs I g) PySem.F.slot_dict_getitem.lookup (d_getItem hu I g ry fun w s2 I2 rw2 => ⟨z, H, I2, rw2, q⟩) hs
def rInDict (k : Bool) : R2 := fun x y H Q => ∃ a o, y = .ref a ∧ DGet H a x o ∧ Q (.bl (if k = true then o.isSome else !o.isSome)) H
theorem op_inDict {X : Cx} (hu : X.A.units + 1 < cLine) : OpR X (compareOp .In) (rInDict true) := by
  intro pins s σ H x y v u Q I rx ry h
  obtain ⟨a, o, rfl, g, q⟩ := h
  cases ry
  exact d_in hu I g rx fun s3 I3 => ⟨.bl o.isSome, H, I3, rfl, q⟩
theorem op_notInDict {X : Cx} (hu : X.A.units + 1 < cLine) : OpR X (compareOp .NotIn) (rInDict false) := by
  intro pins s σ H x y v u Q I rx ry h
  obtain ⟨a, o, rfl, g, q⟩ := h
  cases ry
  exact d_notIn hu I g rx fun s3 I3 => ⟨.bl (!o.isSome), H, I3, rfl, q⟩
end TW
-- TWCall
namespace TW
open PySem PySem.Spec PyProof.Rows L2

section
variable {X : Cx} {W : WX} {Γ : List Nat} {n : Nat} {e : Expr} {es : List Expr} {pos : Pos} {me : Rho → Res D} {mes : Rho → Res (List D)}
theorem ra_nil : RA X W Γ n true [] mA0 := by
  refine ⟨fun ρ ds e => by cases e; rfl, _, pa_nil, fun F H0 ρ σ H S R Q st po => ?_⟩
  exact po [] H [] [] (Same.refl H) .nil (fun a z => by simp at z) fun _ => New.nil
theorem ra_cons (he : RE X W Γ n true e me) (hes : RA X W Γ n true es mes) (hs : starEach (e :: es) X.env = (false, eval e X.env) :: starEach es X.env := by rfl) : RA X W Γ n true (e :: es) (mA1 me mes) := by
  obtain ⟨ta, pa, qa⟩ := he
  obtain ⟨lb, tb, pb, qb⟩ := hes
  refine ⟨fun ρ ds e => ?_, _, pa_cons pa pb hs, fun F H0 ρ σ H S R Q st po => ?_⟩
  · unfold mA1 at e
    cases e1 : me ρ with
    | ok d =>
      rw [e1] at e
      cases e2 : mes ρ with
      | ok r =>
        rw [e2] at e
        cases e
        simp [lb ρ r e2]
      | exn c => rw [e2] at e; cases e
      | stuck => rw [e2] at e; cases e
    | exn c => rw [e1] at e; cases e
    | stuck => rw [e1] at e; cases e
  refine qa F H0 ρ σ H S R _ st (PostE.iff.mpr ((PostA.iff.mp po).bind.imp fun d _ po => ?_))
  intro x H1 A B s1 d1 v1 f1
  obtain ⟨n1, w1⟩ := f1 rfl
  refine qb (F.plus A) H0 ρ σ H1 S R _ ((st.grow s1).more (fun a ha => Dat.dom d1 a ha) (fun a ha i hi => st.domS i a hi (w1 a ha).1) fun a ha i hi => st.domR i a hi (w1 a ha).1) (PostA.iff.mpr (po.bind.later s1 fun ds _ po => ?_))
  intro xs H2 A' B' s2 d2 v2 f2
  refine po (x :: xs) H2 (A ++ A') (B ++ B') (s1.trans s2) (.cons (d1.same s2) d2) (fun a ha => ?_) fun _ => ?_
  · rcases List.mem_append.mp ha with ha | ha
    · exact v1 a ha
    · exact fun z => v2 a ha (z.imp .inl id)
  · obtain ⟨n2, w2⟩ := f2 rfl
    refine ⟨List.nodup_append.mpr ⟨n1, n2, fun a ha b hb e => ?_⟩, fun a ha => ?_⟩
    · subst e
      exact Dat.dom d1 a ha (w2 a hb).1
    · rcases List.mem_append.mp ha with ha | ha
      · refine ⟨(w1 a ha).1, fun hB => ?_⟩
        rcases List.mem_append.mp hB with hB | hB
        · exact (w1 a ha).2 hB
        · exact v2 a hB (.inl (.inr ha))
      · refine ⟨s1.free (w2 a ha).1, fun hB => ?_⟩
        rcases List.mem_append.mp hB with hB | hB
        · exact Dat.domR d1 a hB (w2 a ha).1
        · exact (w2 a ha).2 hB
def gLst (l : List D) : Option D := if l.length ≤ sizeLine then some (.lst l) else none
def gTup (l : List D) : Option D := if l.length ≤ sizeLine then some (.tup l) else none
theorem PostA.ofO {X : Cx} {W : WX} {σ : L2.St} {H : Hp} {g : List D → Option D} {l : List D} {ok : D → Prop} (h : PostX X W σ H ok (ofO (g l))) : ∃ z, g l = some z ∧ ok z := by
  cases e : g l with
  | none => rw [e] at h; exact h.elim
  | some z => rw [e] at h; exact ⟨z, rfl, h⟩
theorem re_lst (he : RA X W Γ n true es mes) : RE X W Γ (n + 1) true (.List es pos) (mL gLst mes) := by
  obtain ⟨_, ta, pa, qa⟩ := he
  refine ⟨_, pe_lst pa, fun F H0 ρ σ H S R Q st po => ?_⟩
  refine qa F H0 ρ σ H S R _ st (PostA.iff.mpr ((PostE.iff.mp po).bind.imp fun d _ po => ?_))
  intro xs H1 A B s1 d1 v1 f1
  obtain ⟨z, ez, po⟩ := PostA.ofO po
  unfold gLst at ez
  split at ez
  · rename_i hl
    cases ez
    obtain ⟨nd, nw⟩ := f1 rfl
    refine ⟨by rw [d1.length]; exact hl, fun p hp => ?_⟩
    refine po (.ref p) _ (p :: A) B (s1.trans (same_new hp)) ?_ v1 fun _ => ⟨List.nodup_cons.mpr ⟨fun z => Dats.dom d1 p z hp, nd⟩, fun a ha => ?_⟩
    · unfold Dat
      exact ⟨p, xs, A, rfl, upd_same, rfl, d1.same (same_new hp)⟩
    · rcases List.mem_cons.mp ha with rfl | ha
      · exact ⟨s1.free hp, fun hB => Dats.domR d1 _ hB hp⟩
      · exact nw a ha
  · cases ez
theorem re_tup {j} (he : RA X W Γ (n - 1) true es mes) : RE X W Γ n true (.Tuple es j pos) (mL gTup mes) := by
  obtain ⟨_, ta, pa, qa⟩ := he
  refine ⟨_, pe_tup pa, fun F H0 ρ σ H S R Q st po => ?_⟩
  refine qa F H0 ρ σ H S R _ st (PostA.iff.mpr ((PostE.iff.mp po).bind.imp fun d _ po => ?_))
  intro xs H1 A B s1 d1 v1 f1
  obtain ⟨z, ez, po⟩ := PostA.ofO po
  unfold gTup at ez
  split at ez
  · rename_i hl
    cases ez
    refine ⟨by rw [d1.length]; exact hl, fun p hp => ?_⟩
    refine po (.ref p) _ A B (s1.trans (same_new hp)) ?_ v1 f1
    unfold Dat
    exact ⟨p, xs, rfl, upd_same, d1.same (same_new hp)⟩
  · cases ez
end

def RB (X : Cx) (W : WX) (Γ : List Nat) (e : Expr) (m : Rho → Res D) : Prop :=
  ∃ t, PE X e t ∧ ∀ F H0 ρ σ H S R Q, Sto X.K F H0 Γ ρ σ H S R → PostX X W σ H (fun d => ∀ x H' B, Same H H' → Dat X.K H' d 0 x [] B → Q x H') (m ρ) → t σ H Q
theorem RE.b {X : Cx} {W : WX} {Γ : List Nat} {n : Nat} {fr : Bool} {e : Expr} {m : Rho → Res D} (h : RE X W Γ n fr e m) : RB X W Γ e m := by
  obtain ⟨t, p, q⟩ := h
  refine ⟨t, p, fun F H0 ρ σ H S R Q st po => q F H0 ρ σ H S R Q st (PostE.iff.mpr (po.imp fun d _ po => ?_))⟩
  intro x H' A B s d1 _ _
  obtain ⟨S', R', g, _, _⟩ := Dat.weak d n 0 x A B (Nat.zero_le _) d1
  obtain rfl : S' = [] := Dat.noS g
  exact po x H' R' s g
def RAB (X : Cx) (W : WX) (Γ : List Nat) (es : List Expr) (m : Rho → Res (List D)) : Prop :=
  ∃ t, PA X es t ∧ ∀ F H0 ρ σ H S R Q, Sto X.K F H0 Γ ρ σ H S R → PostX X W σ H (fun ds => ∀ xs H' B, Same H H' → Dats X.K H' ds 0 xs [] B → Q xs H') (m ρ) → t σ H Q
section
variable {X : Cx} {W : WX} {Γ : List Nat} {e : Expr} {es : List Expr} {pos : Pos} {me : Rho → Res D} {mes : Rho → Res (List D)}
theorem rab_nil : RAB X W Γ [] mA0 := by
  refine ⟨_, pa_nil, fun F H0 ρ σ H S R Q st po => ?_⟩
  exact po [] H [] (Same.refl H) .nil
theorem rab_cons (he : RB X W Γ e me) (hes : RAB X W Γ es mes) (hs : starEach (e :: es) X.env = (false, eval e X.env) :: starEach es X.env := by rfl) : RAB X W Γ (e :: es) (mA1 me mes) := by
  obtain ⟨ta, pa, qa⟩ := he
  obtain ⟨tb, pb, qb⟩ := hes
  refine ⟨_, pa_cons pa pb hs, fun F H0 ρ σ H S R Q st po => ?_⟩
  refine qa F H0 ρ σ H S R _ st (po.bind.imp fun d _ po => ?_)
  intro x H1 B s1 d1
  refine qb F H0 ρ σ H1 S R _ (st.grow s1) (po.bind.later s1 fun ds _ po => ?_)
  intro xs H2 B' s2 d2
  exact po (x :: xs) H2 (B ++ B') (s1.trans s2) (by simpa using Dats.cons (d1.same s2) d2)
end

def gIx : D → D → Option D
  | .lst l, .int i => atI l i
  | .tup l, .int i => atI l i
  | .scr l, .int i => (atI l i).map .int
  | .str s, .int i => if s.length ≤ sizeLine then (atI s.cps.toList i).map fun c => .str ⟨#[c]⟩ else none
  | .dK ks vs, k => (lookD (.dK ks vs) k).bind id
  | .dT ks vs, k => (lookD (.dT ks vs) k).bind id
  | .ftup l, .int i => atI l i
  | _, _ => none
theorem atI_some {α : Type} {l : List α} {i : Int} {v : α} (h : atI l i = some v) : ∃ j, ixN l.length i = some j ∧ l[j]? = some v := by
  unfold atI at h
  cases e : ixN l.length i with
  | none => rw [e] at h; cases h
  | some j => rw [e] at h; exact ⟨j, rfl, h⟩
theorem atI_of {α : Type} {l : List α} {i : Int} {v : α} {j : Nat} (h : ixN l.length i = some j) (e : l[j]? = some v) : atI l i = some v := by
  unfold atI
  rw [h]
  exact e
section
variable {X : Cx} {W : WX} {Γ : List Nat} {n k : Nat} {fr : Bool} {a b : Expr} {pos : Pos} {ma mb : Rho → Res D}
theorem ix_at {K : PySem.W.Frag} {H : Hp} {d e z : D} {n : Nat} {x y : V} {A B B2 : List Addr} {Q : VK} (h : Dat K H d n x A B) (hy : Dat K H e 0 y [] B2) (ez : gIx d e = some z)
    (q : ∀ v A' B', Dat K H z (n - 1) v A' B' → A'.Sublist A → (∀ a ∈ B', a ∈ B) → Q v H) : rIx K x y H Q ∨ rIxD x y H Q := by
  unfold gIx at ez
  split at ez
  · rename_i l i
    obtain ⟨j, e1, e2⟩ := atI_some ez
    cases n with
    | zero =>
      unfold Dat at h
      obtain ⟨p, xs, R', rfl, hp, rfl, rfl, hd⟩ := h
      obtain ⟨v, S', R2, e3, g, sl, r⟩ := hd.get e2
      exact .inl <| .inl ⟨p, xs, i, v, rfl, dat_int hy, .of hp, atI_of (by rw [hd.length]; exact e1) e3, q v S' R2 g (sl.trans (List.nil_sublist _)) fun a ha => List.mem_cons_of_mem _ (r a ha)⟩
    | succ n =>
      unfold Dat at h
      obtain ⟨p, xs, S1, rfl, hp, rfl, hd⟩ := h
      obtain ⟨v, S', R2, e3, g, sl, r⟩ := hd.get e2
      exact .inl <| .inl ⟨p, xs, i, v, rfl, dat_int hy, .of hp, atI_of (by rw [hd.length]; exact e1) e3, q v S' R2 g (sl.trans (List.sublist_cons_self _ _)) r⟩
  · rename_i l i
    obtain ⟨j, e1, e2⟩ := atI_some ez
    unfold Dat at h
    obtain ⟨p, xs, rfl, hp, hd⟩ := h
    obtain ⟨v, S', R2, e3, g, sl, r⟩ := hd.get e2
    exact .inl <| .inr (.inl ⟨p, xs, i, v, rfl, dat_int hy, .of hp, atI_of (by rw [hd.length]; exact e1) e3, q v S' R2 g sl r⟩)
  · rename_i l i
    cases e1 : atI l i with
    | none => rw [e1] at ez; cases ez
    | some c =>
      rw [e1] at ez
      cases ez
      obtain ⟨j, e1, e2⟩ := atI_some e1
      unfold Dat at h
      obtain ⟨⟨p, rfl, hp⟩, rfl, rfl⟩ := h
      exact .inl <| .inl ⟨p, l.map V.int, i, .int c, rfl, dat_int hy, hp.sq, atI_of (by rw [List.length_map]; exact e1) (by rw [List.getElem?_map, e2]; rfl), q _ [] [] (dat_of_int _) (List.nil_sublist _) fun a z => by simp at z⟩
  · rename_i s i
    split at ez
    · rename_i hl
      cases e1 : atI s.cps.toList i with
      | none => rw [e1] at ez; cases ez
      | some c =>
        rw [e1] at ez
        cases ez
        exact .inl <| .inr (.inr ⟨s, i, c, dat_str h, dat_int hy, hl, e1, q _ [] [] (dat_of_str _) (List.nil_sublist _) fun a z => by simp at z⟩)
    · cases ez
  · rename_i ks vs
    have e2 : lookD (.dK ks vs) e = some (some z) := by
      cases q : lookD (.dK ks vs) e with
      | none => rw [q] at ez; cases ez
      | some o => rw [q] at ez; exact congrArg some ez
    obtain ⟨a, r, rfl, g, v, S', R', rfl, g2, sl, hr⟩ := look_at h hy e2
    exact .inr ⟨a, v, rfl, g, q v S' R' g2 sl hr⟩
  · rename_i ks vs
    have e2 : lookD (.dT ks vs) e = some (some z) := by
      cases q : lookD (.dT ks vs) e with
      | none => rw [q] at ez; cases ez
      | some o => rw [q] at ez; exact congrArg some ez
    obtain ⟨a, r, rfl, g, v, S', R', rfl, g2, sl, hr⟩ := look_at h hy e2
    exact .inr ⟨a, v, rfl, g, q v S' R' g2 sl hr⟩
  · rename_i l i
    obtain ⟨j, e1, e2⟩ := atI_some ez
    unfold Dat at h
    obtain ⟨p, xs, rfl, hp, hd⟩ := h
    obtain ⟨v, S', R2, e3, g, sl, r⟩ := hd.get e2
    exact .inl <| .inr (.inl ⟨p, xs, i, v, rfl, dat_int hy, sqt_frz hp, atI_of (by rw [hd.length]; exact e1) e3, q v S' R2 g sl r⟩)
  · cases ez
theorem re_ixG (hu : X.A.units + 1 < cLine) (ha : RE X W Γ n fr a ma) (hb : RE X W Γ 0 true b mb) (hs : PlainIx b := by exact fun _ _ => rfl) : RE X W Γ (n - 1) fr (.Subscript a b pos) (m2 gIx ma mb) := by
  obtain ⟨ta, pa, qa⟩ := ha
  obtain ⟨tb, pb, qb⟩ := hb
  refine ⟨_, pe_ix (IxR.or ix_seq (ix_dict hu)) pa pb hs, fun F H0 ρ σ H S R Q st po => ?_⟩
  refine qa F H0 ρ σ H S R _ st (PostE.iff.mpr ((PostE.iff.mp po).bind.imp fun d _ po => ?_))
  intro x H1 A B s1 d1 v1 f1
  refine qb F H0 ρ σ H1 S R _ (st.grow s1) (PostE.iff.mpr (po.bind.later s1 fun e ee po => ?_))
  intro y H2 A' B' s2 d2 _ _
  obtain rfl : A' = [] := Dat.noS d2
  obtain ⟨z, ez, po⟩ := PostE.ofO (PostE.iff.mpr po)
  refine ix_at (d1.same s2) d2 ez fun v A2 B2 g sl r => ?_
  exact po v H2 A2 B2 (s1.trans s2) g (fun a ha => v1 a (r a ha)) fun e => ⟨(f1 e).1.sublist sl, fun a ha => ⟨((f1 e).2 a (sl.subset ha)).1, fun hB => ((f1 e).2 a (sl.subset ha)).2 (r a hB)⟩⟩
theorem re_ix (hu : X.A.units + 1 < cLine) (ha : RE X W Γ 0 true a ma) (hb : RE X W Γ 0 true b mb) (hs : PlainIx b := by exact fun _ _ => rfl) : RE X W Γ 0 true (.Subscript a b pos) (m2 gIx ma mb) := re_ixG hu ha hb hs
end

def CallV (K : PySem.W.Frag) (r : List V → Hp → VK → Prop) (g : List D → Option D) (n : Nat) : Prop :=
  ∀ (Z : Addr → Prop) (vs : List V) (ds : List D) (z : D) (H : Hp) (B : List Addr) (Q : VK), (∀ a, Z a → H a ≠ none) → Dats K H ds 0 vs [] B → (∀ a ∈ B, ¬ Z a) → g ds = some z → PostV K Z n true H Q z → r vs H Q
def CallF (K : PySem.W.Frag) (r : List V → Hp → VK → Prop) (g : List D → Option D) : Prop :=
  ∀ (vs : List V) (ds : List D) (z : D) (H : Hp) (B : List Addr) (Q : VK), Dats K H ds 0 vs [] B → g ds = some z → (z.flat = true → ∀ v, (∀ k, Dat K H z k v [] []) → Q v H) → r vs H Q
section
variable {X : Cx} {W : WX} {Γ : List Nat} {n : Nat} {e : Expr} {es : List Expr} {x : Str} {id T : String} {p pos : Pos} {r : List V → Hp → VK → Prop} {g : List D → Option D} {ma : Rho → Res (List D)}
theorem re_callT (hc : CallR X (.type T) r) (hv : CallV X.K r g n) (hm : X.mg x = none) (hb : bootBuiltins x = some (.type T)) (ha : RA X W Γ 0 true (e :: es) ma) (hg : Gl X x := by rfl) (hn : x ≠ "__name__" := by decide) (hdb : (x == ("__debug__" : Str)) = false := by decide)
    (he : starEach (e :: es) X.env = (false, eval e X.env) :: starEach es X.env := by rfl) (hpl : (backTo pos (starEach es X.env)).any (·.1) = false := by rfl) : RE X W Γ n true (.Call (.Name x p) (e :: es) [] pos) (mL g ma) := by
  obtain ⟨_, ta, pa, qa⟩ := ha
  refine ⟨_, pe_callTy hc hg hm hb pa hn hdb he hpl, fun F H0 ρ σ H S R Q st po => ?_⟩
  refine qa F H0 ρ σ H S R _ st (PostA.iff.mpr ((PostE.iff.mp po).bind.imp fun d _ po => ?_))
  intro xs H1 A B s1 d1 v1 f1
  obtain rfl : A = [] := Dats.noS d1
  obtain ⟨z, ez, po⟩ := PostA.ofO po
  exact hv (Av F S) xs d z H1 B Q (st.grow s1).avd d1 v1 ez (PostV.later po s1)
theorem re_callBF (hc : CallR X (.builtin id) r) (hv : CallF X.K r g) (hm : X.mg x = none) (hb : bootBuiltins x = some (.builtin id)) (ha : RAB X W Γ (e :: es) ma) (hg : Gl X x := by rfl) (hn : x ≠ "__name__" := by decide) (hdb : (x == ("__debug__" : Str)) = false := by decide)
    (he : starEach (e :: es) X.env = (false, eval e X.env) :: starEach es X.env := by rfl) (hpl : (backTo pos (starEach es X.env)).any (·.1) = false := by rfl) : RE X W Γ n true (.Call (.Name x p) (e :: es) [] pos) (mL g ma) := by
  obtain ⟨ta, pa, qa⟩ := ha
  refine ⟨_, pe_callB hc hg hm hb pa hn hdb he hpl, fun F H0 ρ σ H S R Q st po => ?_⟩
  refine qa F H0 ρ σ H S R _ st ((PostE.iff.mp po).bind.imp fun d _ po => ?_)
  intro xs H1 B s1 d1
  obtain ⟨z, ez, po⟩ := PostA.ofO po
  exact hv xs d z H1 B Q d1 ez fun f v hd => PostV.flat (PostV.later po s1) f hd
theorem re_callTF (hc : CallR X (.type T) r) (hv : CallF X.K r g) (hm : X.mg x = none) (hb : bootBuiltins x = some (.type T)) (ha : RAB X W Γ (e :: es) ma) (hg : Gl X x := by rfl) (hn : x ≠ "__name__" := by decide) (hdb : (x == ("__debug__" : Str)) = false := by decide)
    (he : starEach (e :: es) X.env = (false, eval e X.env) :: starEach es X.env := by rfl) (hpl : (backTo pos (starEach es X.env)).any (·.1) = false := by rfl) : RE X W Γ n true (.Call (.Name x p) (e :: es) [] pos) (mL g ma) := by
  obtain ⟨ta, pa, qa⟩ := ha
  refine ⟨_, pe_callTy hc hg hm hb pa hn hdb he hpl, fun F H0 ρ σ H S R Q st po => ?_⟩
  refine qa F H0 ρ σ H S R _ st ((PostE.iff.mp po).bind.imp fun d _ po => ?_)
  intro xs H1 B s1 d1
  obtain ⟨z, ez, po⟩ := PostA.ofO po
  exact hv xs d z H1 B Q d1 ez fun f v hd => PostV.flat (PostV.later po s1) f hd
end
section
variable {K : PySem.W.Frag}
theorem dats1 {H : Hp} {d : D} {vs : List V} {B : List Addr} (h : Dats K H [d] 0 vs [] B) : ∃ v, vs = [v] ∧ Dat K H d 0 v [] B := by
  simp only [Dats] at h
  obtain ⟨x, xs', S1, S2, R1, R2, rfl, e0, rfl, h1, rfl, rfl, rfl⟩ := h
  obtain ⟨rfl, _⟩ := List.append_eq_nil_iff.mp e0.symm
  exact ⟨x, rfl, by simpa using h1⟩
def gLen : List D → Option D
  | [.lst l] => some (.int l.length)
  | [.tup l] => some (.int l.length)
  | [.scr l] => some (.int l.length)
  | [.str s] => if s.length ≤ sizeLine then some (.int s.length) else none
  | [.dK ks _] => some (.int ks.length)
  | [.dT ks _] => some (.int ks.length)
  | [.ftup l] => some (.int l.length)
  | _ => none
end
end TW
-- TWBlt
namespace TW
open PySem PySem.Spec PyProof.Rows L2

theorem CallR.or {X : Cx} {f : Value} {r r' : List V → Hp → VK → Prop} (h : CallR X f r) (h' : CallR X f r') : CallR X f (fun xs H Q => r xs H Q ∨ r' xs H Q) :=
  fun pins s σ H xs us Q I rx q => q.elim (h pins s σ H xs us Q I rx) (h' pins s σ H xs us Q I rx)
section
variable {K : PySem.W.Frag}
def rLenA (K : PySem.W.Frag) : List V → Hp → VK → Prop := fun xs H Q => (∃ x n, xs = [x] ∧ LenV K x H n ∧ Q (.int n) H) ∨ ((∃ a kvs, xs = [V.ref a] ∧ Rd H a (.dK kvs) ∧ Q (.int (kvs.length : Nat)) H) ∨ (∃ a kvs, xs = [V.ref a] ∧ Rd H a (.dT kvs) ∧ Q (.int (kvs.length : Nat)) H))
theorem call_lenK {X : Cx} : CallR X (.builtin "len") (fun xs H Q => ∃ a kvs, xs = [V.ref a] ∧ Rd H a (.dK kvs) ∧ Q (.int (kvs.length : Nat)) H) := by
  intro pins s σ H xs us Q I r h
  obtain ⟨a, kvs, rfl, ha, q⟩ := h
  obtain ⟨u, rfl, ru⟩ := vals1 r
  cases ru
  exact d_len I ha fun t s' I' => ⟨.int kvs.length, H, I', ⟨t, rfl⟩, q⟩
theorem call_lenT {X : Cx} : CallR X (.builtin "len") (fun xs H Q => ∃ a kvs, xs = [V.ref a] ∧ Rd H a (.dT kvs) ∧ Q (.int (kvs.length : Nat)) H) := by
  intro pins s σ H xs us Q I r h
  obtain ⟨p, kvs, rfl, hp, q⟩ := h
  obtain ⟨u, rfl, rx⟩ := vals1 r
  obtain rfl : u = .ref p := rx
  obtain ⟨z, hd, ys, rel, dd⟩ := dt_rd I.hok hp
  have hl : kvs.length = ys.length := Paired.length rel
  refine call_len_dictH hd dd (by rw [← hl]; rw [sizeLine_eq] at z; omega) ?_
  rw [← hl]
  exact ⟨.int ((kvs.length : Nat) : Int), H, I.tok _, ⟨_, rfl⟩, q⟩
theorem call_lenA {X : Cx} : CallR X (.builtin "len") (rLenA X.K) := CallR.or call_len (CallR.or call_lenK call_lenT)
theorem cf_len : CallF K (rLenA K) gLen := by
  intro vs ds z H B Q h ez po
  unfold gLen at ez
  split at ez
  · cases ez
    obtain ⟨v, e9, h9⟩ := dats1 h
    subst e9
    clear h
    have h := h9
    clear h9
    obtain ⟨a, xs, R', rfl, q, rfl, hd⟩ := dat_lst0 h
    exact .inl ⟨_, xs.length, rfl, .inl ⟨xs, .of q, rfl⟩, by rw [hd.length]; exact po rfl _ dat_of_int⟩
  · cases ez
    obtain ⟨v, e9, h9⟩ := dats1 h
    subst e9
    clear h
    have h := h9
    clear h9
    obtain ⟨a, xs, rfl, q, hd⟩ := dat_tup0 h
    exact .inl ⟨_, xs.length, rfl, .inr ⟨xs, .of q, rfl⟩, by rw [hd.length]; exact po rfl _ dat_of_int⟩
  · rename_i l
    cases ez
    obtain ⟨v, e9, h9⟩ := dats1 h
    subst e9
    clear h
    have h := h9
    clear h9
    unfold Dat at h
    obtain ⟨⟨a, rfl, q⟩, _⟩ := h
    exact .inl ⟨_, l.length, rfl, .inl ⟨l.map V.int, q.sq, by rw [List.length_map]⟩, po rfl _ dat_of_int⟩
  · rename_i s
    split at ez
    · rename_i hl
      cases ez
      obtain ⟨v, e9, h9⟩ := dats1 h
      subst e9
      clear h
      have h := h9
      clear h9
      rw [dat_str h]
      exact .inl ⟨_, s.length, rfl, ⟨hl, rfl⟩, po rfl _ dat_of_int⟩
    · cases ez
  · cases ez
    obtain ⟨v, e9, h9⟩ := dats1 h
    subst e9
    unfold Dat at h9
    obtain ⟨a, ws, R', rfl, q, rfl, _⟩ := h9
    exact .inr (.inl ⟨a, ws, rfl, q, by rw [← List.length_map (as := ws) (·.1)]; exact po rfl _ dat_of_int⟩)
  · cases ez
    obtain ⟨v, e9, h9⟩ := dats1 h
    subst e9
    unfold Dat at h9
    obtain ⟨a, ws, R', rfl, q, rfl, _⟩ := h9
    exact .inr (.inr ⟨a, ws, rfl, q, by rw [← List.length_map (as := ws) (·.1)]; exact po rfl _ dat_of_int⟩)
  · cases ez
    obtain ⟨v, e9, h9⟩ := dats1 h
    subst e9
    obtain ⟨a, xs, rfl, q, hd⟩ := dat_ftup0 h9
    exact .inl ⟨_, xs.length, rfl, .inr ⟨xs, sqt_frz q, rfl⟩, by rw [hd.length]; exact po rfl _ dat_of_int⟩
  · cases ez
def intsOf : List D → Option (List Int)
  | [] => some []
  | .int i :: r => (intsOf r).map fun l => i :: l
  | _ => none
@[simp] theorem intsOf_map (ns : List Int) : intsOf (ns.map D.int) = some ns := by
  induction ns with
  | nil => rfl
  | cons a r ih =>
    show (intsOf (r.map D.int)).map _ = _
    rw [ih]
    rfl
def maxI : List Int → Option Int
  | [] => none
  | a :: r => some (r.foldl max a)
def minI : List Int → Option Int
  | [] => none
  | a :: r => some (r.foldl min a)
def gMax : List D → Option D
  | [.int i, .int j] => some (.int (max i j))
  | [.lst l] => (intsOf l).bind fun ns => (maxI ns).map .int
  | _ => none
def gMin : List D → Option D
  | [.int i, .int j] => some (.int (min i j))
  | [.lst l] => (intsOf l).bind fun ns => (minI ns).map .int
  | _ => none
def gAbs : List D → Option D
  | [.int i] => some (.int (if i < 0 then -i else i))
  | _ => none
def gInt : List D → Option D
  | [.int i] => some (.int i)
  | [.bl b] => some (.int (if b then 1 else 0))
  | _ => none
def gList : List D → Option D
  | [.lst l] => some (.lst l)
  | [.tup l] => some (.lst l)
  | [.scr l] => some (.lst (l.map .int))
  | [.ftup l] => some (.lst l)
  | _ => none
def gTuple : List D → Option D
  | [.lst l] => some (.tup l)
  | [.tup l] => some (.tup l)
  | [.ftup l] => some (.ftup l)
  | _ => none
theorem cv_tuple {n : Nat} (hn : n ≤ 1 := by decide) : CallV K (fun xs H Q => ∃ p ys, xs = [.ref p] ∧ ((SqL K H p ys ∧ ∀ l, H l = none → Q (.ref l) (upd H l (.tup ys))) ∨ (SqT K H p ys ∧ Q (.ref p) H))) gTuple n := by
  intro Z vs ds z H B Q hz h hb ez po
  have e0 : n - 1 = 0 := by omega
  unfold gTuple at ez
  split at ez
  · cases ez
    obtain ⟨v, e9, h9⟩ := dats1 h
    subst e9
    clear h
    have h := h9
    clear h9
    obtain ⟨a, xs, R', rfl, q, rfl, hd⟩ := dat_lst0 h
    exact ⟨a, xs, rfl, .inl ⟨.of q, fun l hl => new_tup po hl (B := R') (by rw [e0]; exact hd) (fun b hb' => hb b (List.mem_cons_of_mem _ hb'))⟩⟩
  · rename_i l
    cases ez
    obtain ⟨v, e9, h9⟩ := dats1 h
    subst e9
    clear h
    have h := h9
    clear h9
    obtain ⟨a, xs, rfl, q, hd⟩ := dat_tup0 h
    refine ⟨a, xs, rfl, .inr ⟨.of q, ?_⟩⟩
    refine po (.ref a) H [] B (Same.refl H) ?_ hb fun _ => New.nil
    unfold Dat
    exact ⟨a, xs, rfl, q, by rw [e0]; exact hd⟩
  · rename_i l
    cases ez
    obtain ⟨v, e9, h9⟩ := dats1 h
    subst e9
    obtain ⟨a, xs, rfl, q, hd⟩ := dat_ftup0 h9
    refine ⟨a, xs, rfl, .inr ⟨sqt_frz q, ?_⟩⟩
    refine po (.ref a) H [] B (Same.refl H) ?_ hb fun _ => New.nil
    unfold Dat
    exact ⟨a, xs, rfl, q, by rw [e0]; exact hd⟩
  · cases ez
end
section
variable {X : Cx} {W : WX} {Γ : List Nat} {n : Nat} {e : Expr} {es : List Expr} {p pos : Pos} {ma : Rho → Res (List D)}
theorem re_len (hm : X.mg "len" = none) (ha : RAB X W Γ [e] ma) (hg : Gl X "len" := by rfl)
    (he : starEach (e :: []) X.env = (false, eval e X.env) :: starEach [] X.env := by rfl) (hpl : (backTo pos (starEach [] X.env)).any (·.1) = false := by rfl) : RE X W Γ n true (.Call (.Name "len" p) [e] [] pos) (mL gLen ma) := re_callBF call_lenA cf_len hm PySem.boot_len ha hg (by decide) (by decide) he hpl
theorem re_tuple (hm : X.mg "tuple" = none) (ha : RA X W Γ 0 true [e] ma) (hn : n ≤ 1 := by decide) (hg : Gl X "tuple" := by rfl)
    (he : starEach (e :: []) X.env = (false, eval e X.env) :: starEach [] X.env := by rfl) (hpl : (backTo pos (starEach [] X.env)).any (·.1) = false := by rfl) : RE X W Γ n true (.Call (.Name "tuple" p) [e] [] pos) (mL gTuple ma) := re_callT call_tuple_of (cv_tuple hn) hm boot_tuple ha hg (by decide) (by decide) he hpl
end

def D.ty : D → String
  | .non => "NoneType"
  | .bl _ => "bool"
  | .int _ => "int"
  | .str _ => "str"
  | .lst _ => "list"
  | .tup _ => "tuple"
  | .dK _ _ => "dict"
  | .dT _ _ => "dict"
  | .scr _ => "list"
  | .junk => "junk"
  | .ins _ _ _ => "junk"
  | .ftup _ => "tuple"
def gIsi (T : String) (d : D) : Option D := match d with
  | .junk => none
  | .ins _ _ _ => none
  | d => (kitB d.ty T).map .bl
def rIsiZ (K : PySem.W.Frag) : List V → Hp → VK → Prop := fun xs H Q => ∃ (a : Addr) (o : Obj) (kvs : List (List Key × V)) (c : V) (u : Value) (b : Bool), xs = [.ref a, c] ∧ ClsV c u ∧ H a = some (.frz o (.dT kvs)) ∧ PySem.W.kitOne K (.type "dict") u = some b ∧ Q (.bl b) H
theorem call_isiZ {X : Cx} : CallR X (.builtin "isinstance") (rIsiZ X.K) := by
  intro pins s σ H xs us Q I r h
  obtain ⟨a, o, kvs, c, u, b, rfl, k, ea, e, q⟩ := h
  obtain ⟨u1, u2, rfl, r1, r2⟩ := vals2 r
  have e2 := k.eq r2
  subst e2
  cases (show u1 = Value.ref a from r1)
  obtain ⟨_, _, _, _, _, ob, es, ep, h1, h2, _⟩ := (show ObjOk X.prog X.w H s.heap a (.frz o (.dT kvs)) from I.hok a _ ea)
  exact PySem.W.kia_one PySem.W.kitx_dict I.kIn ⟨ob, h1, h2.1⟩ e (fun z => nomatch z) fun tk => ⟨.bl b, H, I.tok tk, rfl, q⟩
theorem isi_at {K : PySem.W.Frag} {H : Hp} {d : D} {x : V} {B : List Addr} {T : String} {b : Bool} {Q : VK} (hj : d.known = true) (h : Dat K H d 0 x [] B) (e : kitB d.ty T = some b) (q : Q (.bl b) H) : rIsi K [x, .ty T] H Q ∨ rIsiZ K [x, .ty T] H Q := by
  have base : ∀ {t : String}, kitB t T = some b → TyX K H x (.type t) → rIsi K [x, .ty T] H Q := fun e ty => ⟨x, .ty T, _, _, b, rfl, .ty T, ty, kit_ty e, q⟩
  cases d with
  | junk => cases hj
  | ins _ _ _ => cases hj
  | non => simp only [Dat] at h; obtain ⟨rfl, _⟩ := h; exact .inl (base e (.base .non))
  | bl k => rw [dat_bl h] at base ⊢; exact .inl (base e (.base (.bl k)))
  | int k => rw [dat_int h] at base ⊢; exact .inl (base e (.base (.int k)))
  | str k => rw [dat_str h] at base ⊢; exact .inl (base e (.base (.str k)))
  | lst l =>
    obtain ⟨a, xs, R', rfl, q', _⟩ := dat_lst0 h
    exact .inl (base e (.base (.lst q')))
  | tup l =>
    obtain ⟨a, xs, rfl, q', _⟩ := dat_tup0 h
    exact .inl (base e (.base (.tup q')))
  | ftup l =>
    obtain ⟨a, xs, rfl, ⟨o, _, q'⟩, _⟩ := dat_ftup0 h
    exact .inl (base e (.fTuple q'))
  | dK ks vs =>
    unfold Dat at h
    obtain ⟨a, ws, R', rfl, q' | ⟨o, q'⟩, _⟩ := h
    · exact .inl (base e (.base (.dK q')))
    · exact .inl (base e (.fDict q'))
  | dT ks vs =>
    unfold Dat at h
    obtain ⟨a, ws, R', rfl, q' | ⟨o, q'⟩, _⟩ := h
    · exact .inl (base e (.base (.dT q')))
    · exact .inr ⟨a, o, ws, .ty T, .type T, b, rfl, .ty T, q', kit_ty e, q⟩
  | scr l =>
    unfold Dat at h
    obtain ⟨⟨a, rfl, ⟨o, q'⟩ | ⟨o, its, m, k1, k2, _⟩⟩, _⟩ := h
    · exact .inl (base e (.base (.frz q')))
    · exact .inl (base e (.kList k1 k2))
section
variable {X : Cx} {W : WX} {Γ : List Nat} {n : Nat} {e : Expr} {p p2 pos : Pos} {me : Rho → Res D}
theorem re_isi {T : Str} {U : String} (hm : X.mg "isinstance" = none) (hmT : X.mg T = none) (hbT : bootBuiltins T = some (.type U)) (ha : RB X W Γ e me) (hg : Gl X "isinstance" := by rfl) (hgT : Gl X T := by rfl) (hnT : T ≠ "__name__" := by decide) (hdT : (T == ("__debug__" : Str)) = false := by decide)
    (he : starEach (e :: [.Name T p2]) X.env = (false, eval e X.env) :: starEach [.Name T p2] X.env := by rfl) (he2 : starEach (.Name T p2 :: []) X.env = (false, eval (.Name T p2) X.env) :: starEach [] X.env := by rfl) (hpl : (backTo pos (starEach [.Name T p2] X.env)).any (·.1) = false := by rfl) :
    RE X W Γ n true (.Call (.Name "isinstance" p) [e, .Name T p2] [] pos) (m1 (gIsi U) me) := by
  obtain ⟨ta, pa, qa⟩ := ha
  refine ⟨_, pe_callB (CallR.or call_isi call_isiZ) hg hm boot_isinstance (pa_cons pa (pa_cons (pe_bltn (v := .ty U) hgT hmT hbT rfl hnT hdT) pa_nil he2) he) (by decide) (by decide) he hpl, fun F H0 ρ σ H S R Q st po => ?_⟩
  refine qa F H0 ρ σ H S R _ st ((PostE.iff.mp po).bind.imp fun d _ po => ?_)
  intro x H1 B s1 d1
  obtain ⟨z, ez, po⟩ := PostE.ofO (PostE.iff.mpr po)
  have hj : d.known = true := by cases d <;> first | rfl | cases ez
  have ez : (kitB d.ty U).map D.bl = some z := by cases d <;> first | exact ez | cases hj
  cases ek : kitB d.ty U with
  | none => rw [ek] at ez; cases ez
  | some b =>
    rw [ek] at ez
    cases ez
    exact isi_at hj d1 ek (PostV.flat (PostV.later po s1) rfl dat_of_bl)
end

def cutD {α : Type} (l : List α) (lo hi : Option Int) : List α := (l.drop (HT.sIx l.length 0 lo)).take (HT.sIx l.length l.length hi - HT.sIx l.length 0 lo)
def gSl (d : D) (lo hi : Option Int) : Option D := match d with
  | .lst l => some (.lst (cutD l lo hi))
  | .tup l => some (.tup (cutD l lo hi))
  | .scr l => some (.lst ((cutD l lo hi).map .int))
  | .str s => if s.length ≤ sizeLine then some (.str (cutS s lo hi)) else none
  | _ => none
def ROp (X : Cx) (W : WX) (Γ : List Nat) (e : Option Expr) (m : Rho → Res (Option Int)) : Prop :=
  ∃ t, PO X e t ∧ ∀ F H0 ρ σ H S R Q, Sto X.K F H0 Γ ρ σ H S R → PostX X W σ H (fun o => ∀ H', Same H H' → Q o H') (m ρ) → t σ H Q
def ofI : D → Res (Option Int)
  | .int i => .ok (some i)
  | _ => .stuck
def oNo : Rho → Res (Option Int) := fun _ => .ok none
def oYes (m : Rho → Res D) : Rho → Res (Option Int) := fun ρ => (m ρ).bind ofI
def mSl (a : Rho → Res D) (lo hi : Rho → Res (Option Int)) : Rho → Res D := fun ρ => (a ρ).bind fun d => (lo ρ).bind fun l => (hi ρ).bind fun h => ofO (gSl d l h)
theorem Dats.drop {K : PySem.W.Frag} {H : Hp} : ∀ {ds : List D} {xs : List V} {R : List Addr} (k : Nat), Dats K H ds 0 xs [] R → ∃ R', Dats K H (ds.drop k) 0 (xs.drop k) [] R' ∧ ∀ a ∈ R', a ∈ R
  | ds, xs, R, 0, h => ⟨R, by simpa using h, fun _ z => z⟩
  | [], xs, R, k + 1, h => by
    simp only [Dats] at h
    obtain ⟨rfl, _, rfl⟩ := h
    exact ⟨[], by simpa using Dats.nil, fun a z => z⟩
  | d :: ds, xs, R, k + 1, h => by
    unfold Dats at h
    obtain ⟨x, xs', S1, S2, R1, R2, rfl, e0, rfl, h1, h2⟩ := h
    obtain ⟨rfl, rfl⟩ := List.append_eq_nil_iff.mp e0.symm
    obtain ⟨R', q, i⟩ := Dats.drop k h2
    exact ⟨R', q, fun a z => List.mem_append_right _ (i a z)⟩
theorem Dats.take {K : PySem.W.Frag} {H : Hp} : ∀ {ds : List D} {xs : List V} {R : List Addr} (k : Nat), Dats K H ds 0 xs [] R → ∃ R', Dats K H (ds.take k) 0 (xs.take k) [] R' ∧ ∀ a ∈ R', a ∈ R
  | ds, xs, R, 0, h => ⟨[], by simpa using Dats.nil, fun _ z => by simp at z⟩
  | [], xs, R, k + 1, h => by
    simp only [Dats] at h
    obtain ⟨rfl, _, rfl⟩ := h
    exact ⟨[], by simpa using Dats.nil, fun a z => z⟩
  | d :: ds, xs, R, k + 1, h => by
    unfold Dats at h
    obtain ⟨x, xs', S1, S2, R1, R2, rfl, e0, rfl, h1, h2⟩ := h
    obtain ⟨rfl, rfl⟩ := List.append_eq_nil_iff.mp e0.symm
    obtain ⟨R', q, i⟩ := Dats.take k h2
    refine ⟨R1 ++ R', Dats.cons (S1 := []) (S2 := []) h1 q, fun a z => ?_⟩
    rcases List.mem_append.mp z with z | z
    · exact List.mem_append_left _ z
    · exact List.mem_append_right _ (i a z)
theorem Dats.cut {K : PySem.W.Frag} {H : Hp} {ds : List D} {xs : List V} {R : List Addr} (lo hi : Option Int) (h : Dats K H ds 0 xs [] R) : ∃ R', Dats K H (cutD ds lo hi) 0 (cutV xs lo hi) [] R' ∧ ∀ a ∈ R', a ∈ R := by
  unfold cutD cutV
  rw [h.length]
  obtain ⟨R1, q1, i1⟩ := Dats.drop (HT.sIx ds.length 0 lo) h
  obtain ⟨R2, q2, i2⟩ := Dats.take (HT.sIx ds.length ds.length hi - HT.sIx ds.length 0 lo) q1
  exact ⟨R2, q2, fun a z => i1 a (i2 a z)⟩
theorem SlR.or {X : Cx} {r r' : V → Option Int → Option Int → Hp → VK → Prop} (h : SlR X r) (h' : SlR X r') : SlR X (fun x lo hi H Q => r x lo hi H Q ∨ r' x lo hi H Q) :=
  fun pins s σ H x v vl vu lo hi sl Q I rx hs pl pu q => q.elim (h pins s σ H x v vl vu lo hi sl Q I rx hs pl pu) (h' pins s σ H x v vl vu lo hi sl Q I rx hs pl pu)
section
variable {X : Cx} {W : WX} {Γ : List Nat} {n : Nat} {e : Expr} {lo hi : Option Expr} {pos p2 : Pos} {me : Rho → Res D} {ml mh : Rho → Res (Option Int)}
theorem ro_no : ROp X W Γ none oNo := ⟨_, po_none, fun F H0 ρ σ H S R Q st po => po H (Same.refl H)⟩
theorem ro_yes (h : RE X W Γ 0 true e me) : ROp X W Γ (some e) (oYes me) := by
  obtain ⟨t, p, q⟩ := h
  refine ⟨_, po_some p, fun F H0 ρ σ H S R Q st po => ?_⟩
  refine q F H0 ρ σ H S R _ st (PostE.iff.mpr (po.bind.imp fun d _ po => ?_))
  intro x H1 A B s1 d1 _ _
  cases d with
  | int i => exact ⟨i, dat_int d1, po H1 s1⟩
  | _ => exact po.elim
theorem sl_at {K : PySem.W.Frag} {Z : Addr → Prop} {H : Hp} {d z : D} {x : V} {B : List Addr} {l h : Option Int} {Q : VK} {n : Nat} (hn : n ≤ 1) (hz : ∀ a, Z a → H a ≠ none) (hd : Dat K H d 0 x [] B) (hb : ∀ a ∈ B, ¬ Z a) (ez : gSl d l h = some z) (po : PostV K Z n true H Q z) :
    (rSlL K x l h H Q ∨ rSlS x l h H Q) ∨ rSlA K x l h H Q := by
  have e0 : n - 1 = 0 := by omega
  unfold gSl at ez
  split at ez
  · rename_i ds
    cases ez
    obtain ⟨a, xs, R', rfl, q, rfl, dd⟩ := dat_lst0 hd
    obtain ⟨R2, g, i⟩ := dd.cut l h
    exact .inl (.inl ⟨a, xs, rfl, .of q, fun p hp => new_lst po hp (B := R2) (by rw [e0]; exact g) (fun b hb' => hb b (List.mem_cons_of_mem _ (i b hb'))) hz⟩)
  · rename_i ds
    cases ez
    obtain ⟨a, xs, rfl, q, dd⟩ := dat_tup0 hd
    obtain ⟨R2, g, i⟩ := dd.cut l h
    refine .inr ⟨a, xs, rfl, .of q, fun hw => ?_, fun hw p hp => new_tup po hp (B := R2) (by rw [e0]; exact g) fun b hb' => hb b (i b hb')⟩
    have ew : cutD ds l h = ds := by
      have hl := dd.length
      unfold cutD
      rw [← hl, hw.1, hw.2, List.drop_zero, Nat.sub_zero, hl, List.take_length]
    refine po (.ref a) H [] B (Same.refl H) ?_ hb fun _ => New.nil
    rw [ew]
    unfold Dat
    exact ⟨a, xs, rfl, q, by rw [e0]; exact dd⟩
  · rename_i ds
    cases ez
    unfold Dat at hd
    obtain ⟨⟨a, rfl, q⟩, _, rfl⟩ := hd
    refine .inl (.inl ⟨a, ds.map V.int, rfl, q.sq, fun p hp => ?_⟩)
    have ec : cutV (ds.map V.int) l h = (cutD ds l h).map V.int := by
      unfold cutV cutD
      rw [List.length_map, List.map_take, List.map_drop]
    rw [ec]
    refine new_lst po hp (B := []) ?_ (fun b hb' => by simp at hb') hz
    rw [e0]
    generalize cutD ds l h = l2
    induction l2 with
    | nil => exact .nil
    | cons a r ih => exact Dats.cons (S1 := []) (R1 := []) (dat_of_int 0) ih
  · rename_i s
    split at ez
    · rename_i hl
      cases ez
      rw [dat_str hd]
      exact .inl (.inr ⟨s, rfl, hl, PostV.flat po rfl dat_of_str⟩)
    · cases ez
  · cases ez
theorem re_sl (he : RE X W Γ 0 true e me) (hl : ROp X W Γ lo ml) (hh : ROp X W Γ hi mh) (hn : n ≤ 1 := by decide) : RE X W Γ n true (.Subscript e (.Slice lo hi none p2) pos) (mSl me ml mh) := by
  obtain ⟨ta, pa, qa⟩ := he
  obtain ⟨tb, pb, qb⟩ := hl
  obtain ⟨tc, pc, qc⟩ := hh
  refine ⟨_, pe_slice (SlR.or (SlR.or sl_list sl_str) sl_tupA) pa pb pc, fun F H0 ρ σ H S R Q st po => ?_⟩
  unfold mSl at po
  refine qa F H0 ρ σ H S R _ st (PostE.iff.mpr ((PostE.iff.mp po).bind.imp fun d _ po => ?_))
  intro x H1 A B s1 d1 v1 _
  obtain rfl : A = [] := Dat.noS d1
  refine qb F H0 ρ σ H1 S R _ (st.grow s1) (po.bind.later s1 fun l _ po H2 s2 => ?_)
  refine qc F H0 ρ σ H2 S R _ ((st.grow s1).grow s2) (po.bind.later (s1.trans s2) fun h _ po H3 s3 => ?_)
  obtain ⟨z, ez, po⟩ := PostE.ofO (PostE.iff.mpr po)
  exact sl_at hn (((st.grow s1).grow s2).grow s3).avd ((d1.same s2).same s3) v1 ez (PostV.later po ((s1.trans s2).trans s3))
end
def spM (K : PySem.W.Frag) (mg : Str → Option Value) (n ar : Nat) (m : List D → Res D) : Sp := fun vs H Q E => vs.length = ar ∧ ∃ (ds : List D) (F : Addr → Prop) (R : List Addr), (∀ a, F a → H a ≠ none) ∧ Dats K H ds 0 vs [] R ∧ (∀ a ∈ R, ¬ F a) ∧
  match m ds with
  | .ok d => PostV K F n true H Q d
  | .exn c => ∀ C H', mg c = some (.ref C) → Same H H' → E (.ref C) none H'
  | .stuck => False
structure FnG (P : Program) (w : World) (K : PySem.W.Frag) (mg : Str → Option Value) (base : Heap) (x : Str) (k n ar : Nat) (m : List D → Res D) : Prop where
  ex : ∃ (f : Addr) (fd : FuncData) (ps : List Str), FnOk P w K mg base (L2.CX P w) k f fd ps (spM K mg n ar m) ∧ mg x = some (.ref f) ∧ PySem.W.keepIn K (.ref f) = true ∧ Binds K fd ps []
theorem FnG.mono {P : Program} {w : World} {K : PySem.W.Frag} {mg : Str → Option Value} {base : Heap} {x : Str} {j k n ar : Nat} {m : List D → Res D} (h : FnG P w K mg base x j n ar m) (hk : j ≤ k) : FnG P w K mg base x k n ar m := by
  obtain ⟨f, fd, ps, F, r⟩ := h.ex
  exact ⟨f, fd, ps, F.mono hk, r⟩
section
variable {X : Cx} {W : WX} {Γ : List Nat} {n nf k ar : Nat} {e : Expr} {es : List Expr} {x : Str} {p pos : Pos} {ma : Rho → Res (List D)} {m : List D → Res D}
theorem re_call (h : FnG X.prog X.w X.K X.mg X.base x k nf ar m) (hr : Room k X.A) (tk : Takes X W) (ha : RA X W Γ 0 true (e :: es) ma) (hl : (e :: es).length = ar := by rfl) (hn : n ≤ nf := by decide) (hg : Gl X x := by rfl)
    (hdb : (x == ("__debug__" : Str)) = false := by decide) (he : starEach (e :: es) X.env = (false, eval e X.env) :: starEach es X.env := by rfl) (hpl : (backTo pos (starEach es X.env)).any (·.1) = false := by rfl) :
    RE X W Γ n true (.Call (.Name x p) (e :: es) [] pos) (mArgs m ma) := by
  refine RE.w ?_ hn
  obtain ⟨f, fd, ps, F, hm, hk, hb⟩ := h.ex
  obtain ⟨la, ta, pa, qa⟩ := ha
  have har : ∀ ρ ds, ma ρ = .ok ds → ds.length = ar := fun ρ ds q => (la ρ ds q).trans hl
  refine ⟨_, pe_callS F hr hg hm hk hb (fun σ => passAt tk σ) pa hdb he hpl, fun F' H0 ρ σ H S R Q st po => ?_⟩
  refine qa F' H0 ρ σ H S R _ st (PostA.iff.mpr ((PostE.iff.mp po).bind.imp fun ds eds po => ?_))
  intro xs H1 A B s1 d1 v1 _
  obtain rfl : A = [] := Dats.noS d1
  refine ⟨by rw [d1.length]; exact har ρ ds eds, ds, Av F' S, B, (st.grow s1).avd, d1, v1, ?_⟩
  cases em : m ds with
  | ok d => rw [em] at po; exact PostV.later po s1
  | exn c => rw [em] at po; exact fun C H' hc s2 => po C H' hc (s1.trans s2)
  | stuck => rw [em] at po; exact po
end
end TW
-- TWStm
namespace TW
open PySem PySem.Spec PyProof.Rows L2

section
variable {K : PySem.W.Frag} {H : Hp}
mutual
theorem Dat.mut : ∀ {d : D} {n : Nat} {v : V} {S R : List Addr}, Dat K H d n v S R → ∀ a ∈ S, Mut (H a)
  | .non, _, _, _, _, h, a, z => by simp only [Dat] at h; rw [h.2.1] at z; simp at z
  | .bl _, _, _, _, _, h, a, z => by simp only [Dat] at h; rw [h.2.1] at z; simp at z
  | .int _, _, _, _, _, h, a, z => by simp only [Dat] at h; rw [h.2.1] at z; simp at z
  | .str _, _, _, _, _, h, a, z => by simp only [Dat] at h; rw [h.2.1] at z; simp at z
  | .junk, _, _, _, _, h, a, z => by simp only [Dat] at h; rw [h.1] at z; simp at z
  | .ins _ _ _, 0, _, _, _, h, a, z => by rw [Dat.noS h] at z; simp at z
  | .ins _ _ _, n + 1, _, _, _, h, a, z => by
    simp only [Dat] at h
    obtain ⟨b, dx, x, y, S1, S2, R1, R2, rfl, q, qd, rfl, rfl, h1, h2⟩ := h
    rcases List.mem_cons.mp z with rfl | z
    · rw [q]; trivial
    · rcases List.mem_append.mp z with z | z
      · exact Dat.mut h1 a z
      · exact Dat.mut h2 a z
  | .scr _, _, _, _, _, h, a, z => by simp only [Dat] at h; rw [h.2.1] at z; simp at z
  | .lst ds, 0, _, _, _, h, a, z => by rw [Dat.noS h] at z; simp at z
  | .lst ds, n + 1, _, _, _, h, a, z => by
    simp only [Dat] at h
    obtain ⟨b, xs, S', rfl, q, rfl, hd⟩ := h
    rcases List.mem_cons.mp z with rfl | z
    · rw [q]; trivial
    · exact Dats.mut hd a z
  | .tup ds, n, _, _, _, h, a, z => by
    simp only [Dat] at h
    obtain ⟨b, xs, rfl, q, hd⟩ := h
    exact Dats.mut hd a z
  | .ftup ds, n, _, _, _, h, a, z => by
    simp only [Dat] at h
    obtain ⟨b, xs, rfl, q, hd⟩ := h
    exact Dats.mut hd a z
  | .dK _ ds, 0, _, _, _, h, a, z => by rw [Dat.noS h] at z; simp at z
  | .dK _ ds, n + 1, _, _, _, h, a, z => by
    simp only [Dat] at h
    obtain ⟨b, xs, S', rfl, q, _, rfl, hd⟩ := h
    rcases List.mem_cons.mp z with rfl | z
    · rw [q]; trivial
    · exact Dats.mut hd a z
  | .dT _ ds, 0, _, _, _, h, a, z => by rw [Dat.noS h] at z; simp at z
  | .dT _ ds, n + 1, _, _, _, h, a, z => by
    simp only [Dat] at h
    obtain ⟨b, xs, S', rfl, q, _, rfl, hd⟩ := h
    rcases List.mem_cons.mp z with rfl | z
    · rw [q]; trivial
    · exact Dats.mut hd a z
theorem Dats.mut : ∀ {ds : List D} {n : Nat} {xs : List V} {S R : List Addr}, Dats K H ds n xs S R → ∀ a ∈ S, Mut (H a)
  | [], _, _, _, _, h, a, z => by simp only [Dats] at h; rw [h.2.1] at z; simp at z
  | d :: ds, n, _, _, _, h, a, z => by
    simp only [Dats] at h
    obtain ⟨x, xs', S1, S2, R1, R2, rfl, rfl, rfl, h1, h2⟩ := h
    rcases List.mem_append.mp z with z | z
    · exact Dat.mut h1 a z
    · exact Dats.mut h2 a z
end
end
section
variable {K : PySem.W.Frag} {F : Fr} {H0 H H' : Hp} {Γ Γ' : List Nat} {ρ : Rho} {σ : L2.St} {S R : Nat → List Addr}
theorem Sto.mut (h : Sto K F H0 Γ ρ σ H S R) (i : Nat) : ∀ a ∈ S i, Mut (H a) := fun a ha => by
  by_cases e : ∃ d, ρ[i]? = some (some d)
  · obtain ⟨d, e⟩ := e
    obtain ⟨x, _, q⟩ := h.slot i d e
    exact Dat.mut q a ha
  · rw [(h.emp i fun d q => e ⟨d, q⟩).1] at ha
    simp at ha
theorem Sto.stay (h : Sto K F H0 Γ ρ σ H S R) (k : Keep S H H') {B : List Addr} (hb : ∀ a ∈ B, ¬ Av F S a) : Stay H H' [] B where
  tup := fun b xs q => k b _ q fun i hi => by have := h.mut i b hi; rw [q] at this; exact this
  frz := fun b o xs q => k b _ q fun i hi => by have := h.mut i b hi; rw [q] at this; exact this
  scr := fun b o xs q => k b _ q fun i hi => by have := h.mut i b hi; rw [q] at this; exact this
  own := fun b hb' => by simp at hb'
  res := fun b hb' o q => k b o q fun i hi => hb b hb' (.inr ⟨i, hi⟩)
theorem Sto.set {i n : Nat} {d : D} {x : V} {A B : List Addr} (h : Sto K F H0 Γ ρ σ H S R) (hi : i < Γ.length ∨ n = 0 ∧ Γ.getD i 0 = 0) (hd : Dat K H d n x A B) (hb : ∀ a ∈ B, ¬ Av F S a) (nd : A.Nodup)
    (new : ∀ a ∈ A, H0 a = none) (nF : ∀ a ∈ A, ¬ F a) (nS : ∀ a ∈ A, ∀ j, a ∉ S j) (nR : ∀ a ∈ A, ∀ j, a ∉ R j) (nB : ∀ a ∈ A, a ∉ B) (hp : Γ.getD i 0 ≠ 99) :
    ∃ S' R', Sto K F H0 (Γ.set i n) (ρ.set i (some d)) (σ.set i (some x)) H S' R' ∧ (∀ j a, a ∈ S' j → a ∈ S j ∨ a ∈ A) := by
  have pin : ∀ j v, F.pin j = some v → (Γ.set i n).getD j 0 = 99 ∧ (σ.set i (some x))[j]? = some (some v) := fun j v q => by
    obtain ⟨p1, p2⟩ := h.pin j v q
    have hj : i ≠ j := fun z => hp (by rw [z]; exact p1)
    exact ⟨by rw [List.getD_eq_getElem?_getD, List.getElem?_set_ne hj, ← List.getD_eq_getElem?_getD]; exact p1, by rw [List.getElem?_set_ne hj]; exact p2⟩
  by_cases hl : i < ρ.length
  · refine ⟨fun j => if j = i then A else S j, fun j => if j = i then B else R j, ⟨h.same, by simp [h.len], fun j e q => ?_, fun j q => ?_, fun j a ha => ?_, fun j => ?_, fun j k hjk a ha hk => ?_, fun j k a ha hk => ?_, fun j a ha => ?_, fun j a ha => ?_, h.fd, pin⟩, fun j a ha => ?_⟩
    · by_cases hj : j = i
      · subst hj
        rw [List.getElem?_set_self hl] at q
        cases q
        refine ⟨x, by rw [List.getElem?_set_self (by rw [h.len]; exact hl)], ?_⟩
        rw [if_pos rfl, if_pos rfl]
        have eg : (Γ.set j n).getD j 0 = n := by
          rcases hi with hi | ⟨rfl, hi⟩
          · rw [List.getD_eq_getElem?_getD, List.getElem?_set_self hi]; rfl
          · rw [List.getD_eq_getElem?_getD] at hi ⊢
            by_cases hg : j < Γ.length
            · rw [List.getElem?_set_self hg]; rfl
            · rw [List.getElem?_eq_none (by simp; omega)]; rfl
        rw [eg]
        exact hd
      · rw [List.getElem?_set_ne (Ne.symm hj)] at q
        obtain ⟨y, e1, e2⟩ := h.slot j e q
        refine ⟨y, by rw [List.getElem?_set_ne (Ne.symm hj)]; exact e1, ?_⟩
        rw [if_neg hj, if_neg hj, show (Γ.set i n).getD j 0 = Γ.getD j 0 by rw [List.getD_eq_getElem?_getD, List.getD_eq_getElem?_getD, List.getElem?_set_ne (Ne.symm hj)]]
        exact e2
    · by_cases hj : j = i
      · subst hj
        exact absurd (List.getElem?_set_self hl) (q d)
      · rw [if_neg hj, if_neg hj]
        refine h.emp j fun e q' => q e ?_
        rw [List.getElem?_set_ne (Ne.symm hj)]
        exact q'
    · split at ha
      · exact new a ha
      · exact h.new j a ha
    · split
      · exact nd
      · exact h.nd j
    · split at ha
      · split at hk
        · omega
        · exact nS a ha k hk
      · split at hk
        · exact nS a hk j ha
        · exact h.dj j k hjk a ha hk
    · split at ha
      · split at hk
        · exact nB a hk ha
        · exact hb a ha (.inr ⟨k, hk⟩)
      · split at hk
        · exact nR a hk j ha
        · exact h.rs j k a ha hk
    · split at ha
      · exact fun z => hb a ha (.inl z)
      · exact h.rf j a ha
    · split at ha
      · exact nF a ha
      · exact h.sf j a ha
    · dsimp only at ha
      split at ha
      · exact .inr ha
      · exact .inl ha
  · have e1 : ρ.set i (some d) = ρ := List.set_eq_of_length_le (by omega)
    have e2 : σ.set i (some x) = σ := List.set_eq_of_length_le (by rw [h.len]; omega)
    rw [e1, e2]
    rw [e2] at pin
    refine ⟨S, R, ?_, fun j a ha => .inl ha⟩
    refine ⟨h.same, h.len, fun j e q => ?_, h.emp, h.new, h.nd, h.dj, h.rs, h.rf, h.sf, h.fd, pin⟩
    have hj : j ≠ i := fun z => by
      subst z
      rw [List.getElem?_eq_none (by omega)] at q
      cases q
    rw [show (Γ.set i n).getD j 0 = Γ.getD j 0 by rw [List.getD_eq_getElem?_getD, List.getD_eq_getElem?_getD, List.getElem?_set_ne (Ne.symm hj)]]
    exact h.slot j e q
theorem Sto.frz (h : Sto K F H0 Γ ρ σ H S R) (i : Nat) (hi : i < Γ.length) (hp : Γ.getD i 0 ≠ 99) : ∃ S' R', Sto K F H0 (Γ.set i 0) ρ σ H S' R' ∧ ∀ j a, a ∈ S' j → a ∈ S j := by
  have pin : ∀ j v, F.pin j = some v → (Γ.set i 0).getD j 0 = 99 ∧ σ[j]? = some (some v) := fun j v q => by
    obtain ⟨p1, p2⟩ := h.pin j v q
    have hj : i ≠ j := fun z => hp (by rw [z]; exact p1)
    exact ⟨by rw [List.getD_eq_getElem?_getD, List.getElem?_set_ne hj, ← List.getD_eq_getElem?_getD]; exact p1, p2⟩
  by_cases e : ∃ d, ρ[i]? = some (some d)
  · obtain ⟨d, e⟩ := e
    obtain ⟨x, e1, q⟩ := h.slot i d e
    obtain ⟨S1, R1, g, sl, hr⟩ := Dat.weak d _ 0 x _ _ (Nat.zero_le _) q
    obtain rfl : S1 = [] := Dat.noS g
    have eg : (Γ.set i 0).getD i 0 = 0 := by rw [List.getD_eq_getElem?_getD, List.getElem?_set_self hi]; rfl
    have eo : ∀ j, j ≠ i → (Γ.set i 0).getD j 0 = Γ.getD j 0 := fun j hj => by rw [List.getD_eq_getElem?_getD, List.getD_eq_getElem?_getD, List.getElem?_set_ne (Ne.symm hj)]
    have sub : ∀ j a, a ∈ (if j = i then [] else S j) → a ∈ S j := fun j a ha => by
      split at ha
      · simp at ha
      · exact ha
    have dis : ∀ a ∈ R1, ∀ j, a ∉ (if j = i then [] else S j) := fun a ha j hj => by
      split at hj
      · simp at hj
      · rename_i hji
        rcases hr a ha with z | z
        · exact h.dj i j (Ne.symm hji) a z hj
        · exact h.rs i j a z hj
    refine ⟨fun j => if j = i then [] else S j, fun j => if j = i then R1 else R j, ⟨h.same, h.len, fun j e' q' => ?_, fun j q' => ?_, fun j a ha => h.new j a (sub j a ha), fun j => ?_, fun j l hjl a ha hl => h.dj j l hjl a (sub j a ha) (sub l a hl), fun j l a ha hl => ?_, fun j a ha => ?_, fun j a ha => h.sf j a (sub j a ha), h.fd, pin⟩, sub⟩
    · by_cases hj : j = i
      · subst hj
        rw [e] at q'; cases q'
        rw [if_pos rfl, if_pos rfl, eg]
        exact ⟨x, e1, g⟩
      · rw [if_neg hj, if_neg hj, eo j hj]
        exact h.slot j e' q'
    · by_cases hj : j = i
      · subst hj
        exact absurd e (q' d)
      · rw [if_neg hj, if_neg hj]
        exact h.emp j q'
    · split
      · exact (h.nd i).sublist sl
      · exact h.nd j
    · split at ha
      · exact dis a ha l hl
      · exact h.rs j l a ha (sub l a hl)
    · split at ha
      · rcases hr a ha with ha | ha
        · exact h.sf i a ha
        · exact h.rf i a ha
      · exact h.rf j a ha
  · refine ⟨S, R, ⟨h.same, h.len, fun j e' q' => ?_, h.emp, h.new, h.nd, h.dj, h.rs, h.rf, h.sf, h.fd, pin⟩, fun _ _ z => z⟩
    have hj : j ≠ i := fun z => e ⟨e', z ▸ q'⟩
    rw [show (Γ.set i 0).getD j 0 = Γ.getD j 0 by rw [List.getD_eq_getElem?_getD, List.getD_eq_getElem?_getD, List.getElem?_set_ne (Ne.symm hj)]]
    exact h.slot j e' q'
end

def Res.out {α : Type} (m : Res α) (ρ : Rho) (f : α → Out) : Out := match m with
  | .ok a => f a
  | .exn c => .ex c ρ
  | .stuck => .stuck
@[simp] theorem Res.out_ok {α : Type} (a : α) (ρ : Rho) (f : α → Out) : (Res.ok a).out ρ f = f a := id rfl
@[simp] theorem Res.out_exn {α : Type} (c : Str) (ρ : Rho) (f : α → Out) : (Res.exn c : Res α).out ρ f = .ex c ρ := id rfl
@[simp] theorem Res.out_stuck {α : Type} (ρ : Rho) (f : α → Out) : (Res.stuck : Res α).out ρ f = .stuck := id rfl
def sSet (i : Nat) (m : Rho → Res D) : Rho → Out := fun ρ => (m ρ).out ρ fun d => .nx (ρ.set i (some d))
def sRet (m : Rho → Res D) : Rho → Out := fun ρ => (m ρ).out ρ fun d => .rt d
def sDo (m : Rho → Res D) : Rho → Out := fun ρ => (m ρ).out ρ fun _ => .nx ρ
def sIf (c : Rho → Res Bool) (a b : Rho → Out) : Rho → Out := fun ρ => (c ρ).out ρ fun k => if k = true then a ρ else b ρ
def Out.bind (o : Out) (f : Rho → Out) : Out := match o with
  | .nx ρ => f ρ
  | o => o
def sSeq (a b : Rho → Out) : Rho → Out := fun ρ => (a ρ).bind b
def sNil : Rho → Out := fun ρ => .nx ρ
def forL (f : D → Rho → Option Rho) (b : Rho → Out) : List D → Rho → Out
  | [], ρ => .nx ρ
  | d :: ds, ρ => match f d ρ with
    | some ρ' => (b ρ').bind (forL f b ds)
    | none => .stuck
def sFor (f : D → Rho → Option Rho) (it : Rho → Res (List D)) (b : Rho → Out) : Rho → Out := fun ρ => (it ρ).out ρ fun ds => forL f b ds ρ
section
variable {X : Cx} {W : WX} {n : Nat} {Γ Γ1 Γ2 : List Nat} {F : Fr} {S : Nat → List Addr} {H H' H0 : Hp} {σ : L2.St} {E : Ends} {ρ : Rho}
theorem PostS.ofR {α : Type} {Γ' : List Nat} {m : Res α} {R : Nat → List Addr} {Hc : Hp} {f : α → Out} (st : Sto X.K F H0 Γ ρ σ Hc S R)
    (h : PostS X W F H0 Γ' n S H E (m.out ρ f)) (sm : Same H Hc := by first | exact Same.refl _ | assumption) : PostX X W σ Hc (fun d => PostS X W F H0 Γ' n S H E (f d)) m := by
  cases m with
  | ok d => exact h
  | exn c =>
    refine fun C H' hc s => ?_
    obtain ⟨S', R', st', eS⟩ : ∃ S' R', Sto X.K F.un H0 [] ρ σ H' S' R' ∧ ∀ i, S' i = [] := by
      have st1 := st.grow s
      have q : ∀ i : Nat, ∃ R1 : List Addr, (∀ d, ρ[i]? = some (some d) → ∃ x, σ[i]? = some (some x) ∧ Dat X.K H' d 0 x [] R1) ∧ (∀ a ∈ R1, ¬ F a) ∧ ((∀ d, ρ[i]? ≠ some (some d)) → R1 = []) := fun i => by
        by_cases e : ∃ d, ρ[i]? = some (some d)
        · obtain ⟨d, e⟩ := e
          obtain ⟨x, e1, g⟩ := st1.slot i d e
          obtain ⟨S1, R1, g, sl, hr⟩ := Dat.weak d _ 0 x _ _ (Nat.zero_le _) g
          obtain rfl : S1 = [] := Dat.noS g
          refine ⟨R1, fun d' e' => ?_, fun a ha => ?_, fun z => absurd e (z d)⟩
          · rw [e] at e'; cases e'
            exact ⟨x, e1, g⟩
          · rcases hr a ha with ha | ha
            · exact st1.sf i a ha
            · exact st1.rf i a ha
        · exact ⟨[], fun d e' => absurd ⟨d, e'⟩ e, fun a z => by simp at z, fun _ => rfl⟩
      refine ⟨fun _ => [], fun i => Classical.choose (q i), ⟨st1.same, st1.len, fun i d e => ?_, fun i z => ?_, fun i a z => by simp at z, fun i => List.nodup_nil, fun i j _ a z => by simp at z, fun i j a _ z => by simp at z, fun i a ha => ?_, fun i a z => by simp at z, st1.fd, fun i v q => nomatch q⟩, fun i => rfl⟩
      · exact (Classical.choose_spec (q i)).1 d e
      · exact ⟨rfl, (Classical.choose_spec (q i)).2.2 z⟩
      · exact (Classical.choose_spec (q i)).2.1 a ha
    exact h C σ H' S' R' hc st' (Keep.of_same (sm.trans s)) fun i a ha => by rw [eS i] at ha; simp at ha
  | stuck => exact h
theorem rss_nil : RSs X W n Γ Γ [] sNil := by
  refine ⟨_, pss_nil, fun F H0 ρ σ H S R E st po => ?_⟩
  exact po σ H S R st Keep.refl Grow.refl
theorem rss_cons {st : Stmt} {rest : List Stmt} {m m' : Rho → Out} (h1 : RS X W n Γ Γ1 st m) (h2 : RSs X W n Γ1 Γ2 rest m') : RSs X W n Γ Γ2 (st :: rest) (sSeq m m') := by
  obtain ⟨ta, pa, qa⟩ := h1
  obtain ⟨tb, pb, qb⟩ := h2
  refine ⟨_, pss_cons pa pb, fun F H0 ρ σ H S R E st po => ?_⟩
  refine qa F H0 ρ σ H S R _ st ?_
  unfold sSeq at po
  cases e : m ρ with
  | nx ρ' =>
    rw [e] at po
    exact fun σ' H' S' R' st' k g => qb F H0 ρ' σ' H' S' R' E st' (PostS.later po k g)
  | rt d => rw [e] at po; exact po
  | ex c ρ' => rw [e] at po; exact po
  | stuck => rw [e] at po; exact po
theorem rss_one {st : Stmt} {m : Rho → Out} (h : RS X W n Γ Γ1 st m) : RSs X W n Γ Γ1 [st] m := by
  obtain ⟨t, p, q⟩ := h
  exact ⟨t, pss_one p, q⟩
theorem rss_frz {sts : List Stmt} {m : Rho → Out} (i : Nat) (h : RSs X W n (Γ.set i 0) Γ2 sts m) (hi : i < Γ.length := by decide) (hp : Γ.getD i 0 ≠ 99 := by decide) : RSs X W n Γ Γ2 sts m := by
  obtain ⟨t, p, q⟩ := h
  refine ⟨t, p, fun F H0 ρ σ H S R E st po => ?_⟩
  obtain ⟨S', R', st', sub⟩ := st.frz i hi hp
  exact q F H0 ρ σ H S' R' E st' (PostS.later po Keep.refl fun j a ha => .inl ⟨j, sub j a ha⟩)
theorem rss_fz {sts : List Stmt} {m : Rho → Out} (i : Nat) (h : RSs X W n Γ Γ1 sts m) (hi : i < Γ1.length := by decide) (hp : Γ1.getD i 0 ≠ 99 := by decide) (hΓ : Γ1.set i 0 = Γ2 := by rfl) : RSs X W n Γ Γ2 sts m := by
  subst hΓ
  obtain ⟨t, p, q⟩ := h
  refine ⟨t, p, fun F H0 ρ σ H S R E st po => q F H0 ρ σ H S R E st ?_⟩
  cases e : m ρ with
  | nx ρ' =>
    rw [e] at po
    refine fun σ' H' S' R' st' k g => ?_
    obtain ⟨S2, R2, st2, sub⟩ := st'.frz i hi hp
    exact po σ' H' S2 R2 st2 k fun j a ha => g j a (sub j a ha)
  | rt d => rw [e] at po; exact po
  | ex c ρ' => rw [e] at po; exact po
  | stuck => rw [e] at po; exact po
theorem rs_if {c : Expr} {a b : List Stmt} {pos : Pos} {mc : Rho → Res Bool} {ma mb : Rho → Out} (hc : RT X W Γ c mc) (ha : RSs X W n Γ Γ1 a ma) (hb : RSs X W n Γ Γ1 b mb) : RS X W n Γ Γ1 (.If c a b pos) (sIf mc ma mb) := by
  obtain ⟨tc, pc, qc⟩ := hc
  obtain ⟨ta, pa, qa⟩ := ha
  obtain ⟨tb, pb, qb⟩ := hb
  refine ⟨_, ps_if pc pa pb, fun F H0 ρ σ H S R E st po => ?_⟩
  refine qc F H0 ρ σ H S R _ st (PostT.iff.mpr ((PostS.ofR st po).imp fun d _ po H1 s1 => ?_))
  cases d with
  | true => exact iteT (qa F H0 ρ σ H1 S R E (st.grow s1) (PostS.later po (Keep.of_same s1) Grow.refl))
  | false => exact iteF (qb F H0 ρ σ H1 S R E (st.grow s1) (PostS.later po (Keep.of_same s1) Grow.refl))
theorem rs_ret {e : Expr} {pos : Pos} {m : Rho → Res D} (h : RE X W Γ n true e m) (hn : n < 1000 := by decide) : RS X W n Γ Γ1 (.Return (some e) pos) (sRet m) := by
  obtain ⟨t, p, q⟩ := h
  refine ⟨_, ps_ret p, fun F H0 ρ σ H S R E st po => ?_⟩
  refine q F H0 ρ σ H S R _ st (PostE.iff.mpr ((PostS.ofR st po).imp fun d _ po => ?_))
  intro x H1 A B s1 d1 v1 f1
  exact po.lo hn x H1 A B (st.same.trans s1) d1 ((f1 rfl).later st.same) fun a ha z => v1 a ha (.inl z)
theorem rs_retO {e : Expr} {pos : Pos} {i : Nat} (h : PE X e (tVar i)) (hn : Γ.getD i 0 = n := by rfl) (hn2 : n < 1000 := by decide) : RS X W n Γ Γ1 (.Return (some e) pos) (sRet (mVar i)) := by
  refine ⟨_, ps_ret h, fun F H0 ρ σ H S R E st po => ?_⟩
  unfold sRet mVar at po
  split at po
  · rename_i d e
    obtain ⟨x, e1, g⟩ := st.slot i d e
    rw [hn] at g
    exact ⟨x, e1, po.lo hn2 x H (S i) (R i) st.same g ⟨st.nd i, fun a ha => ⟨st.new i a ha, fun hr => st.rs i i a hr ha⟩⟩ (st.rf i)⟩
  · exact po.elim
theorem rs_set {i k : Nat} {x : Str} {e : Expr} {m : Rho → Res D} {pos pos' : Pos} (h : RE X W Γ k true e m) (hN : X.N.Nodup) (hx : Loc X.env.scope x) (hi : X.N[i]? = some x := by rfl) (hl : i < Γ.length := by decide)
    (hs : swapsWith e (some (.Name x pos')) pos.line X.env = pure false := by rfl) (hf : X.fn x = true ∨ X.env.scope.names.lookup x = some .local := by first | exact .inl rfl | exact .inr rfl | assumption) (hp : Γ.getD i 0 ≠ 99 := by decide) (hΓ : Γ.set i k = Γ1 := by rfl) : RS X W n Γ Γ1 (.Assign [.Name x pos'] e pos) (sSet i m) := by
  subst hΓ
  obtain ⟨t, p, q⟩ := h
  refine ⟨_, ps_set hN hi hx p hs hf, fun F H0 ρ σ H S R E st po => ?_⟩
  refine q F H0 ρ σ H S R _ st (PostE.iff.mpr ((PostS.ofR (f := fun d => .nx (ρ.set i (some d))) st po).imp fun d _ po => ?_))
  intro v H1 A B s1 d1 v1 f1
  obtain ⟨nd, nw⟩ := f1 rfl
  have st1 := st.grow s1
  obtain ⟨S', R', st2, gr⟩ := st1.set (i := i) (n := k) (.inl hl) d1 v1 nd (fun a ha => st.same.free (nw a ha).1) (fun a ha z => st.fd a z (nw a ha).1) (fun a ha j hj => st.domS j a hj (nw a ha).1) (fun a ha j hj => st.domR j a hj (nw a ha).1) (fun a ha hb => (nw a ha).2 hb) hp
  exact po _ H1 S' R' st2 (Keep.of_same s1) fun j a ha => (gr j a ha).imp (fun z => ⟨j, z⟩) fun z => (nw a z).1
end

end TW
-- TWLoop
namespace TW
open PySem PySem.Spec PyProof.Rows L2

def RG (X : Cx) (Γ : List Nat) (tg : Expr) (f : D → Rho → Option Rho) : Prop :=
  ∃ g, PG X tg g ∧ ∀ F H0 ρ σ H S R d x B ρ' (Q : L2.St → Hp → Prop), Sto X.K F H0 Γ ρ σ H S R → Dat X.K H d 0 x [] B → (∀ a ∈ B, ¬ Av F S a) → f d ρ = some ρ' → (∀ σ' R', Sto X.K F H0 Γ ρ' σ' H S R' → Q σ' H) → g x σ H Q
def tgN (i : Nat) : D → Rho → Option Rho := fun d ρ => some (ρ.set i (some d))
def tgNs : List Nat → List D → Rho → Option Rho
  | [], [], ρ => some ρ
  | i :: is, d :: ds, ρ => tgNs is ds (ρ.set i (some d))
  | _, _, _ => none
def tgT (is : List Nat) : D → Rho → Option Rho := fun d ρ => match d with
  | .tup ds => tgNs is ds ρ
  | _ => none
theorem Sto.set0 {K : PySem.W.Frag} {F : Fr} {H0 H : Hp} {Γ : List Nat} {ρ : Rho} {σ : L2.St} {S R : Nat → List Addr} {i : Nat} {d : D} {x : V} {B : List Addr} (h : Sto K F H0 Γ ρ σ H S R) (hi : Γ.getD i 0 = 0) (hd : Dat K H d 0 x [] B) (hb : ∀ a ∈ B, ¬ Av F S a) :
    ∃ R', Sto K F H0 Γ (ρ.set i (some d)) (σ.set i (some x)) H S R' := by
  have hs : S i = [] := by
    by_cases e : ∃ d, ρ[i]? = some (some d)
    · obtain ⟨d', e⟩ := e
      obtain ⟨y, _, g⟩ := h.slot i d' e
      rw [hi] at g
      exact Dat.noS g
    · exact (h.emp i fun d q => e ⟨d, q⟩).1
  have pin : ∀ j v, F.pin j = some v → Γ.getD j 0 = 99 ∧ (σ.set i (some x))[j]? = some (some v) := fun j v q => by
    obtain ⟨p1, p2⟩ := h.pin j v q
    have hj : i ≠ j := fun z => by subst z; omega
    exact ⟨p1, by rw [List.getElem?_set_ne hj]; exact p2⟩
  by_cases hl : i < ρ.length
  · refine ⟨fun j => if j = i then B else R j, ⟨h.same, by simp [h.len], fun j e q => ?_, fun j q => ?_, h.new, h.nd, h.dj, fun j k a ha hk => ?_, fun j a ha => ?_, h.sf, h.fd, pin⟩⟩
    · by_cases hj : j = i
      · subst hj
        rw [List.getElem?_set_self hl] at q
        cases q
        refine ⟨x, by rw [List.getElem?_set_self (by rw [h.len]; exact hl)], ?_⟩
        rw [if_pos rfl, hi, hs]
        exact hd
      · rw [List.getElem?_set_ne (Ne.symm hj)] at q
        obtain ⟨y, e1, e2⟩ := h.slot j e q
        refine ⟨y, by rw [List.getElem?_set_ne (Ne.symm hj)]; exact e1, ?_⟩
        rw [if_neg hj]
        exact e2
    · by_cases hj : j = i
      · subst hj
        exact absurd (List.getElem?_set_self hl) (q d)
      · rw [if_neg hj]
        refine h.emp j fun e q' => q e ?_
        rw [List.getElem?_set_ne (Ne.symm hj)]
        exact q'
    · split at ha
      · exact hb a ha (.inr ⟨k, hk⟩)
      · exact h.rs j k a ha hk
    · split at ha
      · exact fun z => hb a ha (.inl z)
      · exact h.rf j a ha
  · rw [show ρ.set i (some d) = ρ from List.set_eq_of_length_le (by omega), show σ.set i (some x) = σ from List.set_eq_of_length_le (by rw [h.len]; omega)]
    exact ⟨R, h⟩
section
variable {X : Cx} {Γ : List Nat} {pos : Pos}
theorem rg_n {i : Nat} {x : Str} (hN : X.N.Nodup) (hx : Loc X.env.scope x) (hi : X.N[i]? = some x := by rfl) (hz : Γ.getD i 0 = 0 := by rfl)
    (hf : X.fn x = true ∨ X.env.scope.names.lookup x = some .local := by first | exact .inl rfl | exact .inr rfl | assumption) : RG X Γ (.Name x pos) (tgN i) := by
  refine ⟨_, pg_name hN hi hx hf, fun F H0 ρ σ H S R d x B ρ' Q st hd hb e q => ?_⟩
  cases e
  obtain ⟨R', st'⟩ := st.set0 hz hd hb
  exact q _ R' st'
def RGs (X : Cx) (Γ : List Nat) (ts : List Expr) (is : List Nat) : Prop :=
  ∃ g, PGs X ts g ∧ ∀ F H0 ρ σ H S R ds xs B ρ' (Q : L2.St → Hp → Prop), Sto X.K F H0 Γ ρ σ H S R → Dats X.K H ds 0 xs [] B → (∀ a ∈ B, ¬ Av F S a) → tgNs is ds ρ = some ρ' → (∀ σ' R', Sto X.K F H0 Γ ρ' σ' H S R' → Q σ' H) → g xs σ H Q
theorem rgs_nil : RGs X Γ [] [] := by
  refine ⟨_, pgs_nil, fun F H0 ρ σ H S R ds xs B ρ' Q st hd hb e q => ?_⟩
  cases ds with
  | nil =>
    simp only [Dats] at hd
    cases e
    exact ⟨hd.1, q σ R st⟩
  | cons d r => cases e
theorem rgs_cons {e : Expr} {es : List Expr} {i : Nat} {is : List Nat} (h1 : RG X Γ e (tgN i)) (h2 : RGs X Γ es is) (hs : (assignEach (e :: es) X.env).map (·.2) = assign e X.env :: (assignEach es X.env).map (·.2) := by rfl) : RGs X Γ (e :: es) (i :: is) := by
  obtain ⟨g1, p1, q1⟩ := h1
  obtain ⟨g2, p2, q2⟩ := h2
  refine ⟨_, pgs_cons p1 p2 hs, fun F H0 ρ σ H S R ds xs B ρ' Q st hd hb e q => ?_⟩
  cases ds with
  | nil => cases e
  | cons d r =>
    unfold Dats at hd
    obtain ⟨x, xs', S1, S2, R1, R2, rfl, e0, rfl, d1, d2⟩ := hd
    obtain ⟨rfl, rfl⟩ := List.append_eq_nil_iff.mp e0.symm
    refine ⟨x, xs', rfl, q1 F H0 ρ σ H S R d x R1 _ _ st d1 (fun a ha => hb a (List.mem_append_left _ ha)) rfl fun σ1 R' st1 => ?_⟩
    exact q2 F H0 _ σ1 H S R' r xs' R2 ρ' Q st1 d2 (fun a ha => hb a (List.mem_append_right _ ha)) e q
theorem rg_t {es : List Expr} {k : Nat} {is : List Nat} {n : Nat} (hc : X.calm = true) (h : RGs X Γ es is) (hl : is.length = n := by rfl) (hn : (assignEach es X.env).length = n := by rfl) (hst : (assignEach es X.env).findIdx? (·.1) = none := by rfl) : RG X Γ (.Tuple es k pos) (tgT is) := by
  obtain ⟨g, p, q⟩ := h
  refine ⟨_, pg_tup hc p hn hst, fun F H0 ρ σ H S R d x B ρ' Q st hd hb e qq => ?_⟩
  cases d with
  | tup ds =>
    obtain ⟨a, xs, rfl, hq, dd⟩ := dat_tup0 hd
    have len : ∀ (is : List Nat) (ds : List D) (ρ ρ' : Rho), tgNs is ds ρ = some ρ' → ds.length = is.length := by
      intro is
      induction is with
      | nil => intro ds ρ ρ' e; cases ds with
        | nil => rfl
        | cons d r => cases e
      | cons i is ih => intro ds ρ ρ' e; cases ds with
        | nil => cases e
        | cons d r => simp [ih r _ ρ' e]
    exact ⟨a, xs, rfl, .of hq, by rw [dd.length, len is ds ρ ρ' e, hl], q F H0 ρ σ H S R ds xs B ρ' Q st dd hb e qq⟩
  | _ => cases e
end
def Iter (K : PySem.W.Frag) (J : It) (H : Hp) (B : List Addr) (ds : List D) : Prop :=
  ∀ H', Stay H H' [] B → ∀ i, (ds.length ≤ i → J.stop i H') ∧ ∀ d, ds[i]? = some d → J.go i H' ∧ ∀ x H3, J.yld i H' x H3 → Same H' H3 ∧ ∃ B', Dat K H3 d 0 x [] B' ∧ ∀ a ∈ B', a ∈ B
def RI (X : Cx) (W : WX) (Γ : List Nat) (tg it : Expr) (m : Rho → Res (List D)) : Prop :=
  ∃ wi, PI X tg it wi ∧ ∀ F H0 ρ σ H S R (Rk : It → Hp → Prop), Sto X.K F H0 Γ ρ σ H S R →
    PostX X W σ H (fun ds => ∀ J H' B, Same H H' → (∀ a ∈ B, ¬ Av F S a) → (∀ a ∈ B, H' a ≠ none) → Iter X.K J H' B ds → Rk J H') (m ρ) → wi σ H Rk
theorem PI.or {X : Cx} {tg it : Expr} {w1 w2 : TI} (h1 : PI X tg it w1) (h2 : PI X tg it w2) : PI X tg it (fun σ H R => w1 σ H R ∨ w2 σ H R) :=
  ⟨fun pins s σ H R I h => h.elim (h1.run pins s σ H R I) (h2.run pins s σ H R I)⟩
def iLoc : D → Option (List D)
  | .lst l => some l
  | .tup l => some l
  | .ftup l => some l
  | .scr l => some (l.map .int)
  | .str s => some (s.cps.toList.map fun c => .str ⟨#[c]⟩)
  | _ => none
def iAny (m : Rho → Res D) : Rho → Res (List D) := fun ρ => (m ρ).bind fun d => ofO (iLoc d)
def iR1 (m : Rho → Res D) : Rho → Res (List D) := fun ρ => (m ρ).bind fun d => match d with
  | .int j => if -(2 ^ 62) ≤ j ∧ j < 2 ^ 62 then .ok ((List.range j.toNat).map fun k : Nat => .int k) else .stuck
  | _ => .stuck
section
variable {X : Cx} {W : WX} {Γ : List Nat} {tg e a b : Expr} {p pos : Pos} {m ma mb : Rho → Res D}
theorem iter_range {K : PySem.W.Frag} {H : Hp} {lo : Int} {n : Nat} : Iter K (Itr lo n) H [] ((List.range n).map fun k : Nat => D.int (lo + k)) := by
  intro H' _ i
  refine ⟨fun h => by (show n ≤ i); simpa using h, fun d e => ?_⟩
  rw [List.getElem?_map] at e
  by_cases hi : i < n
  · rw [List.getElem?_range hi] at e
    cases e
    refine ⟨hi, fun x H3 h => ?_⟩
    obtain ⟨rfl, rfl⟩ := h
    exact ⟨Same.refl _, [], dat_of_int 0, fun a z => z⟩
  · rw [List.getElem?_eq_none (by simpa using hi)] at e
    cases e
theorem ri_r1 (hm : X.mg "range" = none) (ha : RE X W Γ 0 true a ma) (hg : Gl X "range" := by rfl) (hs : starEach [a] X.env = [(false, eval a X.env)] := by rfl) (hs2 : starEach (a :: []) X.env = (false, eval a X.env) :: starEach [] X.env := by rfl) : RI X W Γ tg (.Call (.Name "range" p) [a] [] pos) (iR1 ma) := by
  obtain ⟨ta, pa, qa⟩ := ha
  refine ⟨_, pi_range1 hg hm (pa_cons pa pa_nil hs2) hs, fun F H0 ρ σ H S R Rk st po => ?_⟩
  refine qa F H0 ρ σ H S R _ st (PostE.iff.mpr (po.bind.imp fun d _ po => ?_))
  intro x H1 A B s1 d1 _ _
  cases d with
  | int j =>
    dsimp only at po
    by_cases hj : -(2 ^ 62) ≤ j ∧ j < 2 ^ 62
    · rw [if_pos hj] at po
      refine ⟨j, by rw [dat_int d1], hj.1, hj.2, po _ H1 [] s1 (fun a z => by simp at z) (fun a z => by simp at z) ?_⟩
      have := iter_range (K := X.K) (H := H1) (lo := 0) (n := j.toNat)
      simpa using this
    · rw [if_neg hj] at po
      exact po.elim
  | _ => exact po.elim
theorem iter_list {K : PySem.W.Frag} {H : Hp} {l : List D} {p : Addr} {xs : List V} {B : List Addr} (hp : H p = some (.lst xs)) (hd : Dats K H l 0 xs [] B) : Iter K (Itl K p) H (p :: B) l := by
  intro H' st i
  have hp' : SqL K H' p xs := .of (st.res p List.mem_cons_self _ hp)
  refine ⟨fun h => ⟨xs, hp', by rw [hd.length]; exact h⟩, fun d e => ?_⟩
  obtain ⟨x, S', R', ex, g, sl, r⟩ := hd.get e
  obtain rfl : S' = [] := Dat.noS g
  refine ⟨⟨xs, x, hp', ex⟩, fun y H3 h => ?_⟩
  obtain ⟨rfl, hy⟩ := h
  have := hy xs hp'
  rw [ex] at this
  cases this
  exact ⟨Same.refl _, R', Dat.stay _ 0 _ [] R' (st.mono (fun _ z => z) fun a ha => List.mem_cons_of_mem _ (r a ha)) g, fun a ha => List.mem_cons_of_mem _ (r a ha)⟩
theorem iter_tup {K : PySem.W.Frag} {H : Hp} {l : List D} {p : Addr} {xs : List V} {B : List Addr} (hp : H p = some (.tup xs)) (hd : Dats K H l 0 xs [] B) : Iter K (Itt K p) H B l := by
  intro H' st i
  have hp' : SqT K H' p xs := .of (st.tup p _ hp)
  refine ⟨fun h => ⟨xs, hp', by rw [hd.length]; exact h⟩, fun d e => ?_⟩
  obtain ⟨x, S', R', ex, g, sl, r⟩ := hd.get e
  obtain rfl : S' = [] := Dat.noS g
  refine ⟨⟨xs, x, hp', ex⟩, fun y H3 h => ?_⟩
  obtain ⟨rfl, hy⟩ := h
  have := hy xs hp'
  rw [ex] at this
  cases this
  exact ⟨Same.refl _, R', Dat.stay _ 0 _ [] R' (st.mono (fun _ z => z) fun a ha => r a ha) g, fun a ha => r a ha⟩
theorem iter_ftup {K : PySem.W.Frag} {H : Hp} {l : List D} {p : Addr} {xs : List V} {B : List Addr} (hp : ∃ o : Obj, o.dict = none ∧ H p = some (.frz o (.tup xs))) (hd : Dats K H l 0 xs [] B) : Iter K (Itt K p) H B l := by
  intro H' st i
  have hp' : SqT K H' p xs := sqt_frz (hp.imp fun o q => ⟨q.1, st.frz _ _ _ q.2⟩)
  refine ⟨fun h => ⟨xs, hp', by rw [hd.length]; exact h⟩, fun d e => ?_⟩
  obtain ⟨x, S', R', ex, g, sl, r⟩ := hd.get e
  obtain rfl : S' = [] := Dat.noS g
  refine ⟨⟨xs, x, hp', ex⟩, fun y H3 h => ?_⟩
  obtain ⟨rfl, hy⟩ := h
  have := hy xs hp'
  rw [ex] at this
  cases this
  exact ⟨Same.refl _, R', Dat.stay _ 0 _ [] R' (st.mono (fun _ z => z) fun a ha => r a ha) g, fun a ha => r a ha⟩
theorem iter_scr {K : PySem.W.Frag} {H : Hp} {l : List Int} {p : Addr} (hp : ScrAt K H p (l.map V.int)) : Iter K (Itl K p) H [] (l.map D.int) := by
  intro H' st i
  have hp' : SqL K H' p (l.map V.int) := ScrAt.sq (hp.imp (fun ⟨o, q⟩ => ⟨o, st.scr _ _ _ q⟩) id)
  refine ⟨fun h => ⟨_, hp', by simpa using h⟩, fun d e => ?_⟩
  rw [List.getElem?_map] at e
  cases ei : l[i]? with
  | none => rw [ei] at e; cases e
  | some c =>
    rw [ei] at e
    cases e
    have ex : (l.map V.int)[i]? = some (.int c) := by rw [List.getElem?_map, ei]; rfl
    refine ⟨⟨_, _, hp', ex⟩, fun y H3 h => ?_⟩
    obtain ⟨rfl, hy⟩ := h
    have := hy _ hp'
    rw [ex] at this
    cases this
    exact ⟨Same.refl _, [], dat_of_int 0, fun a z => z⟩
theorem iter_str {K : PySem.W.Frag} {H : Hp} {s : Str} : Iter K (Its s) H [] (s.cps.toList.map fun c => D.str ⟨#[c]⟩) := by
  intro H' st i
  refine ⟨fun h => by (show s.cps.size ≤ i); simpa using h, fun d e => ?_⟩
  rw [List.getElem?_map] at e
  cases ei : s.cps.toList[i]? with
  | none => rw [ei] at e; cases e
  | some c =>
    rw [ei] at e
    cases e
    have ei' : s.cps[i]? = some c := by rw [← Array.getElem?_toList]; exact ei
    have hi : i < s.cps.size := (Array.getElem?_eq_some_iff.mp ei').1
    refine ⟨hi, fun y H3 h => ?_⟩
    obtain ⟨rfl, c', e1, rfl⟩ := h
    rw [ei'] at e1
    cases e1
    exact ⟨Same.refl _, [], dat_of_str 0, fun a z => z⟩
theorem ri_any (ha : RE X W Γ 0 true e m) : RI X W Γ tg e (iAny m) := by
  obtain ⟨ta, pa, qa⟩ := ha
  refine ⟨_, PI.or (PI.or (pi_list pa) (pi_tup pa)) (pi_str pa), fun F H0 ρ σ H S R Rk st po => ?_⟩
  have key : ∀ (P : V → Hp → Prop) (hP : ∀ d x H1 B, m ρ = .ok d → Same H H1 → Dat X.K H1 d 0 x [] B → (∀ a ∈ B, ¬ Av F S a) → (∃ l, iLoc d = some l ∧ ∀ J H' B, Same H H' → (∀ a ∈ B, ¬ Av F S a) → (∀ a ∈ B, H' a ≠ none) → Iter X.K J H' B l → Rk J H') → P x H1), ta σ H P := fun P hP => by
    refine qa F H0 ρ σ H S R P st (PostE.iff.mpr (po.bind.imp fun d ed po => ?_))
    intro x H1 A B s1 d1 v1 _
    obtain rfl : A = [] := Dat.noS d1
    refine hP d x H1 B ed s1 d1 v1 ?_
    cases e : iLoc d with
    | none => rw [e] at po; exact po.elim
    | some l => rw [e] at po; exact ⟨l, rfl, po⟩
  cases em : m ρ with
  | stuck => unfold iAny at po; rw [em] at po; exact po.elim
  | exn c => exact .inl (.inl (key _ fun d x H1 B ed => by rw [em] at ed; cases ed))
  | ok d =>
    cases d with
    | lst l =>
      refine .inl (.inl (key _ fun d x H1 B ed s1 d1 v1 ⟨l', el, k⟩ => ?_))
      rw [em] at ed; cases ed; cases el
      obtain ⟨a, xs, R', rfl, q, rfl, hd⟩ := dat_lst0 d1
      refine ⟨a, rfl, ⟨xs, .of q⟩, k _ H1 (a :: R') s1 v1 (fun b hb => Dat.domR d1 b hb) (iter_list q hd)⟩
    | tup l =>
      refine .inl (.inr (key _ fun d x H1 B ed s1 d1 v1 ⟨l', el, k⟩ => ?_))
      rw [em] at ed; cases ed; cases el
      obtain ⟨a, xs, rfl, q, hd⟩ := dat_tup0 d1
      exact ⟨a, rfl, ⟨xs, .of q⟩, k _ H1 B s1 v1 (fun b hb => Dat.domR d1 b hb) (iter_tup q hd)⟩
    | ftup l =>
      refine .inl (.inr (key _ fun d x H1 B ed s1 d1 v1 ⟨l', el, k⟩ => ?_))
      rw [em] at ed; cases ed; cases el
      obtain ⟨a, xs, rfl, q, hd⟩ := dat_ftup0 d1
      exact ⟨a, rfl, ⟨xs, sqt_frz q⟩, k _ H1 B s1 v1 (fun b hb => Dat.domR d1 b hb) (iter_ftup q hd)⟩
    | scr l =>
      refine .inl (.inl (key _ fun d x H1 B ed s1 d1 v1 ⟨l', el, k⟩ => ?_))
      rw [em] at ed; cases ed; cases el
      unfold Dat at d1
      obtain ⟨⟨a, rfl, q⟩, _⟩ := d1
      exact ⟨a, rfl, ⟨_, q.sq⟩, k _ H1 [] s1 (fun a z => by simp at z) (fun a z => by simp at z) (iter_scr q)⟩
    | str s =>
      refine .inr (key _ fun d x H1 B ed s1 d1 v1 ⟨l', el, k⟩ => ?_)
      rw [em] at ed; cases ed; cases el
      exact ⟨s, dat_str d1, k _ H1 [] s1 (fun a z => by simp at z) (fun a z => by simp at z) iter_str⟩
    | _ => unfold iAny at po; rw [em] at po; exact po.elim
end

section
variable {X : Cx} {W : WX} {n : Nat} {Γ : List Nat} {F : Fr} {S : Nat → List Addr} {H H' H0 : Hp} {σ : L2.St} {E : Ends} {ρ : Rho}
theorem PostS.bind {Γ' : List Nat} {o : Out} {f : Rho → Out} (h : PostS X W F H0 Γ' n S H E (o.bind f)) {N : L2.St → Hp → Prop}
    (hN : ∀ ρ' σ' H' S' R', o = .nx ρ' → Sto X.K F H0 Γ ρ' σ' H' S' R' → Keep S H H' → Grow S H S' → N σ' H') : PostS X W F H0 Γ n S H { E with nx := N, ct := N, bk := E.nx } o := by
  cases o with
  | nx ρ' => exact fun σ' H' S' R' st k g => hN ρ' σ' H' S' R' rfl st k g
  | rt d => exact h
  | ex c ρ' => exact h
  | stuck => exact h
theorem rs_for {tg it : Expr} {body : List Stmt} {pos : Pos} {f : D → Rho → Option Rho} {mi : Rho → Res (List D)} {mb : Rho → Out} (hp : PassesOwn (model X.prog X.w) X.A X.env X.xe) (hc : X.calm = true) (hi : RI X W Γ tg it mi) (hg : RG X Γ tg f) (hb : RSs X W n Γ Γ body mb)
    (hs : ∀ x, foldedSetIterable it X.env x = pure x := by intro _; rfl) : RS X W n Γ Γ (.For tg it body [] pos) (sFor f mi mb) := by
  obtain ⟨wi, pi, qi⟩ := hi
  obtain ⟨g, pg, qg⟩ := hg
  obtain ⟨tb, pb, qb⟩ := hb
  refine ⟨_, ps_for hp hc pi pg pb hs, fun F H0 ρ σ H S R E st po => ?_⟩
  refine qi F H0 ρ σ H S R _ st ((PostS.ofR st po).imp fun ds _ po => ?_)
  intro J H1 B s1 v1 dm it1
  have st1 := st.grow s1
  have po1 := PostS.later po (Keep.of_same s1) (Grow.refl (S := S))
  refine ⟨fun i m σ' H' => ∃ ρ' S' R', Sto X.K F H0 Γ ρ' σ' H' S' R' ∧ Keep S H1 H' ∧ Grow S H1 S' ∧ PostS X W F H0 Γ n S' H' E (forL f mb (ds.drop i) ρ') ∧ m = ds.length - i ∧ i ≤ ds.length,
    ⟨ds.length, ρ, S, R, st1, Keep.refl, Grow.refl, by simpa using po1, by omega, Nat.zero_le _⟩, ?_⟩
  rintro i m σ' H' ⟨ρ', S', R', st', k', g', po', rfl, hi'⟩
  have stay : Stay H1 H' [] B := st1.stay k' v1
  have v' : ∀ a ∈ B, ¬ Av F S' a := fun a ha z => by
    rcases z with z | ⟨j, z⟩
    · exact v1 a ha (.inl z)
    · rcases g' j a z with ⟨l, z⟩ | z
      · exact v1 a ha (.inr ⟨l, z⟩)
      · exact dm a ha z
  by_cases hlt : i < ds.length
  · have ed : ds[i]? = some ds[i] := List.getElem?_eq_getElem hlt
    obtain ⟨go, yld⟩ := (it1 H' stay i).2 _ ed
    rw [List.drop_eq_getElem_cons hlt] at po'
    refine .inr ⟨go, fun σ2 H2 => ∃ m', m' < ds.length - i ∧ ∃ ρ' S' R', Sto X.K F H0 Γ ρ' σ2 H2 S' R' ∧ Keep S H1 H2 ∧ Grow S H1 S' ∧ PostS X W F H0 Γ n S' H2 E (forL f mb (ds.drop (i + 1)) ρ') ∧ m' = ds.length - (i + 1) ∧ i + 1 ≤ ds.length, fun _ _ h => h, fun x H3 hy => ?_⟩
    obtain ⟨s3, B', d3, sub⟩ := yld x H3 hy
    unfold forL at po'
    cases ef : f ds[i] ρ' with
    | none => rw [ef] at po'; exact po'.elim
    | some ρ2 =>
      rw [ef] at po'
      dsimp only at po'
      have k3 : Keep S' H' H3 := Keep.of_same s3
      refine qg F H0 ρ' σ' H3 S' R' ds[i] x B' ρ2 _ (st'.grow s3) d3 (fun a ha => v' a (sub a ha)) ef fun σ4 R4 st4 => ?_
      refine qb F H0 ρ2 σ4 H3 S' R4 _ st4 (PostS.bind (PostS.later po' k3 Grow.refl) fun ρ5 σ5 H5 S5 R5 e5 st5 k5 g5 => ?_)
      have k35 : Keep S' H' H5 := k3.trans Grow.refl k5
      have g35 : Grow S' H' S5 := Grow.trans Grow.refl k3 g5
      refine ⟨ds.length - (i + 1), by omega, ρ5, S5, R5, st5, k'.trans g' k35, g'.trans k' g35, ?_, rfl, hlt⟩
      rw [e5] at po'
      exact PostS.later po' k35 g35
  · have e : i = ds.length := by omega
    subst e
    refine .inl ⟨(it1 H' stay _).1 (Nat.le_refl _), ?_⟩
    rw [List.drop_length] at po'
    exact po' σ' H' S' R' st' Keep.refl Grow.refl
end
end TW
-- TWMut
namespace TW
open PySem PySem.Spec PyProof.Rows L2
def ixD (n : Nat) : D → Option Nat
  | .int i => ixN n i
  | _ => none
def getC : D → D → Option D
  | .lst l, i => (ixD l.length i).bind fun j => l[j]?
  | .tup l, i => (ixD l.length i).bind fun j => l[j]?
  | _, _ => none
def setC : D → D → D → Option D
  | .lst l, i, e => (ixD l.length i).map fun j => .lst (l.set j e)
  | .tup l, i, e => (ixD l.length i).map fun j => .tup (l.set j e)
  | _, _, _ => none
def getP : D → List D → Option D
  | d, [] => some d
  | d, i :: p => (getC d i).bind fun e => getP e p
def setP : D → List D → D → Option D
  | _, [], e => some e
  | d, i :: p, e => (getC d i).bind fun c => (setP c p e).bind fun c' => setC d i c'
def updP (d : D) (p : List D) (f : D → Option D) : Option D := (getP d p).bind fun e => (f e).bind fun e' => setP d p e'

section
variable {K : PySem.W.Frag} {H : Hp}
theorem Dats.focus : ∀ {ds : List D} {n : Nat} {xs : List V} {S R : List Addr} {j : Nat} {e : D}, Dats K H ds n xs S R → ds[j]? = some e →
    ∃ v Se Re P Q P' Q', xs[j]? = some v ∧ Dat K H e n v Se Re ∧ S = P ++ Se ++ Q ∧ R = P' ++ Re ++ Q' ∧
      ∀ H' e' Se' Re', Stay H H' (P ++ Q) (P' ++ Q') → Dat K H' e' n v Se' Re' → Dats K H' (ds.set j e') n xs (P ++ Se' ++ Q) (P' ++ Re' ++ Q')
  | [], _, _, _, _, _, _, h, e => by simp at e
  | d :: ds, n, _, _, _, 0, _, h, e => by
    simp only [Dats] at h
    obtain ⟨x, xs', S1, S2, R1, R2, rfl, rfl, rfl, h1, h2⟩ := h
    simp at e
    subst e
    refine ⟨x, S1, R1, [], S2, [], R2, rfl, h1, rfl, rfl, fun H' e' Se' Re' st g => ?_⟩
    show Dats K H' (e' :: ds) n (x :: xs') _ _
    exact Dats.cons g (Dats.stay _ _ _ _ _ st h2)
  | d :: ds, n, _, _, _, j + 1, _, h, e => by
    simp only [Dats] at h
    obtain ⟨x, xs', S1, S2, R1, R2, rfl, rfl, rfl, h1, h2⟩ := h
    obtain ⟨v, Se, Re, P, Q, P', Q', e1, g, rfl, rfl, k⟩ := Dats.focus (j := j) h2 (by simpa using e)
    refine ⟨v, Se, Re, S1 ++ P, Q, R1 ++ P', Q', by simpa using e1, g, by simp, by simp, fun H' e' Se' Re' st g' => ?_⟩
    show Dats K H' (d :: ds.set j e') n (x :: xs') _ _
    have h1' := Dat.stay _ _ _ _ _ (st.mono (fun b hb => by simp [hb]) fun b hb => by simp [hb]) h1
    have h2' := k H' e' Se' Re' (st.mono (fun b hb => by simp at hb ⊢; rcases hb with hb | hb <;> simp [hb]) fun b hb => by simp at hb ⊢; rcases hb with hb | hb <;> simp [hb]) g'
    simpa using Dats.cons h1' h2'
def Foc (K : PySem.W.Frag) (H : Hp) (d : D) (n : Nat) (x : V) (S R : List Addr) (p : List D) (e : D) (k : Nat) (v : V) (Se Re : List Addr) : Prop :=
  Dat K H e k v Se Re ∧ ∃ P Q P' Q', S = P ++ Se ++ Q ∧ R = P' ++ Re ++ Q' ∧
    ∀ H' e' Se' Re', Stay H H' (P ++ Q) (P' ++ Q') → Dat K H' e' k v Se' Re' → ∃ d', setP d p e' = some d' ∧ Dat K H' d' n x (P ++ Se' ++ Q) (P' ++ Re' ++ Q')
theorem Foc.nil {d : D} {n : Nat} {x : V} {S R : List Addr} (h : Dat K H d n x S R) : Foc K H d n x S R [] d n x S R :=
  ⟨h, [], [], [], [], by simp, by simp, fun H' e' Se' Re' _ g => ⟨e', rfl, by simpa using g⟩⟩
theorem setP_snoc : ∀ (p : List D) (d e : D) (i e' : D), getP d p = some e → setP d (p ++ [i]) e' = (setC e i e').bind fun c => setP d p c
  | [], d, e, i, e', h => by
    cases h
    show (getC d i).bind (fun c => (some e').bind fun c' => setC d i c') = _
    cases hc : getC d i with
    | some c =>
      show setC d i e' = (setC d i e').bind fun c => some c
      cases setC d i e' <;> rfl
    | none =>
      have : setC d i e' = none := by
        cases d with
        | lst l =>
          simp only [getC] at hc
          simp only [setC]
          cases hj : ixD l.length i with
          | none => rfl
          | some j =>
            rw [hj] at hc
            have : j < l.length := by
              cases i with
              | int z => exact (ixN_seq hj).2.1
              | _ => cases hj
            simp [List.getElem?_eq_getElem this] at hc
        | tup l =>
          simp only [getC] at hc
          simp only [setC]
          cases hj : ixD l.length i with
          | none => rfl
          | some j =>
            rw [hj] at hc
            have : j < l.length := by
              cases i with
              | int z => exact (ixN_seq hj).2.1
              | _ => cases hj
            simp [List.getElem?_eq_getElem this] at hc
        | _ => rfl
      rw [this]
      rfl
  | j :: p, d, e, i, e', h => by
    unfold getP at h
    cases hc : getC d j with
    | none => rw [hc] at h; cases h
    | some c =>
      rw [hc] at h
      show (getC d j).bind (fun c => (setP c (p ++ [i]) e').bind fun c' => setC d j c') = (setC e i e').bind fun x => (getC d j).bind fun c => (setP c p x).bind fun c' => setC d j c'
      rw [hc]
      simp only [Option.bind_some]
      rw [setP_snoc p c e i e' h]
      cases setC e i e' <;> rfl
theorem Foc.step {d e c : D} {n k : Nat} {x v : V} {S R Se Re : List Addr} {p : List D} {i : D} (h : Foc K H d n x S R p e (k + 1) v Se Re) (hp : getP d p = some e) (hc : getC e i = some c) :
    ∃ u Sc Rc, Foc K H d n x S R (p ++ [i]) c k u Sc Rc ∧ ∀ {Q : VK}, (∀ y B, Dat K H i 0 y [] B → Q u H → rIx K v y H Q) := by
  obtain ⟨hd, P, Q, P', Q', rfl, rfl, rep⟩ := h
  cases e with
  | lst l =>
    simp only [getC] at hc
    cases hj : ixD l.length i with
    | none => rw [hj] at hc; cases hc
    | some j =>
      rw [hj] at hc
      simp only [Option.bind_some] at hc
      unfold Dat at hd
      obtain ⟨a, xs, S', rfl, ha, rfl, dd⟩ := hd
      obtain ⟨u, Sc, Rc, P2, Q2, P3, Q3, e1, g, rfl, rfl, rep2⟩ := dd.focus hc
      refine ⟨u, Sc, Rc, ⟨g, P ++ a :: P2, Q2 ++ Q, P' ++ P3, Q3 ++ Q', by simp, by simp, fun H' e' Se' Re' st g' => ?_⟩, fun {Qv} y B hy q => ?_⟩
      · have st2 : Stay H H' (P2 ++ Q2) (P3 ++ Q3) := st.mono (fun b hb => by simp at hb ⊢; rcases hb with hb | hb <;> simp [hb]) fun b hb => by simp at hb ⊢; rcases hb with hb | hb <;> simp [hb]
        have ha' : H' a = some (.lst xs) := st.own a (by simp) _ ha
        have w := rep2 H' e' Se' Re' st2 g'
        obtain ⟨d', ed, gd⟩ := rep H' (.lst (l.set j e')) (a :: (P2 ++ Se' ++ Q2)) (P3 ++ Re' ++ Q3) (st.mono (fun b hb => by simp at hb ⊢; rcases hb with hb | hb <;> simp [hb]) fun b hb => by simp at hb ⊢; rcases hb with hb | hb <;> simp [hb]) (by unfold Dat; exact ⟨a, xs, _, rfl, ha', rfl, w⟩)
        refine ⟨d', ?_, by simpa using gd⟩
        rw [setP_snoc p d _ i e' hp]
        simp only [setC]
        rw [hj]
        exact ed
      · cases i with
        | int z =>
          exact .inl ⟨a, xs, z, u, rfl, dat_int hy, .of ha, atI_of (by rw [dd.length]; exact hj) e1, q⟩
        | _ => cases hj
  | tup l =>
    simp only [getC] at hc
    cases hj : ixD l.length i with
    | none => rw [hj] at hc; cases hc
    | some j =>
      rw [hj] at hc
      simp only [Option.bind_some] at hc
      unfold Dat at hd
      obtain ⟨a, xs, rfl, ha, dd⟩ := hd
      obtain ⟨u, Sc, Rc, P2, Q2, P3, Q3, e1, g, rfl, rfl, rep2⟩ := dd.focus hc
      refine ⟨u, Sc, Rc, ⟨g, P ++ P2, Q2 ++ Q, P' ++ P3, Q3 ++ Q', by simp, by simp, fun H' e' Se' Re' st g' => ?_⟩, fun {Qv} y B hy q => ?_⟩
      · have st2 : Stay H H' (P2 ++ Q2) (P3 ++ Q3) := st.mono (fun b hb => by simp at hb ⊢; rcases hb with hb | hb <;> simp [hb]) fun b hb => by simp at hb ⊢; rcases hb with hb | hb <;> simp [hb]
        have ha' : H' a = some (.tup xs) := st.tup a _ ha
        have w := rep2 H' e' Se' Re' st2 g'
        obtain ⟨d', ed, gd⟩ := rep H' (.tup (l.set j e')) (P2 ++ Se' ++ Q2) (P3 ++ Re' ++ Q3) (st.mono (fun b hb => by simp at hb ⊢; rcases hb with hb | hb <;> simp [hb]) fun b hb => by simp at hb ⊢; rcases hb with hb | hb <;> simp [hb]) (by unfold Dat; exact ⟨a, xs, rfl, ha', w⟩)
        refine ⟨d', ?_, by simpa using gd⟩
        rw [setP_snoc p d _ i e' hp]
        simp only [setC]
        rw [hj]
        exact ed
      · cases i with
        | int z =>
          exact .inr (.inl ⟨a, xs, z, u, rfl, dat_int hy, .of ha, atI_of (by rw [dd.length]; exact hj) e1, q⟩)
        | _ => cases hj
  | _ => cases hc
theorem Foc.same {H' : Hp} {d e : D} {n k : Nat} {x v : V} {S R Se Re : List Addr} {p : List D} (h : Foc K H d n x S R p e k v Se Re) (s : Same H H') : Foc K H' d n x S R p e k v Se Re := by
  obtain ⟨hd, P, Q, P', Q', e1, e2, rep⟩ := h
  refine ⟨hd.same s, P, Q, P', Q', e1, e2, fun H2 e' Se' Re' st g => rep H2 e' Se' Re' ⟨fun b xs q => st.tup b xs (s b _ q), fun b o xs q => st.frz b o xs (s b _ q), fun b o xs q => st.scr b o xs (s b _ q), fun b hb o q => st.own b hb o (s b _ q), fun b hb o q => st.res b hb o (s b _ q)⟩ g⟩
end

section
variable {K : PySem.W.Frag} {F : Fr} {H0 H : Hp} {Γ : List Nat} {ρ : Rho} {σ : L2.St} {S R : Nat → List Addr}
theorem Sto.upd {i : Nat} {a : Addr} {o : HO} {d d' : D} {x : V} {A B : List Addr} (h : Sto K F H0 Γ ρ σ H S R) (hd : ρ[i]? = some (some d)) (hx : σ[i]? = some (some x)) (ha : a ∈ S i) (g : Dat K (upd H a o) d' (Γ.getD i 0) x A B)
    (nd : A.Nodup) (hA : ∀ b ∈ A, b ∈ S i ∨ (H0 b = none ∧ ¬ F b ∧ (∀ j, b ∉ S j) ∧ ∀ j, b ∉ R j)) (hB : ∀ b ∈ B, b ∉ A ∧ ¬ F b ∧ ∀ j, j ≠ i → b ∉ S j) :
    Sto K F H0 Γ (ρ.set i (some d')) σ (upd H a o) (fun j => if j = i then A else S j) (fun j => if j = i then B else R j) := by
  have hl : i < ρ.length := (List.getElem?_eq_some_iff.mp hd).1
  have mu := h.mut i a ha
  have other : ∀ j, j ≠ i → Stay H (L2.upd H a o) (S j) (R j) := fun j hj => by
    refine ⟨fun b xs q => ?_, fun b ob xs q => ?_, fun b ob xs q => ?_, fun b hb u q => ?_, fun b hb u q => ?_⟩
    · rw [upd_ne (fun z => by subst z; rw [q] at mu; exact mu)]; exact q
    · rw [upd_ne (fun z => by subst z; rw [q] at mu; exact mu)]; exact q
    · rw [upd_ne (fun z => by subst z; rw [q] at mu; exact mu)]; exact q
    · rw [upd_ne (fun z => by subst z; exact h.dj j i hj _ hb ha)]; exact q
    · rw [upd_ne (fun z => by subst z; exact h.rs j i _ hb ha)]; exact q
  refine ⟨fun b u q => ?_, by simp [h.len], fun j e q => ?_, fun j q => ?_, fun j b hb => ?_, fun j => ?_, fun j k hjk b hb hk => ?_, fun j k b hb hk => ?_, fun j b hb => ?_, fun j b hb => ?_, fun b hb => ?_, h.pin⟩
  · rw [upd_ne (fun z => by subst z; rw [h.new i _ ha] at q; cases q)]
    exact h.same b u q
  · by_cases hj : j = i
    · subst hj
      rw [List.getElem?_set_self hl] at q
      cases q
      rw [if_pos rfl, if_pos rfl]
      exact ⟨x, hx, g⟩
    · rw [List.getElem?_set_ne (Ne.symm hj)] at q
      obtain ⟨y, e1, e2⟩ := h.slot j e q
      rw [if_neg hj, if_neg hj]
      exact ⟨y, e1, Dat.stay _ _ _ _ _ (other j hj) e2⟩
  · by_cases hj : j = i
    · subst hj
      exact absurd (List.getElem?_set_self hl) (q d')
    · rw [if_neg hj, if_neg hj]
      refine h.emp j fun e q' => q e ?_
      rw [List.getElem?_set_ne (Ne.symm hj)]
      exact q'
  · split at hb
    · rcases hA b hb with z | z
      · exact h.new i b z
      · exact z.1
    · exact h.new j b hb
  · split
    · exact nd
    · exact h.nd j
  · split at hb
    · split at hk
      · omega
      · rcases hA b hb with z | z
        · exact h.dj i k (by omega) b z hk
        · exact z.2.2.1 k hk
    · split at hk
      · rcases hA b hk with z | z
        · exact h.dj i j (by omega) b z hb
        · exact z.2.2.1 j hb
      · exact h.dj j k hjk b hb hk
  · split at hb
    · split at hk
      · exact (hB b hb).1 hk
      · exact (hB b hb).2.2 k (by assumption) hk
    · split at hk
      · rcases hA b hk with z | z
        · exact h.rs j i b hb z
        · exact z.2.2.2 j hb
      · exact h.rs j k b hb hk
  · split at hb
    · exact (hB b hb).2.1
    · exact h.rf j b hb
  · split at hb
    · rcases hA b hb with z | z
      · exact h.sf i b z
      · exact z.2.1
    · exact h.sf j b hb
  · unfold L2.upd
    split
    · simp
    · exact h.fd b hb
end
end TW
-- TWMut2
namespace TW
open PySem PySem.Spec PyProof.Rows L2

theorem Sto.node {K : PySem.W.Frag} {F : Fr} {H0 H : Hp} {Γ : List Nat} {ρ : Rho} {σ : L2.St} {S R : Nat → List Addr} {i k : Nat} {a : Addr} {o : HO} {d c e' : D} {x v : V} {A B S' Re S2 R2 : List Addr} {p : List D}
    (st : Sto K F H0 Γ ρ σ H S R) (hd : ρ[i]? = some (some d)) (hx : σ[i]? = some (some x)) (foc : Foc K H d (Γ.getD i 0) x (S i) (R i) p c k v (a :: S') Re) (g : Dat K (L2.upd H a o) e' k v (a :: S2) R2) (nd : (a :: S2).Nodup)
    (h2 : ∀ b ∈ S2, b ∈ S' ∨ b ∈ A) (nA : ∀ b ∈ A, H0 b = none ∧ ¬ F b ∧ (∀ j, b ∉ S j) ∧ ∀ j, b ∉ R j) (hR2 : ∀ b ∈ R2, b ∈ Re ∨ b ∈ B) (hB : ∀ b ∈ B, ¬ Av F S b ∧ b ∉ A) :
    ∃ d' S'' R'', setP d p e' = some d' ∧ Sto K F H0 Γ (ρ.set i (some d')) σ (L2.upd H a o) S'' R'' ∧ Keep S H (L2.upd H a o) ∧ ∀ j b, b ∈ S'' j → (∃ l, b ∈ S l) ∨ b ∈ A := by
  obtain ⟨hc, P, Q, P', Q', eS, eR, rep⟩ := foc
  have ha : a ∈ S i := by rw [eS]; simp
  have mu := st.mut i a ha
  have ndS := st.nd i
  rw [eS] at ndS
  have ndS' : P.Nodup ∧ (a :: S').Nodup ∧ Q.Nodup ∧ (∀ b ∈ P, b ∉ a :: S') ∧ (∀ b ∈ P, b ∉ Q) ∧ ∀ b ∈ a :: S', b ∉ Q := by
    obtain ⟨h1, h2, h3⟩ := List.nodup_append.mp ndS
    obtain ⟨h4, h5, h6⟩ := List.nodup_append.mp h1
    exact ⟨h4, h5, h2, fun b hb hb' => h6 b hb b hb' rfl, fun b hb hb' => h3 b (List.mem_append_left _ hb) b hb' rfl, fun b hb hb' => h3 b (List.mem_append_right _ hb) b hb' rfl⟩
  obtain ⟨nP, nS, nQ, dPS, dPQ, dSQ⟩ := ndS'
  have stay : Stay H (L2.upd H a o) (P ++ Q) (P' ++ Q') := by
    refine ⟨fun b xs q => ?_, fun b ob xs q => ?_, fun b ob xs q => ?_, fun b hb u q => ?_, fun b hb u q => ?_⟩
    · rw [upd_ne (fun z => by subst z; rw [q] at mu; exact mu)]; exact q
    · rw [upd_ne (fun z => by subst z; rw [q] at mu; exact mu)]; exact q
    · rw [upd_ne (fun z => by subst z; rw [q] at mu; exact mu)]; exact q
    · rw [upd_ne (fun z => ?_)]; exact q
      subst z
      rcases List.mem_append.mp hb with hb | hb
      · exact dPS _ hb List.mem_cons_self
      · exact dSQ _ List.mem_cons_self hb
    · rw [upd_ne (fun z => ?_)]; exact q
      subst z
      refine st.rs i i b ?_ ha
      rw [eR]
      rcases List.mem_append.mp hb with hb | hb <;> simp [hb]
  obtain ⟨d', ed, gd⟩ := rep _ e' (a :: S2) R2 stay g
  have inS : ∀ b ∈ a :: S2, b ∈ S i ∨ b ∈ A := fun b hb => by
    rcases List.mem_cons.mp hb with rfl | hb
    · exact .inl ha
    · rcases h2 b hb with hb | hb
      · left; rw [eS]; simp [hb]
      · exact .inr hb
  have notPQ : ∀ b ∈ a :: S2, b ∉ P ∧ b ∉ Q := fun b hb => by
    rcases List.mem_cons.mp hb with rfl | hb
    · exact ⟨fun z => dPS _ z List.mem_cons_self, dSQ _ List.mem_cons_self⟩
    · rcases h2 b hb with hb | hb
      · exact ⟨fun z => dPS _ z (List.mem_cons_of_mem _ hb), dSQ _ (List.mem_cons_of_mem _ hb)⟩
      · have n := (nA b hb).2.2.1 i
        rw [eS] at n
        exact ⟨fun z => n (by simp [z]), fun z => n (by simp [z])⟩
  refine ⟨d', _, _, ed, st.upd (A := P ++ (a :: S2) ++ Q) (B := P' ++ R2 ++ Q') hd hx ha gd ?_ (fun b hb => ?_) fun b hb => ?_, fun b u q hn => ?_, fun j b hb => ?_⟩
  · refine List.nodup_append.mpr ⟨List.nodup_append.mpr ⟨nP, nd, fun b hb b' hb' e => ?_⟩, nQ, fun b hb b' hb' e => ?_⟩
    · subst e; exact (notPQ b hb').1 hb
    · subst e
      rcases List.mem_append.mp hb with hb | hb
      · exact dPQ b hb hb'
      · exact (notPQ b hb).2 hb'
  · have : b ∈ P ∨ b ∈ a :: S2 ∨ b ∈ Q := by
      rcases List.mem_append.mp hb with hb | hb
      · rcases List.mem_append.mp hb with hb | hb
        · exact .inl hb
        · exact .inr (.inl hb)
      · exact .inr (.inr hb)
    rcases this with hb | hb | hb
    · left; rw [eS]; simp [hb]
    · exact (inS b hb).imp id (nA b)
    · left; rw [eS]; simp [hb]
  · have hb' : b ∈ R i ∨ b ∈ B := by
      rw [eR]
      rcases List.mem_append.mp hb with hb | hb
      · rcases List.mem_append.mp hb with hb | hb
        · left; simp [hb]
        · rcases hR2 b hb with hb | hb
          · left; simp [hb]
          · exact .inr hb
      · left; simp [hb]
    have key : ∀ z, z ∈ P ++ (a :: S2) ++ Q → z ∈ S i ∨ z ∈ A := fun z hz => by
      rcases List.mem_append.mp hz with hz | hz
      · rcases List.mem_append.mp hz with hz | hz
        · left; rw [eS]; simp [hz]
        · exact inS z hz
      · left; rw [eS]; simp [hz]
    rcases hb' with hb | hb
    · refine ⟨fun z => ?_, st.rf i b hb, fun j _ => st.rs i j b hb⟩
      rcases key b z with z | z
      · exact st.rs i i b hb z
      · exact (nA b z).2.2.2 i hb
    · refine ⟨fun z => ?_, fun z => (hB b hb).1 (.inl z), fun j _ z => (hB b hb).1 (.inr ⟨j, z⟩)⟩
      rcases key b z with z | z
      · exact (hB b hb).1 (.inr ⟨i, z⟩)
      · exact (hB b hb).2 z
  · rw [upd_ne (fun z => hn i (by subst z; exact ha))]
    exact q
  · split at hb
    · rcases List.mem_append.mp hb with hb | hb
      · rcases List.mem_append.mp hb with hb | hb
        · exact .inl ⟨i, by rw [eS]; simp [hb]⟩
        · exact (inS b hb).imp (fun z => ⟨i, z⟩) id
      · exact .inl ⟨i, by rw [eS]; simp [hb]⟩
    · exact .inl ⟨j, hb⟩

def RP (X : Cx) (W : WX) (Γ : List Nat) (i len : Nat) (e : Expr) (m : Rho → Res (List D)) : Prop :=
  ∃ t, PE X e t ∧ ∀ F H0 ρ σ H S R (Q : VK) d x, Sto X.K F H0 Γ ρ σ H S R → ρ[i]? = some (some d) → σ[i]? = some (some x) →
    PostX X W σ H (fun p => ∃ c, getP d p = some c ∧ ∀ v H' Se Re, Same H H' → Foc X.K H' d (Γ.getD i 0) x (S i) (R i) p c (Γ.getD i 0 - len) v Se Re → Q v H') (m ρ) → t σ H Q
def pNil : Rho → Res (List D) := fun _ => .ok []
def noX {α : Type} : Res α → Res α
  | .ok a => .ok a
  | _ => .stuck
@[simp] theorem noX_ok {α : Type} (a : α) : noX (.ok a) = .ok a := id rfl
def pSnoc (m : Rho → Res (List D)) (b : Rho → Res D) : Rho → Res (List D) := fun ρ => (m ρ).bind fun p => (noX (b ρ)).bind fun j => .ok (p ++ [j])
theorem PostX.noX {X : Cx} {W : WX} {σ : L2.St} {H : Hp} {α : Type} {ok : α → Prop} {m : Res α} (h : PostX X W σ H ok (TW.noX m)) : PostX X W σ H ok m := by
  cases m with
  | ok d => exact h
  | exn c => exact h.elim
  | stuck => exact h.elim
section
variable {X : Cx} {W : WX} {Γ : List Nat} {n i len : Nat} {e a b o : Expr} {pos pos' : Pos} {mp : Rho → Res (List D)} {mb me mi : Rho → Res D}
theorem rp_var (h : PE X e (tVar i)) : RP X W Γ i 0 e pNil := by
  refine ⟨_, h, fun F H0 ρ σ H S R Q d x st hd hx po => ?_⟩
  obtain ⟨c, ec, po⟩ := po
  cases ec
  obtain ⟨y, e1, g⟩ := st.slot i d hd
  rw [hx] at e1
  cases e1
  exact ⟨x, hx, po x H _ _ (Same.refl H) (Foc.nil g)⟩
def nApp (v : D) : D → Option D
  | .lst l => if l.length < sizeLine then some (.lst (l ++ [v])) else none
  | _ => none
def nSet (j v : D) : D → Option D
  | .lst l => (ixD l.length j).map fun k => .lst (l.set k v)
  | _ => none
def atS (i : Nat) (f : Rho → Out) : Rho → Out := fun ρ => match ρ[i]? with
  | some (some _) => f ρ
  | _ => .stuck
def mutO (i : Nat) (ρ : Rho) (p : List D) (f : D → Option D) : Out := match ρ[i]? with
  | some (some d) => match updP d p f with
    | some d' => .nx (ρ.set i (some d'))
    | none => .stuck
  | _ => .stuck
def sApp (i : Nat) (mp : Rho → Res (List D)) (me : Rho → Res D) : Rho → Out := atS i fun ρ => (mp ρ).out ρ fun p => (noX (me ρ)).out ρ fun v => mutO i ρ p (nApp v)
def sPut (i : Nat) (mp : Rho → Res (List D)) (mj me : Rho → Res D) : Rho → Out := atS i fun ρ => (me ρ).out ρ fun v => (mp ρ).out ρ fun p => (noX (mj ρ)).out ρ fun j => mutO i ρ p (nSet j v)
def sAug (i : Nat) (op : D → D → Option D) (mp : Rho → Res (List D)) (mj me : Rho → Res D) : Rho → Out := atS i fun ρ => (mp ρ).out ρ fun p => (noX (mj ρ)).out ρ fun j => (noX (me ρ)).out ρ fun v =>
  mutO i ρ p fun c => (gIx c j).bind fun u => (op u v).bind fun z => nSet j z c
theorem atS_ok {X : Cx} {W : WX} {n i : Nat} {Γ : List Nat} {F : Fr} {H0 H : Hp} {S : Nat → List Addr} {ρ : Rho} {f : Rho → Out} {E : Ends} (h : PostS X W F H0 Γ n S H E (atS i f ρ)) : ∃ d, ρ[i]? = some (some d) ∧ PostS X W F H0 Γ n S H E (f ρ) := by
  unfold atS at h
  split at h
  · rename_i d e
    exact ⟨d, e, h⟩
  · exact h.elim
theorem noX_out {X : Cx} {W : WX} {n : Nat} {Γ : List Nat} {F : Fr} {H0 H : Hp} {S : Nat → List Addr} {ρ : Rho} {α : Type} {m : Res α} {f : α → Out} {E : Ends} (h : PostS X W F H0 Γ n S H E ((noX m).out ρ f)) : ∃ v, m = .ok v ∧ PostS X W F H0 Γ n S H E (f v) := by
  cases m with
  | ok v => exact ⟨v, rfl, h⟩
  | exn c => exact h.elim
  | stuck => exact h.elim
theorem mutO_ok {X : Cx} {W : WX} {n i : Nat} {Γ : List Nat} {F : Fr} {H0 H : Hp} {S : Nat → List Addr} {ρ : Rho} {p : List D} {f : D → Option D} {E : Ends} (h : PostS X W F H0 Γ n S H E (mutO i ρ p f)) :
    ∃ d c c' d', ρ[i]? = some (some d) ∧ getP d p = some c ∧ f c = some c' ∧ setP d p c' = some d' ∧ PostS X W F H0 Γ n S H E (.nx (ρ.set i (some d'))) := by
  unfold mutO at h
  split at h
  · rename_i d ed
    unfold updP at h
    cases ec : getP d p with
    | none => rw [ec] at h; exact h.elim
    | some c =>
      rw [ec] at h
      simp only [Option.bind_some] at h
      cases ef : f c with
      | none => rw [ef] at h; exact h.elim
      | some c' =>
        rw [ef] at h
        simp only [Option.bind_some] at h
        cases es : setP d p c' with
        | none => rw [es] at h; exact h.elim
        | some d' => rw [es] at h; exact ⟨d, c, c', d', ed, ec, ef, es, h⟩
  · exact h.elim
theorem sub_stay {K : PySem.W.Frag} {H : Hp} {a : Addr} {o u : HO} {S R : List Addr} (ha : H a = some u) (mu : Mut (some u)) (hS : a ∉ S) (hR : a ∉ R) : Stay H (L2.upd H a o) S R := by
  have ne : ∀ {b w}, H b = some w → ¬ Mut (some w) → b ≠ a := fun q nm z => by subst z; rw [ha] at q; cases q; exact nm mu
  exact ⟨fun b xs q => by rw [upd_ne (ne q fun z => z)]; exact q, fun b ob xs q => by rw [upd_ne (ne q fun z => z)]; exact q, fun b ob xs q => by rw [upd_ne (ne q fun z => z)]; exact q,
    fun b hb w q => by rw [upd_ne (fun z => hS (by subst z; exact hb))]; exact q, fun b hb w q => by rw [upd_ne (fun z => hR (by subst z; exact hb))]; exact q⟩
theorem node_lst {K : PySem.W.Frag} {F : Fr} {H0 H : Hp} {Γ : List Nat} {ρ : Rho} {σ : L2.St} {S R : Nat → List Addr} {i k : Nat} {d : D} {l : List D} {x v : V} {Se Re : List Addr} {p : List D}
    (st : Sto K F H0 Γ ρ σ H S R) (foc : Foc K H d (Γ.getD i 0) x (S i) (R i) p (.lst l) (k + 1) v Se Re) :
    ∃ a xs S', v = .ref a ∧ H a = some (.lst xs) ∧ Se = a :: S' ∧ Dats K H l k xs S' Re ∧ a ∈ S i ∧ a ∉ S' ∧ a ∉ Re ∧ S'.Nodup ∧ (∀ b ∈ S', b ∈ S i) ∧ ∀ b ∈ Re, b ∈ R i := by
  obtain ⟨hc, P, Q, P', Q', eS, eR, _⟩ := foc
  unfold Dat at hc
  obtain ⟨a, xs, S', rfl, ha, rfl, dd⟩ := hc
  have ndS := st.nd i
  rw [eS] at ndS
  have nd2 : (a :: S').Nodup := (List.nodup_append.mp (List.nodup_append.mp ndS).1).2.1
  refine ⟨a, xs, S', rfl, ha, rfl, dd, by rw [eS]; simp, (List.nodup_cons.mp nd2).1, fun z => st.rs i i a (by rw [eR]; simp [z]) (by rw [eS]; simp), (List.nodup_cons.mp nd2).2, fun b hb => by rw [eS]; simp [hb], fun b hb => by rw [eR]; simp [hb]⟩
theorem Dats.put {K : PySem.W.Frag} {H : Hp} : ∀ {ds : List D} {n : Nat} {xs : List V} {S R : List Addr} {j : Nat} {e' : D} {y : V} {A B : List Addr}, Dats K H ds n xs S R → j < ds.length → Dat K H e' n y A B →
    ∃ S2 R2, Dats K H (ds.set j e') n (xs.set j y) S2 R2 ∧ (∀ b ∈ S2, b ∈ S ∨ b ∈ A) ∧ (S.Nodup → A.Nodup → (∀ b ∈ A, b ∉ S) → S2.Nodup) ∧ ∀ b ∈ R2, b ∈ R ∨ b ∈ B
  | [], _, _, _, _, _, _, _, _, _, h, hj, g => by simp at hj
  | d :: ds, n, _, _, _, 0, e', y, A, B, h, hj, g => by
    unfold Dats at h
    obtain ⟨x, xs', S1, S2, R1, R2, rfl, rfl, rfl, h1, h2⟩ := h
    refine ⟨A ++ S2, B ++ R2, Dats.cons g h2, fun b hb => ?_, fun n1 n2 n3 => ?_, fun b hb => ?_⟩
    · rcases List.mem_append.mp hb with hb | hb
      · exact .inr hb
      · exact .inl (List.mem_append_right _ hb)
    · exact List.nodup_append.mpr ⟨n2, (List.nodup_append.mp n1).2.1, fun b hb b' hb' e => by subst e; exact n3 b hb (List.mem_append_right _ hb')⟩
    · rcases List.mem_append.mp hb with hb | hb
      · exact .inr hb
      · exact .inl (List.mem_append_right _ hb)
  | d :: ds, n, _, _, _, j + 1, e', y, A, B, h, hj, g => by
    unfold Dats at h
    obtain ⟨x, xs', S1, S2, R1, R2, rfl, rfl, rfl, h1, h2⟩ := h
    obtain ⟨S3, R3, q, a1, a2, a3⟩ := Dats.put (j := j) h2 (by simpa using hj) g
    refine ⟨S1 ++ S3, R1 ++ R3, Dats.cons h1 q, fun b hb => ?_, fun n1 n2 n3 => ?_, fun b hb => ?_⟩
    · rcases List.mem_append.mp hb with hb | hb
      · exact .inl (List.mem_append_left _ hb)
      · exact (a1 b hb).imp (List.mem_append_right _) id
    · obtain ⟨m1, m2, m3⟩ := List.nodup_append.mp n1
      refine List.nodup_append.mpr ⟨m1, a2 m2 n2 fun b hb hb' => n3 b hb (List.mem_append_right _ hb'), fun b hb b' hb' e => ?_⟩
      subst e
      rcases a1 b hb' with z | z
      · exact m3 b hb b z rfl
      · exact n3 b z (List.mem_append_left _ hb)
    · rcases List.mem_append.mp hb with hb | hb
      · exact .inl (List.mem_append_left _ hb)
      · exact (a3 b hb).imp (List.mem_append_right _) id
theorem rs_app (hp : RP X W Γ i len o mp) (he : RE X W Γ (Γ.getD i 0 - len - 1) true e me) (hk : len < Γ.getD i 0 := by decide)
    (hbase : attributeBase o "append" X.env (eval o X.env) = eval o X.env := by rfl)
    (hfew : ((backTo pos (starEach (e :: []) X.env)).all (fun x => !x.1) && (backToKw pos (keywordEach [] X.env)).all (fun x => x.1.isSome)
      && decide ((e :: []).length + ([] : List Keyword).length + (if ([] : List Keyword).isEmpty then 0 else 1) < 30)) = true := by rfl)
    (hline : (pos'.endLine == pos.line) = true := by rfl) (hs : starEach (e :: []) X.env = (false, eval e X.env) :: starEach [] X.env := by rfl) (hplain : (backTo pos (starEach [] X.env)).any (·.1) = false := by rfl)
    {pos2 : Pos} (hw : swapsWith (.Call (.Attribute o "append" pos') [e] [] pos) none pos2.line X.env = pure false := by rfl) :
    RS X W n Γ Γ (.Expr (.Call (.Attribute o "append" pos') [e] [] pos) pos2) (sApp i mp me) := by
  obtain ⟨ta, pa, qa⟩ := hp
  obtain ⟨tb, pb, qb⟩ := he
  refine ⟨_, ps_expr (pe_bm PySem.F.plainAttrs_list PySem.F.slot_list_append PySem.F.type_list_append mt_append pa (pa_cons pb pa_nil hs) hbase hfew hline hs hplain) hw, fun F H0 ρ σ H S R E st po => ?_⟩
  obtain ⟨d, hd, po⟩ := atS_ok po
  · obtain ⟨x, hx, _⟩ := st.slot i d hd
    refine qa F H0 ρ σ H S R _ d x st hd hx ((PostS.ofR st po).imp fun p ep po => ?_)
    obtain ⟨v0, ev0, po0⟩ := noX_out po
    obtain ⟨d', c, c', d2, hd', hc, hf, hs', po2⟩ := mutO_ok po0
    rw [hd] at hd'
    cases hd'
    refine ⟨c, hc, fun v H1 Se Re s1 foc => ?_⟩
    unfold nApp at hf
    split at hf
    · rename_i l
      split at hf
      · rename_i hlen
        cases hf
        obtain ⟨kk, hkk⟩ : ∃ kk, Γ.getD i 0 - len = kk + 1 := ⟨Γ.getD i 0 - len - 1, by omega⟩
        rw [hkk] at foc
        obtain ⟨a, xs, S', rfl, ha, rfl, dd, haS, haS', haR, ndS', subS, subR⟩ := node_lst (st.grow s1) foc
        refine ⟨.inl ⟨rfl, _, .of ha⟩, ?_⟩
        have st1 := st.grow s1
        refine qb F H0 ρ σ H1 S R _ st1 ?_
        rw [ev0]
        intro y H2 A B s2 d2' v2 f2
        obtain ⟨nA, wA⟩ := f2 rfl
        have st2 := st1.grow s2
        have ha2 := s2 _ _ ha
        refine ⟨a, xs, y, rfl, rfl, ha2, by rw [dd.length]; exact hlen, ?_⟩
        have haA : a ∉ A := fun z => by rw [(wA a z).1] at ha; cases ha
        have haB : a ∉ B := fun z => v2 a z (.inr ⟨i, haS⟩)
        have hkk2 : Γ.getD i 0 - len - 1 = kk := by omega
        rw [hkk2] at d2'
        have g : Dat X.K (L2.upd H2 a (.lst (xs ++ [y]))) (.lst (l ++ [v0])) (kk + 1) (.ref a) (a :: (S' ++ A)) (Re ++ B) := by
          unfold Dat
          refine ⟨a, _, _, rfl, upd_same, rfl, Dats.append (Dats.stay _ _ _ _ _ (sub_stay (K := X.K) ha2 trivial haS' haR) (dd.same s2)) (Dats.one (Dat.stay _ _ _ _ _ (sub_stay (K := X.K) ha2 trivial haA haB) d2'))⟩
        obtain ⟨d3, S'', R'', ed, st3, kp, gr⟩ := st2.node (A := A) (B := B) hd hx (foc.same s2) g (by
            refine List.nodup_cons.mpr ⟨fun z => ?_, List.nodup_append.mpr ⟨ndS', nA, fun b hb b' hb' e => ?_⟩⟩
            · rcases List.mem_append.mp z with z | z
              · exact haS' z
              · exact haA z
            · subst e
              exact st1.domS i b (subS b hb) (wA b hb').1) (fun b hb => List.mem_append.mp hb) (fun b hb => ⟨st1.same.free (wA b hb).1, fun z => st1.fd b z (wA b hb).1, fun j z => st1.domS j b z (wA b hb).1, fun j z => st1.domR j b z (wA b hb).1⟩)
            (fun b hb => List.mem_append.mp hb) fun b hb => ⟨v2 b hb, fun z => (wA b z).2 hb⟩
        rw [hs'] at ed
        cases ed
        exact po2 σ _ S'' R'' st3 ((Keep.of_same (s1.trans s2)).trans Grow.refl kp) fun j b hb => (gr j b hb).imp id fun z => s1.free (wA b z).1
      · cases hf
    · cases hf
end
end TW
-- TWMut3
namespace TW
open PySem PySem.Spec PyProof.Rows L2

section
variable {X : Cx}
end
def gAddI : D → D → Option D
  | .int i, .int j => some (.int (i + j))
  | _, _ => none
section
variable {X : Cx} {W : WX} {Γ : List Nat} {n i len : Nat} {e a b o : Expr} {pos pos' : Pos} {mp : Rho → Res (List D)} {mb me mi : Rho → Res D}
def sAugN (i : Nat) (me : Rho → Res D) : Rho → Out := atS i fun ρ => (me ρ).out ρ fun v => (m2 gAddI (mVar i) (mC v) ρ).out ρ fun z => .nx (ρ.set i (some z))
end

def wipeR (ρ : Rho) : List Nat → Rho
  | [] => ρ
  | v :: vs => (wipeR ρ vs).set v none
def compL (f : D → Res (Option D)) : List D → Res (List D)
  | [] => .ok []
  | d :: ds => (noX (f d)).bind fun o => (compL f ds).bind fun r => .ok (o.toList ++ r)
def mLc (vs : List Nat) (f : D → Rho → Option Rho) (it : Rho → Res (List D)) (tt : Rho → Res Bool) (me : Rho → Res D) : Rho → Res D := fun ρ => (it ρ).bind fun ds =>
  if ds.length < sizeLine then (compL (fun d => match f d (wipeR ρ vs) with
    | some ρ' => (tt ρ').bind fun k => if k = true then (me ρ').bind fun v => .ok (some v) else .ok none
    | none => .stuck) ds).bind fun l => .ok (.lst l)
  else .stuck
def tYesM : Rho → Res Bool := fun _ => .ok true
theorem compL_append {f : D → Res (Option D)} : ∀ {ds es : List D} {l : List D}, compL f (ds ++ es) = .ok l → ∃ l1 l2, compL f ds = .ok l1 ∧ compL f es = .ok l2 ∧ l = l1 ++ l2
  | [], es, l, h => ⟨[], l, rfl, h, rfl⟩
  | d :: ds, es, l, h => by
    have h : ((noX (f d)).bind fun o => (compL f (ds ++ es)).bind fun r => Res.ok (o.toList ++ r)) = .ok l := h
    cases e1 : f d with
    | ok o =>
      rw [e1] at h
      simp only [noX_ok, Res.bind_ok] at h
      cases e2 : compL f (ds ++ es) with
      | ok r =>
        rw [e2] at h
        cases h
        obtain ⟨l1, l2, h1, h2, rfl⟩ := compL_append e2
        refine ⟨o.toList ++ l1, l2, ?_, h2, by simp⟩
        unfold compL
        rw [e1, h1]
        rfl
      | exn c => rw [e2] at h; cases h
      | stuck => rw [e2] at h; cases h
    | exn c => rw [e1] at h; cases h
    | stuck => rw [e1] at h; cases h
section
variable {K : PySem.W.Frag} {F : Fr} {H0 H : Hp} {Γ : List Nat} {ρ : Rho} {σ : L2.St} {S R : Nat → List Addr}
theorem Sto.wipe1 (h : Sto K F H0 Γ ρ σ H S R) (i : Nat) (hi : Γ.getD i 0 = 0) : ∃ R', Sto K F H0 Γ (ρ.set i none) (σ.set i none) H S R' := by
  have hs : S i = [] := by
    by_cases e : ∃ d, ρ[i]? = some (some d)
    · obtain ⟨d', e⟩ := e
      obtain ⟨y, _, g⟩ := h.slot i d' e
      rw [hi] at g
      exact Dat.noS g
    · exact (h.emp i fun d q => e ⟨d, q⟩).1
  have pin : ∀ j v, F.pin j = some v → Γ.getD j 0 = 99 ∧ (σ.set i none)[j]? = some (some v) := fun j v q => by
    obtain ⟨p1, p2⟩ := h.pin j v q
    have hj : i ≠ j := fun z => by subst z; omega
    exact ⟨p1, by rw [List.getElem?_set_ne hj]; exact p2⟩
  refine ⟨fun j => if j = i then [] else R j, ⟨h.same, by simp [h.len], fun j e q => ?_, fun j q => ?_, h.new, h.nd, h.dj, fun j k a ha hk => ?_, fun j a ha => ?_, h.sf, h.fd, pin⟩⟩
  · by_cases hj : j = i
    · subst hj
      by_cases hl : j < ρ.length
      · rw [List.getElem?_set_self hl] at q; cases q
      · rw [List.getElem?_eq_none (by simp; omega)] at q; cases q
    · rw [List.getElem?_set_ne (Ne.symm hj)] at q
      obtain ⟨y, e1, e2⟩ := h.slot j e q
      refine ⟨y, by rw [List.getElem?_set_ne (Ne.symm hj)]; exact e1, ?_⟩
      rw [if_neg hj]
      exact e2
  · by_cases hj : j = i
    · subst hj
      rw [if_pos rfl]
      exact ⟨hs, rfl⟩
    · rw [if_neg hj]
      refine h.emp j fun e q' => q e ?_
      rw [List.getElem?_set_ne (Ne.symm hj)]
      exact q'
  · split at ha
    · simp at ha
    · exact h.rs j k a ha hk
  · split at ha
    · simp at ha
    · exact h.rf j a ha
theorem Sto.wipe : ∀ (vs : List Nat), (∀ v ∈ vs, Γ.getD v 0 = 0) → Sto K F H0 Γ ρ σ H S R → ∃ R', Sto K F H0 Γ (wipeR ρ vs) (L2.wipe σ vs) H S R'
  | [], _, h => ⟨R, h⟩
  | v :: vs, hv, h => by
    obtain ⟨R1, h1⟩ := Sto.wipe vs (fun u hu => hv u (List.mem_cons_of_mem _ hu)) h
    exact h1.wipe1 v (hv v List.mem_cons_self)
end
def RGw (X : Cx) (Γ : List Nat) (vs : List Nat) (tg : Expr) (f : D → Rho → Option Rho) : Prop :=
  ∃ g, PG X tg g ∧ ∀ F H0 ρ σ H S R d x B ρ' (Q : L2.St → Hp → Prop), Sto X.K F H0 Γ ρ σ H S R → Dat X.K H d 0 x [] B → (∀ a ∈ B, ¬ Av F S a) → f d ρ = some ρ' → (∀ σ' R', Sto X.K F H0 Γ ρ' σ' H S R' → L2.wipe σ' vs = L2.wipe σ vs → Q σ' H) → g x σ H Q
theorem wipe_key {i : Nat} {v : Option V} : ∀ (vs : List Nat) (τ : L2.St), (L2.wipe (τ.set i v) vs).set i none = (L2.wipe τ vs).set i none := by
  intro vs
  induction vs with
  | nil => intro τ; unfold L2.wipe; rw [List.set_set]
  | cons w vs ih =>
    intro τ
    unfold L2.wipe
    by_cases ew : w = i
    · subst ew; rw [ih]
    · rw [List.set_comm _ _ ew, ih, List.set_comm _ _ ew]
theorem wipe_idem (σ : L2.St) : ∀ vs : List Nat, L2.wipe (L2.wipe σ vs) vs = L2.wipe σ vs
  | [] => rfl
  | v :: vs => by
    show (L2.wipe ((L2.wipe σ vs).set v none) vs).set v none = (L2.wipe σ vs).set v none
    rw [wipe_key, wipe_idem σ vs]
theorem wipe_set {σ : L2.St} {i : Nat} {v : Option V} : ∀ {vs : List Nat}, i ∈ vs → L2.wipe (σ.set i v) vs = L2.wipe σ vs
  | [], h => by simp at h
  | u :: vs, h => by
    unfold L2.wipe
    by_cases e : i = u
    · subst e
      exact wipe_key vs σ
    · rw [wipe_set ((List.mem_cons.mp h).resolve_left e)]
section
variable {X : Cx} {Γ : List Nat} {pos : Pos} {vs : List Nat}
theorem rgw_n {i : Nat} {x : Str} (hN : X.N.Nodup) (hx : Loc X.env.scope x) (hi : X.N[i]? = some x := by rfl) (hz : Γ.getD i 0 = 0 := by rfl) (hv : i ∈ vs := by decide)
    (hf : X.fn x = true ∨ X.env.scope.names.lookup x = some .local := by first | exact .inl rfl | exact .inr rfl | assumption) : RGw X Γ vs (.Name x pos) (tgN i) := by
  refine ⟨_, pg_name hN hi hx hf, fun F H0 ρ σ H S R d x B ρ' Q st hd hb e q => ?_⟩
  cases e
  obtain ⟨R', st'⟩ := st.set0 hz hd hb
  exact q _ R' st' (wipe_set hv)
def RGws (X : Cx) (Γ : List Nat) (vs : List Nat) (ts : List Expr) (is : List Nat) : Prop :=
  ∃ g, PGs X ts g ∧ ∀ F H0 ρ σ H S R ds xs B ρ' (Q : L2.St → Hp → Prop), Sto X.K F H0 Γ ρ σ H S R → Dats X.K H ds 0 xs [] B → (∀ a ∈ B, ¬ Av F S a) → tgNs is ds ρ = some ρ' → (∀ σ' R', Sto X.K F H0 Γ ρ' σ' H S R' → L2.wipe σ' vs = L2.wipe σ vs → Q σ' H) → g xs σ H Q
theorem rgws_nil : RGws X Γ vs [] [] := by
  refine ⟨_, pgs_nil, fun F H0 ρ σ H S R ds xs B ρ' Q st hd hb e q => ?_⟩
  cases ds with
  | nil =>
    simp only [Dats] at hd
    cases e
    exact ⟨hd.1, q σ R st rfl⟩
  | cons d r => cases e
theorem rgws_cons {e : Expr} {es : List Expr} {i : Nat} {is : List Nat} (h1 : RGw X Γ vs e (tgN i)) (h2 : RGws X Γ vs es is) (hs : (assignEach (e :: es) X.env).map (·.2) = assign e X.env :: (assignEach es X.env).map (·.2) := by rfl) : RGws X Γ vs (e :: es) (i :: is) := by
  obtain ⟨g1, p1, q1⟩ := h1
  obtain ⟨g2, p2, q2⟩ := h2
  refine ⟨_, pgs_cons p1 p2 hs, fun F H0 ρ σ H S R ds xs B ρ' Q st hd hb e q => ?_⟩
  cases ds with
  | nil => cases e
  | cons d r =>
    unfold Dats at hd
    obtain ⟨x, xs', S1, S2, R1, R2, rfl, e0, rfl, d1, d2⟩ := hd
    obtain ⟨rfl, rfl⟩ := List.append_eq_nil_iff.mp e0.symm
    refine ⟨x, xs', rfl, q1 F H0 ρ σ H S R d x R1 _ _ st d1 (fun a ha => hb a (List.mem_append_left _ ha)) rfl fun σ1 R' st1 w1 => ?_⟩
    exact q2 F H0 _ σ1 H S R' r xs' R2 ρ' Q st1 d2 (fun a ha => hb a (List.mem_append_right _ ha)) e fun σ2 R2 st2 w2 => q σ2 R2 st2 (w2.trans w1)
theorem rgw_t {es : List Expr} {k : Nat} {is : List Nat} {n : Nat} (hc : X.calm = true) (h : RGws X Γ vs es is) (hl : is.length = n := by rfl) (hn : (assignEach es X.env).length = n := by rfl) (hst : (assignEach es X.env).findIdx? (·.1) = none := by rfl) : RGw X Γ vs (.Tuple es k pos) (tgT is) := by
  obtain ⟨g, p, q⟩ := h
  refine ⟨_, pg_tup hc p hn hst, fun F H0 ρ σ H S R d x B ρ' Q st hd hb e qq => ?_⟩
  cases d with
  | tup ds =>
    obtain ⟨a, xs, rfl, hq, dd⟩ := dat_tup0 hd
    have len : ∀ (is : List Nat) (ds : List D) (ρ ρ' : Rho), tgNs is ds ρ = some ρ' → ds.length = is.length := by
      intro is
      induction is with
      | nil => intro ds ρ ρ' e; cases ds with
        | nil => rfl
        | cons d r => cases e
      | cons i is ih => intro ds ρ ρ' e; cases ds with
        | nil => cases e
        | cons d r => simp [ih r _ ρ' e]
    exact ⟨a, xs, rfl, .of hq, by rw [dd.length, len is ds ρ ρ' e, hl], q F H0 ρ σ H S R ds xs B ρ' Q st dd hb e qq⟩
  | _ => cases e
end
abbrev W0 : WX := fun _ _ _ _ => False
def RTs (X : Cx) (W : WX) (Γ : List Nat) (es : List Expr) (m : Rho → Res Bool) : Prop :=
  ∃ t, PTs X es t ∧ ∀ F H0 ρ σ H S R Q, Sto X.K F H0 Γ ρ σ H S R → PostT X W σ H Q (m ρ) → t σ H Q
theorem rts_nil {X : Cx} {W : WX} {Γ : List Nat} : RTs X W Γ [] tYesM := ⟨_, pts_nil, fun F H0 ρ σ H S R Q st po => po H (Same.refl H)⟩
section
variable {X : Cx} {W : WX} {Γ : List Nat} {n nr : Nat} {elt tg iter : Expr} {ifs : List Expr} {scope : Scope} {own : List (Str × Nat)} {pos : Pos} {f : D → Rho → Option Rho} {mi : Rho → Res (List D)} {tt : Rho → Res Bool} {me : Rho → Res D}
theorem lc_parts (hg : ∀ (s : Shared) (H : Hp) (C : Addr) (cl : List (Str × Addr)) (fp : List Addr), RGw (X.blk s H scope (compEnvC scope cl C X.env) fp) Γ (own.map (·.2)) tg f)
    (ht : ∀ (s : Shared) (H : Hp) (C : Addr) (cl : List (Str × Addr)) (fp : List Addr), RTs (X.blk s H scope (compEnvC scope cl C X.env) fp) W0 Γ ifs tt)
    (he : ∀ (s : Shared) (H : Hp) (C : Addr) (cl : List (Str × Addr)) (fp : List Addr), RE (X.blk s H scope (compEnvC scope cl C X.env) fp) W0 Γ n true elt me) :
    ∃ (g : TG) (t : TT) (te : TE), (∀ (s : Shared) (H : Hp) (C : Addr) (cl : List (Str × Addr)) (fp : List Addr), PG (X.blk s H scope (compEnvC scope cl C X.env) fp) tg g) ∧ (∀ (s : Shared) (H : Hp) (C : Addr) (cl : List (Str × Addr)) (fp : List Addr), PTs (X.blk s H scope (compEnvC scope cl C X.env) fp) ifs t) ∧
      (∀ (s : Shared) (H : Hp) (C : Addr) (cl : List (Str × Addr)) (fp : List Addr), PE (X.blk s H scope (compEnvC scope cl C X.env) fp) elt te) ∧
      (∀ F H0 ρ σ H S R d x B ρ' (Q : L2.St → Hp → Prop), Sto X.K F H0 Γ ρ σ H S R → Dat X.K H d 0 x [] B → (∀ a ∈ B, ¬ Av F S a) → f d ρ = some ρ' → (∀ σ' R', Sto X.K F H0 Γ ρ' σ' H S R' → L2.wipe σ' (own.map (·.2)) = L2.wipe σ (own.map (·.2)) → Q σ' H) → g x σ H Q) ∧
      (∀ F H0 ρ σ H S R Q b, Sto X.K F H0 Γ ρ σ H S R → tt ρ = .ok b → (∀ H', Same H H' → Q b H') → t σ H Q) ∧
      (∀ F H0 ρ σ H S R Q d, Sto X.K F H0 Γ ρ σ H S R → me ρ = .ok d → PostV X.K (Av F S) n true H Q d → te σ H Q) := by
  refine ⟨fun x σ H Q => ∀ s H' C cl fp, Classical.choose (hg s H' C cl fp) x σ H Q, fun σ H Q => ∀ s H' C cl fp, Classical.choose (ht s H' C cl fp) σ H Q, fun σ H Q => ∀ s H' C cl fp, Classical.choose (he s H' C cl fp) σ H Q,
    fun s H C cl fp => ⟨fun pins s1 σ H1 v u Q I r h => (Classical.choose_spec (hg s H C cl fp)).1.run pins s1 σ H1 v u Q I r (h s H C cl fp)⟩, fun s H C cl fp => ⟨fun pins s1 σ H1 Q I h => (Classical.choose_spec (ht s H C cl fp)).1.run pins s1 σ H1 Q I (h s H C cl fp)⟩,
    fun s H C cl fp => ⟨fun pins s1 σ H1 Q I h => (Classical.choose_spec (he s H C cl fp)).1.run pins s1 σ H1 Q I (h s H C cl fp)⟩,
    fun F H0 ρ σ H S R d x B ρ' Q st hd hb e q s H' C cl fp => (Classical.choose_spec (hg s H' C cl fp)).2 F H0 ρ σ H S R d x B ρ' Q st hd hb e q,
    fun F H0 ρ σ H S R Q b st e q s H' C cl fp => (Classical.choose_spec (ht s H' C cl fp)).2 F H0 ρ σ H S R Q st (by rw [e]; exact q),
    fun F H0 ρ σ H S R Q d st e q s H' C cl fp => (Classical.choose_spec (he s H' C cl fp)).2 F H0 ρ σ H S R Q st (by rw [e]; exact q)⟩
theorem lc_run {wi : TI} {g : TG} {t : TT} {te : TE} {vs : List Nat} {F : Fr} {H0 H : Hp} {ρ : Rho} {σ : L2.St} {S R : Nat → List Addr} {Q : VK} (hv : ∀ v ∈ vs, Γ.getD v 0 = 0)
    (qi : ∀ F H0 ρ σ H S R (Rk : It → Hp → Prop), Sto X.K F H0 Γ ρ σ H S R → PostX X W σ H (fun ds => ∀ J H' B, Same H H' → (∀ a ∈ B, ¬ Av F S a) → (∀ a ∈ B, H' a ≠ none) → Iter X.K J H' B ds → Rk J H') (mi ρ) → wi σ H Rk)
    (qg : ∀ F H0 ρ σ H S R d x B ρ' (Q : L2.St → Hp → Prop), Sto X.K F H0 Γ ρ σ H S R → Dat X.K H d 0 x [] B → (∀ a ∈ B, ¬ Av F S a) → f d ρ = some ρ' → (∀ σ' R', Sto X.K F H0 Γ ρ' σ' H S R' → L2.wipe σ' vs = L2.wipe σ vs → Q σ' H) → g x σ H Q)
    (qt : ∀ F H0 ρ σ H S R Q b, Sto X.K F H0 Γ ρ σ H S R → tt ρ = .ok b → (∀ H', Same H H' → Q b H') → t σ H Q)
    (qe : ∀ F H0 ρ σ H S R Q d, Sto X.K F H0 Γ ρ σ H S R → me ρ = .ok d → PostV X.K (Av F S) n true H Q d → te σ H Q)
    (st : Sto X.K F H0 Γ ρ σ H S R) (po : PostE X W (Av F S) (n + 1) true σ H Q (mLc vs f mi tt me ρ)) : tLc wi g t te vs σ H Q := by
  unfold mLc at po
  refine qi F H0 ρ σ H S R _ st ((PostE.iff.mp po).bind.imp fun ds eds po => ?_)
  intro J H1 B s1 v1 dm it1 L hL
  have st1 := st.grow s1
  by_cases hlen : ds.length < sizeLine
  · rw [if_pos hlen] at po
    generalize hfun : (fun d => match f d (wipeR ρ vs) with
      | some ρ' => (tt ρ').bind fun k => if k = true then (me ρ').bind fun v => Res.ok (some v) else Res.ok none
      | none => Res.stuck) = fn at po
    cases ec : compL fn ds with
    | stuck => rw [ec] at po; exact po.elim
    | exn c =>
      exfalso
      clear po
      have nx : ∀ (l : List D), compL fn l ≠ .exn c := by
        intro l
        induction l with
        | nil => intro z; cases z
        | cons d l ih =>
          intro z
          unfold compL at z
          cases e1 : fn d with
          | ok o =>
            rw [e1] at z
            simp only [noX_ok, Res.bind_ok] at z
            cases e2 : compL fn l with
            | ok r => rw [e2] at z; cases z
            | exn c' => rw [e2] at z; cases z; exact ih e2
            | stuck => rw [e2] at z; cases z
          | exn c' => rw [e1] at z; cases z
          | stuck => rw [e1] at z; cases z
      exact nx ds ec
    | ok res =>
      rw [ec] at po
      have po : PostV X.K (Av F S) (n + 1) true H Q (.lst res) := po
      refine ⟨fun i m H' => ∃ l1 xs A1 B1, compL fn (ds.take i) = .ok l1 ∧ H' L = some (.lst xs) ∧ Dats X.K H' l1 n xs A1 B1 ∧ (∀ a ∈ B1, ¬ Av F S a) ∧ A1.Nodup ∧ (∀ a ∈ A1, H1 a = none ∧ a ≠ L ∧ a ∉ B1) ∧ L ∉ B1 ∧ Same H1 H' ∧ xs.length ≤ i ∧ m = ds.length - i ∧ i ≤ ds.length,
        ⟨ds.length, [], [], [], [], rfl, upd_same, .nil, fun a z => by simp at z, List.nodup_nil, fun a z => by simp at z, by simp, same_new hL, Nat.le_refl _, by omega, Nat.zero_le _⟩, ?_⟩
      rintro i m H' ⟨l1, xs, A1, B1, el1, hLl, dl, vB, ndA, nA, nDB, sm, hxs, rfl, hi⟩
      have stay : Stay H1 H' [] B := Stay.of_same sm _ _
      by_cases hlt : i < ds.length
      · have ed : ds[i]? = some ds[i] := List.getElem?_eq_getElem hlt
        obtain ⟨go, yld⟩ := (it1 H' stay i).2 _ ed
        -- the mirror at this item
        have etake : ds.take (i + 1) = ds.take i ++ [ds[i]] := by rw [List.take_add_one, ed]; rfl
        have erest : ds = ds.take (i + 1) ++ ds.drop (i + 1) := (List.take_append_drop _ _).symm
        obtain ⟨r1, r2, hr1, hr2, er⟩ := compL_append (by rw [← erest]; exact ec : compL fn (ds.take (i + 1) ++ ds.drop (i + 1)) = .ok res)
        rw [etake] at hr1
        obtain ⟨q1, q2, hq1, hq2, eq⟩ := compL_append hr1
        rw [el1] at hq1
        cases hq1
        refine .inr ⟨go, fun H2 => ∃ l1 xs A1 B1, compL fn (ds.take (i + 1)) = .ok l1 ∧ H2 L = some (.lst xs) ∧ Dats X.K H2 l1 n xs A1 B1 ∧ (∀ a ∈ B1, ¬ Av F S a) ∧ A1.Nodup ∧ (∀ a ∈ A1, H1 a = none ∧ a ≠ L ∧ a ∉ B1) ∧ L ∉ B1 ∧ Same H1 H2 ∧ xs.length ≤ i + 1 ∧ i + 1 ≤ ds.length,
          fun H2 ⟨a1, a2, a3, a4, h1, h2, h3, h4, h5, h6, h7, h8, h9, h10⟩ => ⟨ds.length - (i + 1), by omega, a1, a2, a3, a4, h1, h2, h3, h4, h5, h6, h7, h8, h9, rfl, h10⟩, fun x H3 hy => ?_⟩
        obtain ⟨s3, B', d3, sub⟩ := yld x H3 hy
        -- the store within: what is made so far is not to be reached
        have sm3 : Same H1 H3 := sm.trans s3
        have new1 : ∀ a ∈ L :: A1, H1 a = none := fun a ha => by
          rcases List.mem_cons.mp ha with rfl | ha
          · exact hL
          · exact (nA a ha).1
        have dom3 : ∀ a ∈ L :: A1, H3 a ≠ none := fun a ha => by
          have : H' a ≠ none := by
            rcases List.mem_cons.mp ha with rfl | ha
            · rw [hLl]; simp
            · exact Dats.dom dl a ha
          cases q : H' a with
          | none => exact absurd q this
          | some o => rw [s3 a o q]; simp
        have stF : Sto X.K (F.plus (L :: A1)) H0 Γ ρ σ H3 S R :=
          (st1.grow sm3).more dom3 (fun a ha j hj => st1.domS j a hj (new1 a ha)) fun a ha j hj => st1.domR j a hj (new1 a ha)
        obtain ⟨Rw, stw⟩ := Sto.wipe vs hv stF
        have vB' : ∀ a ∈ B', ¬ Av (F.plus (L :: A1)) S a := fun a ha z => by
          rcases z with (z | z) | z
          · exact v1 a (sub a ha) (.inl z)
          · exact dm a (sub a ha) (new1 a z)
          · exact v1 a (sub a ha) (.inr z)
        -- the mirror's turn
        have hfd : ∃ o, fn ds[i] = .ok o ∧ q2 = o.toList := by
          unfold compL at hq2
          cases e1 : fn ds[i] with
          | ok o =>
            rw [e1] at hq2
            cases hq2
            exact ⟨o, rfl, by simp⟩
          | exn c => rw [e1] at hq2; cases hq2
          | stuck => rw [e1] at hq2; cases hq2
        obtain ⟨o, efn, eq2⟩ := hfd
        rw [← hfun] at efn
        dsimp only at efn
        cases ef : f ds[i] (wipeR ρ vs) with
        | none => rw [ef] at efn; cases efn
        | some ρ' =>
          rw [ef] at efn
          dsimp only at efn
          refine qg _ H0 _ _ H3 S Rw ds[i] x B' ρ' _ stw d3 vB' ef fun σ4 R4 st4 w4 => ?_
          refine ⟨w4.trans (wipe_idem σ vs), ?_⟩
          cases et : tt ρ' with
          | stuck => rw [et] at efn; cases efn
          | exn c => rw [et] at efn; cases efn
          | ok k =>
            rw [et] at efn
            simp only [Res.bind_ok] at efn
            refine qt _ H0 ρ' σ4 H3 S R4 _ k st4 et fun H4 s4 => ?_
            cases k with
            | false =>
              rw [if_neg Bool.false_ne_true] at efn
              cases efn
              refine iteF ⟨l1, xs, A1, B1, ?_, s4 _ _ (s3 _ _ hLl), (dl.same s3).same s4, vB, ndA, nA, nDB, sm3.trans s4, by omega, hlt⟩
              rw [etake, hr1, eq, eq2]
              simp
            | true =>
              rw [if_pos rfl] at efn
              cases em : me ρ' with
              | stuck => rw [em] at efn; cases efn
              | exn c => rw [em] at efn; cases efn
              | ok v =>
                rw [em] at efn
                cases efn
                refine iteT (qe _ H0 ρ' σ4 H4 S R4 _ v (st4.grow s4) em ?_)
                intro y H5 A2 B2 s5 d5 v5 f5
                obtain ⟨nd2, nw2⟩ := f5 rfl
                have s35 : Same H3 H5 := s4.trans s5
                have hL5 : H5 L = some (.lst xs) := s35 _ _ (s3 _ _ hLl)
                have dom4 : ∀ a, H3 a ≠ none → H4 a ≠ none := fun a h z => h (s4.free z)
                have LA2 : L ∉ A2 := fun z => dom4 L (dom3 L List.mem_cons_self) (nw2 L z).1
                have LB2 : L ∉ B2 := fun z => v5 L z (.inl (.inr List.mem_cons_self))
                have LA1 : L ∉ A1 := fun z => (nA L z).2.1 rfl
                refine ⟨xs, hL5, by omega, l1 ++ [v], xs ++ [y], A1 ++ A2, B1 ++ B2, ?_, upd_same, ?_, fun a ha => ?_, ?_, fun a ha => ?_, fun z => ?_, fun b u q => ?_, by simp; omega, hlt⟩
                · rw [etake, hr1, eq, eq2]; rfl
                · exact Dats.append (Dats.stay _ _ _ _ _ (sub_stay (K := X.K) hL5 trivial LA1 nDB) (((dl.same s3).same s4).same s5)) (Dats.one (Dat.stay _ _ _ _ _ (sub_stay (K := X.K) hL5 trivial LA2 LB2) d5))
                · rcases List.mem_append.mp ha with ha | ha
                  · exact vB a ha
                  · exact fun z => v5 a ha (z.imp .inl id)
                · refine List.nodup_append.mpr ⟨ndA, nd2, fun b hb b' hb' e => ?_⟩
                  subst e
                  exact dom4 b (dom3 b (List.mem_cons_of_mem _ hb)) (nw2 b hb').1
                · rcases List.mem_append.mp ha with ha | ha
                  · refine ⟨(nA a ha).1, (nA a ha).2.1, fun z => ?_⟩
                    rcases List.mem_append.mp z with z | z
                    · exact (nA a ha).2.2 z
                    · exact v5 a z (.inl (.inr (List.mem_cons_of_mem _ ha)))
                  · refine ⟨sm3.free (s4.free (nw2 a ha).1), fun z => LA2 (z ▸ ha), fun z => ?_⟩
                    rcases List.mem_append.mp z with z | z
                    · exact Dats.domR ((dl.same s3).same s4) a z (nw2 a ha).1
                    · exact (nw2 a ha).2 z
                · rcases List.mem_append.mp z with z | z
                  · exact nDB z
                  · exact LB2 z
                · rw [upd_ne (fun z => by subst z; rw [hL] at q; cases q)]
                  exact s35 _ _ (sm3 _ _ q)
      · have e : i = ds.length := by omega
        subst e
        refine .inl ⟨(it1 H' stay _).1 (Nat.le_refl _), ?_⟩
        rw [List.take_length, ec] at el1
        cases el1
        refine po (.ref L) H' (L :: A1) B1 (s1.trans sm) ?_ vB fun _ => ⟨List.nodup_cons.mpr ⟨fun z => (nA L z).2.1 rfl, ndA⟩, fun a ha => ?_⟩
        · unfold Dat
          exact ⟨L, xs, A1, rfl, hLl, rfl, dl⟩
        · rcases List.mem_cons.mp ha with rfl | ha
          · exact ⟨s1.free hL, nDB⟩
          · exact ⟨s1.free (nA a ha).1, (nA a ha).2.2⟩
  · rw [if_neg hlen] at po
    exact po.elim

theorem re_lc (hc : X.calm = true) (hN : X.N.Nodup) (hi : RI X W Γ tg iter mi) (ok : BlkOk X.N X.env.scope scope own) (hg : ∀ (s : Shared) (H : Hp) (C : Addr) (cl : List (Str × Addr)) (fp : List Addr), RGw (X.blk s H scope (compEnvC scope cl C X.env) fp) Γ (own.map (·.2)) tg f)
    (ht : ∀ (s : Shared) (H : Hp) (C : Addr) (cl : List (Str × Addr)) (fp : List Addr), RTs (X.blk s H scope (compEnvC scope cl C X.env) fp) W0 Γ ifs tt)
    (he : ∀ (s : Shared) (H : Hp) (C : Addr) (cl : List (Str × Addr)) (fp : List Addr), RE (X.blk s H scope (compEnvC scope cl C X.env) fp) W0 Γ n true elt me) (hv : ∀ v ∈ own.map (·.2), Γ.getD v 0 = 0 := by decide)
    (hs : ∀ x, foldedSetIterable iter X.env x = pure x := by intro _; rfl) : RE X W Γ (n + 1) true (.ListComp elt [⟨tg, iter, ifs, 0⟩] scope pos) (mLc (own.map (·.2)) f mi tt me) := by
  obtain ⟨wi, pi, qi⟩ := hi
  obtain ⟨g, t, te, pg, pt, pe, qg, qt, qe⟩ := lc_parts hg ht he
  exact ⟨_, pe_lc hc hN pi ok pg pt pe hs, fun F H0 ρ σ H S R Q st po => lc_run hv qi qg qt qe st po⟩
theorem rs_setLc {k : Nat} {i : Nat} {y : Str} {py spos : Pos} (hc : X.calm = true) (hN : X.N.Nodup) (hyl : X.env.scope.names.lookup y = some .local) (hsw : swapsWith (.ListComp elt [⟨tg, iter, ifs, 0⟩] scope pos) (some (.Name y py)) spos.line X.env = pure true)
    (hi : RI X W Γ tg iter mi) (ok : BlkOk X.N X.env.scope scope own) (hg : ∀ (s : Shared) (H : Hp) (C : Addr) (cl : List (Str × Addr)) (fp : List Addr), RGw (X.blk s H scope (compEnvC scope cl C X.env) fp) Γ (own.map (·.2)) tg f)
    (ht : ∀ (s : Shared) (H : Hp) (C : Addr) (cl : List (Str × Addr)) (fp : List Addr), RTs (X.blk s H scope (compEnvC scope cl C X.env) fp) W0 Γ ifs tt)
    (he : ∀ (s : Shared) (H : Hp) (C : Addr) (cl : List (Str × Addr)) (fp : List Addr), RE (X.blk s H scope (compEnvC scope cl C X.env) fp) W0 Γ n true elt me) (hv : ∀ v ∈ own.map (·.2), Γ.getD v 0 = 0 := by decide) (hy : X.N[i]? = some y := by rfl) (hl : i < Γ.length := by decide) (hk : k ≤ n + 1 := by decide)
    (hs : ∀ x, foldedSetIterable iter X.env x = pure x := by intro _; rfl) {Γ1 : List Nat} (hp : Γ.getD i 0 ≠ 99 := by decide) (hΓ : Γ.set i k = Γ1 := by rfl) : RS X W nr Γ Γ1 (.Assign [.Name y py] (.ListComp elt [⟨tg, iter, ifs, 0⟩] scope pos) spos) (sSet i (mLc (own.map (·.2)) f mi tt me)) := by
  subst hΓ
  obtain ⟨wi, pi, qi⟩ := hi
  obtain ⟨g, t, te, pg, pt, pe, qg, qt, qe⟩ := lc_parts hg ht he
  refine ⟨_, ps_setLc hc hN hy hyl hsw pi ok pg pt pe hs, fun F H0 ρ σ H S R E st po => ?_⟩
  refine lc_run (n := n) (Q := fun x H1 => gName i x σ H1 E.nx) hv qi qg qt qe st (PostE.iff.mpr ((PostS.ofR (f := fun d => .nx (ρ.set i (some d))) st po).imp fun d _ po => ?_))
  intro v H1 A0 B0 s1 d1' v1' f1'
  have st1 := st.grow s1
  obtain ⟨A, B, d1, snd, sub, hb, ap⟩ := Dat.weakS hk d1'
  obtain ⟨nd0, nw0⟩ := f1' rfl
  have v1 : ∀ a ∈ B, ¬ Av F S a := fun a ha => (hb a ha).elim (fun z w => st.avd a w (nw0 a z).1) (v1' a)
  have nw : ∀ a ∈ A, H a = none ∧ a ∉ B := fun a ha => ⟨(nw0 a (sub a ha)).1, ap nd0 (fun a ha => (nw0 a ha).2) a ha⟩
  obtain ⟨S', R', st2, gr⟩ := st1.set (i := i) (n := k) (.inl hl) d1 v1 (snd nd0) (fun a ha => st.same.free (nw a ha).1) (fun a ha z => st.fd a z (nw a ha).1) (fun a ha j hj => st.domS j a hj (nw a ha).1) (fun a ha j hj => st.domR j a hj (nw a ha).1) (fun a ha hb => (nw a ha).2 hb) hp
  exact po _ H1 S' R' st2 (Keep.of_same s1) fun j a ha => (gr j a ha).imp (fun z => ⟨j, z⟩) fun z => (nw a z).1
end
def callM (N : Nat) (b : Rho → Out) (ds : List D) : Res D := match b (ds.map some ++ List.replicate (N - ds.length) none) with
  | .rt d => .ok d
  | .nx _ => .ok .non
  | .ex c _ => .exn c
  | .stuck => .stuck
theorem Dats.slot {K : PySem.W.Frag} {H : Hp} {ds : List D} {xs : List V} {R : List Addr} (h : Dats K H ds 0 xs [] R) : ∀ (i : Nat) (d : D), ds[i]? = some d → ∃ x R', xs[i]? = some x ∧ Dat K H d 0 x [] R' ∧ ∀ a ∈ R', a ∈ R := fun i d e => by
  obtain ⟨x, S', R', e1, g, _, r⟩ := h.get e
  obtain rfl : S' = [] := Dat.noS g
  exact ⟨x, R', e1, g, r⟩
theorem mk_ok {P : Program} {w : World} {K : PySem.W.Frag} {mg : Str → Option Value} {base : Heap} {x qual : Str} {st : Stmt} {f : Addr} {fd : FuncData} {N ps : List Str} {k n ar : Nat} {m : Rho → Out} {Γ Γ' : List Nat}
    (F : Fun K x qual st f fd) (Sc : FnScope N ps (defScope st)) (har : ps.length = ar) (hz : ∀ v ∈ Γ, v = 0)
    (body : ∀ (cdv : Value) (A : Around) (outer : List Env) (s : Shared) (H : Hp) (E : XK), Room k (A.deeper (envOfC qual (defScope st) s.heap.objs.size f cdv)) →
      RSs (cxOf (L2.CX P w) P w K mg base N qual (defScope st) f cdv A outer s H E) (fun cls d _ H => E cls d H) n Γ Γ' (defBody st) m) (hn : n < 1000 := by decide) :
    FnOk P w K mg base (L2.CX P w) (k + 1) f fd ps (spM K mg n ar (callM N.length m)) := by
  refine F.okX Sc (fun vs H Q E h => by rw [h.1, har]) (fun cdv A outer s H vs Q E hr h => ?_)
  obtain ⟨t, p, q⟩ := body cdv A outer s H E hr
  refine ⟨t, p, ?_⟩
  obtain ⟨hl, ds, Fb, R, hF, hd, hR, po⟩ := h
  have hps : ps.length ≤ N.length := by have := congrArg List.length Sc.pre; rw [List.length_take] at this; omega
  have hds : ds.length = ar := by rw [← hd.length]; exact hl
  have gz : ∀ i, Γ.getD i 0 = 0 := fun i => by
    rw [List.getD_eq_getElem?_getD]
    cases e : Γ[i]? with
    | none => rfl
    | some v => exact hz v (List.mem_of_getElem? e)
  have slotq : ∀ i : Nat, ∃ R1 : List Addr, (∀ d, ds[i]? = some d → ∃ x, vs[i]? = some x ∧ Dat K H d 0 x [] R1) ∧ (∀ a ∈ R1, a ∈ R) ∧ (ds[i]? = none → R1 = []) := fun i => by
    cases e : ds[i]? with
    | none => exact ⟨[], ⟨(fun d z => nomatch z), (fun a z => nomatch z), (fun _ => rfl)⟩⟩
    | some d =>
      obtain ⟨x, R', e1, g, r⟩ := hd.slot i d e
      exact ⟨R', ⟨fun d' z => by cases z; exact ⟨x, e1, g⟩, r, fun z => by cases z⟩⟩
  have ρget : ∀ i d, (ds.map some ++ List.replicate (N.length - ds.length) none : Rho)[i]? = some (some d) → ds[i]? = some d := fun i d e => by
    by_cases hi : i < ds.length
    · rw [List.getElem?_append_left (by simpa using hi), List.getElem?_map] at e
      cases e2 : ds[i]? with
      | none => rw [e2] at e; cases e
      | some d' => rw [e2] at e; cases e; rfl
    · rw [List.getElem?_append_right (by simpa using hi), List.getElem?_replicate] at e
      split at e <;> cases e
  have st0 : Sto K ⟨Fb, fun _ => none⟩ H Γ (ds.map some ++ List.replicate (N.length - ds.length) none) (L2.start N vs) H (fun _ => []) (fun i => Classical.choose (slotq i)) := by
    refine ⟨Same.refl H, ?_, fun i d e => ?_, fun i z => ⟨rfl, (Classical.choose_spec (slotq i)).2.2 ?_⟩, fun i a z => by simp at z, fun i => List.nodup_nil, fun i j _ a z => by simp at z, fun i j a _ z => by simp at z, fun i a ha => ?_, fun i a z => by simp at z, hF, fun i v q => nomatch q⟩
    · unfold L2.start
      simp only [List.length_append, List.length_map, List.length_replicate]
      rw [hd.length]
    · have ed := ρget i d e
      obtain ⟨x, ex, g⟩ := (Classical.choose_spec (slotq i)).1 d ed
      have hi : i < vs.length := (List.getElem?_eq_some_iff.mp ex).1
      refine ⟨x, ?_, ?_⟩
      · unfold L2.start
        rw [List.getElem?_append_left (by simpa using hi), List.getElem?_map, ex]
        rfl
      · rw [gz i]
        exact g
    · cases e : ds[i]? with
      | none => rfl
      | some d =>
        have hi : i < ds.length := (List.getElem?_eq_some_iff.mp e).1
        refine absurd ?_ (z d)
        rw [List.getElem?_append_left (by simpa using hi), List.getElem?_map, e]
        rfl
    · exact hR a ((Classical.choose_spec (slotq i)).2.1 a ha)
  refine q ⟨Fb, fun _ => none⟩ H _ (L2.start N vs) H (fun _ => []) _ _ st0 ?_
  unfold callM at po
  cases eb : m (ds.map some ++ List.replicate (N.length - ds.length) none) with
  | nx ρ' =>
    rw [eb] at po
    intro σ' H' S' R' st' kp gr
    have sm : Same H H' := fun a o e => kp a o e fun i z => by simp at z
    exact po .non H' [] [] sm (dat_of_non n) (fun a z => by simp at z) fun _ => New.nil
  | rt d =>
    rw [eb] at po
    exact PostRt.of hn fun x H' A B s g nw hB => po x H' A B s g hB fun _ => nw
  | ex c ρ' =>
    rw [eb] at po
    intro C σ' H' S' R' hc st' _ _
    exact po C H' hc st'.same
  | stuck => rw [eb] at po; exact po
end TW
-- TWEnd
namespace TW
open PySem PySem.Spec PyProof.Rows L2

theorem Sto.drop {K : PySem.W.Frag} {F : Fr} {H0 H : Hp} {Γ : List Nat} {ρ : Rho} {σ : L2.St} {S R : Nat → List Addr} (h : Sto K F H0 Γ ρ σ H S R) (i : Nat) :
    Sto K F H0 Γ (ρ.set i none) σ H (fun j => if j = i then [] else S j) (fun j => if j = i then [] else R j) := by
  refine ⟨h.same, by simp [h.len], fun j e q => ?_, fun j q => ?_, fun j a ha => ?_, fun j => ?_, fun j k hjk a ha hk => ?_, fun j k a ha hk => ?_, fun j a ha => ?_, fun j a ha => ?_, h.fd, h.pin⟩
  · have hj : j ≠ i := fun z => by
      subst z
      by_cases hl : j < ρ.length
      · rw [List.getElem?_set_self hl] at q; cases q
      · rw [List.getElem?_eq_none (by simp; omega)] at q; cases q
    rw [List.getElem?_set_ne (Ne.symm hj)] at q
    rw [if_neg hj, if_neg hj]
    exact h.slot j e q
  · by_cases hj : j = i
    · rw [if_pos hj, if_pos hj]
      exact ⟨rfl, rfl⟩
    · rw [if_neg hj, if_neg hj]
      refine h.emp j fun e q' => q e ?_
      rw [List.getElem?_set_ne (Ne.symm hj)]
      exact q'
  · split at ha
    · simp at ha
    · exact h.new j a ha
  · split
    · exact List.nodup_nil
    · exact h.nd j
  · split at ha
    · simp at ha
    · split at hk
      · simp at hk
      · exact h.dj j k hjk a ha hk
  · split at ha
    · simp at ha
    · split at hk
      · simp at hk
      · exact h.rs j k a ha hk
  · split at ha
    · simp at ha
    · exact h.rf j a ha
  · split at ha
    · simp at ha
    · exact h.sf j a ha
def sAppMv (i : Nat) (mp : Rho → Res (List D)) (j : Nat) : Rho → Out := atS j (atS i fun ρ => (mp ρ).out ρ fun p => (mVar j ρ).out ρ fun v => mutO i (ρ.set j none) p (nApp v))
section
variable {X : Cx} {W : WX} {Γ : List Nat} {n i j len : Nat} {e o : Expr} {pos pos' : Pos} {mp : Rho → Res (List D)}
end

def spLaw (K : PySem.W.Frag) : Sp := fun vs H Q _ => ∃ (a : Addr) (ns : List Int), vs = [.ref a] ∧ ScrAt K H a (ns.map V.int) ∧ ns.length ≤ 63 ∧ (∀ z ∈ ns, Builtin.Int.intBits z ≤ 1048576) ∧ ∀ H', Q (.bl true) H'
theorem law_sp {K : PySem.W.Frag} {mg : Str → Option Value} {n : Nat} {m : List D → Res D} (h : ∀ ns : List Int, ns.length ≤ 63 → (∀ z ∈ ns, Builtin.Int.intBits z ≤ 1048576) → m [.scr ns] = .ok (.bl true)) (vs : List V) (H : Hp) (Q : VK) (E : XK) (q : spLaw K vs H Q E) : spM K mg n 1 m vs H Q E := by
  obtain ⟨a, ns, rfl, hs, hl, hb, q⟩ := q
  refine ⟨rfl, [.scr ns], fun _ => False, [], fun _ z => z.elim, ?_, (fun a z => nomatch z), ?_⟩
  · refine Dats.one ?_
    unfold Dat
    exact ⟨⟨a, rfl, hs⟩, rfl, rfl⟩
  · rw [h ns hl hb]
    intro x H' A B s g v f
    rw [dat_bl g]
    exact q H'
theorem scr_of {K : PySem.W.Frag} {H : Hp} {a : Addr} {ns : List Int} (h : Only H) (q : SqL K H a (ns.map V.int)) : ScrAt K H a (ns.map V.int) := by
  rcases q with (q | q) | q
  · rcases h a with z | ⟨o, xs, z⟩
    · rw [q] at z; cases z
    · rw [q] at z; cases z
  · exact .inl q
  · exact .inr q
theorem no_cx {P : Program} {w : World} {H : Hp} {s : Shared} {e : Value} {s' : Shared} (h : L2.CX P w [] H s (fun _ _ _ => False) e s') : False := by
  obtain ⟨_, _, _, _, _, _, _, _, _, _, _, _, z⟩ := h
  exact z
end TW
-- TWMore
namespace TW
open PySem PySem.Spec PyProof.Rows L2
def gNeg : D → Option D
  | .int i => some (.int (-i))
  | _ => none
section
variable {X : Cx} {W : WX} {Γ : List Nat} {n : Nat} {a b e : Expr} {pos : Pos} {ma mb : Rho → Res D}
theorem re_neg (ha : RE X W Γ 0 true a ma) : RE X W Γ n true (.UnaryOp .USub a pos) (m1 gNeg ma) := by
  obtain ⟨ta, pa, qa⟩ := ha
  refine ⟨_, pe_un un_neg pa, fun F H0 ρ σ H S R Q st po => ?_⟩
  refine qa F H0 ρ σ H S R _ st (PostE.iff.mpr ((PostE.iff.mp po).bind.imp fun d _ po => ?_))
  intro x H1 A B s1 d1 _ _
  obtain ⟨z, ez, po⟩ := PostE.ofO (PostE.iff.mpr po)
  cases d with
  | int i =>
    cases ez
    exact ⟨i, dat_int d1, PostV.flat (PostV.later po s1) rfl dat_of_int⟩
  | _ => cases ez
end
end TW
-- TWZip
namespace TW
open PySem PySem.Spec PyProof.Rows L2

section
variable {K : PySem.W.Frag} {H : Hp}
end
section
variable {X : Cx} {W : WX} {Γ : List Nat} {a b : Expr} {p pos tpos : Pos} {elts : List Expr} {kk : Nat} {ma mb : Rho → Res D}
end
end TW
-- TWLend
namespace TW
open PySem PySem.Spec PyProof.Rows L2

def D.still : D → Bool
  | .tup l => l.all D.flat
  | d => d.flat
theorem Dats.still {K : PySem.W.Frag} {H : Hp} : ∀ {ds : List D} {n : Nat} {xs : List V} {S R : List Addr}, ds.all D.flat = true → Dats K H ds n xs S R → S = [] ∧ R = [] ∧ ∀ k, Dats K H ds k xs [] []
  | [], n, xs, S, R, _, h => by
    unfold Dats at h
    obtain ⟨rfl, rfl, rfl⟩ := h
    exact ⟨rfl, rfl, fun k => by unfold Dats; exact ⟨rfl, rfl, rfl⟩⟩
  | d :: ds, n, xs, S, R, f, h => by
    simp only [List.all_cons, Bool.and_eq_true] at f
    unfold Dats at h
    obtain ⟨x, xs', S1, S2, R1, R2, rfl, rfl, rfl, h1, h2⟩ := h
    obtain ⟨rfl, rfl, g1⟩ := h1.flat f.1
    obtain ⟨rfl, rfl, g2⟩ := Dats.still f.2 h2
    exact ⟨rfl, rfl, fun k => Dats.cons (g1 k) (g2 k)⟩
theorem Dat.still {K : PySem.W.Frag} {H : Hp} {d : D} {n : Nat} {x : V} {S R : List Addr} (f : d.still = true) (h : Dat K H d n x S R) : S = [] ∧ R = [] ∧ ∀ k, Dat K H d k x [] [] := by
  cases d with
  | tup l =>
    unfold Dat at h
    obtain ⟨a, xs, rfl, q, hd⟩ := h
    obtain ⟨rfl, rfl, g⟩ := Dats.still f hd
    exact ⟨rfl, rfl, fun k => by unfold Dat; exact ⟨a, xs, rfl, q, g _⟩⟩
  | _ => exact h.flat f
section
variable {X : Cx} {W : WX} {Γ : List Nat} {n nf k ar : Nat} {e : Expr} {es : List Expr} {x : Str} {p pos : Pos} {ma : Rho → Res (List D)} {m : List D → Res D}
end
end TW
-- TWSet
namespace TW
open PySem PySem.Spec PyProof.Rows L2
theorem units65 {k : Nat} {A : Around} (r : Room k A) : A.units + 65 < cLine := by have := r.un; omega
def sDead : Rho → Out := fun _ => .stuck
theorem rs_dead {X : Cx} {W : WX} {n : Nat} {Γ Γ' : List Nat} {st : Stmt} : RS X W n Γ Γ' st sDead :=
  ⟨fun _ _ _ => False, ⟨fun _ _ _ _ _ _ h => h.elim⟩, fun _ _ _ _ _ _ _ _ _ h => h⟩
def strsOf : List D → Option (List Str)
  | [] => some []
  | .str i :: r => (strsOf r).map fun l => i :: l
  | _ :: _ => none
@[simp] theorem strsOf_map (ss : List Str) : strsOf (ss.map D.str) = some ss := by
  induction ss with
  | nil => rfl
  | cons a l ih => simp [strsOf, ih]
theorem dats_strs {K : PySem.W.Frag} {H : Hp} : ∀ {ds : List D} {ss : List Str} {n : Nat} {xs : List V} {A B : List Addr}, strsOf ds = some ss → Dats K H ds n xs A B → xs = ss.map V.str
  | [], _, _, _, _, _, e, h => by cases e; simp only [Dats] at h; rw [h.1]; rfl
  | d :: ds, _, _, _, _, _, e, h => by
    unfold Dats at h
    obtain ⟨x, xs', S1, S2, R1, R2, rfl, rfl, rfl, h1, h2⟩ := h
    cases d with
    | str i =>
      simp only [strsOf, Option.map_eq_some_iff] at e
      obtain ⟨l, e, rfl⟩ := e
      rw [dat_str h1, dats_strs e h2]; rfl
    | _ => cases e
theorem dats_of_strs {K : PySem.W.Frag} {H : Hp} {n : Nat} : ∀ l : List Str, Dats K H (l.map D.str) n (l.map V.str) [] []
  | [] => .nil
  | a :: l => Dats.cons (S1 := []) (R1 := []) (dat_of_str n) (dats_of_strs l)
def gIn (d e : D) : Option D := match e with
  | .lst l => (toPy d).bind fun p => (toPys l).bind fun q => if SeqAt.shaped p = true ∧ SeqAt.shaped (.list q) = true then some (.bl (q.any fun z => PyData.eqv z p)) else none
  | .tup l => match d with
    | .str z => (strsOf l).map fun ss => .bl (ss.any (· == z))
    | _ => none
  | .ftup l => match d with
    | .str z => (strsOf l).map fun ss => .bl (ss.any (· == z))
    | _ => none
  | .str t => match d with
    | .str ⟨⟨[c]⟩⟩ => some (.bl (decide (c ∈ t.cps.toList)))
    | _ => none
  | .dK ks vs => (lookD (.dK ks vs) d).map fun o => .bl o.isSome
  | .dT ks vs => (lookD (.dT ks vs) d).map fun o => .bl o.isSome
  | _ => none
def gNin (d e : D) : Option D := (gIn d e).bind fun z => match z with
  | .bl b => some (.bl (!b))
  | _ => none
def rInAll (K : PySem.W.Frag) (k : Bool) : R2 := fun x y H Q => ((∃ d ds, Dp K H x d ∧ Dp K H y (.list ds) ∧ SeqAt.shaped d = true ∧ SeqAt.shaped (.list ds) = true ∧ Q (.bl (if k = true then ds.any (fun z => PyData.eqv z d) else !ds.any (fun z => PyData.eqv z d))) H) ∨ rInDict k x y H Q) ∨
  (∃ (c : Nat) (z : Str), x = .str ⟨#[c]⟩ ∧ y = .str z ∧ Q (.bl (if k = true then decide (c ∈ z.cps.toList) else !decide (c ∈ z.cps.toList))) H) ∨ rIn K (!k) x y H Q
theorem op_inAll {X : Cx} (hu : X.A.units + 65 < cLine) : OpR X (compareOp .In) (rInAll X.K true) := OpR.or (OpR.or (fun pins s σ H x y v u Q I rx ry ⟨d, ds, h⟩ => op_inD hu pins s σ H x y v u Q I rx ry ⟨d, ds, h⟩) (op_inDict (by omega))) (OpR.or (fun pins s σ H x y v u Q I rx ry ⟨c, z, h⟩ => op_in_sign pins s σ H x y v u Q I rx ry ⟨c, z, h⟩) op_in_seq)
theorem op_ninAll {X : Cx} (hu : X.A.units + 65 < cLine) : OpR X (compareOp .NotIn) (rInAll X.K false) := OpR.or (OpR.or (fun pins s σ H x y v u Q I rx ry ⟨d, ds, h⟩ => op_notInD hu pins s σ H x y v u Q I rx ry ⟨d, ds, h⟩) (op_notInDict (by omega))) (OpR.or (fun pins s σ H x y v u Q I rx ry ⟨c, z, h⟩ => op_notIn_sign pins s σ H x y v u Q I rx ry ⟨c, z, h⟩) op_notIn_seq)
section
variable {K : PySem.W.Frag}
theorem inV_str (z : Str) : ∀ ss : List Str, inV (.str z) (ss.map V.str) = ss.any (· == z)
  | [] => rfl
  | a :: l => by
    have := inV_str z l
    unfold inV at this ⊢
    rw [List.map_cons, List.any_cons, List.any_cons, this]; rfl
theorem all_flat_strs (ys : List Str) : (ys.map V.str).all flatV = true := by
  rw [List.all_map]
  exact List.all_eq_true.mpr fun _ _ => rfl
theorem in_all (k : Bool) {x y : V} {d e : D} {b : Bool} {H : Hp} {B1 B2 : List Addr} {Q : VK} (h1 : Dat K H d 0 x [] B1) (h2 : Dat K H e 0 y [] B2) (ez : gIn d e = some (.bl b)) (q : Q (.bl (if k = true then b else !b)) H) : rInAll K k x y H Q := by
  have tup : ∀ (l : List D) (p : Addr) (xs : List V) (B : List Addr) (z : Str), y = .ref p → SqT K H p xs → Dats K H l 0 xs [] B → x = .str z → ((strsOf l).map fun ss => D.bl (ss.any (· == z))) = some (.bl b) → rInAll K k x y H Q := by
    intro l p xs B z ey sq hd ex e
    obtain ⟨ss, e1, e2⟩ := Option.map_eq_some_iff.mp e
    cases e2
    rw [dats_strs e1 hd] at sq
    refine .inr (.inr ⟨p, _, ey, .inr sq, by rw [ex]; rfl, all_flat_strs ss, ?_⟩)
    rw [ex, inV_str]
    cases k <;> exact q
  unfold gIn at ez
  cases e with
  | lst l =>
    dsimp only at ez
    cases ep : toPy d with
    | none => rw [ep] at ez; cases ez
    | some p =>
      cases eq : toPys l with
      | none => rw [ep, eq] at ez; cases ez
      | some ps =>
        rw [ep, eq] at ez
        simp only [Option.bind_some] at ez
        split at ez
        · rename_i hs
          cases ez
          refine .inl (.inl ⟨p, ps, h1.dp ep, h2.dp (by simp [toPy, eq]), hs.1, hs.2, ?_⟩)
          cases k <;> exact q
        · cases ez
  | tup l =>
    obtain ⟨p, xs, ey, sq, hd⟩ := dat_tup0 h2
    cases d with
    | str z => exact tup l p xs _ z ey (.of sq) hd (dat_str h1) ez
    | _ => cases ez
  | ftup l =>
    obtain ⟨p, xs, ey, sq, hd⟩ := dat_ftup0 h2
    cases d with
    | str z => exact tup l p xs _ z ey (sqt_frz sq) hd (dat_str h1) ez
    | _ => cases ez
  | str t =>
    dsimp only at ez
    split at ez
    · rename_i c
      cases ez
      refine .inr (.inl ⟨c, t, dat_str h1, dat_str h2, ?_⟩)
      cases k <;> exact q
    · cases ez
  | dK ks vs =>
    obtain ⟨o, e1, e2⟩ := Option.map_eq_some_iff.mp (show ((lookD (.dK ks vs) d).map fun o => D.bl o.isSome) = some (.bl b) from ez)
    cases e2
    obtain ⟨a, r, rfl, g, f⟩ := look_at h2 h1 e1
    refine .inl (.inr ⟨a, r, rfl, g, ?_⟩)
    have : r.isSome = o.isSome := by
      cases o with
      | none => rw [show r = none from f]; rfl
      | some z => obtain ⟨v, _, _, rfl, _⟩ := f; rfl
    rw [this]
    exact q
  | dT ks vs =>
    obtain ⟨o, e1, e2⟩ := Option.map_eq_some_iff.mp (show ((lookD (.dT ks vs) d).map fun o => D.bl o.isSome) = some (.bl b) from ez)
    cases e2
    obtain ⟨a, r, rfl, g, f⟩ := look_at h2 h1 e1
    refine .inl (.inr ⟨a, r, rfl, g, ?_⟩)
    have : r.isSome = o.isSome := by
      cases o with
      | none => rw [show r = none from f]; rfl
      | some z => obtain ⟨v, _, _, rfl, _⟩ := f; rfl
    rw [this]
    exact q
  | _ => cases ez
theorem gIn_bl {d e z : D} (h : gIn d e = some z) : ∃ b, z = .bl b := by
  unfold gIn at h
  cases e with
  | lst l =>
    dsimp only at h
    obtain ⟨p, _, h⟩ := Option.bind_eq_some_iff.mp h
    obtain ⟨q, _, h⟩ := Option.bind_eq_some_iff.mp h
    split at h
    · cases h; exact ⟨_, rfl⟩
    · cases h
  | tup l =>
    cases d with
    | str z => obtain ⟨_, _, rfl⟩ := Option.map_eq_some_iff.mp h; exact ⟨_, rfl⟩
    | _ => cases h
  | ftup l =>
    cases d with
    | str z => obtain ⟨_, _, rfl⟩ := Option.map_eq_some_iff.mp h; exact ⟨_, rfl⟩
    | _ => cases h
  | str t =>
    dsimp only at h
    split at h
    · cases h; exact ⟨_, rfl⟩
    · cases h
  | dK ks vs => obtain ⟨_, _, rfl⟩ := Option.map_eq_some_iff.mp h; exact ⟨_, rfl⟩
  | dT ks vs => obtain ⟨_, _, rfl⟩ := Option.map_eq_some_iff.mp h; exact ⟨_, rfl⟩
  | _ => cases h
theorem bf_in : BinF K (rInAll K true) gIn := by
  intro x y d e z H B1 B2 Q h1 h2 ez po
  obtain ⟨b, rfl⟩ := gIn_bl ez
  exact in_all true h1 h2 ez (po rfl _ dat_of_bl)
theorem bf_nin : BinF K (rInAll K false) gNin := by
  intro x y d e z H B1 B2 Q h1 h2 ez po
  obtain ⟨y', e1, e2⟩ := Option.bind_eq_some_iff.mp ez
  obtain ⟨b, rfl⟩ := gIn_bl e1
  cases e2
  exact in_all false h1 h2 e1 (po rfl _ dat_of_bl)
end
section
variable {X : Cx} {W : WX} {Γ : List Nat} {n n1 n2 : Nat} {f1 f2 : Bool} {a b : Expr} {p p2 q pos : Pos} {ma mb : Rho → Res D}
theorem rt_in (hu : X.A.units + 65 < cLine) (ha : RE X W Γ n1 f1 a ma) (hb : RE X W Γ n2 f2 b mb) (hm : behindInMarks .In b = false := by rfl) : RT X W Γ (.Compare a [.In] [b] pos) (mT (m2 gIn ma mb)) := rt_cmp (op_inAll hu) bf_in hm ha hb
theorem rt_nin (hu : X.A.units + 65 < cLine) (ha : RE X W Γ n1 f1 a ma) (hb : RE X W Γ n2 f2 b mb) (hm : behindInMarks .NotIn b = false := by rfl) : RT X W Γ (.Compare a [.NotIn] [b] pos) (mT (m2 gNin ma mb)) := rt_cmp (op_ninAll hu) bf_nin hm ha hb
theorem dats_ints {K : PySem.W.Frag} {H : Hp} : ∀ {ds : List D} {ns : List Int} {xs : List V} {B : List Addr}, intsOf ds = some ns → Dats K H ds 0 xs [] B → xs = ns.map V.int
  | [], ns, xs, B, e, h => by
    cases e
    unfold Dats at h
    exact h.1
  | d :: ds, ns, xs, B, e, h => by
    cases d with
    | int i =>
      unfold intsOf at e
      rw [Option.map_eq_some_iff] at e
      obtain ⟨r, e, rfl⟩ := e
      unfold Dats at h
      obtain ⟨x, xs', S1, S2, R1, R2, rfl, e0, rfl, h1, h2⟩ := h
      obtain ⟨rfl, rfl⟩ := List.append_eq_nil_iff.mp e0.symm
      obtain rfl := dat_int h1
      rw [dats_ints e h2]
      rfl
    | _ => cases e
end
end TW
-- TWRg
namespace TW
open PySem PySem.Spec PyProof.Rows L2
section
variable {X : Cx} {W : WX} {Γ : List Nat} {n : Nat} {a : Expr} {p p2 q pos : Pos} {ma : Rho → Res D}
end
end TW
-- TWGlob
namespace TW
open PySem PySem.Spec PyProof.Rows L2
inductive CstV : D → Value → Prop
  | int {i : Int} {u : Value} (r : RelV (.int i) u) : CstV (.int i) u
  | str {s : Str} {u : Value} (r : RelV (.str s) u) : CstV (.str s) u
def CstG (mg : Str → Option Value) (x : Str) (d : D) : Prop := ∃ u, mg x = some u ∧ CstV d u
theorem re_glob {X : Cx} {W : WX} {Γ : List Nat} {n : Nat} {x : Str} {d : D} {pos : Pos} (h : CstG X.mg x d) (hg : Gl X x := by rfl) (hd : (x == ("__debug__" : Str)) = false := by decide) : RE X W Γ n true (.Name x pos) (mC d) := by
  obtain ⟨u, hm, c⟩ := h
  cases c with
  | int r =>
    refine ⟨_, pe_glob hg hm r hd, fun F H0 ρ σ H S R Q st po => ?_⟩
    exact po _ H [] [] (Same.refl H) (dat_of_int n) (fun a z => by simp at z) fun _ => New.nil
  | str r =>
    refine ⟨_, pe_glob hg hm r hd, fun F H0 ρ σ H S R Q st po => ?_⟩
    exact po _ H [] [] (Same.refl H) (dat_of_str n) (fun a z => by simp at z) fun _ => New.nil
end TW
-- TWSetS
namespace TW
open PySem PySem.Spec PyProof.Rows L2
def addU (l : List Str) (z : Str) : List Str := if l.any (· == z) = true then l else l ++ [z]
def unlike (l : List Str) : List Str := l.foldl addU []
theorem addU_any (l : List Str) (z y : Str) : (addU l z).any (· == y) = (l.any (· == y) || decide (y = z)) := by
  unfold addU
  by_cases h : l.any (· == z) = true
  · rw [if_pos h]
    by_cases e : y = z
    · subst e; rw [h]; simp
    · simp [e]
  · rw [if_neg h, List.any_append]
    congr 1
    by_cases e : y = z
    · subst e; simp
    · have : (z == y) = false := beq_eq_false_iff_ne.mpr fun q => e q.symm
      simp [this, e]
theorem addU_length (l : List Str) (z : Str) : (addU l z).length = if l.any (· == z) = true then l.length else l.length + 1 := by
  unfold addU
  split <;> simp
theorem unlike_snoc (l : List Str) (z : Str) : unlike (l ++ [z]) = addU (unlike l) z := by unfold unlike; rw [List.foldl_append]; rfl
theorem unlike_le : ∀ l : List Str, (unlike l).length ≤ l.length := by
  have : ∀ (l m : List Str), (l.foldl addU m).length ≤ m.length + l.length := by
    intro l
    induction l with
    | nil => intro m; simp
    | cons z l ih =>
      intro m
      have := ih (addU m z)
      have := addU_length m z
      simp only [List.foldl_cons, List.length_cons]
      split at this <;> omega
  intro l
  have := this l []
  unfold unlike
  simpa using this
section
variable {pr : Program} {wd : World} {A : Around} {RR : Result → Shared → Prop} {it : Addr} {fp wr : List Addr} {GG : Array GenState → Array GenState → Prop} {m : Nat} {PP : Nat → Value → Prop} {SS : Nat → Shared → Prop}
theorem loop_texts (wk : WalksS pr wd A.in1 it fp wr GG m PP SS) (z : Addr) (hz : z ∉ fp) (l : List Str) (hm : l.length = m) (hb : m + 1 < scanBound)
    (at' : ∀ i v, PP i v → ∃ t, v = .str (l.getD i Str.empty) t) : ∀ (left i : Nat) (s : Shared), m - i = left → i ≤ m → SS i s →
      s.heap.SetOf (PySem.strKind pr wd) z (fun y => (unlike (l.take i)).any (· == y)) (unlike (l.take i)).length →
      (∀ s2, Moved (z :: wr) GG s s2 → s2.heap.SetOf (PySem.strKind pr wd) z (fun y => (unlike l).any (· == y)) (unlike l).length → RR (.ok (.ret .none)) s2) →
      codeAny (model pr wd) A (.builtin "set.update.loop" ⟨[.ref z, .ref it], []⟩) RR s := by
  have zw : z ∉ wr := fun q => hz (wk.sub _ q)
  have more : ∀ b ∈ wr, b ∈ z :: wr := fun b q => List.mem_cons_of_mem _ q
  intro left
  induction left with
  | zero =>
    intro i s e1 e2 here set go
    obtain rfl : i = m := by omega
    refine codeAny_builtin PyProof.Rows.F.entry_set_update_loop ?_
    rw [Around.under_plainId PyProof.Rows.F.plain_set_update_loop _]
    refine wpAny_bind (m := pyNext (.ref it)) (wk.done s _ _ here fun s2 mv => ?_)
    refine wpAny_pure (go s2 (mv.mono more) ?_)
    rw [← hm, List.take_length] at set
    obtain ⟨o, es, ep, t, ho, q⟩ := set
    exact ⟨o, es, ep, t, mv.heap z _ zw ho, q⟩
  | succ left ih =>
    intro i s e1 e2 here set go
    have lt : i < m := by omega
    refine codeAny_builtin PyProof.Rows.F.entry_set_update_loop ?_
    rw [Around.under_plainId PyProof.Rows.F.plain_set_update_loop _]
    refine wpAny_bind (m := pyNext (.ref it)) (wk.item i s _ _ lt here fun v s2 hv here2 mv => ?_)
    obtain ⟨t, rfl⟩ := at' i v hv
    have set2 : s2.heap.SetOf (PySem.strKind pr wd) z (fun y => (unlike (l.take i)).any (· == y)) (unlike (l.take i)).length := by
      obtain ⟨o, es, ep, tb, ho, q⟩ := set
      exact ⟨o, es, ep, tb, mv.heap z _ zw ho, q⟩
    have room : (unlike (l.take i)).length + 1 < scanBound := by
      have := unlike_le (l.take i)
      rw [List.length_take] at this
      omega
    have il : i < l.length := by omega
    have eg : l.getD i Str.empty = l[i] := by rw [List.getD_eq_getElem?_getD, List.getElem?_eq_getElem il]; rfl
    have et : l.take (i + 1) = l.take i ++ [l.getD i Str.empty] := by rw [eg, List.take_add_one, List.getElem?_eq_getElem il]; rfl
    refine wpAny_bind (m := holding [Value.str (l.getD i Str.empty) t] (setAdd z (.str (l.getD i Str.empty) t))) (wpAny_holding ?_)
    unfold setAdd
    refine wpAny_holding (wpAny_bind ((PySem.strKind pr wd).pyHash (k := l.getD i Str.empty) (strKind_is _ _ _ _) ?_))
    refine wpAny_setAddHashed_of (knd := PySem.strKind pr wd) (s := { s2 with toks := s2.toks + 1 }) (strKind_is _ _ _ _) rfl set2 room fun h2 but set3 => ?_
    have set4 : h2.SetOf (PySem.strKind pr wd) z (fun y => (unlike (l.take (i + 1))).any (· == y)) (unlike (l.take (i + 1))).length :=
      SetOf_congr set3 (fun y => by rw [et, unlike_snoc, addU_any]) (by rw [et, unlike_snoc, addU_length])
    refine wpAny_pure ⟨plainId_quiet PyProof.Rows.F.plain_set_update_loop _, ih (i + 1) _ (by omega) lt (wk.frame _ s2 _ _ here2 (Nat.le_succ _) fun b q o e => ?_) set4 fun s3 mv2 q => ?_⟩
    · rw [but.2 b fun c : b = z => hz (c ▸ q)]; exact e
    · refine go s3 (Moved.trans wk.gtrans ((mv.mono more).then_heap (Nat.le_succ _) fun b o hb e => ?_) mv2) q
      rw [but.2 b fun c : b = z => hb (c ▸ List.mem_cons_self)]; exact e
end
section
variable {pr : Program} {wd : World} {A : Around} {EE : Value → Shared → Prop} {s : Shared}
set_option maxHeartbeats 3200000 in
theorem call_set_texts {a : Addr} {items : Array Value} {l : List Str} {Q : Value → Shared → Prop} (noH : A.handled = none) (isl : s.heap.IsList a items) (are : PyProof.Rows.StrsAre items.toList l) (hb : l.length + 1 < scanBound)
    (q : ∀ (h2 : Heap) (tk : Nat), h2.SetOf (PySem.strKind pr wd) s.heap.objs.size (fun y => (unlike l).any (· == y)) (unlike l).length →
      (∀ b o, b < s.heap.objs.size → s.heap.get? b = some o → h2.get? b = some o) → Q (.ref s.heap.objs.size) { s with heap := h2, toks := tk }) :
    wpAny (model pr wd) A (call (.type "set") [.ref a]) Q EE s := by
  obtain ⟨cc, tl, hmro⟩ := PySem.F.called_set.mro
  have hmade := PySem.F.called_set.made
  have hsub := PySem.F.called_set.sub
  refine wpAny_call (codeAny_of_tree (wpAny_pure ⟨Code.quiet_builtin _ (by decide +kernel), codeAny_builtin PySem.F.entry_type_call ?_⟩))
  rw [Around.under_plain (weight_type_call_type "set" [.ref a] []) rfl]
  have k1 := PySem.F.called_set.notType
  have k2 := PySem.F.called_set.canCreate
  have k3 := PySem.F.typeCall_set_1 (.ref a)
  repeat (any_goals (first | assumption | wp_step))
  refine codeAny_mono (code_set_new_1 (.ref a) (E := EE) (Q₁ := fun u s1 => ∃ led : Bool, u = .ref s.heap.objs.size ∧ s1 = { s with heap := s.heap.push { cls := .type "set", dict := none, data := .set #[] 0 (.fresh 0 0 led) } }) fun led => ⟨led, rfl, rfl⟩) fun r s1 hr => ?_
  cases r with
  | error e => exact hr
  | ok fl =>
    cases fl with
    | ret u =>
      obtain ⟨led, rfl, rfl⟩ := hr
      have got : (s.heap.push { cls := .type "set", dict := none, data := .set #[] 0 (.fresh 0 0 led) }).get? s.heap.objs.size = some { cls := .type "set", dict := none, data := .set #[] 0 (.fresh 0 0 led) } := Heap.get?_push_size _ rfl
      have kind : Shared.TypeIs { s with heap := s.heap.push { cls := .type "set", dict := none, data := .set #[] 0 (.fresh 0 0 led) } } (.ref s.heap.objs.size) "set" := ⟨_, got, rfl⟩
      have k4 := PySem.F.called_set.init.lookup
      have k5 := PySem.F.called_set.init.bind (.ref s.heap.objs.size)
      repeat (any_goals (first | assumption | wp_step))
      refine codeAny_mono (codeAny_call_builtin (R := wants (fun r s2 => r = .none ∧ ∃ h2 tk, s2 = { s with heap := h2, toks := tk } ∧ h2.SetOf (PySem.strKind pr wd) s.heap.objs.size (fun y => (unlike l).any (· == y)) (unlike l).length ∧
          (∀ b o, b < s.heap.objs.size → s.heap.get? b = some o → h2.get? b = some o)) EE) PySem.F.called_set.init.plain PySem.F.entry_set_init (check_set_init_1 kind ?_)) fun r2 s2 hr2 => ?_
      · obtain ⟨ob, hob, hc, nn, hd⟩ := isl
        obtain ⟨c1, c2, c3, c4⟩ := ob
        simp only at hc hd
        subst hc hd
        have hob2 : (s.heap.push { cls := .type "set", dict := none, data := .set #[] 0 (.fresh 0 0 led) }).get? a = some { cls := .type "list", dict := c2, data := .seq items nn, slots := c4 } := Heap.get?_push_of_some _ hob
        have k6 := PySem.F.sub_list_set
        have k7 := PySem.F.sub_list_frozenset
        have k8 : (Value.type "list" == Value.type "dict") = false := by decide
        have isl2 : (s.heap.push { cls := .type "set", dict := none, data := .set #[] 0 (.fresh 0 0 led) }).IsList a items := ⟨_, hob2, rfl, nn, rfl⟩
        unfold Builtin.«set.__init__» noKeywords Builtin.Frozenset.updateFrom
        generalize hPI : pyIter = PI
        wp_walk
        subst hPI
        refine wpAny_pyIter_list isl2 (wpAny_bind (wpAny_runValue ?_))
        have lt : a < s.heap.objs.size := Heap.lt_size hob
        have noH3 : A.in1.in1.in1.handled = none := by simp [noH]
        have ne : a ≠ (s.heap.push { cls := .type "set", dict := none, data := .set #[] 0 (.fresh 0 0 led) }).objs.size := by
          rw [Heap.size_push]; exact Nat.ne_of_lt (Nat.lt_succ_of_lt lt)
        have apart : s.heap.objs.size ∉ [(s.heap.push { cls := .type "set", dict := none, data := .set #[] 0 (.fresh 0 0 led) }).objs.size, a] := by
          rw [Heap.size_push]
          intro z
          rcases List.mem_cons.mp z with z | z
          · exact Nat.ne_of_lt (Nat.lt_succ_self _) z
          · exact Nat.ne_of_gt lt (List.mem_singleton.mp z)
        have hsz : l.length = items.size := by rw [← StrsAre.len_eq are, Array.length_toList]
        have val : ∀ (i : Nat) (v : Value), items[i]? = some v → ∃ t, v = .str (l.getD i Str.empty) t := fun i v e => SS.strs_at are i v (by rw [Array.getElem?_toList]; exact e)
        refine loop_texts ((Walks.list noH3 _ a ne items).toS) s.heap.objs.size apart l hsz (by rw [← hsz]; exact hb) val (items.size - 0) 0 _ (by omega) (Nat.zero_le _) ⟨⟨_, Heap.get?_push_size _ rfl, rfl, rfl⟩, (isl2.push _)⟩ ?st ?go
        case st =>
          have g2 : ((s.heap.push { cls := .type "set", dict := none, data := .set #[] 0 (.fresh 0 0 led) }).push { cls := .type "list_iterator", data := .fields #[.ref a, .int 0 0] }).get? s.heap.objs.size
              = some { cls := .type "set", dict := none, data := .set #[] 0 (.fresh 0 0 led) } := Heap.get?_push_of_some _ got
          exact SetOf_congr ((setObjOf_fresh (knd := PySem.strKind pr wd) led).setOf g2 (by unfold scanBound; omega)) (fun _ => rfl) rfl
        case go =>
          intro s3 mv st3
          obtain ⟨h3, g3, d3, t3, o3⟩ := s3
          have eg : g3 = s.gens := mv.gens
          have ed : d3 = s.drawn := mv.drawn
          have eo : o3 = s.os := mv.os
          subst eg ed eo
          refine wpAny_pure ?_
          show wpAny _ _ (ret Value.none) _ _ _
          refine wpAny_pure ⟨rfl, h3, t3, rfl, st3, fun b o hb e => ?_⟩
          refine mv.heap b o ?_ (Heap.get?_push_of_some _ (Heap.get?_push_of_some _ e))
          rw [Heap.size_push]
          intro z
          rcases List.mem_cons.mp z with z | z
          · exact Nat.ne_of_lt hb z
          · exact Nat.ne_of_lt (Nat.lt_succ_of_lt hb) (List.mem_singleton.mp z)
      · cases r2 with
        | error e => exact hr2
        | ok f2 =>
          cases f2 with
          | ret r =>
            obtain ⟨rfl, h2, tk, rfl, st2, kp⟩ := hr2
            repeat (any_goals (first | assumption | wp_step))
            exact q _ _ st2 kp
          | _ => exact hr2.elim
    | _ => exact hr.elim
end
def tLenSetT (K : PySem.W.Frag) (ta : TE) : TE := fun σ H Q => ta σ H fun x H1 => ∃ (p : Addr) (l : List Str), x = .ref p ∧ SqL K H1 p (l.map V.str) ∧ l.length ≤ 4000 ∧ Q (.int (unlike l).length) H1
theorem pe_lenSetT {X : Cx} {a : Expr} {ta : TE} {p p2 q pos : Pos} (hg : Gl X "len") (hm : X.mg "len" = none) (hg2 : Gl X "set") (hm2 : X.mg "set" = none) (ha : PE X a ta) (hc : X.calm = true := by rfl)
    (na : starEach [a] X.env = (false, eval a X.env) :: starEach [] X.env := by rfl) : PE X (.Call (.Name "len" p) [.Call (.Name "set" p2) [a] [] q] [] pos) (tLenSetT X.K ta) := by
  refine ⟨fun pins s σ H Q I h => Call_ (ld_blt I hg hm boot_len ?_)⟩
  refine PyProof.Rows.callWith_builtin1 (PyProof.Rows.args_cons (Call_ (ld_blt I hg2 hm2 boot_set ?_)) rfl) rfl rfl
  refine PyProof.Rows.callWith_type1 (PyProof.Rows.args_cons (thn (ha.run pins s σ H _ I h) fun v s1 ⟨x, H1, I1, r1, w⟩ => PyProof.Rows.args_nil ?_) na) na rfl
  obtain ⟨u, l, rfl, sq, hl, w⟩ := w
  cases r1
  obtain ⟨its, r, pl, _⟩ := I1.list sq
  refine call_set_texts (I1.ok.hd hc) pl.isList (by simpa using strsAre_of r) (by unfold scanBound; omega) fun h2 tk st kp => PyProof.Rows.args_nil ?_
  obtain ⟨o, es, ep, t, ho, hex, hd, _, _, _, hf, hn⟩ := st
  have I2 : Inv X pins σ H1 { s1 with heap := h2, toks := tk } := I1.kept fun b o e => kp b o (Heap.lt_size e) e
  have := unlike_le l
  exact call_len_set ho hex hd hf (by rw [hn]; omega) ⟨.int (unlike l).length, H1, I2.tok _, ⟨_, by rw [hn]⟩, w⟩
end TW
-- TWMeth
namespace TW
open PySem PySem.Spec PyProof.Rows L2

theorem PE.or {X : Cx} {e : Expr} {t1 t2 : TE} (h1 : PE X e t1) (h2 : PE X e t2) : PE X e (fun σ H Q => t1 σ H Q ∨ t2 σ H Q) :=
  ⟨fun pins s σ H Q I h => h.elim (h1.run pins s σ H Q I) (h2.run pins s σ H Q I)⟩
theorem countP_eqU {y : V} : ∀ {ys : List V} {us : List Value}, Vals ys us → ys.all flatV = true → us.countP (eqU y) = ys.countP fun z => eqV z y
  | [], _, .nil, _ => rfl
  | z :: ys, u :: us, .cons r t, f => by
    rw [List.all_cons, Bool.and_eq_true] at f
    rw [List.countP_cons, List.countP_cons, countP_eqU t f.2, eqU_of r f.1]
def rCntL (K : PySem.W.Frag) : V → List V → Hp → VK → Prop := fun x xs H Q => ∃ (p : Addr) (ys : List V) (y : V), x = .ref p ∧ xs = [y] ∧ SqL K H p ys ∧ flatV y = true ∧ ys.all flatV = true ∧ Q (.int (ys.countP fun z => eqV z y : Nat)) H
def rCntT (K : PySem.W.Frag) : V → List V → Hp → VK → Prop := fun x xs H Q => ∃ (p : Addr) (ys : List V) (y : V), x = .ref p ∧ xs = [y] ∧ SqT K H p ys ∧ flatV y = true ∧ ys.all flatV = true ∧ Q (.int (ys.countP fun z => eqV z y : Nat)) H
section
variable {X : Cx}
theorem mt_cntL : MtR X "list.count" (rCntL X.K) := by
  intro pins s σ H x xs v us Q I rx rxs h
  obtain ⟨p, ys, y, rfl, rfl, hs, fy, fs, q⟩ := h
  cases rx
  obtain ⟨u, rfl, ru⟩ := rxs.one
  obtain ⟨its, rv, ⟨⟨cls, dd, data, sl⟩, n, ho, hc, hdn, hd⟩, hlen⟩ := I.list hs
  simp only at hc hd
  subst hc hd
  refine call_meets PySem.F.slot_list_count ⟨_, ho, rfl⟩ PySem.F.entry_list_count (PySem.F.args_list_count_2 _ _)
    (SeqAt.list_countAt p its.toArray n dd sl u (eqU y)) ⟨ho, fun w hw => mem_eqAt ru fy rv fs w (by simpa using hw), ?_⟩
  exact ⟨.int (ys.countP fun z => eqV z y : Nat), H, I.tok _, ⟨s.toks, by rw [show its.toArray.toList = its by simp, countP_eqU rv fs]⟩, q⟩
theorem mt_cntT : MtR X "tuple.count" (rCntT X.K) := by
  intro pins s σ H x xs v us Q I rx rxs h
  obtain ⟨p, ys, y, rfl, rfl, hs, fy, fs, q⟩ := h
  cases rx
  obtain ⟨u, rfl, ru⟩ := rxs.one
  obtain ⟨its, rv, ⟨⟨cls, dd, data, sl⟩, ho, hc, n, hd⟩, hlen⟩ := I.tuple hs
  simp only at hc hd
  subst hc hd
  refine call_meets PySem.F.slot_tuple_count ⟨_, ho, rfl⟩ PySem.F.entry_tuple_count (PySem.F.args_tuple_count_2 _ _)
    (SeqAt.tuple_countAt p its.toArray n dd sl u (eqU y)) ⟨ho, fun w hw => mem_eqAt ru fy rv fs w (by simpa using hw), ?_⟩
  exact ⟨.int (ys.countP fun z => eqV z y : Nat), H, I.tok _, ⟨s.toks, by rw [show its.toArray.toList = its by simp, countP_eqU rv fs]⟩, q⟩
def tTM (r : V → List V → Hp → VK → Prop) (to : TE) (t : TA) : TE := fun σ H Q => to σ H fun x H1 => (∃ (p : Addr) (xs : List V) (o : Obj), x = .ref p ∧ o.dict = none ∧ H1 p = some (.frz o (.tup xs))) ∧ t σ H1 fun xs H2 => r x xs H2 Q
theorem pe_tm {o e : Expr} {es : List Expr} {to : TE} {t : TA} {name : Str} {apos cpos : Pos} {id : String} {r : V → List V → Hp → VK → Prop} (pa : PlainAttrs "tuple") (slot : Slot "tuple" name id) (hty : typeOf (.builtin id) = pure (.type "method_descriptor")) (hm : MtR X id r) (ho : PE X o to) (ha : PA X (e :: es) t)
    (hbase : attributeBase o name X.env (eval o X.env) = eval o X.env := by rfl)
    (hfew : ((backTo cpos (starEach (e :: es) X.env)).all (fun x => !x.1) && (backToKw cpos (keywordEach [] X.env)).all (fun x => x.1.isSome) && decide ((e :: es).length + ([] : List Keyword).length + (if ([] : List Keyword).isEmpty then 0 else 1) < 30)) = true := by rfl)
    (hline : (apos.endLine == cpos.line) = true := by rfl) (hs : starEach (e :: es) X.env = (false, eval e X.env) :: starEach es X.env := by rfl) (hplain : (backTo cpos (starEach es X.env)).any (·.1) = false := by rfl) :
    PE X (.Call (.Attribute o name apos) (e :: es) [] cpos) (tTM r to t) := by
  refine ⟨fun pins s σ H Q I h => wpAny_Call_method_late hbase hfew hline rfl (thn (ho.run pins s σ H _ I h) fun v s1 w => ?_)⟩
  obtain ⟨x, H1, I1, r1, ⟨p, xs, ob, rfl, hdn, hp⟩, q1⟩ := w
  cases r1
  obtain ⟨hget, _⟩ := I1.hok p _ hp
  obtain ⟨its, rv, pl, hlen⟩ := I1.tuple (a := p) (xs := xs) (.inl (.inr ⟨ob, hp⟩))
  refine ⟨"tuple", id, pa, slot, hty, pl.typeIs, fun a e => ?_, ?_⟩
  · cases e
    exact ⟨ob, hget, hdn⟩
  have hA := ha.run cpos pins s1 σ H1 _ I1 q1
  rw [hs] at hA ⊢
  refine Calls.callWith_builtin (by show (false || (backTo cpos (starEach es X.env)).any fun x => x.1) = false; rw [hplain]; rfl) (Calls.evalArgs_plain ?_)
  exact thn hA fun us s2 ⟨vs, H2, I2, r2, q2⟩ => hm pins s2 σ H2 (.ref p) vs (.ref p) us Q I2 rfl r2 q2
end
def mMeth (g : D → D → Option D) (mo me : Rho → Res D) : Rho → Res D := fun ρ => (mo ρ).bind fun x => (noX (me ρ)).bind fun y => ofO (g x y)
@[simp] theorem mMeth_eq {g : D → D → Option D} {mo me : Rho → Res D} {ρ : Rho} : mMeth g mo me ρ = (mo ρ).bind fun x => (noX (me ρ)).bind fun y => ofO (g x y) := id rfl
def MetV (K : PySem.W.Frag) (r : V → List V → Hp → VK → Prop) (g : D → D → Option D) (n : Nat) (P : D → Prop) : Prop :=
  ∀ x y d e z H B1 B2 (Q : VK), P d → Dat K H d 0 x [] B1 → Dat K H e 0 y [] B2 → g d e = some z → (∀ v H' A, Same H H' → Dat K H' z n v A [] → A.Nodup → (∀ a ∈ A, H a = none) → Q v H') → r x [y] H Q
section
variable {X : Cx} {W : WX} {Γ : List Nat} {n : Nat} {o e : Expr} {mo me : Rho → Res D} {g : D → D → Option D} {r : V → List V → Hp → VK → Prop} {C : V → Hp → Prop} {P : D → Prop}
theorem meth_run {to : TE} {te : TA} {F : Fr} {H0 : Hp} {ρ : Rho} {σ : L2.St} {H : Hp} {S R : Nat → List Addr} {Q : VK}
    (qo : ∀ F H0 ρ σ H S R Q, Sto X.K F H0 Γ ρ σ H S R → PostX X W σ H (fun d => ∀ x H' B, Same H H' → Dat X.K H' d 0 x [] B → Q x H') (mo ρ) → to σ H Q)
    (qe : ∀ F H0 ρ σ H S R Q, Sto X.K F H0 Γ ρ σ H S R → PostX X W σ H (fun ds => ∀ xs H' B, Same H H' → Dats X.K H' ds 0 xs [] B → Q xs H') (mA1 me mA0 ρ) → te σ H Q)
    (hC : ∀ d x H B, P d → Dat X.K H d 0 x [] B → C x H) (hv : MetV X.K r g n P) (hP : ∀ d e z, mo ρ = .ok d → g d e = some z → P d) (st : Sto X.K F H0 Γ ρ σ H S R) (po : PostE X W (Av F S) n true σ H Q (mMeth g mo me ρ)) :
    to σ H fun x H1 => C x H1 ∧ te σ H1 fun xs H2 => r x xs H2 Q := by
  refine qo F H0 ρ σ H S R _ st ((PostE.iff.mp po).bind.imp fun d ed po => ?_)
  intro x H1 B1 s1 d1
  obtain ⟨y, ey, z, ez, po⟩ : ∃ y, me ρ = .ok y ∧ ∃ z, g d y = some z ∧ PostV X.K (Av F S) n true H Q z := by
    cases h : me ρ with
    | ok y =>
      rw [h] at po
      obtain ⟨z, ez, po⟩ := PostE.ofO (PostE.iff.mpr po)
      exact ⟨y, rfl, z, ez, po⟩
    | exn c => rw [h] at po; exact po.elim
    | stuck => rw [h] at po; exact po.elim
  have hp := hP d y z ed ez
  refine ⟨hC d x H1 B1 hp d1, qe F H0 ρ σ H1 S R _ (st.grow s1) ?_⟩
  have : mA1 me mA0 ρ = .ok [y] := by show (me ρ).bind _ = _; rw [ey]; rfl
  rw [this]
  intro xs H2 B2 s2 d2
  obtain ⟨v, rfl, d2'⟩ := dats1 d2
  refine hv x v d y z H2 B1 B2 Q hp (d1.same s2) d2' ez fun u H' A s3 gz nd nw => po u H' A [] ((s1.trans s2).trans s3) gz (fun a z => by simp at z) fun _ => ⟨nd, fun a ha => ⟨(s1.trans s2).free (nw a ha), by simp⟩⟩
end
def gCount (d e : D) : Option D := match d, e with
  | .lst l, .int k => (intsOf l).map fun ns => .int (ns.count k : Nat)
  | .lst l, .str z => (strsOf l).map fun ss => .int (ss.count z : Nat)
  | .ftup l, .str z => (strsOf l).map fun ss => .int (ss.count z : Nat)
  | _, _ => none
def D.isLst : D → Prop
  | .lst _ => True
  | _ => False
def D.isFt : D → Prop
  | .ftup _ => True
  | _ => False
section
variable {K : PySem.W.Frag}
theorem flat_ints (ns : List Int) : (ns.map V.int).all flatV = true := by
  rw [List.all_map]
  exact List.all_eq_true.mpr fun _ _ => rfl
theorem count_int (k : Int) : ∀ ns : List Int, (ns.map V.int).countP (fun z => eqV z (.int k)) = ns.count k
  | [] => rfl
  | a :: l => by rw [List.map_cons, List.countP_cons, List.count_cons, count_int k l]; rfl
theorem count_str (k : Str) : ∀ ns : List Str, (ns.map V.str).countP (fun z => eqV z (.str k)) = ns.count k
  | [] => rfl
  | a :: l => by rw [List.map_cons, List.countP_cons, List.count_cons, count_str k l]; rfl
theorem mv_countL {n : Nat} : MetV K (rCntL K) gCount n D.isLst := by
  intro x y d e z H B1 B2 Q hp h1 h2 ez po
  cases d with
  | lst l =>
    obtain ⟨a, xs, R', rfl, q, rfl, hd⟩ := dat_lst0 h1
    cases e with
    | int k =>
      obtain ⟨ns, e1, rfl⟩ := Option.map_eq_some_iff.mp (show ((intsOf l).map fun ns => D.int (ns.count k : Nat)) = some z from ez)
      rw [dats_ints e1 hd] at q
      exact ⟨a, _, .int k, rfl, by rw [dat_int h2], .of q, rfl, flat_ints ns, by rw [count_int]; exact po _ H [] (Same.refl H) (dat_of_int n) List.nodup_nil (fun a z => by simp at z)⟩
    | str k =>
      obtain ⟨ns, e1, rfl⟩ := Option.map_eq_some_iff.mp (show ((strsOf l).map fun ns => D.int (ns.count k : Nat)) = some z from ez)
      rw [dats_strs e1 hd] at q
      exact ⟨a, _, .str k, rfl, by rw [dat_str h2], .of q, rfl, flat_strs ns, by rw [count_str]; exact po _ H [] (Same.refl H) (dat_of_int n) List.nodup_nil (fun a z => by simp at z)⟩
    | _ => cases ez
  | _ => exact hp.elim
theorem mv_countT {n : Nat} : MetV K (rCntT K) gCount n D.isFt := by
  intro x y d e z H B1 B2 Q hp h1 h2 ez po
  cases d with
  | ftup l =>
    obtain ⟨a, xs, rfl, q, hd⟩ := dat_ftup0 h1
    cases e with
    | str k =>
      obtain ⟨ns, e1, rfl⟩ := Option.map_eq_some_iff.mp (show ((strsOf l).map fun ns => D.int (ns.count k : Nat)) = some z from ez)
      rw [dats_strs e1 hd] at q
      exact ⟨a, _, .str k, rfl, by rw [dat_str h2], sqt_frz q, rfl, flat_strs ns, by rw [count_str]; exact po _ H [] (Same.refl H) (dat_of_int n) List.nodup_nil (fun a z => by simp at z)⟩
    | _ => cases ez
  | _ => exact hp.elim
theorem ty_lst {d : D} {x : V} {H : Hp} {B : List Addr} (p : d.isLst) (h : Dat K H d 0 x [] B) : tyV K "list" x H := by
  cases d with
  | lst l =>
    obtain ⟨a, xs, R', rfl, q, _⟩ := dat_lst0 h
    exact .inl ⟨rfl, xs, .of q⟩
  | _ => exact p.elim
theorem ty_ft {d : D} {x : V} {H : Hp} {B : List Addr} (p : d.isFt) (h : Dat K H d 0 x [] B) : ∃ (p : Addr) (xs : List V) (o : Obj), x = .ref p ∧ o.dict = none ∧ H p = some (.frz o (.tup xs)) := by
  cases d with
  | ftup l =>
    obtain ⟨a, xs, rfl, ⟨o, h1, h2⟩, _⟩ := dat_ftup0 h
    exact ⟨a, xs, o, rfl, h1, h2⟩
  | _ => exact p.elim
end
section
variable {X : Cx} {W : WX} {Γ : List Nat} {n : Nat} {o e : Expr} {mo me : Rho → Res D} {apos cpos : Pos}
theorem re_seqM {name : Str} {idL idT : String} {rL rT : V → List V → Hp → VK → Prop} {g : D → D → Option D} (sL : Slot "list" name idL) (tL : typeOf (.builtin idL) = pure (.type "method_descriptor")) (mL : MtR X idL rL) (sT : Slot "tuple" name idT) (tT : typeOf (.builtin idT) = pure (.type "method_descriptor")) (mT : MtR X idT rT)
    (vL : MetV X.K rL g n D.isLst) (vT : MetV X.K rT g n D.isFt) (hg : ∀ d e z, g d e = some z → d.isLst ∨ d.isFt) (ho : RB X W Γ o mo) (he : RB X W Γ e me)
    (hbase : attributeBase o name X.env (eval o X.env) = eval o X.env) (hfew : ((backTo cpos (starEach [e] X.env)).all (fun x => !x.1) && (backToKw cpos (keywordEach [] X.env)).all (fun x => x.1.isSome) && decide ([e].length + ([] : List Keyword).length + (if ([] : List Keyword).isEmpty then 0 else 1) < 30)) = true)
    (hline : (apos.endLine == cpos.line) = true) (hs : starEach (e :: []) X.env = (false, eval e X.env) :: starEach [] X.env) (hplain : (backTo cpos (starEach [] X.env)).any (·.1) = false) :
    RE X W Γ n true (.Call (.Attribute o name apos) [e] [] cpos) (mMeth g mo me) := by
  obtain ⟨to, po', qo⟩ := ho
  obtain ⟨te, pe', qe⟩ := rab_cons (es := []) he rab_nil hs
  refine ⟨_, PE.or (pe_bm PySem.F.plainAttrs_list sL tL mL po' pe' hbase hfew hline hs hplain) (pe_tm PySem.F.plainAttrs_tuple sT tT mT po' pe' hbase hfew hline hs hplain), fun F H0 ρ σ H S R Q st po => ?_⟩
  by_cases hd : ∃ d, mo ρ = .ok d ∧ d.isFt
  · obtain ⟨d, ed, hd⟩ := hd
    exact .inr (meth_run qo qe (fun d x H B p h => ty_ft p h) vT (fun d' e z q _ => by rw [ed] at q; cases q; exact hd) st po)
  · exact .inl (meth_run qo qe (fun d x H B p h => ty_lst p h) vL (fun d' e z q ez => (hg d' e z ez).resolve_right fun w => hd ⟨d', q, w⟩) st po)
theorem gCount_ty {d e z : D} (h : gCount d e = some z) : d.isLst ∨ d.isFt := by
  cases d with
  | lst l => exact .inl trivial
  | ftup l => exact .inr trivial
  | _ => cases e <;> cases h
theorem re_count (ho : RB X W Γ o mo) (he : RB X W Γ e me)
    (hbase : attributeBase o "count" X.env (eval o X.env) = eval o X.env := by rfl) (hfew : ((backTo cpos (starEach [e] X.env)).all (fun x => !x.1) && (backToKw cpos (keywordEach [] X.env)).all (fun x => x.1.isSome) && decide ([e].length + ([] : List Keyword).length + (if ([] : List Keyword).isEmpty then 0 else 1) < 30)) = true := by rfl)
    (hline : (apos.endLine == cpos.line) = true := by rfl) (hs : starEach (e :: []) X.env = (false, eval e X.env) :: starEach [] X.env := by rfl) (hplain : (backTo cpos (starEach [] X.env)).any (·.1) = false := by rfl) :
    RE X W Γ n true (.Call (.Attribute o "count" apos) [e] [] cpos) (mMeth gCount mo me) :=
  re_seqM PySem.F.slot_list_count PySem.F.type_list_count mt_cntL PySem.F.slot_tuple_count PySem.F.type_tuple_count mt_cntT mv_countL mv_countT (fun _ _ _ => gCount_ty) ho he hbase hfew hline hs hplain
end
end TW
-- TWText
namespace TW
open PySem PySem.Spec PyProof.Rows L2
def D.isStr : D → Prop
  | .str _ => True
  | _ => False
theorem ty_str {K : PySem.W.Frag} {d : D} {x : V} {H : Hp} {B : List Addr} (p : d.isStr) (h : Dat K H d 0 x [] B) : tyV K "str" x H := by
  cases d with
  | str s => rw [dat_str h]; rfl
  | _ => exact p.elim
def rJoin (K : PySem.W.Frag) : V → List V → Hp → VK → Prop := fun x xs H Q => ∃ a p, ∃ ys : List Str, x = .str a ∧ xs = [.ref p] ∧ (SqL K H p (ys.map V.str) ∨ SqT K H p (ys.map V.str)) ∧ (ys.map (·.length)).sum + ys.length * a.length ≤ 16777216 ∧ Q (.str (Txt.join a ys)) H
def joinO (a : Str) (ys : List Str) : Option D := if (ys.map (·.length)).sum + ys.length * a.length ≤ 16777216 then some (.str (Txt.join a ys)) else none
def gJoin (d e : D) : Option D := match d, e with
  | .str a, .lst l => (strsOf l).bind (joinO a)
  | .str a, .tup l => (strsOf l).bind (joinO a)
  | .str a, .ftup l => (strsOf l).bind (joinO a)
  | _, _ => none
def rSplit : V → List V → Hp → VK → Prop := fun x xs H Q => ∃ a b, x = .str a ∧ xs = [.str b] ∧ (b.length == 0) = false ∧ a.length + 2 ≤ sizeLine ∧ rNewStrs (Txt.split a b) H Q
def gSplit (d e : D) : Option D := match d, e with
  | .str a, .str b => if (b.length == 0) = false ∧ a.length + 2 ≤ sizeLine then some (.lst ((Txt.split a b).map .str)) else none
  | _, _ => none
def rPart : V → List V → Hp → VK → Prop := fun x xs H Q => ∃ a b, x = .str a ∧ xs = [.str b] ∧ (b.length == 0) = false ∧ a.length ≤ sizeLine ∧ ∀ p, H p = none → Q (.ref p) (upd H p (.tup [.str (Txt.partition a b).1, .str (Txt.partition a b).2.1, .str (Txt.partition a b).2.2]))
def gPart (d e : D) : Option D := match d, e with
  | .str a, .str b => if (b.length == 0) = false ∧ a.length ≤ sizeLine then some (.tup [.str (Txt.partition a b).1, .str (Txt.partition a b).2.1, .str (Txt.partition a b).2.2]) else none
  | _, _ => none
section
variable {K : PySem.W.Frag}
theorem mv_join {n : Nat} : MetV K (rJoin K) gJoin n D.isStr := by
  intro x y d e z H B1 B2 Q hp h1 h2 ez po
  cases d with
  | str a =>
    have fin : ∀ (l : List D) (p : Addr) (xs : List V) (B : List Addr), y = .ref p → (SqL K H p xs ∨ SqT K H p xs) → Dats K H l 0 xs [] B → (strsOf l).bind (joinO a) = some z → rJoin K x [y] H Q := by
      intro l p xs B ey sq hd e
      obtain ⟨ys, e1, e2⟩ := Option.bind_eq_some_iff.mp e
      unfold joinO at e2
      split at e2
      · rename_i hl
        cases e2
        rw [dats_strs e1 hd] at sq
        exact ⟨a, p, ys, dat_str h1, by rw [ey], sq, hl, po _ H [] (Same.refl H) (dat_of_str n) List.nodup_nil (fun a z => by simp at z)⟩
      · cases e2
    cases e with
    | lst l =>
      obtain ⟨p, xs, R', ey, q, _, hd⟩ := dat_lst0 h2
      exact fin l p xs R' ey (.inl (.of q)) hd ez
    | tup l =>
      obtain ⟨p, xs, ey, q, hd⟩ := dat_tup0 h2
      exact fin l p xs _ ey (.inr (.of q)) hd ez
    | ftup l =>
      obtain ⟨p, xs, ey, q, hd⟩ := dat_ftup0 h2
      exact fin l p xs _ ey (.inr (sqt_frz q)) hd ez
    | _ => cases ez
  | _ => exact hp.elim
theorem mv_split {n : Nat} : MetV K rSplit gSplit (n + 1) D.isStr := by
  intro x y d e z H B1 B2 Q hp h1 h2 ez po
  cases d with
  | str a =>
    cases e with
    | str b =>
      replace ez : (if (b.length == 0) = false ∧ a.length + 2 ≤ sizeLine then some (D.lst ((Txt.split a b).map .str)) else none) = some z := ez
      split at ez
      · rename_i hc
        cases ez
        refine ⟨a, b, dat_str h1, by rw [dat_str h2], hc.1, hc.2, fun p hp => po _ _ [p] (same_new hp) ?_ (by simp) (fun a z => by simp at z; rw [z]; exact hp)⟩
        unfold Dat
        exact ⟨p, _, [], rfl, upd_same, rfl, dats_of_strs _⟩
      · cases ez
    | _ => cases ez
  | _ => exact hp.elim
theorem mv_part {n : Nat} : MetV K rPart gPart n D.isStr := by
  intro x y d e z H B1 B2 Q hp h1 h2 ez po
  cases d with
  | str a =>
    cases e with
    | str b =>
      replace ez : (if (b.length == 0) = false ∧ a.length ≤ sizeLine then some (D.tup [.str (Txt.partition a b).1, .str (Txt.partition a b).2.1, .str (Txt.partition a b).2.2]) else none) = some z := ez
      split at ez
      · rename_i hc
        cases ez
        refine ⟨a, b, dat_str h1, by rw [dat_str h2], hc.1, hc.2, fun p hp => po _ _ [] (same_new hp) ?_ List.nodup_nil (fun a z => by simp at z)⟩
        unfold Dat
        exact ⟨p, _, rfl, upd_same, dats_of_strs [_, _, _]⟩
      · cases ez
    | _ => cases ez
  | _ => exact hp.elim
end
section
variable {X : Cx} {W : WX} {Γ : List Nat} {n : Nat} {o e : Expr} {mo me : Rho → Res D} {apos cpos : Pos}
theorem re_strM {name : Str} {id : String} {r : V → List V → Hp → VK → Prop} {g : D → D → Option D} (sl : Slot "str" name id) (ty : typeOf (.builtin id) = pure (.type "method_descriptor")) (m : MtR X id r) (hv : MetV X.K r g n D.isStr) (hg : ∀ d e z, g d e = some z → d.isStr) (ho : RB X W Γ o mo) (he : RB X W Γ e me)
    (hbase : attributeBase o name X.env (eval o X.env) = eval o X.env) (hfew : ((backTo cpos (starEach [e] X.env)).all (fun x => !x.1) && (backToKw cpos (keywordEach [] X.env)).all (fun x => x.1.isSome) && decide ([e].length + ([] : List Keyword).length + (if ([] : List Keyword).isEmpty then 0 else 1) < 30)) = true)
    (hline : (apos.endLine == cpos.line) = true) (hs : starEach (e :: []) X.env = (false, eval e X.env) :: starEach [] X.env) (hplain : (backTo cpos (starEach [] X.env)).any (·.1) = false) :
    RE X W Γ n true (.Call (.Attribute o name apos) [e] [] cpos) (mMeth g mo me) := by
  obtain ⟨to, po', qo⟩ := ho
  obtain ⟨te, pe', qe⟩ := rab_cons (es := []) he rab_nil hs
  exact ⟨_, pe_bm PySem.F.plainAttrs_str sl ty m po' pe' hbase hfew hline hs hplain, fun F H0 ρ σ H S R Q st po => meth_run qo qe (fun d x H B p h => ty_str p h) hv (fun d e z _ => hg d e z) st po⟩
theorem gJoin_ty {d e z : D} (h : gJoin d e = some z) : d.isStr := by
  cases d with
  | str l => trivial
  | _ => cases e <;> cases h
theorem gSplit_ty {d e z : D} (h : gSplit d e = some z) : d.isStr := by
  cases d with
  | str l => trivial
  | _ => cases e <;> cases h
theorem gPart_ty {d e z : D} (h : gPart d e = some z) : d.isStr := by
  cases d with
  | str l => trivial
  | _ => cases e <;> cases h
theorem re_join (ho : RB X W Γ o mo) (he : RB X W Γ e me)
    (hbase : attributeBase o "join" X.env (eval o X.env) = eval o X.env := by rfl) (hfew : ((backTo cpos (starEach [e] X.env)).all (fun x => !x.1) && (backToKw cpos (keywordEach [] X.env)).all (fun x => x.1.isSome) && decide ([e].length + ([] : List Keyword).length + (if ([] : List Keyword).isEmpty then 0 else 1) < 30)) = true := by rfl)
    (hline : (apos.endLine == cpos.line) = true := by rfl) (hs : starEach (e :: []) X.env = (false, eval e X.env) :: starEach [] X.env := by rfl) (hplain : (backTo cpos (starEach [] X.env)).any (·.1) = false := by rfl) :
    RE X W Γ n true (.Call (.Attribute o "join" apos) [e] [] cpos) (mMeth gJoin mo me) := re_strM PySem.F.slot_str_join PySem.F.type_str_join mt_join mv_join (fun _ _ _ => gJoin_ty) ho he hbase hfew hline hs hplain
theorem re_split (ho : RB X W Γ o mo) (he : RB X W Γ e me) (hn : n ≤ 1 := by decide)
    (hbase : attributeBase o "split" X.env (eval o X.env) = eval o X.env := by rfl) (hfew : ((backTo cpos (starEach [e] X.env)).all (fun x => !x.1) && (backToKw cpos (keywordEach [] X.env)).all (fun x => x.1.isSome) && decide ([e].length + ([] : List Keyword).length + (if ([] : List Keyword).isEmpty then 0 else 1) < 30)) = true := by rfl)
    (hline : (apos.endLine == cpos.line) = true := by rfl) (hs : starEach (e :: []) X.env = (false, eval e X.env) :: starEach [] X.env := by rfl) (hplain : (backTo cpos (starEach [] X.env)).any (·.1) = false := by rfl) :
    RE X W Γ n true (.Call (.Attribute o "split" apos) [e] [] cpos) (mMeth gSplit mo me) := RE.w (n := 1) (re_strM PySem.F.slot_str_split PySem.F.type_str_split mt_split (mv_split (n := 0)) (fun _ _ _ => gSplit_ty) ho he hbase hfew hline hs hplain) hn
theorem re_part (ho : RB X W Γ o mo) (he : RB X W Γ e me)
    (hbase : attributeBase o "partition" X.env (eval o X.env) = eval o X.env := by rfl) (hfew : ((backTo cpos (starEach [e] X.env)).all (fun x => !x.1) && (backToKw cpos (keywordEach [] X.env)).all (fun x => x.1.isSome) && decide ([e].length + ([] : List Keyword).length + (if ([] : List Keyword).isEmpty then 0 else 1) < 30)) = true := by rfl)
    (hline : (apos.endLine == cpos.line) = true := by rfl) (hs : starEach (e :: []) X.env = (false, eval e X.env) :: starEach [] X.env := by rfl) (hplain : (backTo cpos (starEach [] X.env)).any (·.1) = false := by rfl) :
    RE X W Γ n true (.Call (.Attribute o "partition" apos) [e] [] cpos) (mMeth gPart mo me) := re_strM PySem.F.slot_str_partition PySem.F.type_str_partition mt_partition mv_part (fun _ _ _ => gPart_ty) ho he hbase hfew hline hs hplain
end
def gStr : List D → Option D
  | [.int i] => if i.natAbs.log2 < 1920 then some (.str (toString i)) else none
  | _ => none
def gIntS : List D → Option D
  | [.str a] => if a.length ≤ 640 then (PySem.intText? a).map .int else none
  | _ => none
section
variable {K : PySem.W.Frag}
theorem cf_str : CallF K (fun xs H Q => ∃ i, xs = [.int i] ∧ i.natAbs.log2 < 1920 ∧ Q (.str (toString i)) H) gStr := by
  intro vs ds z H B Q h ez po
  unfold gStr at ez
  split at ez
  · rename_i i
    split at ez
    · rename_i hl
      cases ez
      obtain ⟨v, rfl, h9⟩ := dats1 h
      exact ⟨i, by rw [dat_int h9], hl, po rfl _ dat_of_str⟩
    · cases ez
  · cases ez
theorem cf_intS : CallF K (fun xs H Q => ∃ a n, xs = [.str a] ∧ PySem.intText? a = some n ∧ a.length ≤ 640 ∧ Q (.int n) H) gIntS := by
  intro vs ds z H B Q h ez po
  unfold gIntS at ez
  split at ez
  · rename_i a
    split at ez
    · rename_i hl
      obtain ⟨k, ek, rfl⟩ := Option.map_eq_some_iff.mp ez
      obtain ⟨v, rfl, h9⟩ := dats1 h
      exact ⟨a, k, by rw [dat_str h9], ek, hl, po rfl _ dat_of_int⟩
    · cases ez
  · cases ez
end
section
variable {X : Cx} {W : WX} {Γ : List Nat} {n : Nat} {e a : Expr} {es : List Expr} {p p2 q pos : Pos} {ma : Rho → Res (List D)} {me : Rho → Res D}
theorem re_strC (hm : X.mg "str" = none) (ha : RAB X W Γ [e] ma) (hg : Gl X "str" := by rfl)
    (he : starEach (e :: []) X.env = (false, eval e X.env) :: starEach [] X.env := by rfl) (hpl : (backTo pos (starEach [] X.env)).any (·.1) = false := by rfl) : RE X W Γ n true (.Call (.Name "str" p) [e] [] pos) (mL gStr ma) := re_callTF call_str_int cf_str hm boot_str ha hg (by decide) (by decide) he hpl
theorem re_intS (hm : X.mg "int" = none) (ha : RAB X W Γ [e] ma) (hg : Gl X "int" := by rfl)
    (he : starEach (e :: []) X.env = (false, eval e X.env) :: starEach [] X.env := by rfl) (hpl : (backTo pos (starEach [] X.env)).any (·.1) = false := by rfl) : RE X W Γ n true (.Call (.Name "int" p) [e] [] pos) (mL gIntS ma) := re_callTF call_int_str cf_intS hm boot_int ha hg (by decide) (by decide) he hpl
def gLenSetT : D → Option D
  | .lst l => (strsOf l).bind fun ss => if ss.length ≤ 4000 then some (.int (unlike ss).length) else none
  | _ => none
theorem re_lenSetT (hm : X.mg "len" = none) (hm2 : X.mg "set" = none) (ha : RB X W Γ a me) (hg : Gl X "len" := by rfl) (hg2 : Gl X "set" := by rfl) (hc : X.calm = true := by rfl)
    (na : starEach [a] X.env = (false, eval a X.env) :: starEach [] X.env := by rfl) : RE X W Γ n true (.Call (.Name "len" p) [.Call (.Name "set" p2) [a] [] q] [] pos) (m1 gLenSetT me) := by
  obtain ⟨ta, pa, qa⟩ := ha
  refine ⟨_, pe_lenSetT hg hm hg2 hm2 pa hc na, fun F H0 ρ σ H S R Q st po => ?_⟩
  refine qa F H0 ρ σ H S R _ st ((PostE.iff.mp po).bind.imp fun d _ po => ?_)
  intro x H1 B s1 d1
  obtain ⟨z, ez, po⟩ := PostE.ofO (PostE.iff.mpr po)
  cases d with
  | lst l =>
    obtain ⟨ss, e1, e2⟩ := Option.bind_eq_some_iff.mp (show ((strsOf l).bind fun ss => if ss.length ≤ 4000 then some (D.int (unlike ss).length) else none) = some z from ez)
    split at e2
    · rename_i hl
      cases e2
      obtain ⟨u, xs, R', rfl, q, _, hd⟩ := dat_lst0 d1
      rw [dats_strs e1 hd] at q
      exact ⟨u, ss, rfl, .of q, hl, PostV.flat (PostV.later po s1) rfl dat_of_int⟩
    · cases e2
  | _ => cases ez
end
theorem new_ftup {K : PySem.W.Frag} {Z : Addr → Prop} {H : Hp} {Q : VK} {ds : List D} {xs : List V} {B : List Addr} {p : Addr} {o : Obj} {n : Nat} (po : PostV K Z n true H Q (.ftup ds)) (hp : H p = none) (ho : o.dict = none) (hd : Dats K H ds (n - 1) xs [] B) (hb : ∀ a ∈ B, ¬ Z a) : Q (.ref p) (upd H p (.frz o (.tup xs))) := by
  refine po (.ref p) _ [] B (same_new hp) ?_ hb fun _ => New.nil
  unfold Dat
  exact ⟨p, xs, rfl, ⟨o, ho, upd_same⟩, hd.same (same_new hp)⟩
section
variable {X : Cx} {W : WX} {Γ : List Nat} {n : Nat} {e a : Expr} {es : List Expr} {p p2 q pos : Pos} {ma : Rho → Res (List D)} {me : Rho → Res D}
end
end TW
-- TWDict
namespace TW
open PySem PySem.Spec PyProof.Rows L2
section
variable {X : Cx} {W : WX} {Γ : List Nat} {n : Nat} {a b : Expr} {pos : Pos} {ma mb : Rho → Res D}
theorem re_dT0 : RE X W Γ n true (.Dict [] [] pos) (mC (.dT [] [])) := by
  refine ⟨_, pe_dnewT, fun F H0 ρ σ H S R Q st po p hp => ?_⟩
  cases n with
  | zero =>
    refine po (.ref p) _ [] [p] (same_new hp) ?_ (fun a ha z => ?_) fun _ => New.nil
    · unfold Dat
      exact ⟨p, [], [], rfl, .of upd_same, rfl, rfl, rfl, .nil⟩
    · simp at ha; subst ha; exact st.avd _ z hp
  | succ n =>
    refine po (.ref p) _ [p] [] (same_new hp) ?_ (fun a z => by simp at z) fun _ => ⟨by simp, fun a z => by simp at z; rw [z]; exact ⟨hp, by simp⟩⟩
    show Dat X.K _ (.dT [] []) (n + 1) _ _ _
    unfold Dat
    exact ⟨p, [], [], rfl, upd_same, rfl, rfl, .nil⟩
end
def putL {κ : Type} [DecidableEq κ] (ks : List κ) (vs : List D) (k : κ) (v : D) : List κ × List D := match ks.idxOf? k with
  | some i => (ks, vs.set i v)
  | none => (ks ++ [k], vs ++ [v])
def putD (d k v : D) : Option D := match d with
  | .dK ks vs => if ks.length < sizeLine then (keyD k).map fun k => .dK (putL ks vs k v).1 (putL ks vs k v).2 else none
  | .dT ks vs => match k with
    | .tup l => if ks.length < sizeLine then (keysD l).map fun k => .dT (putL ks vs k v).1 (putL ks vs k v).2 else none
    | _ => none
  | _ => none
theorem putK_keys {κ : Type} [DecidableEq κ] (k : κ) (y : V) : ∀ (ws : List (κ × V)), (ws.map (·.1)).Nodup → putK ws k y = match (ws.map (·.1)).idxOf? k with
    | some i => (ws.map (·.1)).zip ((ws.map (·.2)).set i y)
    | none => ws ++ [(k, y)] := by
  intro ws nd
  have rep : ∀ ws : List (κ × V), (ws.map (·.1)).Nodup → ∀ i, (ws.map (·.1)).idxOf? k = some i → ws.map (fun kv => if kv.1 = k then (kv.1, y) else kv) = (ws.map (·.1)).zip ((ws.map (·.2)).set i y) := by
    intro ws
    induction ws with
    | nil => intro _ i h; simp at h
    | cons w ws ih =>
      intro nd i h
      rw [List.map_cons, List.nodup_cons] at nd
      rw [List.map_cons, List.idxOf?_cons] at h
      by_cases e : w.1 = k
      · simp only [e, beq_self_eq_true, if_true] at h
        cases h
        have : ws.map (fun kv => if kv.1 = k then (kv.1, y) else kv) = ws := by
          have : ∀ kv ∈ ws, (if kv.1 = k then (kv.1, y) else kv) = kv := fun kv hkv => if_neg fun q => nd.1 (by rw [e, ← q]; exact List.mem_map_of_mem hkv)
          rw [List.map_congr_left this, List.map_id']
        simp only [List.map_cons, if_pos e, this, List.set_cons_zero, List.zip_cons_cons]
        congr 1
        exact (List.zip_of_prod rfl rfl).symm ▸ rfl
      · have ne : (w.1 == k) = false := beq_eq_false_iff_ne.mpr e
        simp only [ne, if_false, Bool.false_eq_true, Option.map_eq_some_iff] at h
        obtain ⟨j, hj, rfl⟩ := h
        simp only [List.map_cons, if_neg e, List.set_cons_succ, List.zip_cons_cons]
        rw [ih nd.2 j hj]
  unfold putK
  cases q : (ws.map (·.1)).idxOf? k with
  | none =>
    have : ¬ k ∈ ws.map (·.1) := List.idxOf?_eq_none_iff.mp q
    rw [if_neg]
    simp only [List.any_eq_true, decide_eq_true_eq, not_exists, not_and]
    intro w hw e
    exact this (e ▸ List.mem_map_of_mem hw)
  | some i =>
    have : k ∈ ws.map (·.1) := by
      by_cases h : k ∈ ws.map (·.1)
      · exact h
      · rw [List.idxOf?_eq_none_iff.mpr h] at q; cases q
    rw [if_pos]
    · exact rep ws nd i q
    · simp only [List.any_eq_true, decide_eq_true_eq]
      obtain ⟨w, hw, e⟩ := List.mem_map.mp this
      exact ⟨w, hw, e⟩
theorem put_dats {κ : Type} [DecidableEq κ] {K : PySem.W.Frag} {H : Hp} {ws : List (κ × V)} {vs : List D} {n : Nat} {S R A B : List Addr} {k : κ} {v : D} {y : V} (h : Dats K H vs n (ws.map (·.2)) S R) (g : Dat K H v n y A B) (nd : (ws.map (·.1)).Nodup) :
    (putK ws k y).map (·.1) = (putL (ws.map (·.1)) vs k v).1 ∧ ∃ S2 R2, Dats K H (putL (ws.map (·.1)) vs k v).2 n ((putK ws k y).map (·.2)) S2 R2 ∧ (∀ b ∈ S2, b ∈ S ∨ b ∈ A) ∧ (S.Nodup → A.Nodup → (∀ b ∈ A, b ∉ S) → S2.Nodup) ∧ ∀ b ∈ R2, b ∈ R ∨ b ∈ B := by
  rw [putK_keys k y ws nd]
  unfold putL
  have hlen := h.length
  cases q : (ws.map (·.1)).idxOf? k with
  | none =>
    refine ⟨by simp, S ++ A, R ++ B, ?_, fun b hb => List.mem_append.mp hb, fun n1 n2 n3 => List.nodup_append.mpr ⟨n1, n2, fun a ha b hb e => n3 b hb (e ▸ ha)⟩, fun b hb => List.mem_append.mp hb⟩
    dsimp only
    rw [List.map_append]
    exact h.append (Dats.one g)
  | some i =>
    have hi : i < ws.length := by
      have := (List.idxOf?_eq_some_iff.mp q).1
      simpa using this
    obtain ⟨S2, R2, a1, a2, a3, a4⟩ := Dats.put (j := i) h (by rw [← hlen, List.length_map]; exact hi) g
    refine ⟨by dsimp only; rw [List.map_fst_zip (by simp)], S2, R2, ?_, a2, a3, a4⟩
    dsimp only
    rw [List.map_snd_zip (by simp)]
    exact a1
def rSetDN : TSet := fun o i v H Q => (∃ a kvs k, o = .ref a ∧ H a = some (.dK kvs) ∧ i = kV k ∧ kvs.length < sizeLine ∧ ((kvs.map (·.1)).Nodup → Q (L2.upd H a (.dK (putK kvs k v))))) ∨
  ∃ a kvs k b, o = .ref a ∧ H a = some (.dT kvs) ∧ i = .ref b ∧ H b = some (.tup (k.map kV)) ∧ kvs.length < sizeLine ∧ ((kvs.map (·.1)).Nodup → Q (L2.upd H a (.dT (putK kvs k v))))
theorem paired_keys {α β γ : Type} {R : γ × α → γ × β → Prop} {l : List (γ × α)} {m : List (γ × β)} (h : Paired R l m) (e : ∀ p q, R p q → p.1 = q.1) : l.map (·.1) = m.map (·.1) := by
  induction h with
  | nil => rfl
  | cons h t ih => rw [List.map_cons, List.map_cons, e _ _ h, ih]
theorem set_dictN {X : Cx} (hu : X.A.units + 1 < cLine) : PSet X rSetDN := by
  intro pins s σ H o i v ov iv u Q I ro ri rv h
  rcases h with ⟨a, kvs, k, rfl, e, rfl, hl, q⟩ | ⟨a, kvs, k, b, rfl, e, rfl, eb, hl, q⟩
  · obtain ⟨_, _, vs, rel, _, _, _, _, _, _, _, _, nd⟩ := dk_of I.hok e
    rw [← rel.keys] at nd
    exact set_dict hu pins s σ H (.ref a) (kV k) v ov iv u Q I ro ri rv ⟨a, _, rfl, DPut.k e hl, q nd⟩
  · obtain ⟨_, _, xs, rel, o, es, ep, _, _, _, _, nd⟩ := (show ObjOk X.prog X.w H s.heap a (.dT kvs) from I.hok a _ e)
    have ek := paired_keys rel fun _ _ z => z.1
    rw [← ek] at nd
    exact set_dict hu pins s σ H (.ref a) (.ref b) v ov iv u Q I ro ri rv ⟨a, _, rfl, DPut.t e eb hl, q nd⟩
def sPutD (i : Nat) (mp : Rho → Res (List D)) (mj me : Rho → Res D) : Rho → Out := atS i fun ρ => (me ρ).out ρ fun v => (mp ρ).out ρ fun p => (noX (mj ρ)).out ρ fun j => mutO i ρ p fun c => putD c j v
@[simp] theorem sPutD_eq {i : Nat} {mp : Rho → Res (List D)} {mj me : Rho → Res D} {ρ : Rho} : sPutD i mp mj me ρ = atS i (fun ρ => (me ρ).out ρ fun v => (mp ρ).out ρ fun p => (noX (mj ρ)).out ρ fun j => mutO i ρ p fun c => putD c j v) ρ := id rfl
section
variable {X : Cx} {W : WX} {Γ : List Nat} {n i len : Nat} {e a b o : Expr} {pos pos' : Pos} {mp : Rho → Res (List D)} {mb me mi : Rho → Res D}
end
def mD1 (a b : Rho → Res D) : Rho → Res D := fun ρ => (a ρ).bind fun k => (b ρ).bind fun v => ofO ((keyD k).map fun k => .dK [k] [v])
@[simp] theorem mD1_eq {a b : Rho → Res D} {ρ : Rho} : mD1 a b ρ = (a ρ).bind fun k => (b ρ).bind fun v => ofO ((keyD k).map fun k => .dK [k] [v]) := id rfl
end TW
-- TWPop
namespace TW
open PySem PySem.Spec PyProof.Rows L2
def sAsg (f : D → Rho → Option Rho) (m : Rho → Res D) : Rho → Out := fun ρ => (m ρ).out ρ fun d => match f d ρ with
  | some ρ' => .nx ρ'
  | none => .stuck
@[simp] theorem sAsg_eq {f : D → Rho → Option Rho} {m : Rho → Res D} {ρ : Rho} : sAsg f m ρ = (m ρ).out ρ fun d => match f d ρ with
  | some ρ' => .nx ρ'
  | none => .stuck := id rfl
@[simp] theorem tgT_tup {is : List Nat} {ds : List D} {ρ : Rho} : tgT is (.tup ds) ρ = tgNs is ds ρ := id rfl
@[simp] theorem tgNs_cons {i : Nat} {is : List Nat} {d : D} {ds : List D} {ρ : Rho} : tgNs (i :: is) (d :: ds) ρ = tgNs is ds (ρ.set i (some d)) := id rfl
@[simp] theorem tgNs_nil {ρ : Rho} : tgNs [] [] ρ = some ρ := id rfl
section
variable {X : Cx} {W : WX} {Γ : List Nat} {n i j len : Nat} {e o tg : Expr} {pos pos' : Pos} {m : Rho → Res D} {f : D → Rho → Option Rho}
theorem rs_asg (he : RE X W Γ 0 true e m) (hg : RG X Γ tg f) (hs : swapsWithSole [tg] e pos.line X.env = pure false := by rfl) (hw : swappedStores [tg] e X.env = pure none := by rfl)
    (h1 : (assignEach [tg] X.env).map (·.2) = [assign tg X.env] := by rfl) : RS X W n Γ Γ (.Assign [tg] e pos) (sAsg f m) := by
  obtain ⟨te, pe, qe⟩ := he
  obtain ⟨g, pg, qg⟩ := hg
  refine ⟨_, ps_asg pe pg hs hw h1, fun F H0 ρ σ H S R E st po => ?_⟩
  refine qe F H0 ρ σ H S R _ st (PostE.iff.mpr ((PostS.ofR st po).imp fun d _ po => ?_))
  intro x H1 A B s1 d1 v1 _
  obtain rfl : A = [] := Dat.noS d1
  cases ef : f d ρ with
  | none => rw [ef] at po; exact po.elim
  | some ρ' =>
    rw [ef] at po
    exact qg F H0 ρ σ H1 S R d x B ρ' _ (st.grow s1) d1 v1 ef fun σ' R' st' => po σ' H1 S R' st' (Keep.of_same s1) Grow.refl
end
theorem Dats.reverse {K : PySem.W.Frag} {H : Hp} : ∀ {ds : List D} {n : Nat} {xs : List V} {S R : List Addr}, Dats K H ds n xs S R → ∃ S2 R2, Dats K H ds.reverse n xs.reverse S2 R2 ∧ S2.Perm S ∧ ∀ a ∈ R2, a ∈ R
  | [], _, _, _, _, h => by
    simp only [Dats] at h
    obtain ⟨rfl, rfl, rfl⟩ := h
    exact ⟨[], [], .nil, .refl _, fun _ z => z⟩
  | d :: ds, n, _, _, _, h => by
    unfold Dats at h
    obtain ⟨x, xs', S1, S2, R1, R2, rfl, rfl, rfl, h1, h2⟩ := h
    obtain ⟨S3, R3, g, p, r⟩ := Dats.reverse h2
    refine ⟨S3 ++ S1, R3 ++ R1, by rw [List.reverse_cons, List.reverse_cons]; exact g.append (Dats.one h1), (p.append_right S1).trans List.perm_append_comm, fun a ha => ?_⟩
    rcases List.mem_append.mp ha with ha | ha
    · exact List.mem_append_right _ (r a ha)
    · exact List.mem_append_left _ ha
theorem Dats.init {K : PySem.W.Frag} {H : Hp} : ∀ {ds : List D} {n : Nat} {xs : List V} {S R : List Addr}, Dats K H ds n xs S R → ∃ S2 R2, Dats K H ds.dropLast n xs.dropLast S2 R2 ∧ S2.Sublist S ∧ ∀ a ∈ R2, a ∈ R
  | [], _, _, _, _, h => by
    simp only [Dats] at h
    obtain ⟨rfl, rfl, rfl⟩ := h
    exact ⟨[], [], .nil, .refl _, fun _ z => z⟩
  | [d], n, _, _, _, h => by
    unfold Dats at h
    obtain ⟨x, xs', S1, S2, R1, R2, rfl, rfl, rfl, h1, h2⟩ := h
    simp only [Dats] at h2
    obtain ⟨rfl, _, _⟩ := h2
    exact ⟨[], [], .nil, List.nil_sublist _, fun _ z => by simp at z⟩
  | d :: e :: ds, n, _, _, _, h => by
    unfold Dats at h
    obtain ⟨x, xs', S1, S2, R1, R2, rfl, rfl, rfl, h1, h2⟩ := h
    obtain ⟨S3, R3, g, p, r⟩ := Dats.init h2
    have hl := h2.length
    obtain ⟨y, ys, rfl⟩ : ∃ y ys, xs' = y :: ys := by
      cases xs' with
      | nil => simp at hl
      | cons y ys => exact ⟨y, ys, rfl⟩
    refine ⟨S1 ++ S3, R1 ++ R3, Dats.cons h1 g, p.append_left S1 |>.trans (.refl _), fun a ha => ?_⟩
    rcases List.mem_append.mp ha with ha | ha
    · exact List.mem_append_left _ ha
    · exact List.mem_append_right _ (r a ha)
theorem Dats.erase {K : PySem.W.Frag} {H : Hp} : ∀ {ds : List D} {n : Nat} {xs : List V} {S R : List Addr} (k : Nat), Dats K H ds n xs S R → ∃ S2 R2, Dats K H (ds.eraseIdx k) n (xs.eraseIdx k) S2 R2 ∧ S2.Sublist S ∧ ∀ a ∈ R2, a ∈ R
  | [], _, _, _, _, k, h => by
    simp only [Dats] at h
    obtain ⟨rfl, rfl, rfl⟩ := h
    exact ⟨[], [], by simpa using Dats.nil, .refl _, fun _ z => z⟩
  | d :: ds, n, _, _, _, 0, h => by
    unfold Dats at h
    obtain ⟨x, xs', S1, S2, R1, R2, rfl, rfl, rfl, h1, h2⟩ := h
    exact ⟨S2, R2, by simpa using h2, List.sublist_append_right _ _, fun a z => List.mem_append_right _ z⟩
  | d :: ds, n, _, _, _, k + 1, h => by
    unfold Dats at h
    obtain ⟨x, xs', S1, S2, R1, R2, rfl, rfl, rfl, h1, h2⟩ := h
    obtain ⟨S3, R3, g, p, r⟩ := Dats.erase k h2
    refine ⟨S1 ++ S3, R1 ++ R3, by simpa using Dats.cons h1 g, p.append_left S1, fun a ha => ?_⟩
    rcases List.mem_append.mp ha with ha | ha
    · exact List.mem_append_left _ ha
    · exact List.mem_append_right _ (r a ha)
def sMut (i : Nat) (mp : Rho → Res (List D)) (f : D → Option D) : Rho → Out := atS i fun ρ => (mp ρ).out ρ fun p => mutO i ρ p f
@[simp] theorem sMut_eq {i : Nat} {mp : Rho → Res (List D)} {f : D → Option D} {ρ : Rho} : sMut i mp f ρ = atS i (fun ρ => (mp ρ).out ρ fun p => mutO i ρ p f) ρ := id rfl
section
variable {X : Cx} {W : WX} {Γ : List Nat} {n i j len : Nat} {e o o2 tg : Expr} {pos pos' apos cpos apos2 cpos2 pos2 : Pos} {mp mp2 : Rho → Res (List D)} {me : Rho → Res D}
end
section
variable {K : PySem.W.Frag} {F : Fr} {H0 H : Hp} {Γ : List Nat} {ρ : Rho} {σ : L2.St} {S R : Nat → List Addr}
end
section
variable {X : Cx} {W : WX} {Γ : List Nat} {n i j len : Nat} {e o o2 tg : Expr} {pos pos' apos cpos apos2 cpos2 pos2 : Pos} {mp mp2 : Rho → Res (List D)} {me : Rho → Res D} {m : Rho → Option (D × Rho)} {f : D → Rho → Option Rho}
end
section
variable {X : Cx} {W : WX} {Γ : List Nat} {n : Nat} {tg e a b c : Expr} {p pos : Pos} {ma mb mc : Rho → Res D} {mes : Rho → Res (List D)}
end
end TW
-- TWTry
namespace TW
open PySem PySem.Spec PyProof.Rows L2
def sRaise (c : Str) : Rho → Out := fun ρ => .ex c ρ
@[simp] theorem sRaise_eq {c : Str} {ρ : Rho} : sRaise c ρ = .ex c ρ := id rfl
section
variable {X : Cx} {W : WX} {n : Nat} {Γ Γ1 : List Nat}
def sTry (cs : List (Str × Bool)) (mb : Rho → Out) (ms : Str → Rho → Out) : Rho → Out := fun ρ => match mb ρ with
  | .ex c ρ' => match cs.lookup c with
    | some true => ms c ρ'
    | some false => .ex c ρ'
    | none => .stuck
  | o => o
end
@[simp] theorem sTry_eq {cs : List (Str × Bool)} {mb : Rho → Out} {ms : Str → Rho → Out} {ρ : Rho} : sTry cs mb ms ρ = match mb ρ with
  | .ex c ρ' => match cs.lookup c with
    | some true => ms c ρ'
    | some false => .ex c ρ'
    | none => .stuck
  | o => o := id rfl
end TW
-- TWDisp
namespace TW
open PySem PySem.Spec PyProof.Rows L2
section
variable {X : Cx} {W : WX} {Γ : List Nat} {a b : Expr} {pos : Pos} {ma mb : Rho → Res D}
end
end TW
-- TWLendN
namespace TW
open PySem PySem.Spec PyProof.Rows L2
def D.shal : Nat → D → Bool
  | n + 1, .lst l => l.all (D.shal n)
  | _, d => d.flat
def mShal (n : Nat) (m : Rho → Res D) : Rho → Res D := fun ρ => (m ρ).bind fun d => if d.shal n then .ok d else .stuck
@[simp] theorem mShal_eq {n : Nat} {m : Rho → Res D} {ρ : Rho} : mShal n m ρ = (m ρ).bind fun d => if d.shal n then .ok d else .stuck := id rfl
section
variable {X : Cx} {W : WX} {Γ : List Nat} {nf k ar : Nat} {e : Expr} {es : List Expr} {x : Str} {p pos : Pos} {ma : Rho → Res (List D)} {m : List D → Res D}
end
end TW
-- TWRevD
namespace TW
open PySem PySem.Spec PyProof.Rows L2
section
variable {X : Cx} {W : WX} {Γ : List Nat} {n : Nat} {a : Expr} {p1 p2 p3 pos p q : Pos} {k : Nat} {ma : Rho → Res D} {mm : Rho → Res (List D)}
end
def keyToD : Key → D
  | .inl i => .int i
  | .inr s => .str s
section
variable {X : Cx} {W : WX} {Γ : List Nat} {n : Nat} {e : Expr} {p pos : Pos} {ma : Rho → Res (List D)}
end
end TW
-- TWTryAs
namespace TW
open PySem PySem.Spec PyProof.Rows L2
section
variable {X : Cx} {W : WX} {Γ Γ1 Γ2 : List Nat} {n i k : Nat} {a : Addr} {fr : Bool} {e : Expr} {es : List Expr} {m me : Rho → Res D} {mes : Rho → Res (List D)} {p p2 pos pos' : Pos}
end
section
variable {X : Cx} {W : WX} {Γ : List Nat} {n i : Nat} {a : Addr} {oe : Obj} {pn : List (Addr × Obj)} {C : Addr} {c : Str} {p p2 p3 pos : Pos}
end
section
variable {K : PySem.W.Frag} {F : Fr} {H0 H : Hp} {Γ : List Nat} {ρ : Rho} {σ : L2.St} {S R : Nat → List Addr}
end
def sTryA (i : Nat) (c0 : Str) (mb ms : Rho → Out) : Rho → Out := fun ρ => match mb ρ with
  | .ex c ρ' => if c = c0 ∧ i < ρ'.length then match ms (ρ'.set i (some .junk)) with
    | .nx ρ'' => .nx (ρ''.set i none)
    | .rt d => .rt d
    | _ => .stuck
    else .stuck
  | o => o
@[simp] theorem sTryA_eq {i : Nat} {c0 : Str} {mb ms : Rho → Out} {ρ : Rho} : sTryA i c0 mb ms ρ = match mb ρ with
  | .ex c ρ' => if c = c0 ∧ i < ρ'.length then match ms (ρ'.set i (some .junk)) with
    | .nx ρ'' => .nx (ρ''.set i none)
    | .rt d => .rt d
    | _ => .stuck
    else .stuck
  | o => o := id rfl
section
variable {X : Cx} {W : WX} {n : Nat} {Γ Γ1 : List Nat}
end
def sDoM (m : Rho → Option (D × Rho)) : Rho → Out := fun ρ => match m ρ with
  | some r => .nx r.2
  | none => .stuck
@[simp] theorem sDoM_eq {m : Rho → Option (D × Rho)} {ρ : Rho} : sDoM m ρ = match m ρ with
  | some r => .nx r.2
  | none => .stuck := id rfl
end TW
-- TWForD
namespace TW
open PySem PySem.Spec PyProof.Rows L2
structure Trd (H H' : Hp) (S : List Addr) : Prop where
  lst : ∀ b xs, H b = some (.lst xs) → H' b = some (.lst xs)
  tup : ∀ b xs, H b = some (.tup xs) → H' b = some (.tup xs)
  ft : ∀ b o xs, H b = some (.frz o (.tup xs)) → H' b = some (.frz o (.tup xs))
  fl : ∀ b o xs, H b = some (.frz o (.lst xs)) → H' b = some (.frz o (.lst xs))
  rK : ∀ b ws, Rd H b (.dK ws) → Rd H' b (.dK ws)
  rT : ∀ b ws, Rd H b (.dT ws) → Rd H' b (.dT ws)
  oK : ∀ b ∈ S, ∀ ws, H b = some (.dK ws) → H' b = some (.dK ws)
  oT : ∀ b ∈ S, ∀ ws, H b = some (.dT ws) → H' b = some (.dT ws)
  oI : ∀ b C dx fs, H b = some (.ins C dx fs) → H' b = some (.ins C dx fs)
  oO : ∀ b x, H b = some (.own x) → H' b = some (.own x)
theorem Trd.mono {H H' : Hp} {S S' : List Addr} (h : Trd H H' S) (hs : ∀ b ∈ S', b ∈ S) : Trd H H' S' := ⟨h.lst, h.tup, h.ft, h.fl, h.rK, h.rT, fun b hb => h.oK b (hs b hb), fun b hb => h.oT b (hs b hb), h.oI, h.oO⟩
section
variable {K : PySem.W.Frag} {H H' : Hp}
mutual
theorem Dat.trd : ∀ (d : D) (n : Nat) (v : V) (S R : List Addr), Trd H H' S → Dat K H d n v S R → Dat K H' d n v S R
  | .non, _, _, _, _, _, h => by simpa [Dat] using h
  | .bl b, _, _, _, _, _, h => by simpa [Dat] using h
  | .int i, _, _, _, _, _, h => by simpa [Dat] using h
  | .str s, _, _, _, _, _, h => by simpa [Dat] using h
  | .junk, _, _, _, _, _, h => by simpa [Dat] using h
  | .ins C h t, 0, v, S, R, st, e => by
    simp only [Dat] at e ⊢
    obtain ⟨a, dx, x, y, R1, R2, rfl, q, qd, rfl, rfl, h1, h2⟩ := e
    exact ⟨a, dx, x, y, R1, R2, rfl, st.oI _ _ _ _ q, st.oO _ _ qd, rfl, rfl, Dat.trd h 0 x [] R1 st h1, Dat.trd t 0 y [] R2 st h2⟩
  | .ins C h t, n + 1, v, S, R, st, e => by
    simp only [Dat] at e ⊢
    obtain ⟨a, dx, x, y, S1, S2, R1, R2, rfl, q, qd, rfl, rfl, h1, h2⟩ := e
    exact ⟨a, dx, x, y, S1, S2, R1, R2, rfl, st.oI _ _ _ _ q, st.oO _ _ qd, rfl, rfl,
      Dat.trd h n x S1 R1 (st.mono fun b z => List.mem_cons_of_mem _ (List.mem_append_left _ z)) h1,
      Dat.trd t n y S2 R2 (st.mono fun b z => List.mem_cons_of_mem _ (List.mem_append_right _ z)) h2⟩
  | .scr l, _, _, _, _, st, h => by
    simp only [Dat] at h ⊢
    obtain ⟨⟨a, e, q⟩, h⟩ := h
    exact ⟨⟨a, e, q.imp (fun ⟨o, q⟩ => ⟨o, st.fl _ _ _ q⟩) id⟩, h⟩
  | .lst ds, 0, v, S, R, st, h => by
    simp only [Dat] at h ⊢
    obtain ⟨a, xs, R', rfl, q, rfl, rfl, hd⟩ := h
    exact ⟨a, xs, R', rfl, st.lst _ _ q, rfl, rfl, Dats.trd ds 0 xs [] R' st hd⟩
  | .lst ds, n + 1, v, S, R, st, h => by
    simp only [Dat] at h ⊢
    obtain ⟨a, xs, S', rfl, q, rfl, hd⟩ := h
    exact ⟨a, xs, S', rfl, st.lst _ _ q, rfl, Dats.trd ds n xs S' R (st.mono fun b z => List.mem_cons_of_mem _ z) hd⟩
  | .tup ds, n, v, S, R, st, h => by
    simp only [Dat] at h ⊢
    obtain ⟨a, xs, rfl, q, hd⟩ := h
    exact ⟨a, xs, rfl, st.tup _ _ q, Dats.trd ds (n - 1) xs S R st hd⟩
  | .ftup ds, n, v, S, R, st, h => by
    simp only [Dat] at h ⊢
    obtain ⟨a, xs, rfl, q, hd⟩ := h
    exact ⟨a, xs, rfl, q.imp fun o q => ⟨q.1, st.ft _ _ _ q.2⟩, Dats.trd ds (n - 1) xs S R st hd⟩
  | .dK ks ds, 0, v, S, R, st, h => by
    simp only [Dat] at h ⊢
    obtain ⟨a, ws, R', rfl, q, hk, rfl, rfl, hd⟩ := h
    exact ⟨a, ws, R', rfl, st.rK _ _ q, hk, rfl, rfl, Dats.trd ds 0 _ [] R' st hd⟩
  | .dK ks ds, n + 1, v, S, R, st, h => by
    simp only [Dat] at h ⊢
    obtain ⟨a, ws, S', rfl, q, hk, rfl, hd⟩ := h
    exact ⟨a, ws, S', rfl, st.oK _ List.mem_cons_self _ q, hk, rfl, Dats.trd ds n _ S' R (st.mono fun b z => List.mem_cons_of_mem _ z) hd⟩
  | .dT ks ds, 0, v, S, R, st, h => by
    simp only [Dat] at h ⊢
    obtain ⟨a, ws, R', rfl, q, hk, rfl, rfl, hd⟩ := h
    exact ⟨a, ws, R', rfl, st.rT _ _ q, hk, rfl, rfl, Dats.trd ds 0 _ [] R' st hd⟩
  | .dT ks ds, n + 1, v, S, R, st, h => by
    simp only [Dat] at h ⊢
    obtain ⟨a, ws, S', rfl, q, hk, rfl, hd⟩ := h
    exact ⟨a, ws, S', rfl, st.oT _ List.mem_cons_self _ q, hk, rfl, Dats.trd ds n _ S' R (st.mono fun b z => List.mem_cons_of_mem _ z) hd⟩
theorem Dats.trd : ∀ (ds : List D) (n : Nat) (xs : List V) (S R : List Addr), Trd H H' S → Dats K H ds n xs S R → Dats K H' ds n xs S R
  | [], _, _, _, _, _, h => by simpa [Dats] using h
  | d :: ds, n, xs, S, R, st, h => by
    simp only [Dats] at h ⊢
    obtain ⟨x, xs', S1, S2, R1, R2, rfl, rfl, rfl, h1, h2⟩ := h
    exact ⟨x, xs', S1, S2, R1, R2, rfl, rfl, rfl, Dat.trd d n x S1 R1 (st.mono fun b z => List.mem_append_left _ z) h1, Dats.trd ds n xs' S2 R2 (st.mono fun b z => List.mem_append_right _ z) h2⟩
end
theorem Sto.trd {F : Fr} {H0 H0' : Hp} {Γ : List Nat} {ρ : Rho} {σ : L2.St} {S R : Nat → List Addr} (h : Sto K F H0 Γ ρ σ H S R) (t : ∀ i, Trd H H' (S i)) (s : Same H0' H') (n : ∀ i, ∀ a ∈ S i, H0' a = none) (f : ∀ a, F a → H' a ≠ none) : Sto K F H0' Γ ρ σ H' S R :=
  ⟨s, h.len, fun i d e => let ⟨x, e1, e2⟩ := h.slot i d e; ⟨x, e1, Dat.trd d _ x _ _ (t i) e2⟩, h.emp, n, h.nd, h.dj, h.rs, h.rf, h.sf, f, h.pin⟩
end
def dicKeys : D → Option (List D)
  | .dT ks _ => some (ks.map fun k => .tup (k.map keyToD))
  | .dK ks _ => some (ks.map keyToD)
  | _ => none
def outX : Out → Out
  | .ex _ _ => .stuck
  | o => o
def sForD (i : Nat) (f : D → Rho → Option Rho) (b : Rho → Out) : Rho → Out := fun ρ => match ρ[i]? with
  | some (some d) => match dicKeys d with
    | some ds => outX (forL f b ds ρ)
    | none => .stuck
  | _ => .stuck
section
variable {X : Cx} {W : WX} {n : Nat} {Γ : List Nat}
end
@[simp] theorem sForD_eq {i : Nat} {f : D → Rho → Option Rho} {b : Rho → Out} {ρ : Rho} : sForD i f b ρ = match ρ[i]? with
  | some (some d) => match dicKeys d with
    | some ds => outX (forL f b ds ρ)
    | none => .stuck
  | _ => .stuck := id rfl
end TW
-- TWMv
namespace TW
open PySem PySem.Spec PyProof.Rows L2
def sMv (i j : Nat) : Rho → Out := fun ρ => match ρ[j]? with
  | some (some d) => .nx ((ρ.set j none).set i (some d))
  | _ => .stuck
@[simp] theorem sMv_eq {i j : Nat} {ρ : Rho} : sMv i j ρ = match ρ[j]? with
  | some (some d) => .nx ((ρ.set j none).set i (some d))
  | _ => .stuck := id rfl
theorem rs_mv {X : Cx} {W : WX} {Γ Γ1 : List Nat} {n i j k : Nat} {x : Str} {e : Expr} {pos pos' : Pos} (hy : PE X e (tVar j)) (hN : X.N.Nodup) (hx : Loc X.env.scope x) (hi : X.N[i]? = some x := by rfl) (hj : Γ.getD j 0 = k := by rfl) (hij : i ≠ j := by decide) (hl : i < Γ.length := by decide)
    (hs : swapsWith e (some (.Name x pos')) pos.line X.env = pure false := by rfl) (hf : X.fn x = true ∨ X.env.scope.names.lookup x = some .local := by first | exact .inl rfl | exact .inr rfl | assumption) (hp : Γ.getD i 0 ≠ 99 := by decide) (hΓ : Γ.set i k = Γ1 := by rfl) : RS X W n Γ Γ1 (.Assign [.Name x pos'] e pos) (sMv i j) := by
  subst hΓ hj
  refine ⟨_, ps_set hN hi hx hy hs hf, fun F H0 ρ σ H S R E st po => ?_⟩
  unfold sMv at po
  cases ej : ρ[j]? with
  | none => rw [ej] at po; exact po.elim
  | some oj =>
    cases oj with
    | none => rw [ej] at po; exact po.elim
    | some d =>
      rw [ej] at po
      obtain ⟨y, hyσ, gy⟩ := st.slot j d ej
      refine ⟨y, hyσ, ?_⟩
      have stD := st.drop j
      obtain ⟨S', R', st2, gr⟩ := stD.set (i := i) (n := Γ.getD j 0) (A := S j) (B := R j) (.inl hl) gy (fun a ha z => by
          rcases z with z | ⟨l, z⟩
          · exact st.rf j a ha z
          · dsimp only at z
            split at z
            · simp at z
            · exact st.rs j l a ha z) (st.nd j) (fun a ha => st.new j a ha) (fun a ha => st.sf j a ha) (fun a ha l z => by
          split at z
          · simp at z
          · rename_i hlj
            exact st.dj j l (Ne.symm hlj) a ha z) (fun a ha l z => by
          split at z
          · simp at z
          · exact st.rs l j a z ha) (fun a ha z => st.rs j j a z ha) hp
      refine po _ H S' R' st2 Keep.refl fun l a ha => ?_
      rcases gr l a ha with z | z
      · split at z
        · simp at z
        · exact .inl ⟨l, z⟩
      · exact .inl ⟨j, z⟩
end TW
-- TWEnum
namespace TW
open PySem PySem.Spec
open AutoSeq1 (wpAny_loadPart')
theorem meets_enumT (l : Addr) (items : Array Value) (n : Nat) (dct : Option Addr) (sl : Array (Option Value)) :
    Meets (Builtin.«enumerate.__new__» ⟨[.type "enumerate", .ref l], []⟩) (fun _ R s => s.heap.get? l = some { cls := .type "tuple", dict := dct, data := .seq items n, slots := sl } ∧
      R (.ok (.ret (.ref (s.heap.push { cls := .type "tuple_iterator", data := .fields #[.ref l, .int 0 0] }).objs.size)))
        { s with heap := (s.heap.push { cls := .type "tuple_iterator", data := .fields #[.ref l, .int 0 0] }).push { cls := .type "enumerate", data := .fields #[.none, .bool false, .ref s.heap.objs.size, rawInt 0, .none, .none] } }) :=
  .of_wp fun prog w A R s h => by
    obtain ⟨hp, g, d, tk, os⟩ := s; obtain ⟨hl, h⟩ := h
    have hsub := sub_enumerate
    have hL : Heap.IsTuple (Shared.heap ⟨hp, g, d, tk, os⟩) l items := ⟨_, hl, rfl, n, rfl⟩
    wp_walk using wpAny_loadPart' hl
    refine wpAny_stack_any fun st => wpAny_pure ?_
    split
    · rename_i c _ _ _ _ _
      cases (c == Value.type "enumerate")
      · wp_walk using wpAny_loadPart' hl, wpAny_pyIter_tuple hL
        exact ⟨_, rfl, h⟩
      · wp_walk using wpAny_loadPart' hl, wpAny_pyIter_tuple hL
        exact ⟨_, rfl, h⟩
    · wp_walk using wpAny_loadPart' hl, wpAny_pyIter_tuple hL
      exact ⟨_, rfl, h⟩
section
variable {prog : Program} {w : World} {A : Around} {E : Value → Shared → Prop} {s : Shared}
theorem call_enumT {l : Addr} {items : Array Value} {Q : Value → Shared → Prop} (hL : s.heap.IsTuple l items)
    (h : ∀ h', IsEnum h' (s.heap.objs.size + 1) s.heap.objs.size 0 .none → h'.IsTupleIter s.heap.objs.size l 0 → h'.objs.size = s.heap.objs.size + 2 →
      (∀ b o, s.heap.get? b = some o → h'.get? b = some o) → Q (.ref (s.heap.objs.size + 1)) { s with heap := h' }) :
    wpAny (model prog w) A (call (.type "enumerate") [.ref l]) Q E s := by
  obtain ⟨⟨c, dct, dt, sl⟩, hl, hc, n, hd⟩ := hL
  replace hc : c = .type "tuple" := hc
  replace hd : dt = .seq items n := hd
  subst hc hd
  refine callType_new F.called_enumerate (by decide) (F.typeCall_enumerate_1 _) (F.newCall_enumerate_1 _) (fun obj => F.args_object_init_2 obj _) F.entry_enumerate_new
    (meets_enumT l items n dct sl) ⟨hl, ?_⟩
  have hz : (s.heap.push { cls := .type "tuple_iterator", data := .fields #[.ref l, .int 0 0] }).objs.size = s.heap.objs.size + 1 := Heap.size_push ..
  show _ ∧ _
  rw [hz]
  have he : IsEnum ((s.heap.push { cls := .type "tuple_iterator", data := .fields #[.ref l, .int 0 0] }).push
      { cls := .type "enumerate", data := .fields #[.none, .bool false, .ref s.heap.objs.size, rawInt 0, .none, .none] }) (s.heap.objs.size + 1) s.heap.objs.size 0 .none := by
    have := Heap.get?_push_size (s.heap.push { cls := .type "tuple_iterator", data := .fields #[.ref l, .int 0 0] })
      (o := { cls := .type "enumerate", data := .fields #[.none, .bool false, .ref s.heap.objs.size, rawInt 0, .none, .none] }) rfl
    rw [hz] at this; exact this
  refine ⟨⟨_, he, rfl⟩, h _ he ⟨_, Heap.get?_push_of_some _ (Heap.get?_push_size _ rfl), rfl, rfl⟩ (by rw [Heap.size_push, hz]) fun b o x => Heap.get?_push_of_some _ (Heap.get?_push_of_some _ x)⟩
end
open PyProof.Rows L2
def IteT (K : PySem.W.Frag) (a : Addr) : It :=
  ⟨fun i H => ∃ (xs : List V) (x : V), SqT K H a xs ∧ xs[i]? = some x, fun i H v H' => ∃ T x, v = .ref T ∧ H T = none ∧ H' = upd H T (.tup [.int (i : Nat), x]) ∧ ∀ xs, SqT K H a xs → xs[i]? = some x, fun i H => ∃ xs : List V, SqT K H a xs ∧ xs.length ≤ i⟩
theorem turn_enumT {P : Program} {w : World} {K : PySem.W.Frag} {elts : List Expr} {kk : Nat} {tpos : Pos} (a e it : Addr) (hae : a ≠ it) (hae2 : a ≠ e) :
    Turn P w K (.Tuple elts kk tpos) (IteT K a) [e, it] e (fun i h => (∃ old, IsEnum h e it ((i : Nat) : Int) old) ∧ h.IsTupleIter it a i ∧ e ≠ it) where
  mem := by simp
  obj := fun i h st b hb => by
    obtain ⟨⟨old, he⟩, ⟨o, ho, hc, hd⟩, _⟩ := st
    have e' : b = e ∨ b = it := by simpa using hb
    rcases e' with z | z
    · rw [z]; exact ⟨_, he, fun v q => nomatch q⟩
    · rw [z]; exact ⟨o, ho, fun v q => by rw [hd] at q; cases q⟩
  keep := fun i h h' st k => let ⟨⟨old, he⟩, hi, hne⟩ := st; ⟨⟨old, k e (by simp) _ he⟩, hi.at fun o q => k it (by simp) o q, hne⟩
  item := by
    intro X hP hw hK hc i pins s σ H E I hf st hg
    subst hP hw hK
    obtain ⟨⟨old, he⟩, hit, hne⟩ := st
    obtain ⟨xs, x, hq, hx⟩ := hg
    obtain ⟨its, rv, p, hz⟩ := I.tuple hq
    obtain ⟨u, hu, ru⟩ := rv.get hx
    have hel : e < s.heap.objs.size := Heap.lt_size he
    have hil : it < s.heap.objs.size := by obtain ⟨_, q, _⟩ := hit; exact Heap.lt_size q
    have hlt : i < its.length := (List.getElem?_eq_some_iff.mp hu).1
    have D : Draws X.prog X.w X.A.in1 it [it, a] its.toArray.size (fun i v => its.toArray[i]? = some v) (fun i h => h.IsTupleIter it a i ∧ h.IsTuple a its.toArray) := Draws.tuple (A := X.A.in1) (I.ok.hd hc) it a hae its.toArray
    refine wpAny_pyNext_enum_itemD D he ⟨hit, show s.heap.IsTuple a its.toArray from p⟩ (by simpa using hlt) hne (fun z => by
      rcases List.mem_cons.mp z with z | z
      · exact hne z
      · exact hae2 (List.mem_singleton.mp z).symm) fun x' h' tk hx' ho st' hT hsz hk => ?_
    have ex : x' = u := by
      have : its[i]? = some x' := by simpa using hx'
      rw [hu] at this
      exact (Option.some.inj this).symm
    subst ex
    have hit' := st'.1
    refine ⟨_, rfl, wpAny_letOwnedTupleGo_enum (s := { s with heap := h', toks := tk + 1 }) ho fun h'' he' sb => ?_⟩
    have hT2 : h''.get? s.heap.objs.size = some { cls := .type "tuple", data := .seq #[.int i tk, x'] } := (sb.2 _ (Nat.ne_of_gt hel)).trans hT
    have new : ObjOk X.prog X.w (upd H s.heap.objs.size (.tup [.int (i : Nat), x])) h'' s.heap.objs.size (.tup [.int (i : Nat), x]) :=
      ⟨by show 2 ≤ sizeLine; decide, [.int i tk, x'], .cons ⟨_, rfl⟩ (.cons ru .nil), ⟨_, hT2, rfl, _, rfl⟩⟩
    have I1 : Inv X pins σ (upd H s.heap.objs.size (.tup [.int (i : Nat), x])) { s with heap := h'', toks := tk + 1 } :=
      I.turnedNew (ch := [e, it]) (fun b ob hb q => (sb.2 b (fun z => hb (by simp [z]))).trans (hk b ob (fun z => hb (by simp [z])) (fun z => hb (by simp [z])) q)) hf (Nat.le_refl _) new
    refine ⟨.ref s.heap.objs.size, _, I1, rfl, ⟨_, x, rfl, I.hok.fresh (Nat.le_refl _), rfl, fun ys hy => by rw [I.tuple_inj hy hq]; exact hx⟩, ⟨⟨x', ?_⟩, hit'.at fun o q => (sb.2 it (Ne.symm hne)).trans q, hne⟩, fun b hb => ?_⟩
    · have e1 : ((i + 1 : Nat) : Int) = (i : Int) + 1 := by omega
      rw [e1]; exact he'
    · have hb' : b < s.heap.objs.size := by
        have e' : b = e ∨ b = it := by simpa using hb
        rcases e' with z | z
        · rw [z]; exact hel
        · rw [z]; exact hil
      rw [upd_ne (Nat.ne_of_lt hb')]
      exact (hf b hb).1
  done := by
    intro X hP hw hK hc i pins s σ H E I hf st hg
    subst hP hw hK
    obtain ⟨⟨old, he⟩, hit, hne⟩ := st
    obtain ⟨xs, hq, hx⟩ := hg
    obtain ⟨its, rv, p, hz⟩ := I.tuple hq
    obtain ⟨f0, f1, f2, f3, f4, f5⟩ := hf it (by simp)
    have hl := rv.length
    have hT : s.TypeIs (.ref e) "enumerate" := ⟨_, he, rfl⟩
    unfold pyNext
    refine wpAny_bind (wpAny_attempt (wpAny_callSpecial?_slot (name := Str.ofString "__next__") hT F.slot_enumerate_next
      (wpAny_call_entry F.slot_enumerate_next hT F.entry_enumerate_next ?_ (F.args_enumerate_next_1 _))))
    show wpAny _ _ (field (.ref e) 2 >>= _) _ _ _
    refine wpAny_bind (wpAny_field he rfl (x := .ref it) rfl ?_)
    refine wpAny_bind (wpAny_nextOf_tuple_end (A := X.A.in1) (I.ok.hd hc) hit (show s.heap.IsTuple a its.toArray from p) (by simp; omega) fun h' x he' hx' => ?_)
    obtain ⟨o, ho, hc⟩ := hx'
    refine wpAny_bind (wpAny_isInstance (T := "StopIteration") (b := true) ⟨o, ho, hc⟩ isSubtype_stop ?_)
    exact wpAny_pure ⟨rfl, I.turned (t' := s.toks) (fun b o hb q => he' b o hb q) f0 f1 f3 f4 f5⟩
  self := fun A i s Q E st h => let ⟨⟨_, he⟩, _⟩ := st; wpAny_pyIter_enum he h
def iEnumT (K : PySem.W.Frag) (ta : TA) : TI := fun σ H R => ta σ H fun vs H1 => ∃ a xs, vs = [.ref a] ∧ SqT K H1 a xs ∧ R (IteT K a) H1
theorem pi_enumT {X : Cx} {e : Expr} {ta : TA} {p pos tpos : Pos} {elts : List Expr} {kk : Nat} (hg : Gl X "enumerate") (hm : X.mg "enumerate" = none) (ha : PA X [e] ta) (hs : starEach [e] X.env = [(false, eval e X.env)] := by rfl) :
    PI X (.Tuple elts kk tpos) (.Call (.Name "enumerate" p) [e] [] pos) (iEnumT X.K ta) := by
  refine ⟨fun pins s σ H R I h => ?_⟩
  refine Call_ (ld_blt I hg hm boot_enumerate (PyProof.Rows.callWith_type1 (thn (ha.run pos pins s σ H _ I h) fun us s1 ⟨vs, H1, I1, r1, q1⟩ => ?_) hs rfl))
  obtain ⟨a, xs, ex, hq, q⟩ := q1
  subst ex
  cases r1 with
  | cons r rr =>
    cases rr
    cases r
    obtain ⟨its, rv, p', hz⟩ := I1.tuple hq
    have hal : a < s1.heap.objs.size := by obtain ⟨o, e, _⟩ := p'; exact Heap.lt_size e
    refine call_enumT (show s1.heap.IsTuple a its.toArray from p') fun h' he hit hsz hk => wpAny_pyIter_enum he ?_
    have I2 : Inv X pins σ H1 { s1 with heap := h' } := I1.kept (t' := s1.toks) hk
    refine ⟨s1.heap.objs.size + 1, [s1.heap.objs.size + 1, s1.heap.objs.size], _, _, H1, rfl, I2, turn_enumT a (s1.heap.objs.size + 1) s1.heap.objs.size (Nat.ne_of_lt hal) (Nat.ne_of_lt (Nat.lt_succ_of_lt hal)), ⟨⟨.none, he⟩, hit, Nat.succ_ne_self _⟩, fun b hb => ?_, q⟩
    have e' : b = s1.heap.objs.size + 1 ∨ b = s1.heap.objs.size := by simpa using hb
    have hle : s1.heap.objs.size ≤ b := by
      rcases e' with z | z
      · rw [z]; exact Nat.le_add_right _ _
      · rw [z]; exact Nat.le_refl _
    exact I1.fpOk hle (I1.hok.fresh hle)
def enumL : Nat → List D → List D
  | _, [] => []
  | i, d :: ds => .tup [.int i, d] :: enumL (i + 1) ds
theorem enumL_get : ∀ {l : List D} {k i : Nat}, (enumL k l)[i]? = l[i]?.map fun d => .tup [.int (k + i : Nat), d]
  | [], k, i => by simp [enumL]
  | d :: l, k, 0 => by simp [enumL]
  | d :: l, k, i + 1 => by
    show (enumL (k + 1) l)[i]? = _
    rw [enumL_get, List.getElem?_cons_succ, show k + 1 + i = k + (i + 1) by omega]
theorem enumL_len : ∀ {l : List D} {k : Nat}, (enumL k l).length = l.length
  | [], _ => rfl
  | _ :: l, k => by show (enumL (k + 1) l).length + 1 = _; rw [enumL_len]; rfl
def iSqE : D → Option (List D)
  | .lst l => some (enumL 0 l)
  | .tup l => some (enumL 0 l)
  | .ftup l => some (enumL 0 l)
  | _ => none
def iEnumM (m : Rho → Res D) : Rho → Res (List D) := fun ρ => (m ρ).bind fun d => ofO (iSqE d)
@[simp] theorem iEnumM_eq {m : Rho → Res D} {ρ : Rho} : iEnumM m ρ = (m ρ).bind fun d => ofO (iSqE d) := id rfl
@[simp] theorem iSqE_lst {l : List D} : iSqE (.lst l) = some (enumL 0 l) := id rfl
@[simp] theorem iSqE_tup {l : List D} : iSqE (.tup l) = some (enumL 0 l) := id rfl
@[simp] theorem iSqE_ftup {l : List D} : iSqE (.ftup l) = some (enumL 0 l) := id rfl
theorem enum_item {K : PySem.W.Frag} {H H' : Hp} {l : List D} {xs : List V} {B R : List Addr} {i : Nat} {d : D} (hd : Dats K H l 0 xs [] B) (st : Stay H H' [] R) (hBR : ∀ a ∈ B, a ∈ R) (e : (enumL 0 l)[i]? = some d) :
    ∃ x, xs[i]? = some x ∧ ∀ T y, H' T = none → xs[i]? = some y → Same H' (L2.upd H' T (.tup [.int (i : Nat), y])) ∧ ∃ B', Dat K (L2.upd H' T (.tup [.int (i : Nat), y])) d 0 (.ref T) [] B' ∧ ∀ a ∈ B', a ∈ R := by
  rw [enumL_get] at e
  cases el : l[i]? with
  | none => rw [el] at e; cases e
  | some d0 =>
    rw [el] at e
    cases e
    obtain ⟨x, S', R', ex, g, sl, r⟩ := hd.get el
    obtain rfl : S' = [] := Dat.noS g
    refine ⟨x, ex, fun T y hT hy => ⟨same_new hT, R', ?_, fun a ha => hBR a (r a ha)⟩⟩
    rw [ex] at hy
    cases hy
    have g' : Dat K (L2.upd H' T (.tup [.int (i : Nat), x])) d0 0 x [] R' := (Dat.stay _ 0 _ [] R' (st.mono (fun _ z => z) fun a ha => hBR a (r a ha)) g).same (same_new hT)
    unfold Dat
    refine ⟨T, _, rfl, upd_same, ?_⟩
    rw [Nat.zero_add]
    exact Dats.cons (S1 := []) (R1 := []) (dat_of_int 0) (Dats.one g')
theorem iter_enumT {K : PySem.W.Frag} {H : Hp} {l : List D} {p : Addr} {xs : List V} {B : List Addr} (hp : ∀ H' : Hp, Stay H H' [] B → SqT K H' p xs) (hd : Dats K H l 0 xs [] B) : Iter K (IteT K p) H B (enumL 0 l) := by
  intro H' st i
  have hp' := hp H' st
  refine ⟨fun h => ⟨xs, hp', by rw [hd.length]; rw [enumL_len] at h; exact h⟩, fun d e => ?_⟩
  obtain ⟨x, ex, q⟩ := enum_item hd st (fun _ z => z) e
  refine ⟨⟨xs, x, hp', ex⟩, fun y H3 h => ?_⟩
  obtain ⟨T, z, rfl, hT, rfl, hz⟩ := h
  exact q T z hT (hz xs hp')
theorem iter_enumL {K : PySem.W.Frag} {H : Hp} {l : List D} {p : Addr} {xs : List V} {B : List Addr} (hp : H p = some (.lst xs)) (hd : Dats K H l 0 xs [] B) : Iter K (Ite K p) H (p :: B) (enumL 0 l) := by
  intro H' st i
  have hp' : SqL K H' p xs := .of (st.res p List.mem_cons_self _ hp)
  refine ⟨fun h => ⟨xs, hp', by rw [hd.length]; rw [enumL_len] at h; exact h⟩, fun d e => ?_⟩
  obtain ⟨x, ex, q⟩ := enum_item hd st (fun _ z => List.mem_cons_of_mem _ z) e
  refine ⟨⟨xs, x, hp', ex⟩, fun y H3 h => ?_⟩
  obtain ⟨T, z, rfl, hT, rfl, hz⟩ := h
  exact q T z hT (hz xs hp')
section
variable {X : Cx} {W : WX} {Γ : List Nat} {e : Expr} {p pos tpos : Pos} {elts : List Expr} {kk : Nat} {m : Rho → Res D}
theorem ri_enum (hm : X.mg "enumerate" = none) (he : RE X W Γ 0 true e m) (hg : Gl X "enumerate" := by rfl) (hs : starEach [e] X.env = [(false, eval e X.env)] := by rfl) (hs2 : starEach (e :: []) X.env = (false, eval e X.env) :: starEach [] X.env := by rfl) :
    RI X W Γ (.Tuple elts kk tpos) (.Call (.Name "enumerate" p) [e] [] pos) (iEnumM m) := by
  obtain ⟨ta, pa, qa⟩ := he
  refine ⟨_, PI.or (pi_enum hg hm (pa_cons pa pa_nil hs2) hs) (pi_enumT hg hm (pa_cons pa pa_nil hs2) hs), fun F H0 ρ σ H S R Rk st po => ?_⟩
  have key : ∀ (P : V → Hp → Prop) (hP : ∀ d x H1 B, m ρ = .ok d → Same H H1 → Dat X.K H1 d 0 x [] B → (∀ a ∈ B, ¬ Av F S a) → (∃ l, iSqE d = some l ∧ ∀ J H' B, Same H H' → (∀ a ∈ B, ¬ Av F S a) → (∀ a ∈ B, H' a ≠ none) → Iter X.K J H' B l → Rk J H') → P x H1), ta σ H P := fun P hP => by
    refine qa F H0 ρ σ H S R P st (PostE.iff.mpr (po.bind.imp fun d ed po => ?_))
    intro x H1 A B s1 d1 v1 _
    obtain rfl : A = [] := Dat.noS d1
    refine hP d x H1 B ed s1 d1 v1 ?_
    cases e : iSqE d with
    | none => rw [e] at po; exact po.elim
    | some l => rw [e] at po; exact ⟨l, rfl, po⟩
  cases em : m ρ with
  | stuck => unfold iEnumM at po; rw [em] at po; exact po.elim
  | exn c => exact .inl (key _ fun d x H1 B ed => by rw [em] at ed; cases ed)
  | ok d =>
    cases d with
    | lst l =>
      refine .inl (key _ fun d x H1 B ed s1 d1 v1 ⟨l', el, k⟩ => ?_)
      rw [em] at ed; cases ed; cases el
      obtain ⟨a, xs, R', rfl, q, rfl, hd⟩ := dat_lst0 d1
      exact ⟨a, xs, rfl, .of q, k _ H1 (a :: R') s1 v1 (fun b hb => Dat.domR d1 b hb) (iter_enumL q hd)⟩
    | tup l =>
      refine .inr (key _ fun d x H1 B ed s1 d1 v1 ⟨l', el, k⟩ => ?_)
      rw [em] at ed; cases ed; cases el
      obtain ⟨a, xs, rfl, q, hd⟩ := dat_tup0 d1
      exact ⟨a, xs, rfl, .of q, k _ H1 B s1 v1 (fun b hb => Dat.domR d1 b hb) (iter_enumT (fun H' st => .of (st.tup a _ q)) hd)⟩
    | ftup l =>
      refine .inr (key _ fun d x H1 B ed s1 d1 v1 ⟨l', el, k⟩ => ?_)
      rw [em] at ed; cases ed; cases el
      obtain ⟨a, xs, rfl, q, hd⟩ := dat_ftup0 d1
      exact ⟨a, xs, rfl, sqt_frz q, k _ H1 B s1 v1 (fun b hb => Dat.domR d1 b hb) (iter_enumT (fun H' st => sqt_frz (q.imp fun o q => ⟨q.1, st.frz a _ _ q.2⟩)) hd)⟩
    | _ => unfold iEnumM at po; rw [em] at po; exact po.elim
end
end TW
-- TWDictC
namespace TW
open PySem PySem.Spec PyProof.Rows L2
section
variable {K : PySem.W.Frag}
end
section
variable {X : Cx} {W : WX} {Γ : List Nat} {n : Nat} {a b e : Expr} {p pos : Pos} {ma mb : Rho → Res D} {mes : Rho → Res (List D)}
end
end TW
-- TWStep
namespace TW
open PySem PySem.Spec PyProof.Rows L2
open PySem.W (krv_pick)
def gStepL : D → D → Option D
  | .lst l, .int s => if s = 1 then some (.lst l) else if s = -1 then some (.lst l.reverse) else none
  | _, _ => none
def stepF (d : D) (r : Res D) : Res D := match d with
  | .lst l => r.bind fun s => ofO (gStepL (.lst l) s)
  | _ => .stuck
@[simp] theorem stepF_lst {l : List D} {r : Res D} : stepF (.lst l) r = r.bind fun s => ofO (gStepL (.lst l) s) := id rfl
def mStepL (ma ms : Rho → Res D) : Rho → Res D := fun ρ => (ma ρ).bind fun d => stepF d (ms ρ)
@[simp] theorem mStepL_eq {ma ms : Rho → Res D} {ρ : Rho} : mStepL ma ms ρ = (ma ρ).bind fun d => stepF d (ms ρ) := id rfl
section
variable {X : Cx} {W : WX} {Γ : List Nat} {n : Nat} {a es : Expr} {p3 pos : Pos} {ma ms : Rho → Res D}
end
section
variable {X : Cx} {W : WX} {n : Nat} {Γ : List Nat}
end
end TW
-- TWEqT
namespace TW
open PySem PySem.Spec PyProof.Rows L2
section
variable {prog : Program} {w : World} {K : Type} [DecidableEq K] {knd : HeapKind prog w K} {A : Around} {E : Value → Shared → Prop} {s : Shared}
end
section
variable {X : Cx} {W : WX} {Γ : List Nat} {n n1 n2 : Nat} {f1 f2 : Bool} {a b : Expr} {pos : Pos} {ma mb : Rho → Res D}
end
end TW
-- TWClrD
namespace TW
open PySem PySem.Spec PyProof.Rows L2
section
variable {X : Cx} {W : WX} {Γ : List Nat} {n i len : Nat} {o : Expr} {apos cpos pos2 : Pos} {mp : Rho → Res (List D)}
end
end TW
-- TWRec
namespace TW
open PySem PySem.Spec PyProof.Rows L2
theorem fnOk_stuck {P : Program} {w : World} {K : PySem.W.Frag} {mg : Str → Option Value} {base : Heap} {k n ar : Nat} {f : Addr} {fd : FuncData} {ps : List Str} : FnOk P w K mg base (L2.CX P w) k f fd ps (spM K mg n ar fun _ => .stuck) :=
  ⟨fun vs H Q E h => by obtain ⟨_, _, _, _, _, _, _, h⟩ := h; exact h.elim, fun A outer s H args us vs Q E _ _ _ _ h => by obtain ⟨_, _, _, _, _, _, _, h⟩ := h; exact h.elim⟩
section
variable {X : Cx} {W : WX} {Γ : List Nat} {n : Nat} {a b : Expr} {es : List Expr} {pos : Pos} {ma mb : Rho → Res D} {mes : Rho → Res (List D)}
def tTupDF (t : TA) : TE := fun σ H Q => t σ H fun xs H1 => xs.length ≤ sizeLine ∧ ∀ p o, H1 p = none → o.dict = none → Q (.ref p) (upd H1 p (.frz o (.tup xs)))
theorem pe_tupDF {t : TA} {x1} (h : PA X es t) : PE X (.Tuple es x1 pos) (tTupDF t) := by
  refine ⟨fun pins s σ H Q I hq => ?_⟩
  refine wpAny_Tuple_spliced (thn (h.run pos pins s σ H _ I hq) fun us s1 ⟨xs, H1, I1, rr, z, q⟩ => ⟨by rw [← rr.length]; exact z, ?_⟩)
  have fresh : H1 s1.heap.objs.size = none := I1.hok.fresh (Nat.le_refl _)
  exact ⟨.ref s1.heap.objs.size, _, I1.laid (t' := s1.toks) (o := .frz (seqObj "tuple" us.toArray 0) (.tup xs)) (fun b u e => Heap.get?_push_of_some _ e) (Nat.le_refl _) ⟨Heap.get?_push_size _ rfl, z, us, rr, ⟨_, Heap.get?_push_size _ rfl, rfl, _, rfl⟩⟩, rfl, q _ _ fresh rfl⟩
def gTupDF (l : List D) : Option D := if l.length ≤ sizeLine then some (.ftup l) else none
theorem re_tupDF {j} (he : RA X W Γ (n - 1) true es mes) : RE X W Γ n true (.Tuple es j pos) (mL gTupDF mes) := by
  obtain ⟨_, ta, pa, qa⟩ := he
  refine ⟨_, pe_tupDF pa, fun F H0 ρ σ H S R Q st po => ?_⟩
  refine qa F H0 ρ σ H S R _ st (PostA.iff.mpr ((PostE.iff.mp po).bind.imp fun d _ po => ?_))
  intro xs H1 A B s1 d1 v1 f1
  obtain ⟨z, ez, po⟩ := PostA.ofO po
  unfold gTupDF at ez
  split at ez
  · rename_i hl
    cases ez
    refine ⟨by rw [d1.length]; exact hl, fun p o hp ho => ?_⟩
    refine po (.ref p) _ A B (s1.trans (same_new hp)) ?_ v1 f1
    unfold Dat
    exact ⟨p, xs, rfl, ⟨o, ho, upd_same⟩, d1.same (same_new hp)⟩
  · cases ez
def rCatF (K : PySem.W.Frag) : R2 := fun x y H Q => ∃ a b xs ys, x = .ref a ∧ y = .ref b ∧ SqT K H a xs ∧ SqT K H b ys ∧ xs.length + ys.length ≤ sizeLine ∧
  ((xs = [] ∧ Q (.ref b) H) ∨ (xs ≠ [] ∧ ys ≠ [] ∧ ∀ p o, H p = none → o.dict = none → Q (.ref p) (upd H p (.frz o (.tup (xs ++ ys))))))
theorem op_catF : OpR X (binaryOp .Add) (rCatF X.K) := by
  intro pins s σ H x y v u Q I rx ry h
  obtain ⟨a, b, xs, ys, rfl, rfl, ha, hb, hz, h⟩ := h
  obtain rfl : v = Value.ref a := rx
  obtain rfl : u = Value.ref b := ry
  obtain ⟨its, r1, p1, _⟩ := I.tuple ha
  obtain ⟨its2, r2, p2, _⟩ := I.tuple hb
  rcases h with ⟨rfl, q⟩ | ⟨hx, hy, q⟩
  · cases r1
    exact cat_tup0 p1 p2 ⟨.ref b, H, I, rfl, q⟩
  · refine HT.cat_tup p1 p2 (fun z => hx (r1.nil_iff.mp z)) (fun z => absurd (r2.nil_iff.mp z) hy) (fun z => ?_) (by rw [← r1.length, ← r2.length]; exact hz)
    exact ⟨.ref s.heap.objs.size, _, I.laid (t' := s.toks) (o := .frz (seqObj "tuple" (its ++ its2).toArray 0) (.tup (xs ++ ys))) (fun b ob q => Heap.get?_push_of_some _ q) (Nat.le_refl _) ⟨Heap.get?_push_size _ rfl, by rw [List.length_append]; exact hz, _, r1.append r2, IsTup.new _ _⟩, rfl, q _ _ (I.hok.fresh (Nat.le_refl _)) rfl⟩
def gAddF : D → D → Option D
  | .tup [], .ftup m => if m.length ≤ sizeLine then some (.ftup m) else none
  | .ftup (d :: l), .ftup (e :: m) => if (d :: l).length + (e :: m).length ≤ sizeLine then some (.ftup (d :: l ++ e :: m)) else none
  | _, _ => none
theorem bv_addF {K : PySem.W.Frag} {n : Nat} (hn : n ≤ 1 := by decide) : BinV K (rCatF K) gAddF n := by
  intro Z x y d e z H B1 B2 Q hz h1 h2 v1 v2 ez po
  have e0 : n - 1 = 0 := by omega
  unfold gAddF at ez
  split at ez
  · rename_i m
    split at ez
    · rename_i hm
      cases ez
      obtain ⟨a, xs, rfl, q1, d1⟩ := dat_tup0 h1
      obtain ⟨b, ys, rfl, ⟨o, ho, q2⟩, d2⟩ := dat_ftup0 h2
      have hx : xs = [] := List.length_eq_zero_iff.mp (by rw [d1.length]; rfl)
      subst hx
      refine ⟨a, b, [], ys, rfl, rfl, .of q1, sqt_frz ⟨o, ho, q2⟩, by rw [d2.length, List.length_nil, Nat.zero_add]; exact hm, .inl ⟨rfl, ?_⟩⟩
      refine po _ H [] B2 (Same.refl H) ?_ v2 fun _ => New.nil
      unfold Dat
      exact ⟨b, ys, rfl, ⟨o, ho, q2⟩, by rw [e0]; exact d2⟩
    · cases ez
  · rename_i d l e m
    split at ez
    · rename_i hl
      cases ez
      obtain ⟨a, xs, rfl, ⟨o, ho, q1⟩, d1⟩ := dat_ftup0 h1
      obtain ⟨b, ys, rfl, ⟨o2, ho2, q2⟩, d2⟩ := dat_ftup0 h2
      refine ⟨a, b, xs, ys, rfl, rfl, sqt_frz ⟨o, ho, q1⟩, sqt_frz ⟨o2, ho2, q2⟩, by rw [d1.length, d2.length]; exact hl, .inr ⟨fun z => ?_, fun z => ?_, fun p oo hp hoo => ?_⟩⟩
      · have := d1.length; rw [z] at this; cases this
      · have := d2.length; rw [z] at this; cases this
      · refine new_ftup po hp hoo (B := B1 ++ B2) (by rw [e0]; exact d1.append d2) fun c hc => ?_
        rcases List.mem_append.mp hc with hc | hc
        · exact v1 c hc
        · exact v2 c hc
    · cases ez
  · cases ez
theorem re_addF (ha : RE X W Γ 0 true a ma) (hb : RE X W Γ 0 true b mb) (hn : n ≤ 1 := by decide) : RE X W Γ n true (.BinOp a .Add b pos) (m2 gAddF ma mb) := re_bin op_catF (bv_addF hn) ha hb
end
end TW
-- TWTake
namespace TW
open PySem PySem.Spec PyProof.Rows L2
def D.shalF : Nat → Nat → D → Bool
  | f + 1, n + 1, .lst l => l.all (D.shalF f n)
  | f + 1, n, .tup l => l.all (D.shalF f (n - 1))
  | f + 1, n, .ftup l => l.all (D.shalF f (n - 1))
  | f + 1, n + 1, .dT _ l => l.all (D.shalF f n)
  | _, _, d => d.flat
theorem shalF_dats {K : PySem.W.Frag} {H : Hp} {f n : Nat} (ih : ∀ {d : D} {x : V} {S R : List Addr}, D.shalF f n d = true → Dat K H d n x S R → R = []) : ∀ {ds : List D} {xs : List V} {S R : List Addr}, ds.all (D.shalF f n) = true → Dats K H ds n xs S R → R = []
  | [], xs, S, R, _, h => by
    unfold Dats at h
    exact h.2.2
  | d :: ds, xs, S, R, g, h => by
    simp only [List.all_cons, Bool.and_eq_true] at g
    unfold Dats at h
    obtain ⟨x, xs', S1, S2, R1, R2, rfl, rfl, rfl, h1, h2⟩ := h
    rw [ih g.1 h1, shalF_dats ih g.2 h2]; rfl
theorem shalF_dat {K : PySem.W.Frag} {H : Hp} : ∀ {f n : Nat} {d : D} {x : V} {S R : List Addr}, D.shalF f n d = true → Dat K H d n x S R → R = []
  | 0, n, d, x, S, R, g, h => by
    have g' : d.flat = true := by cases n <;> cases d <;> exact g
    exact (h.flat g').2.1
  | f + 1, 0, .lst l, x, S, R, g, h => (h.flat g).2.1
  | f + 1, n + 1, .lst l, x, S, R, g, h => by
    unfold Dat at h
    obtain ⟨a, xs, S', rfl, q, rfl, hd⟩ := h
    exact shalF_dats (fun g h => shalF_dat g h) g hd
  | f + 1, n, .tup l, x, S, R, g, h => by
    have g : l.all (D.shalF f (n - 1)) = true := by cases n <;> exact g
    unfold Dat at h
    obtain ⟨a, xs, rfl, q, hd⟩ := h
    exact shalF_dats (fun g h => shalF_dat g h) g hd
  | f + 1, n, .ftup l, x, S, R, g, h => by
    have g : l.all (D.shalF f (n - 1)) = true := by cases n <;> exact g
    unfold Dat at h
    obtain ⟨a, xs, rfl, q, hd⟩ := h
    exact shalF_dats (fun g h => shalF_dat g h) g hd
  | f + 1, n, .int _, x, S, R, g, h => by cases n <;> exact (h.flat g).2.1
  | f + 1, n, .str _, x, S, R, g, h => by cases n <;> exact (h.flat g).2.1
  | f + 1, n, .bl _, x, S, R, g, h => by cases n <;> exact (h.flat g).2.1
  | f + 1, n, .non, x, S, R, g, h => by cases n <;> exact (h.flat g).2.1
  | f + 1, n, .dK _ _, x, S, R, g, h => by cases n <;> exact (h.flat g).2.1
  | f + 1, 0, .dT _ _, x, S, R, g, h => (h.flat g).2.1
  | f + 1, n + 1, .dT _ l, x, S, R, g, h => by
    unfold Dat at h
    obtain ⟨a, ws, S', rfl, q, hk, rfl, hd⟩ := h
    exact shalF_dats (fun g h => shalF_dat g h) g hd
  | f + 1, n, .scr _, x, S, R, g, h => by cases n <;> exact (h.flat g).2.1
  | f + 1, n, .junk, x, S, R, g, h => by cases n <;> exact (h.flat g).2.1
  | f + 1, n, .ins _ _ _, x, S, R, g, h => by cases n <;> exact (h.flat g).2.1
theorem shalF_updats {K : PySem.W.Frag} {H : Hp} {f n k : Nat} (ih : ∀ {d : D} {x : V} {S R : List Addr}, D.shalF f n d = true → Dat K H d n x S R → Dat K H d k x S R) : ∀ {ds : List D} {xs : List V} {S R : List Addr}, ds.all (D.shalF f n) = true → Dats K H ds n xs S R → Dats K H ds k xs S R
  | [], xs, S, R, _, h => by
    unfold Dats at h ⊢
    exact h
  | d :: ds, xs, S, R, g, h => by
    simp only [List.all_cons, Bool.and_eq_true] at g
    unfold Dats at h ⊢
    obtain ⟨x, xs', S1, S2, R1, R2, rfl, rfl, rfl, h1, h2⟩ := h
    exact ⟨x, xs', S1, S2, R1, R2, rfl, rfl, rfl, ih g.1 h1, shalF_updats ih g.2 h2⟩
theorem Dat.flat_up {K : PySem.W.Frag} {H : Hp} {d : D} {n k : Nat} {x : V} {S R : List Addr} (f : d.flat = true) (h : Dat K H d n x S R) : Dat K H d k x S R := by
  obtain ⟨rfl, rfl, g⟩ := h.flat f
  exact g k
theorem shalF_up {K : PySem.W.Frag} {H : Hp} : ∀ {f n k : Nat} {d : D} {x : V} {S R : List Addr}, n ≤ k → D.shalF f n d = true → Dat K H d n x S R → Dat K H d k x S R
  | 0, n, k, d, x, S, R, _, g, h => by
    have g' : d.flat = true := by cases n <;> cases d <;> exact g
    exact h.flat_up g'
  | f + 1, 0, k, .lst l, x, S, R, _, g, h => h.flat_up g
  | f + 1, n + 1, 0, .lst l, x, S, R, hk, g, h => absurd hk (by omega)
  | f + 1, n + 1, k + 1, .lst l, x, S, R, hk, g, h => by
    unfold Dat at h ⊢
    obtain ⟨a, xs, S', rfl, q, rfl, hd⟩ := h
    exact ⟨a, xs, S', rfl, q, rfl, shalF_updats (fun g h => shalF_up (by omega) g h) g hd⟩
  | f + 1, n, k, .tup l, x, S, R, hk, g, h => by
    have g : l.all (D.shalF f (n - 1)) = true := by cases n <;> exact g
    unfold Dat at h ⊢
    obtain ⟨a, xs, rfl, q, hd⟩ := h
    exact ⟨a, xs, rfl, q, shalF_updats (fun g h => shalF_up (by omega) g h) g hd⟩
  | f + 1, n, k, .ftup l, x, S, R, hk, g, h => by
    have g : l.all (D.shalF f (n - 1)) = true := by cases n <;> exact g
    unfold Dat at h ⊢
    obtain ⟨a, xs, rfl, q, hd⟩ := h
    exact ⟨a, xs, rfl, q, shalF_updats (fun g h => shalF_up (by omega) g h) g hd⟩
  | f + 1, n, k, .int _, x, S, R, _, g, h => by cases n <;> exact h.flat_up g
  | f + 1, n, k, .str _, x, S, R, _, g, h => by cases n <;> exact h.flat_up g
  | f + 1, n, k, .bl _, x, S, R, _, g, h => by cases n <;> exact h.flat_up g
  | f + 1, n, k, .non, x, S, R, _, g, h => by cases n <;> exact h.flat_up g
  | f + 1, n, k, .dK _ _, x, S, R, _, g, h => by cases n <;> exact h.flat_up g
  | f + 1, 0, k, .dT _ _, x, S, R, _, g, h => h.flat_up g
  | f + 1, n + 1, 0, .dT _ _, x, S, R, hk, g, h => absurd hk (by omega)
  | f + 1, n + 1, k + 1, .dT _ l, x, S, R, hk, g, h => by
    unfold Dat at h ⊢
    obtain ⟨a, ws, S', rfl, q, hks, rfl, hd⟩ := h
    exact ⟨a, ws, S', rfl, q, hks, rfl, shalF_updats (fun g h => shalF_up (by omega) g h) g hd⟩
  | f + 1, n, k, .scr _, x, S, R, _, g, h => by cases n <;> exact h.flat_up g
  | f + 1, n, k, .junk, x, S, R, _, g, h => by cases n <;> exact h.flat_up g
  | f + 1, n, k, .ins _ _ _, x, S, R, _, g, h => by cases n <;> exact h.flat_up g
def D.sha (n : Nat) (d : D) : Bool := D.shalF 8 n d
def mSha (n : Nat) (m : Rho → Res D) : Rho → Res D := fun ρ => (m ρ).bind fun d => if d.sha n then .ok d else .stuck
@[simp] theorem mSha_eq {n : Nat} {m : Rho → Res D} {ρ : Rho} : mSha n m ρ = (m ρ).bind fun d => if d.sha n then .ok d else .stuck := id rfl
section
variable {X : Cx} {W : WX} {Γ Γ' Γ1 : List Nat} {n i j len : Nat} {e : Expr} {m : Rho → Res D} {mp : Rho → Res (List D)} {pos pos' : Pos}
theorem re_up {k : Nat} (h : RE X W Γ n true e m) (hk : n ≤ k := by decide) : RE X W Γ k true e (mSha n m) := by
  obtain ⟨t, p, q⟩ := h
  refine ⟨t, p, fun F H0 ρ σ H S R Q st po => ?_⟩
  refine q F H0 ρ σ H S R Q st (PostE.iff.mpr (?_ : PostX X W σ H _ (m ρ)))
  unfold mSha at po
  refine (PostE.iff.mp po).bind.imp fun d _ po => ?_
  intro x H1 A B s1 d1 v1 nw
  by_cases f : d.sha n = true
  · rw [if_pos f] at po
    exact po x H1 A B s1 (shalF_up hk f d1) v1 nw
  · rw [if_neg f] at po
    exact po.elim
theorem Sto.part {K : PySem.W.Frag} {F : Fr} {H0 H : Hp} {ρ : Rho} {σ : L2.St} {S R : Nat → List Addr} {d d' : D} {x : V} {A B : List Addr} (h : Sto K F H0 Γ ρ σ H S R) (hd : ρ[i]? = some (some d)) (hx : σ[i]? = some (some x))
    (g : Dat K H d' (Γ.getD i 0) x A B) (hA : A.Sublist (S i)) (hB : ∀ b ∈ B, b ∈ R i) : Sto K F H0 Γ (ρ.set i (some d')) σ H (fun j => if j = i then A else S j) (fun j => if j = i then B else R j) := by
  have hl : i < ρ.length := (List.getElem?_eq_some_iff.mp hd).1
  have subS : ∀ j a, a ∈ (if j = i then A else S j) → a ∈ S j := fun j a ha => by
    split at ha
    · rename_i e; subst e; exact hA.subset ha
    · exact ha
  have subR : ∀ j a, a ∈ (if j = i then B else R j) → a ∈ R j := fun j a ha => by
    split at ha
    · rename_i e; subst e; exact hB a ha
    · exact ha
  refine ⟨h.same, by simp [h.len], fun j e q => ?_, fun j q => ?_, fun j a ha => h.new j a (subS j a ha), fun j => ?_, fun j k hjk a ha hk => h.dj j k hjk a (subS j a ha) (subS k a hk), fun j k a ha hk => h.rs j k a (subR j a ha) (subS k a hk),
    fun j a ha => h.rf j a (subR j a ha), fun j a ha => h.sf j a (subS j a ha), h.fd, h.pin⟩
  · by_cases hj : j = i
    · subst hj
      rw [List.getElem?_set_self hl] at q
      cases q
      rw [if_pos rfl, if_pos rfl]
      exact ⟨x, hx, g⟩
    · rw [List.getElem?_set_ne (Ne.symm hj)] at q
      rw [if_neg hj, if_neg hj]
      exact h.slot j e q
  · by_cases hj : j = i
    · subst hj
      exact absurd (List.getElem?_set_self hl) (q d')
    · rw [if_neg hj, if_neg hj]
      refine h.emp j fun e q' => q e ?_
      rw [List.getElem?_set_ne (Ne.symm hj)]
      exact q'
  · split
    · rename_i e; subst e; exact (h.nd j).sublist hA
    · exact h.nd j
def sTake (i j : Nat) (mp : Rho → Res (List D)) : Rho → Out := atS j fun ρ => (mp ρ).out ρ fun p => match ρ[j]? with
  | some (some d) => (match getP d p, setP d p .junk with
    | some c, some d' => .nx ((ρ.set j (some d')).set i (some c))
    | _, _ => .stuck)
  | _ => .stuck
@[simp] theorem sTake_eq {i j : Nat} {mp : Rho → Res (List D)} {ρ : Rho} : sTake i j mp ρ = atS j (fun ρ => (mp ρ).out ρ fun p => match ρ[j]? with
  | some (some d) => (match getP d p, setP d p .junk with
    | some c, some d' => .nx ((ρ.set j (some d')).set i (some c))
    | _, _ => .stuck)
  | _ => .stuck) ρ := id rfl
def sRetT (i j : Nat) : Rho → Out := fun ρ => match ρ[i]?, ρ[j]? with
  | some (some a), some (some b) => .rt (.tup [a, b])
  | _, _ => .stuck
@[simp] theorem sRetT_eq {i j : Nat} {ρ : Rho} : sRetT i j ρ = match ρ[i]?, ρ[j]? with
  | some (some a), some (some b) => .rt (.tup [a, b])
  | _, _ => .stuck := id rfl
end
section
variable {X : Cx} {W : WX} {Γ : List Nat} {n nr : Nat} {elt tg iter : Expr} {ifs : List Expr} {scope : Scope} {own : List (Str × Nat)} {pos : Pos} {f : D → Rho → Option Rho} {mi : Rho → Res (List D)} {tt : Rho → Res Bool} {me : Rho → Res D}
end
end TW
-- TWOwn
namespace TW
open PySem PySem.Spec PyProof.Rows L2
section
variable {K : PySem.W.Frag} {F : Fr} {H0 H H' : Hp} {Γ : List Nat} {ρ ρ' : Rho} {σ σ' : L2.St} {S R : Nat → List Addr}
end
def sForO (i : Nat) (f : D → Rho → Option Rho) (mb : Rho → Out) : Rho → Out := fun ρ => match ρ[i]? with
  | some (some (.lst l)) => if l.all D.flat = true then (match forL f mb l (ρ.set i (some .junk)) with
    | .nx ρ' => .nx (ρ'.set i (some (.lst l)))
    | .rt d => .rt d
    | _ => .stuck) else .stuck
  | _ => .stuck
@[simp] theorem sForO_eq {i : Nat} {f : D → Rho → Option Rho} {mb : Rho → Out} {ρ : Rho} : sForO i f mb ρ = match ρ[i]? with
  | some (some (.lst l)) => if l.all D.flat = true then (match forL f mb l (ρ.set i (some .junk)) with
    | .nx ρ' => .nx (ρ'.set i (some (.lst l)))
    | .rt d => .rt d
    | _ => .stuck) else .stuck
  | _ => .stuck := id rfl
section
variable {X : Cx} {W : WX} {n : Nat} {Γ : List Nat}
end
def sUnp (i j : Nat) (m : Rho → Res D) : Rho → Out := fun ρ => (m ρ).out ρ fun d => match d with
  | .tup [a, b] => .nx ((ρ.set i (some a)).set j (some b))
  | _ => .stuck
@[simp] theorem sUnp_eq {i j : Nat} {m : Rho → Res D} {ρ : Rho} : sUnp i j m ρ = (m ρ).out ρ fun d => match d with
  | .tup [a, b] => .nx ((ρ.set i (some a)).set j (some b))
  | _ => .stuck := id rfl
section
variable {X : Cx} {W : WX} {Γ Γ1 : List Nat} {n k i j : Nat} {e : Expr} {m : Rho → Res D} {pos p1 p2 pt : Pos}
def sAppT (i : Nat) (me : Rho → Res D) (j1 j2 : Nat) : Rho → Out := fun ρ => match ρ[i]?, ρ[j1]?, ρ[j2]?, me ρ with
  | some (some (.lst l)), some (some d1), some (some d2), .ok v => if v.flat = true ∧ l.length < sizeLine then .nx (((ρ.set j1 none).set j2 none).set i (some (.lst (l ++ [.tup [v, d1, d2]])))) else .stuck
  | _, _, _, _ => .stuck
@[simp] theorem sAppT_eq {i j1 j2 : Nat} {me : Rho → Res D} {ρ : Rho} : sAppT i me j1 j2 ρ = match ρ[i]?, ρ[j1]?, ρ[j2]?, me ρ with
  | some (some (.lst l)), some (some d1), some (some d2), .ok v => if v.flat = true ∧ l.length < sizeLine then .nx (((ρ.set j1 none).set j2 none).set i (some (.lst (l ++ [.tup [v, d1, d2]])))) else .stuck
  | _, _, _, _ => .stuck := id rfl
end
end TW
-- TWCompX
set_option maxHeartbeats 2000000
namespace PySem
namespace TWX
open HandSPX
section
variable {M : Model} {A : Around} {E : Value → Shared → Prop} {s : Shared} {Z : Obj → Prop} {base : Heap} {env : Env} {outer l : List Env} {L e : Addr}
end
end TWX
end PySem
namespace TW
open PySem PySem.Spec PyProof.Rows L2
section
variable {X : Cx}
end
section
variable {X : Cx} {W : WX}
end
section
variable {X : Cx} {W : WX} {Γ : List Nat} {n : Nat} {elt tg iter : Expr} {scope : Scope} {own : List (Str × Nat)} {pos : Pos} {f : D → Rho → Option Rho} {mi : Rho → Res (List D)} {me : Rho → Res D}
end
end TW
-- TWFresh
namespace TW
open PySem PySem.Spec PyProof.Rows L2
def FT (H : Hp) (b : Addr) : Prop := ∃ o xs, H b = some (.frz o (.tup xs))
open Classical in
noncomputable def bareH (H : Hp) : Hp := fun b => if FT H b then none else H b
open Classical in
noncomputable def mergeH (H H1 : Hp) : Hp := fun b => if FT H b then H b else H1 b
section
variable {H H1 : Hp} {b : Addr}
theorem bare_ft (h : FT H b) : bareH H b = none := if_pos h
theorem bare_ne (h : ¬ FT H b) : bareH H b = H b := if_neg h
theorem merge_ft (h : FT H b) : mergeH H H1 b = H b := if_pos h
theorem merge_ne (h : ¬ FT H b) : mergeH H H1 b = H1 b := if_neg h
theorem bare_some {u : HO} (h : bareH H b = some u) : H b = some u ∧ ¬ FT H b := by
  by_cases f : FT H b
  · rw [bare_ft f] at h; cases h
  · rw [bare_ne f] at h; exact ⟨h, f⟩
theorem not_ft {u : HO} (h : H b = some u) (hu : ∀ o xs, u ≠ .frz o (.tup xs)) : ¬ FT H b := fun ⟨o, xs, e⟩ => by
  rw [h] at e
  exact hu o xs (Option.some.inj e)
theorem bare_of {u : HO} (h : H b = some u) (hu : ∀ o xs, u ≠ .frz o (.tup xs)) : bareH H b = some u := by rw [bare_ne (not_ft h hu)]; exact h
theorem bare_none (h : H b = none) : bareH H b = none := by
  by_cases f : FT H b
  · exact bare_ft f
  · rw [bare_ne f]; exact h
end
section
variable {P : Program} {w : World} {H H1 : Hp} {h h' : Heap}
theorem hok_bare (x : HOk P w H h) : HOk P w (bareH H) h := fun b u e => by
  obtain ⟨e, f⟩ := bare_some e
  exact (x b u e).stay (fun _ _ _ q => q) (fun c q => bare_of q fun o xs z => nomatch z) fun c xs q => bare_of q fun o xs z => nomatch z
theorem hok_merge {fs : List Addr} (x : HOk P w H h) (keep : ∀ b o, h.get? b = some o → bareH H b = none → b ∉ fs → h'.get? b = some o) (hf : ∀ b ∈ fs, H b = none) (x1 : HOk P w H1 h') (hn : ∀ b, FT H b → H1 b = none) : HOk P w (mergeH H H1) h' := fun b u e => by
  have up : ∀ c v, H1 c = some v → mergeH H H1 c = some v := fun c v q => by
    rw [merge_ne fun f => by rw [hn c f] at q; cases q]; exact q
  by_cases f : FT H b
  · rw [merge_ft f] at e
    obtain ⟨o, xs, q⟩ := f
    rw [q] at e
    cases e
    obtain ⟨g1, g2⟩ := x b _ q
    have k := keep b o g1 (bare_ft ⟨o, xs, q⟩) fun z => by rw [hf b z] at q; cases q
    refine ⟨k, ?_⟩
    obtain ⟨z, its, r, ob, e, c⟩ := (show ObjOk P w H h b (.tup xs) from g2)
    rw [g1] at e
    cases e
    exact ⟨z, its, r, o, k, c⟩
  · rw [merge_ne f] at e
    exact (x1 b u e).stay (fun _ _ _ q => q) (fun c q => up c _ q) fun c xs q => up c _ q
theorem un_merge {fs : List Addr} (x : HOk P w H h) (un : Un fs [] (bareH H) H1 h h') : Un fs [] H (mergeH H H1) h h' where
  keep := fun b o q n hb hx => un.keep b o q (bare_none n) hb hx
  slot := fun b o q n hb hx => un.slot b o q (bare_none n) hb hx
  free := fun b o q n hx => by
    rw [merge_ne fun ⟨o, xs, e⟩ => by rw [n] at e; cases e]
    exact un.free b o q (bare_none n) hx
  there := un.there
  tups := fun b xs q => by
    rw [merge_ne (not_ft q fun o xs z => nomatch z)]
    exact un.tups b xs (bare_of q fun o xs z => nomatch z)
  frzs := fun b o u q => by
    by_cases f : FT H b
    · rw [merge_ft f]; exact q
    · rw [merge_ne f]
      exact un.frzs b o u (by rw [bare_ne f]; exact q)
  tbls := fun b ps q => by
    obtain ⟨more, e⟩ := un.tbls b ps (bare_of q fun o xs z => nomatch z)
    exact ⟨more, by rw [merge_ne (not_ft q fun o xs z => nomatch z)]; exact e⟩
theorem un_new {fs : List Addr} (x : HOk P w H h) (un : Un fs [] (bareH H) H1 h h') : ∀ b, FT H b → H1 b = none := fun b ⟨o, xs, e⟩ =>
  un.free b o (x b _ e).1 (bare_ft ⟨o, xs, e⟩) (by simp)
end
section
variable {P : Program} {w : World} {K : PySem.W.Frag} {mg : Str → Option Value} {base : Heap} {k : Nat} {f : Addr} {fd : FuncData} {ps : List Str} {sp : Sp}
theorem FnOk.fresh (F : FnOk P w K mg base (L2.CX P w) k f fd ps sp) : FnOk P w K mg base (L2.CX P w) k f fd ps
    (fun vs H Q _ => sp vs (bareH H) (fun x H1 => (∀ b, FT H b → H1 b = none) → Q x (mergeH H H1)) fun _ _ _ => False) where
  len := fun vs H Q E h => F.len vs _ _ _ h
  run := fun A outer s H args us vs Q E hr he hb hv hs => by
    have he' : Env0 P w K mg base A outer s (bareH H) := ⟨he.frames, he.mod, fun b o q => ⟨(he.bs b o q).1, bare_none (he.bs b o q).2⟩, he.bsz, he.funs, fun b q => bare_none (he.frf b q), hok_bare he.hok, he.bare⟩
    refine codeAny_mono (F.run A outer s (bareH H) args us vs _ _ hr he' hb hv hs) fun r s' hq => ?_
    cases r with
    | error e =>
      obtain ⟨_, _, _, _, _, _, _, _, _, _, _, _, z⟩ := (show L2.CX P w outer (bareH H) s (fun _ _ _ => False) e s' from hq)
      exact z.elim
    | ok fl =>
      cases fl with
      | ret u =>
        obtain ⟨v, H1, os, ag, un, hok, rv, q⟩ := (show CE outer P w (bareH H) s _ u s' from hq)
        have hn := un_new he.hok un
        refine (show CE outer P w H s Q u s' from ⟨v, mergeH H H1, os, ag, un_merge he.hok un, hok_merge he.hok (fun b o q n hb => un.keep b o q n hb (by simp)) he.frf hok hn, rv, q hn⟩)
      | next => exact False.elim hq
      | brk => exact False.elim hq
      | cont => exact False.elim hq
end
mutual
def D.noFt : D → Bool
  | .ftup _ => false
  | .ins _ _ _ => false
  | .lst l => D.noFts l
  | .tup l => D.noFts l
  | .dK _ l => D.noFts l
  | .dT _ l => D.noFts l
  | _ => true
def D.noFts : List D → Bool
  | [] => true
  | d :: ds => d.noFt && D.noFts ds
end
section
variable {K : PySem.W.Frag} {H H' : Hp}
mutual
theorem Dat.noft (hh : ∀ b u, H b = some u → (∀ o xs, u ≠ .frz o (.tup xs)) → H' b = some u) : ∀ (d : D) (n : Nat) (v : V) (S R : List Addr), d.noFt = true → Dat K H d n v S R → Dat K H' d n v S R
  | .non, _, _, _, _, _, h => by simpa [Dat] using h
  | .bl b, _, _, _, _, _, h => by simpa [Dat] using h
  | .int i, _, _, _, _, _, h => by simpa [Dat] using h
  | .str s, _, _, _, _, _, h => by simpa [Dat] using h
  | .junk, _, _, _, _, _, h => by simpa [Dat] using h
  | .ins C h t, n, v, S, R, g, e => by cases g
  | .scr l, _, _, _, _, _, h => by
    simp only [Dat] at h ⊢
    obtain ⟨⟨a, e, q⟩, h⟩ := h
    exact ⟨⟨a, e, q.imp (fun ⟨o, q⟩ => ⟨o, hh _ _ q fun o xs z => nomatch z⟩) id⟩, h⟩
  | .lst ds, 0, v, S, R, g, h => by
    simp only [Dat] at h ⊢
    obtain ⟨a, xs, R', rfl, q, rfl, rfl, hd⟩ := h
    exact ⟨a, xs, R', rfl, hh _ _ q (fun o xs z => nomatch z), rfl, rfl, Dats.noft hh ds 0 xs [] R' g hd⟩
  | .lst ds, n + 1, v, S, R, g, h => by
    simp only [Dat] at h ⊢
    obtain ⟨a, xs, S', rfl, q, rfl, hd⟩ := h
    exact ⟨a, xs, S', rfl, hh _ _ q (fun o xs z => nomatch z), rfl, Dats.noft hh ds n xs S' R g hd⟩
  | .tup ds, n, v, S, R, g, h => by
    simp only [Dat] at h ⊢
    obtain ⟨a, xs, rfl, q, hd⟩ := h
    exact ⟨a, xs, rfl, hh _ _ q (fun o xs z => nomatch z), Dats.noft hh ds (n - 1) xs S R g hd⟩
  | .ftup ds, n, v, S, R, g, h => by cases g
  | .dK ks ds, 0, v, S, R, g, h => by
    simp only [Dat] at h ⊢
    obtain ⟨a, ws, R', rfl, q, hk, rfl, rfl, hd⟩ := h
    exact ⟨a, ws, R', rfl, q.imp (fun q => hh _ _ q fun o xs z => nomatch z) (fun ⟨o, q⟩ => ⟨o, hh _ _ q fun o xs z => nomatch z⟩), hk, rfl, rfl, Dats.noft hh ds 0 _ [] R' g hd⟩
  | .dK ks ds, n + 1, v, S, R, g, h => by
    simp only [Dat] at h ⊢
    obtain ⟨a, ws, S', rfl, q, hk, rfl, hd⟩ := h
    exact ⟨a, ws, S', rfl, hh _ _ q (fun o xs z => nomatch z), hk, rfl, Dats.noft hh ds n _ S' R g hd⟩
  | .dT ks ds, 0, v, S, R, g, h => by
    simp only [Dat] at h ⊢
    obtain ⟨a, ws, R', rfl, q, hk, rfl, rfl, hd⟩ := h
    exact ⟨a, ws, R', rfl, q.imp (fun q => hh _ _ q fun o xs z => nomatch z) (fun ⟨o, q⟩ => ⟨o, hh _ _ q fun o xs z => nomatch z⟩), hk, rfl, rfl, Dats.noft hh ds 0 _ [] R' g hd⟩
  | .dT ks ds, n + 1, v, S, R, g, h => by
    simp only [Dat] at h ⊢
    obtain ⟨a, ws, S', rfl, q, hk, rfl, hd⟩ := h
    exact ⟨a, ws, S', rfl, hh _ _ q (fun o xs z => nomatch z), hk, rfl, Dats.noft hh ds n _ S' R g hd⟩
theorem Dats.noft (hh : ∀ b u, H b = some u → (∀ o xs, u ≠ .frz o (.tup xs)) → H' b = some u) : ∀ (ds : List D) (n : Nat) (xs : List V) (S R : List Addr), D.noFts ds = true → Dats K H ds n xs S R → Dats K H' ds n xs S R
  | [], _, _, _, _, _, h => by simpa [Dats] using h
  | d :: ds, n, xs, S, R, g, h => by
    simp only [D.noFts, Bool.and_eq_true] at g
    simp only [Dats] at h ⊢
    obtain ⟨x, xs', S1, S2, R1, R2, rfl, rfl, rfl, h1, h2⟩ := h
    exact ⟨x, xs', S1, S2, R1, R2, rfl, rfl, rfl, Dat.noft hh d n x S1 R1 g.1 h1, Dats.noft hh ds n xs' S2 R2 g.2 h2⟩
end
end
def mNoFt (m : List D → Res D) : List D → Res D := fun ds => if D.noFts ds = true then m ds else .stuck
def PostN (K : PySem.W.Frag) (Z : Addr → Prop) (n : Nat) (H : Hp) (Q : VK) (d : D) : Prop :=
  ∀ x H' A B Hs, Same H H' → Dat K Hs d n x A B → Same Hs H' → (∀ b, FT Hs b → H b = none) → (∀ a ∈ B, ¬ Z a) → New H A B → Q x H'
def spN (K : PySem.W.Frag) (n ar : Nat) (m : List D → Res D) : Sp := fun vs H Q E => vs.length = ar ∧ ∃ (ds : List D) (F : Addr → Prop) (R : List Addr), (∀ a, F a → H a ≠ none) ∧ Dats K H ds 0 vs [] R ∧ (∀ a ∈ R, ¬ F a) ∧
  match mNoFt m ds with
  | .ok d => PostN K F n H Q d
  | _ => False
section
variable {P : Program} {w : World} {K : PySem.W.Frag} {mg : Str → Option Value} {base : Heap} {k n ar : Nat} {f : Addr} {fd : FuncData} {ps : List Str} {m : List D → Res D}
theorem spN_of (F : FnOk P w K mg base (L2.CX P w) k f fd ps (spM K mg n ar m)) : FnOk P w K mg base (L2.CX P w) k f fd ps (spN K n ar m) := by
  refine (FnOk.fresh F).imp fun vs H Q E h => ?_
  obtain ⟨hl, ds, Fb, R, hF, hd, hR, po⟩ := h
  unfold mNoFt at po
  by_cases g : D.noFts ds = true
  case neg => rw [if_neg g] at po; exact po.elim
  rw [if_pos g] at po
  cases em : m ds with
  | exn c => rw [em] at po; exact po.elim
  | stuck => rw [em] at po; exact po.elim
  | ok d =>
    rw [em] at po
    dsimp only at po
    refine ⟨hl, ds, fun a => Fb a ∧ bareH H a ≠ none, R, fun a ha => ha.2, Dats.noft (fun b u q hu => bare_of q hu) ds 0 vs [] R g hd, fun a ha z => hR a ha z.1, ?_⟩
    rw [em]
    intro x H1 A B sm dd hB nw hn
    have up : Same H1 (mergeH H H1) := fun c v q => by rw [merge_ne fun z => by rw [hn c z] at q; cases q]; exact q
    refine po x (mergeH H H1) A B H1 (fun b u q => ?_) dd up (fun b q => ?_) (fun a ha z => ?_) ?_
    · by_cases z : FT H b
      · rw [merge_ft z]; exact q
      · rw [merge_ne z]
        exact sm b u (by rw [bare_ne z]; exact q)
    · -- a known tuple of the answer is new
      by_cases z : FT H b
      · obtain ⟨o, xs, e⟩ := q
        rw [hn b z] at e; cases e
      · cases e : H b with
        | none => rfl
        | some u =>
          have e1 := sm b u (by rw [bare_ne z]; exact e)
          obtain ⟨o, xs, e2⟩ := q
          rw [e1] at e2
          exact absurd ⟨o, xs, by rw [e]; exact e2⟩ z
    · have ha' := Dat.domR dd a ha
      refine hB a ha ⟨z, fun e => ?_⟩
      by_cases q : FT H a
      · exact ha' (hn a q)
      · rw [bare_ne q] at e
        exact hF a z e
    · obtain ⟨nd, nw⟩ := nw rfl
      refine ⟨nd, fun a ha => ⟨?_, (nw a ha).2⟩⟩
      by_cases q : FT H a
      · exact absurd (hn a q) (Dat.dom dd a ha)
      · have := (nw a ha).1
        rw [bare_ne q] at this
        exact this
end
structure FnN (P : Program) (w : World) (K : PySem.W.Frag) (mg : Str → Option Value) (base : Heap) (x : Str) (k n ar : Nat) (m : List D → Res D) : Prop where
  ex : ∃ (f : Addr) (fd : FuncData) (ps : List Str), FnOk P w K mg base (L2.CX P w) k f fd ps (spN K n ar m) ∧ mg x = some (.ref f) ∧ PySem.W.keepIn K (.ref f) = true ∧ Binds K fd ps []
theorem FnG.n {P : Program} {w : World} {K : PySem.W.Frag} {mg : Str → Option Value} {base : Heap} {x : Str} {k n ar : Nat} {m : List D → Res D} (h : FnG P w K mg base x k n ar m) : FnN P w K mg base x k n ar m := by
  obtain ⟨f, fd, ps, F, r⟩ := h.ex
  exact ⟨f, fd, ps, spN_of F, r⟩
end TW
-- TWTab
namespace TW
open PySem PySem.Spec PyProof.Rows L2
section
variable {X : Cx} {pins : List (Addr × Obj)} {σ : L2.St} {H : Hp} {s : Shared} {b : Addr} {ob : Obj} {xs : List V}
theorem inv_thaw (I : Inv X pins σ H s) (h : H b = some (.frz ob (.tup xs))) (h0 : ∀ o u, X.H_0 b ≠ some (.frz o u)) : Inv X pins σ (L2.upd H b (.tup xs)) s := by
  have ne : ∀ {c u}, H c = some u → (∀ o z, u ≠ .frz o z) → c ≠ b := fun {c u} e q z => by subst z; rw [h] at e; exact q _ _ (Option.some.inj e).symm
  have nn : ∀ {c}, H c = none → c ≠ b := fun {c} e z => by subst z; rw [h] at e; cases e
  have u := I.base
  refine { I with base := ⟨u.keep, u.slot, fun c o q n hx => ?_, u.there, fun c ys q => ?_, fun c o z q => ?_, fun c ps q => ?_⟩, free := ?_, freeC := fun x c q => ?_, pin := fun p hp => ?_, hok := fun c v e => ?_ }
  · have := u.free c o q n hx
    rw [upd_ne (nn this)]; exact this
  · have := u.tups c ys q
    rw [upd_ne (ne this fun o z w => nomatch w)]; exact this
  · have := u.frzs c o z q
    rw [upd_ne (fun e : c = b => h0 o z (by rw [← e]; exact q))]; exact this
  · obtain ⟨more, e⟩ := u.tbls c ps q
    exact ⟨more, by rw [upd_ne (ne e fun o z w => nomatch w)]; exact e⟩
  · rw [upd_ne (nn I.free)]; exact I.free
  · have := I.freeC x c q
    rw [upd_ne (nn this)]; exact this
  · obtain ⟨a1, a2, a3⟩ := I.pin p hp
    exact ⟨a1, by rw [upd_ne (nn a2)]; exact a2, a3⟩
  · by_cases e2 : c = b
    · subst e2
      rw [upd_same] at e
      cases e
      exact (I.hok c _ h).2
    · rw [upd_ne e2] at e
      refine (I.hok c v e).stay (fun _ _ _ q => q) (fun d q => ?_) fun d ys q => ?_
      · rw [upd_ne (ne q fun o z w => nomatch w)]; exact q
      · rw [upd_ne (ne q fun o z w => nomatch w)]; exact q
end
def rSetF (X : Cx) : TSet := fun o i v H Q => ∃ a kvs k b ob, o = .ref a ∧ H a = some (.dT kvs) ∧ i = .ref b ∧ H b = some (.frz ob (.tup (k.map kV))) ∧ (∀ o u, X.H_0 b ≠ some (.frz o u)) ∧ kvs.length < sizeLine ∧
  ((kvs.map (·.1)).Nodup → Q (L2.upd (L2.upd H b (.tup (k.map kV))) a (.dT (putK kvs k v))))
theorem set_dictF {X : Cx} (hu : X.A.units + 1 < cLine) : PSet X (rSetF X) := by
  intro pins s σ H o i v ov iv u Q I ro ri rv h
  obtain ⟨a, kvs, k, b, ob, rfl, e, rfl, eb, h0, hl, q⟩ := h
  have ne : a ≠ b := fun z => by subst z; rw [e] at eb; cases eb
  exact set_dictN hu pins s σ _ (.ref a) (.ref b) v ov iv u Q (inv_thaw I eb h0) ro ri rv (.inr ⟨a, kvs, k, b, rfl, by rw [upd_ne ne]; exact e, rfl, upd_same, hl, q⟩)
theorem ps_new {X : Cx} {st : Stmt} {t : TS} (p : PS X st t) : PS X st (fun E σ H => (∀ b, H b = none → ∀ o u, X.H_0 b ≠ some (.frz o u)) → t E σ H) :=
  ⟨fun pins s σ H D I h => p.run pins s σ H D I (h fun b hb o u e => by
    have := I.base.frzs b o u e
    rw [hb] at this; cases this)⟩
def rowK : D → Option (List Key)
  | .ftup l => keysD l
  | _ => none
def tabF (t x : Nat) (me : Rho → Res D) : List D → Rho → Out
  | [], ρ => .nx ρ
  | d :: ds, ρ => match me (ρ.set x (some d)) with
    | .ok v => if v.flat = true then (match d with
      | .ftup l => (match ρ[t]? with
        | some (some c) => (match putD c (.tup l) v with
          | some c' => tabF t x me ds ((ρ.set t (some c')).set x (some .junk))
          | none => .stuck)
        | _ => .stuck)
      | _ => .stuck) else .stuck
    | _ => .stuck
def sTab (t x : Nat) (m : List D → Res D) (ma : Rho → Res (List D)) (me : Rho → Res D) : Rho → Out := fun ρ => match ma ρ with
  | .ok as => (match mNoFt m as with
    | .ok (.lst rows) => if (∀ d ∈ rows, rowK d ≠ none) ∧ (rows.map rowK).Nodup ∧ rows ≠ [] ∧ x ≠ t ∧ x < ρ.length then (match ρ[t]? with
      | some (some (.dT ks vs)) => if vs.all D.flat = true then tabF t x me rows ρ else .stuck
      | _ => .stuck) else .stuck
    | _ => .stuck)
  | _ => .stuck
theorem set_self {α : Type} {l : List α} {i : Nat} {v : α} (h : l[i]? = some v) : l.set i v = l := by
  refine List.ext_getElem? fun j => ?_
  by_cases hj : j = i
  · subst hj
    rw [List.getElem?_set_self (List.getElem?_eq_some_iff.mp h).1, h]
  · rw [List.getElem?_set_ne (Ne.symm hj)]
theorem putL_flat {κ : Type} [DecidableEq κ] {ks : List κ} {vs : List D} {k : κ} {v : D} (h : vs.all D.flat = true) (hv : v.flat = true) : (putL ks vs k v).2.all D.flat = true := by
  unfold putL
  have h := List.all_eq_true.mp h
  split
  · refine List.all_eq_true.mpr fun d hd => ?_
    rcases List.mem_or_eq_of_mem_set hd with hd | rfl
    · exact h d hd
    · exact hv
  · refine List.all_eq_true.mpr fun d hd => ?_
    rcases List.mem_append.mp hd with hd | hd
    · exact h d hd
    · rw [List.mem_singleton.mp hd]; exact hv
theorem flatA {K : PySem.W.Frag} {H H' : Hp} {d : D} {n k : Nat} {x : V} {S R : List Addr} (f : d.flat = true) (h : Dat K H d n x S R) : Dat K H' d k x [] [] := by
  cases d with
  | non => simp only [Dat] at h ⊢; simp [h.1]
  | bl b => simp only [Dat] at h ⊢; simp [h.1]
  | int i => simp only [Dat] at h ⊢; simp [h.1]
  | str s => simp only [Dat] at h ⊢; simp [h.1]
  | _ => cases f
theorem flatsA {K : PySem.W.Frag} {H H' : Hp} {n k : Nat} : ∀ {ds : List D} {xs : List V} {S R : List Addr}, ds.all D.flat = true → Dats K H ds n xs S R → Dats K H' ds k xs [] []
  | [], xs, S, R, _, h => by
    simp only [Dats] at h
    obtain ⟨rfl, rfl, rfl⟩ := h
    exact Dats.nil
  | d :: ds, xs, S, R, f, h => by
    simp only [List.all_cons, Bool.and_eq_true] at f
    simp only [Dats] at h
    obtain ⟨x, xs', S1, S2, R1, R2, rfl, rfl, rfl, h1, h2⟩ := h
    exact Dats.cons (S1 := []) (R1 := []) (S2 := []) (R2 := []) (flatA f.1 h1) (flatsA f.2 h2)
theorem keys_dats {K : PySem.W.Frag} {H : Hp} {n : Nat} : ∀ {l : List D} {ks : List Key}, keysD l = some ks → Dats K H l n (ks.map kV) [] []
  | [], _, e => by cases e; exact Dats.nil
  | d :: l, ks, e => by
    unfold keysD at e
    obtain ⟨k, e1, e2⟩ := Option.bind_eq_some_iff.mp e
    obtain ⟨r, e3, rfl⟩ := Option.map_eq_some_iff.mp e2
    refine Dats.cons (S1 := []) (R1 := []) (S2 := []) (R2 := []) ?_ (keys_dats e3)
    cases d with
    | int i => cases e1; exact dat_of_int n
    | str s => cases e1; exact dat_of_str n
    | _ => cases e1
theorem kV_inj {a b : Key} (h : kV a = kV b) : a = b := by
  cases a with
  | inl i => cases b with
    | inl j => cases h; rfl
    | inr j => cases h
  | inr i => cases b with
    | inl j => cases h
    | inr j => cases h; rfl
theorem kVs_inj : ∀ {a b : List Key}, a.map kV = b.map kV → a = b
  | [], [], _ => rfl
  | [], _ :: _, h => by cases h
  | _ :: _, [], h => by cases h
  | a :: as, b :: bs, h => by
    simp only [List.map_cons, List.cons.injEq] at h
    rw [kV_inj h.1, kVs_inj h.2]
section
variable {K : PySem.W.Frag} {F : Fr} {H0 H H' : Hp} {Γ : List Nat} {ρ : Rho} {σ : L2.St} {S R : Nat → List Addr}
theorem Sto.tab {t x : Nat} {a : Addr} {ks : List (List Key)} {vs : List D} {ws : List (List Key × V)} {d : D} {y : V} (st : Sto K F H0 Γ ρ σ H S R) (ht : Γ.getD t 0 = 1) (hx : Γ.getD x 0 = 0) (htx : x ≠ t) (hxl : x < ρ.length)
    (hS : S t = [a]) (hR : R t = []) (eσ : σ[t]? = some (some (.ref a))) (stay : ∀ c u, H c = some u → c ≠ a → H' c = some u) (ha : H' a = some (.dT ws)) (hk : ws.map (·.1) = ks) (hv : Dats K H' vs 0 (ws.map (·.2)) [] []) (hd : Dat K H' d 0 y [] []) (hfl : vs.all D.flat = true) (h0 : H0 a = none) :
    Sto K F H0 Γ ((ρ.set t (some (.dT ks vs))).set x (some d)) (σ.set x (some y)) H' S (fun j => if j = x then [] else R j) := by
  have hSx : S x = [] := by
    by_cases q : ∃ d, ρ[x]? = some (some d)
    · obtain ⟨d, q⟩ := q
      obtain ⟨z, _, g⟩ := st.slot x d q
      rw [hx] at g
      exact Dat.noS g
    · exact (st.emp x fun d e => q ⟨d, e⟩).1
  have htl : t < ρ.length := by
    rw [← st.len]
    exact (List.getElem?_eq_some_iff.mp eσ).1
  refine ⟨fun c u e => ?_, by simp [st.len], fun j e q => ?_, fun j q => ?_, st.new, st.nd, st.dj, fun j k c hc => ?_, fun j c hc => ?_, st.sf, fun c hc z => ?_, fun j v q => ?_⟩
  · have e1 := st.same c u e
    exact stay c u e1 fun z => by rw [z] at e; rw [h0] at e; cases e
  · by_cases hjx : j = x
    · subst hjx
      rw [List.getElem?_set_self (by simpa using hxl)] at q
      cases q
      refine ⟨y, by rw [List.getElem?_set_self (by rw [st.len]; exact hxl)], ?_⟩
      rw [if_pos rfl, hx, hSx]
      exact hd
    · rw [List.getElem?_set_ne (Ne.symm hjx)] at q
      rw [if_neg hjx, List.getElem?_set_ne (Ne.symm hjx)]
      by_cases hjt : j = t
      · subst hjt
        rw [List.getElem?_set_self htl] at q
        cases q
        refine ⟨.ref a, eσ, ?_⟩
        rw [ht, hS, hR]
        unfold Dat
        exact ⟨a, ws, [], rfl, ha, hk, rfl, hv⟩
      · rw [List.getElem?_set_ne (Ne.symm hjt)] at q
        obtain ⟨z, e1, e2⟩ := st.slot j e q
        refine ⟨z, e1, ?_⟩
        have na : ∀ c, c ∈ S j → c ≠ a := fun c hc w => st.dj j t hjt c hc (by rw [hS, w]; simp)
        have nr : ∀ c, c ∈ R j → c ≠ a := fun c hc w => st.rs j t c hc (by rw [hS, w]; simp)
        have mu := st.mut t a (by rw [hS]; simp)
        refine Dat.stay e _ z (S j) (R j) ⟨fun c ys w => stay c _ w fun v => ?_, fun c o ys w => stay c _ w fun v => ?_, fun c o ys w => stay c _ w fun v => ?_, fun c hc o w => stay c _ w (na c hc), fun c hc o w => stay c _ w (nr c hc)⟩ e2
        all_goals (subst v; rw [w] at mu; exact mu.elim)
  · by_cases hjx : j = x
    · subst hjx
      rw [if_pos rfl]
      exact ⟨hSx, rfl⟩
    · by_cases hjt : j = t
      · subst hjt
        refine absurd ?_ (q (.dT ks vs))
        rw [List.getElem?_set_ne (Ne.symm hjx), List.getElem?_set_self htl]
      · rw [if_neg hjx]
        refine st.emp j fun e w => q e ?_
        rw [List.getElem?_set_ne (Ne.symm hjx), List.getElem?_set_ne (Ne.symm hjt)]
        exact w
  · split at hc
    · simp at hc
    · exact st.rs j k c hc
  · split at hc
    · simp at hc
    · exact st.rf j c hc
  · have := st.fd c hc
    cases e : H c with
    | none => exact this e
    | some u =>
      by_cases w : c = a
      · subst w; rw [ha] at z; cases z
      · rw [stay c u e w] at z; cases z
  · obtain ⟨p1, p2⟩ := st.pin j v q
    refine ⟨p1, ?_⟩
    rw [List.getElem?_set_ne (fun e => by rw [← e, hx] at p1; cases p1)]
    exact p2
theorem rows_at {rows : List D} {n : Nat} {p : V} {A B : List Addr} (hr : ∀ d ∈ rows, rowK d ≠ none) (h : Dat K H (.lst rows) (n + 1) p A B) :
    ∃ (a : Addr) (bs : List Addr), p = .ref a ∧ H a = some (.lst (bs.map V.ref)) ∧ bs.length = rows.length ∧ ∀ (i : Nat) (b : Addr), bs[i]? = some b → ∃ d k o, rows[i]? = some d ∧ rowK d = some k ∧ o.dict = none ∧ H b = some (.frz o (.tup (k.map kV))) := by
  simp only [Dat] at h
  obtain ⟨a, xs, S', rfl, q, rfl, hd⟩ := h
  have key : ∀ {rows : List D} {xs : List V} {A B : List Addr}, (∀ d ∈ rows, rowK d ≠ none) → Dats K H rows n xs A B → ∃ bs : List Addr, xs = bs.map V.ref ∧ bs.length = rows.length ∧ ∀ (i : Nat) (b : Addr), bs[i]? = some b → ∃ d k o, rows[i]? = some d ∧ rowK d = some k ∧ o.dict = none ∧ H b = some (.frz o (.tup (k.map kV))) := by
    intro rows
    induction rows with
    | nil =>
      intro xs A B _ h
      simp only [Dats] at h
      exact ⟨[], h.1, rfl, fun i b e => by simp at e⟩
    | cons d ds ih =>
      intro xs A B hr h
      simp only [Dats] at h
      obtain ⟨x, xs', S1, S2, R1, R2, rfl, rfl, rfl, h1, h2⟩ := h
      obtain ⟨bs, rfl, hl, hb⟩ := ih (fun d hd => hr d (List.mem_cons_of_mem _ hd)) h2
      have hk := hr d List.mem_cons_self
      cases d with
      | ftup l =>
        simp only [Dat] at h1
        obtain ⟨b, ys, rfl, ⟨o, od, e⟩, hds⟩ := h1
        cases ek : keysD l with
        | none => exact absurd ek hk
        | some k =>
          have ey := dats_keys hds ek
          subst ey
          refine ⟨b :: bs, rfl, by simp [hl], fun i c ec => ?_⟩
          cases i with
          | zero =>
            cases ec
            exact ⟨_, k, o, rfl, ek, od, e⟩
          | succ i => exact hb i c ec
      | _ => exact absurd rfl hk
  obtain ⟨bs, rfl, hl, hb⟩ := key hr hd
  exact ⟨a, bs, rfl, q, hl, hb⟩
end
section
variable {X : Cx} {W : WX} {Γ : List Nat} {n nf k ar t x : Nat} {e e1 o b : Expr} {es : List Expr} {fx xn : Str} {p p1 pos pos' pos0 pos2 : Pos} {ma : Rho → Res (List D)} {me : Rho → Res D} {m : List D → Res D}
theorem rs_tab (h : FnN X.prog X.w X.K X.mg X.base fx k nf ar m) (hr : Room k X.A) (hp : PassesOwn (model X.prog X.w) X.A X.env X.xe) (hc : X.calm = true) (hu : X.A.units + 1 < cLine) (ha : RA X W Γ 0 true (e1 :: es) ma) (he : RE X W Γ 0 true e me)
    (hN : X.N.Nodup) (hx : Loc X.env.scope xn) (hvt : PE X o (tVar t)) (hvx : PE X b (tVar x)) (hi : X.N[x]? = some xn := by rfl) (hl : (e1 :: es).length = ar := by rfl) (hn : 1 ≤ nf := by decide) (ht : Γ.getD t 0 = 1 := by rfl) (hz : Γ.getD x 0 = 0 := by rfl) (hg : Gl X fx := by rfl)
    (hf : X.fn xn = true ∨ X.env.scope.names.lookup xn = some .local := by first | exact .inl rfl | exact .inr rfl | assumption)
    (hdb : (fx == ("__debug__" : Str)) = false := by decide) (hst : starEach (e1 :: es) X.env = (false, eval e1 X.env) :: starEach es X.env := by rfl) (hpl : (backTo pos (starEach es X.env)).any (·.1) = false := by rfl)
    (hasg : ∀ v, assign (.Subscript o b pos') X.env v = (do
      let ov ← holding [v] (eval o X.env)
      let iv ← holding [v, ov] (eval b X.env)
      standAt pos'
      holding [v, ov, iv] (setItem ov iv v)
      release [v, ov, iv] []) := by intro _; rfl)
    (hs : swapsWithSole [.Subscript o b pos'] e pos2.line X.env = pure false := by rfl) (hw : swappedStores [.Subscript o b pos'] e X.env = pure none := by rfl)
    (h1 : (assignEach [.Subscript o b pos'] X.env).map (·.2) = [assign (.Subscript o b pos') X.env] := by rfl) (hfs : ∀ x, foldedSetIterable (.Call (.Name fx p) (e1 :: es) [] pos) X.env x = pure x := by intro _; rfl) :
    RS X W n Γ Γ (.For (.Name xn p1) (.Call (.Name fx p) (e1 :: es) [] pos) [.Assign [.Subscript o b pos'] e pos2] [] pos0) (sTab t x m ma me) := by
  obtain ⟨f, fd, ps, Fo, hm, hk, hb⟩ := h.ex
  obtain ⟨la, ta, pa, qa⟩ := ha
  obtain ⟨te, pe, qe⟩ := he
  have har : ∀ ρ ds, ma ρ = .ok ds → ds.length = ar := fun ρ ds q => (la ρ ds q).trans hl
  have pc := pe_call (pos := pos) (p := p) (E := fun _ _ _ => False) Fo hr hg hm hk hb (dvs := []) .nil (fun pins σ H s e s' I c => by
    obtain ⟨_, _, _, _, _, _, _, _, _, _, _, _, z⟩ := c
    exact z.elim) pa hdb hst hpl
  refine ⟨_, ps_new (ps_for (pos := pos0) hp hc (pi_list (tg := .Name xn p1) pc) (pg_name hN hi hx hf) (pss_one (ps_asg pe (pg_sub hvt hvx (set_dictF hu) hasg) hs hw h1)) hfs), fun F H0 ρ σ H S R E st po hX => ?_⟩
  unfold sTab at po
  cases ea : ma ρ with
  | exn c => rw [ea] at po; exact po.elim
  | stuck => rw [ea] at po; exact po.elim
  | ok as =>
    rw [ea] at po
    dsimp only at po
    cases em : mNoFt m as with
    | exn c => rw [em] at po; exact po.elim
    | stuck => rw [em] at po; exact po.elim
    | ok d =>
      rw [em] at po
      cases d with
      | lst rows =>
        dsimp only at po
        split at po
        case isFalse => exact po.elim
        rename_i hcond
        obtain ⟨hrow, hnd, hne, hxt, hxl⟩ := hcond
        cases et : ρ[t]? with
        | none => rw [et] at po; exact po.elim
        | some ot =>
          rw [et] at po
          cases ot with
          | none => exact po.elim
          | some dt =>
            cases dt with
            | dT ks vs =>
              dsimp only at po
              split at po
              case isFalse => exact po.elim
              rename_i hfl
              -- the table's address
              obtain ⟨z0, eσ, gt⟩ := st.slot t _ et
              rw [ht] at gt
              simp only [Dat] at gt
              obtain ⟨a, ws0, S', rfl, hta, hks, hSt, gv⟩ := gt
              obtain ⟨sS, sR, _⟩ := Dats.still hfl gv
              subst sS
              have h0a : H0 a = none := st.new t a (by rw [hSt]; simp)
              -- the call
              refine qa F H0 ρ σ H S R _ st ?_
              rw [ea]
              intro xs H1 A B s1 d1 v1 _
              obtain rfl : A = [] := Dats.noS d1
              rw [List.append_nil]
              refine ⟨by rw [d1.length]; exact har ρ as ea, as, Av F S, B, (st.grow s1).avd, d1, v1, ?_⟩
              rw [em]
              intro y H2 A2 B2 Hs s2 dd up nw hB new2
              obtain ⟨n1, rfl⟩ : ∃ n1, nf = n1 + 1 := ⟨nf - 1, by omega⟩
              obtain ⟨ap, bs, rfl, hap, hbl, hbs⟩ := rows_at hrow dd
              have s12 : Same H H2 := s1.trans s2
              have newb : ∀ i b, bs[i]? = some b → H b = none := fun i b e => by
                obtain ⟨d, k, o, _, _, _, q⟩ := hbs i b e
                cases q1 : H b with
                | none => rfl
                | some u => have := nw b ⟨o, _, q⟩; rw [s1 b u q1] at this; cases this
              refine ⟨ap, rfl, ⟨_, SqL.of (up _ _ hap)⟩, ?_⟩
              have s12' : ∀ c u, H c = some u → c ≠ a → H2 c = some u := fun c u q _ => s12 c u q
              have gv2 : Dats X.K H2 vs 0 (ws0.map (·.2)) [] [] := flatsA hfl gv
              have hta2 := s12 _ _ hta
              have sR' : R t = [] := sR
              refine ⟨fun i m σ' H' => i ≤ rows.length ∧ m = rows.length - i ∧ ∃ ρ' ks' vs' ws, PostS X W F H0 Γ n S H E (tabF t x me (rows.drop i) ρ') ∧ ρ'[t]? = some (some (.dT ks' vs')) ∧ (∀ d, ρ'.set x (some d) = (ρ.set t (some (.dT ks' vs'))).set x (some d)) ∧
                (∀ v, σ'.set x v = σ.set x v) ∧ (0 < i → ρ' = (ρ.set t (some (.dT ks' vs'))).set x (some .junk) ∧ ∃ y, σ' = σ.set x (some y)) ∧ vs'.all D.flat = true ∧ ws.map (·.1) = ks' ∧ Dats X.K H' vs' 0 (ws.map (·.2)) [] [] ∧ H' a = some (.dT ws) ∧
                (∀ c u, H c = some u → c ≠ a → H' c = some u) ∧ H' ap = some (.lst (bs.map V.ref)) ∧ ∀ j b, i ≤ j → bs[j]? = some b → H' b = H2 b,
                ⟨rows.length, Nat.zero_le _, by omega, ρ, ks, vs, ws0, by simpa using po, et, fun d => by rw [set_self et], fun v => rfl, fun z => absurd z (by omega), hfl, hks, gv2, hta2, s12', up _ _ hap, fun j b _ _ => rfl⟩, ?_⟩
              rintro i m0 σ' H' ⟨hi', rfl, ρ', ks', vs', ws, po', eρt, hρ, hσ, hpos, hfl', hws, hdv, hHa, stay, hap', hbs'⟩
              by_cases hlt : i < rows.length
              · obtain ⟨b0, eb⟩ : ∃ b0, bs[i]? = some b0 := ⟨_, List.getElem?_eq_getElem (by omega)⟩
                obtain ⟨d, kk, ob, ed, ek, od, eH⟩ := hbs i b0 eb
                have eHb : H' b0 = some (.frz ob (.tup (kk.map kV))) := (hbs' i b0 (Nat.le_refl _) eb).trans (up _ _ eH)
                have edr : rows.drop i = d :: rows.drop (i + 1) := by
                  rw [List.drop_eq_getElem_cons hlt]
                  rw [List.getElem?_eq_getElem hlt] at ed
                  rw [Option.some.inj ed]
                rw [edr] at po'
                unfold tabF at po'
                cases ev : me (ρ'.set x (some d)) with
                | exn c => rw [ev] at po'; exact po'.elim
                | stuck => rw [ev] at po'; exact po'.elim
                | ok v =>
                  rw [ev] at po'
                  dsimp only at po'
                  split at po'
                  case isFalse => exact po'.elim
                  rename_i hv
                  cases d with
                  | ftup l =>
                    dsimp only at po'
                    rw [eρt] at po'
                    dsimp only at po'
                    have ek : keysD l = some kk := ek
                    have epd : putD (.dT ks' vs') (.tup l) v = if ks'.length < sizeLine then some (.dT (putL ks' vs' kk v).1 (putL ks' vs' kk v).2) else none := by
                      show (if ks'.length < sizeLine then (keysD l).map fun k => D.dT (putL ks' vs' k v).1 (putL ks' vs' k v).2 else none) = _
                      rw [ek]; rfl
                    rw [epd] at po'
                    by_cases hlen : ks'.length < sizeLine
                    case neg => rw [if_neg hlen] at po'; exact po'.elim
                    rw [if_pos hlen] at po'
                    dsimp only at po'
                    refine .inr ⟨⟨_, _, SqL.of hap', by rw [List.getElem?_map, eb]; rfl⟩, fun σ2 H8 => ∃ m', m' < rows.length - i ∧ (i + 1 ≤ rows.length ∧ m' = rows.length - (i + 1) ∧ ∃ ρ' ks' vs' ws, PostS X W F H0 Γ n S H E (tabF t x me (rows.drop (i + 1)) ρ') ∧ ρ'[t]? = some (some (.dT ks' vs')) ∧ (∀ d, ρ'.set x (some d) = (ρ.set t (some (.dT ks' vs'))).set x (some d)) ∧
                      (∀ v, σ2.set x v = σ.set x v) ∧ (0 < i + 1 → ρ' = (ρ.set t (some (.dT ks' vs'))).set x (some .junk) ∧ ∃ y, σ2 = σ.set x (some y)) ∧ vs'.all D.flat = true ∧ ws.map (·.1) = ks' ∧ Dats X.K H8 vs' 0 (ws.map (·.2)) [] [] ∧ H8 a = some (.dT ws) ∧
                      (∀ c u, H c = some u → c ≠ a → H8 c = some u) ∧ H8 ap = some (.lst (bs.map V.ref)) ∧ ∀ j b, i + 1 ≤ j → bs[j]? = some b → H8 b = H2 b), fun _ _ h => h, fun y H3 hy => ?_⟩
                    obtain ⟨rfl, hy⟩ := hy
                    have hy := hy _ (SqL.of hap')
                    rw [List.getElem?_map, eb] at hy
                    cases hy
                    have hdb' : Dat X.K H3 (.ftup l) 0 (.ref b0) [] [] := by
                      have e0 := eHb
                      obtain ⟨_, _, _, _, g⟩ := hbs i b0 eb
                      unfold Dat
                      refine ⟨b0, kk.map kV, rfl, ⟨ob, od, eHb⟩, ?_⟩
                      exact keys_dats ek
                    have st2 := st.tab (x := x) (d := .ftup l) (y := .ref b0) ht hz hxt hxl hSt sR' eσ stay hHa hws hdv hdb' hfl' h0a
                    show te (σ'.set x (some (.ref b0))) H3 _
                    rw [hσ]
                    refine qe F H0 _ _ H3 S _ _ st2 ?_
                    rw [← hρ, ev]
                    intro yv H5 A5 B5 s5 d5 _ _
                    refine ⟨.ref a, by rw [List.getElem?_set_ne hxt]; exact eσ, ?_⟩
                    have hxσ : x < σ.length := by rw [st.len]; exact hxl
                    refine ⟨.ref b0, by rw [List.getElem?_set_self hxσ], ?_⟩
                    have nab : a ≠ b0 := fun z => by rw [← z, hHa] at eHb; cases eHb
                    have napa : ap ≠ a := fun z => by rw [z, hHa] at hap'; cases hap'
                    have napb : ap ≠ b0 := fun z => by rw [z, eHb] at hap'; cases hap'
                    refine ⟨a, ws, kk, b0, ob, rfl, s5 _ _ hHa, rfl, s5 _ _ eHb, hX b0 (newb i b0 eb), by rw [← hws] at hlen; simpa using hlen, fun ndk => ?_⟩
                    have pd := put_dats (k := kk) (y := yv) (v := v) (n := 0) (K := X.K) (H := L2.upd (L2.upd H5 b0 (.tup (kk.map kV))) a (.dT (putK ws kk yv))) (flatsA hfl' hdv) (flatA (k := 0) hv d5) ndk
                    rw [hws] at pd
                    obtain ⟨pd1, S2, R2, pd2, _⟩ := pd
                    have fl2 := putL_flat (ks := ks') (k := kk) hfl' hv
                    refine ⟨rows.length - (i + 1), by omega, hlt, rfl, _, _, _, putK ws kk yv, po', ?_, fun d => ?_, fun v => ?_, fun _ => ⟨?_, _, rfl⟩, fl2, pd1, flatsA fl2 pd2, upd_same, fun c u q hca => ?_, ?_, fun j b' hj eb' => ?_⟩
                    · rw [List.getElem?_set_ne hxt, List.getElem?_set_self (List.getElem?_eq_some_iff.mp eρt).1]
                    · rw [List.set_set]
                      have := hρ d
                      rw [List.set_comm _ _ (Ne.symm hxt), this, List.set_comm _ _ hxt, List.set_set]
                    · rw [List.set_set]
                    · have := hρ .junk
                      rw [List.set_comm _ _ (Ne.symm hxt), this, List.set_comm _ _ hxt, List.set_set]
                    · have : c ≠ b0 := fun z => by rw [z, newb i b0 eb] at q; cases q
                      rw [upd_ne hca, upd_ne this]
                      exact s5 _ _ (stay c u q hca)
                    · rw [upd_ne napa, upd_ne napb]
                      exact s5 _ _ hap'
                    · obtain ⟨d', k', o', ed', ek', _, eH'⟩ := hbs j b' eb'
                      have e2 : H2 b' = some (.frz o' (.tup (k'.map kV))) := up _ _ eH'
                      have e3 := (hbs' j b' (by omega) eb').trans e2
                      have nb : b' ≠ b0 := fun z => by
                        subst z
                        rw [eHb] at e3
                        have e4 : kk = k' := kVs_inj (by injection e3 with e3; injection e3 with _ e3; injection e3)
                        have := (List.getElem?_inj (l := rows.map rowK) (i := i) (j := j) (by simpa using hlt) hnd).mp (by rw [List.getElem?_map, List.getElem?_map, ed, ed']; show some (rowK _) = some (rowK _); rw [ek', ← e4]; exact congrArg some ek)
                        omega
                      have na : b' ≠ a := fun z => by rw [z, hHa] at e3; cases e3
                      rw [upd_ne na, upd_ne nb, e2]
                      exact s5 _ _ e3
                  | _ => exact po'.elim
              · have e : i = rows.length := by omega
                subst e
                refine .inl ⟨⟨_, SqL.of hap', by simp [hbl]⟩, ?_⟩
                rw [List.drop_length] at po'
                have hpos1 : 0 < rows.length := List.length_pos_iff.mpr hne
                obtain ⟨rfl, y, rfl⟩ := hpos hpos1
                have st2 := st.tab (x := x) (d := .junk) (y := y) ht hz hxt hxl hSt sR' eσ stay hHa hws hdv (by simp [Dat]) hfl' h0a
                exact po' _ H' S _ st2 (fun c u q hc => stay c u q fun z => hc t (by rw [hSt, z]; simp)) Grow.refl
            | _ => exact po.elim
      | _ => exact po.elim
end
end TW
-- TWGetF
namespace TW
open PySem PySem.Spec PyProof.Rows L2
section
variable {X : Cx} {pins : List (Addr × Obj)} {σ : L2.St} {H : Hp} {s : Shared} {a b : Addr} {d : V} {r : Value} {A : Around} {E : Value → Shared → Prop} {kvs : List (List Key × V)} {k : List Key}
end
def gGetF : D → D → D → Option D
  | .dT ks vs, .ftup l, z => (keysD l).bind fun k => if ((lookK ks vs k).getD z).flat = true then some ((lookK ks vs k).getD z) else none
  | _, _, _ => none
def D.isDT : D → Bool
  | .dT _ _ => true
  | _ => false
def mGetF (mo me mf : Rho → Res D) : Rho → Res D := fun ρ => (mo ρ).bind fun d => if d.isDT = true then (me ρ).bind fun e => (mf ρ).bind fun z => ofO (gGetF d e z) else .stuck
@[simp] theorem mGetF_eq {mo me mf : Rho → Res D} {ρ : Rho} : mGetF mo me mf ρ = (mo ρ).bind fun d => if d.isDT = true then (me ρ).bind fun e => (mf ρ).bind fun z => ofO (gGetF d e z) else .stuck := id rfl
section
variable {X : Cx} {W : WX} {Γ : List Nat} {n : Nat} {o e f : Expr} {apos cpos : Pos} {mo me mf : Rho → Res D}
end
end TW
-- TWKeyF
namespace TW
open PySem PySem.Spec PyProof.Rows L2
section
variable {X : Cx} {W : WX} {Γ : List Nat} {n n1 n2 : Nat} {f1 f2 : Bool} {a b : Expr} {pos : Pos} {ma mb : Rho → Res D}
end
end TW
-- TWDue
namespace TW
open PySem PySem.Spec PyProof.Rows L2
section
variable {K : PySem.W.Frag} {H H' : Hp}
mutual
theorem Dat.noft2 {a : Addr} {wa : List (List Key × V)} (ha : H a = some (.dT wa)) (hh : ∀ b u, H b = some u → b ≠ a → (∀ o xs, u ≠ .frz o (.tup xs)) → H' b = some u) : ∀ (d : D) (n : Nat) (v : V) (S R : List Addr), d.noFt = true → a ∉ S → a ∉ R → Dat K H d n v S R → Dat K H' d n v S R
  | .non, _, _, _, _, _, _, _, h => by simpa [Dat] using h
  | .bl b, _, _, _, _, _, _, _, h => by simpa [Dat] using h
  | .int i, _, _, _, _, _, _, _, h => by simpa [Dat] using h
  | .str s, _, _, _, _, _, _, _, h => by simpa [Dat] using h
  | .junk, _, _, _, _, _, _, _, h => by simpa [Dat] using h
  | .ins _ _ _, _, _, _, _, g, _, _, _ => by cases g
  | .scr l, _, _, _, _, _, _, _, h => by
    simp only [Dat] at h ⊢
    obtain ⟨⟨b, e, q⟩, h⟩ := h
    exact ⟨⟨b, e, q.imp (fun ⟨o, q⟩ => ⟨o, hh _ _ q (fun z => by rw [z, ha] at q; cases q) fun o xs z => nomatch z⟩) id⟩, h⟩
  | .lst ds, 0, v, S, R, g, hS, hR, h => by
    simp only [Dat] at h ⊢
    obtain ⟨b, xs, R', rfl, q, rfl, rfl, hd⟩ := h
    exact ⟨b, xs, R', rfl, hh _ _ q (fun z => hR (by rw [z]; exact List.mem_cons_self)) (fun o xs z => nomatch z), rfl, rfl, Dats.noft2 ha hh ds 0 xs [] R' g hS (fun z => hR (List.mem_cons_of_mem _ z)) hd⟩
  | .lst ds, n + 1, v, S, R, g, hS, hR, h => by
    simp only [Dat] at h ⊢
    obtain ⟨b, xs, S', rfl, q, rfl, hd⟩ := h
    exact ⟨b, xs, S', rfl, hh _ _ q (fun z => hS (by rw [z]; exact List.mem_cons_self)) (fun o xs z => nomatch z), rfl, Dats.noft2 ha hh ds n xs S' R g (fun z => hS (List.mem_cons_of_mem _ z)) hR hd⟩
  | .tup ds, n, v, S, R, g, hS, hR, h => by
    simp only [Dat] at h ⊢
    obtain ⟨b, xs, rfl, q, hd⟩ := h
    exact ⟨b, xs, rfl, hh _ _ q (fun z => by rw [z, ha] at q; cases q) (fun o xs z => nomatch z), Dats.noft2 ha hh ds (n - 1) xs S R g hS hR hd⟩
  | .ftup ds, n, v, S, R, g, _, _, h => by cases g
  | .dK ks ds, 0, v, S, R, g, hS, hR, h => by
    simp only [Dat] at h ⊢
    obtain ⟨b, ws, R', rfl, q, hk, rfl, rfl, hd⟩ := h
    have hb : b ≠ a := fun z => hR (by rw [z]; exact List.mem_cons_self)
    exact ⟨b, ws, R', rfl, q.imp (fun q => hh _ _ q hb fun o xs z => nomatch z) (fun ⟨o, q⟩ => ⟨o, hh _ _ q hb fun o xs z => nomatch z⟩), hk, rfl, rfl, Dats.noft2 ha hh ds 0 _ [] R' g hS (fun z => hR (List.mem_cons_of_mem _ z)) hd⟩
  | .dK ks ds, n + 1, v, S, R, g, hS, hR, h => by
    simp only [Dat] at h ⊢
    obtain ⟨b, ws, S', rfl, q, hk, rfl, hd⟩ := h
    exact ⟨b, ws, S', rfl, hh _ _ q (fun z => hS (by rw [z]; exact List.mem_cons_self)) (fun o xs z => nomatch z), hk, rfl, Dats.noft2 ha hh ds n _ S' R g (fun z => hS (List.mem_cons_of_mem _ z)) hR hd⟩
  | .dT ks ds, 0, v, S, R, g, hS, hR, h => by
    simp only [Dat] at h ⊢
    obtain ⟨b, ws, R', rfl, q, hk, rfl, rfl, hd⟩ := h
    have hb : b ≠ a := fun z => hR (by rw [z]; exact List.mem_cons_self)
    exact ⟨b, ws, R', rfl, q.imp (fun q => hh _ _ q hb fun o xs z => nomatch z) (fun ⟨o, q⟩ => ⟨o, hh _ _ q hb fun o xs z => nomatch z⟩), hk, rfl, rfl, Dats.noft2 ha hh ds 0 _ [] R' g hS (fun z => hR (List.mem_cons_of_mem _ z)) hd⟩
  | .dT ks ds, n + 1, v, S, R, g, hS, hR, h => by
    simp only [Dat] at h ⊢
    obtain ⟨b, ws, S', rfl, q, hk, rfl, hd⟩ := h
    exact ⟨b, ws, S', rfl, hh _ _ q (fun z => hS (by rw [z]; exact List.mem_cons_self)) (fun o xs z => nomatch z), hk, rfl, Dats.noft2 ha hh ds n _ S' R g (fun z => hS (List.mem_cons_of_mem _ z)) hR hd⟩
theorem Dats.noft2 {a : Addr} {wa : List (List Key × V)} (ha : H a = some (.dT wa)) (hh : ∀ b u, H b = some u → b ≠ a → (∀ o xs, u ≠ .frz o (.tup xs)) → H' b = some u) : ∀ (ds : List D) (n : Nat) (xs : List V) (S R : List Addr), D.noFts ds = true → a ∉ S → a ∉ R → Dats K H ds n xs S R → Dats K H' ds n xs S R
  | [], _, _, _, _, _, _, _, h => by simpa [Dats] using h
  | d :: ds, n, xs, S, R, g, hS, hR, h => by
    simp only [D.noFts, Bool.and_eq_true] at g
    simp only [Dats] at h ⊢
    obtain ⟨x, xs', S1, S2, R1, R2, rfl, rfl, rfl, h1, h2⟩ := h
    exact ⟨x, xs', S1, S2, R1, R2, rfl, rfl, rfl, Dat.noft2 ha hh d n x S1 R1 g.1 (fun z => hS (List.mem_append_left _ z)) (fun z => hR (List.mem_append_left _ z)) h1, Dats.noft2 ha hh ds n xs' S2 R2 g.2 (fun z => hS (List.mem_append_right _ z)) (fun z => hR (List.mem_append_right _ z)) h2⟩
end
end
section
variable {K : PySem.W.Frag} {F : Fr} {H0 H H' : Hp} {Γ : List Nat} {ρ : Rho} {σ : L2.St} {S R : Nat → List Addr}
theorem Sto.junk {r : Nat} (st : Sto K F H0 Γ ρ σ H S R) (hz : Γ.getD r 0 = 0) (hd : ∃ d, ρ[r]? = some (some d)) : Sto K F H0 Γ (ρ.set r (some .junk)) σ H S (fun k => if k = r then [] else R k) := by
  obtain ⟨d, ed⟩ := hd
  obtain ⟨x, ex, g⟩ := st.slot r d ed
  rw [hz] at g
  have hS := Dat.noS g
  have hl : r < ρ.length := (List.getElem?_eq_some_iff.mp ed).1
  refine ⟨st.same, by simp [st.len], fun k e q => ?_, fun k q => ?_, st.new, st.nd, st.dj, fun k l c hc => ?_, fun k c hc => ?_, st.sf, st.fd, st.pin⟩
  · by_cases hk : k = r
    · subst hk
      rw [List.getElem?_set_self hl] at q
      cases q
      refine ⟨x, ex, ?_⟩
      rw [if_pos rfl, hS]
      simp [Dat]
    · rw [List.getElem?_set_ne (Ne.symm hk)] at q
      rw [if_neg hk]
      exact st.slot k e q
  · by_cases hk : k = r
    · subst hk
      exact absurd (List.getElem?_set_self hl) (q .junk)
    · rw [if_neg hk]
      refine st.emp k fun e w => q e ?_
      rw [List.getElem?_set_ne (Ne.symm hk)]
      exact w
  · split at hc
    · simp at hc
    · exact st.rs k l c hc
  · split at hc
    · simp at hc
    · exact st.rf k c hc
end
section
variable {X : Cx} {W : WX} {Γ Γ1 Γ2 : List Nat} {n nf k ar r c t j : Nat} {e e1 e2 e3 e4 o rb jb : Expr} {es : List Expr} {rest : List Stmt} {fx rn cn tn jn : Str} {p p1 p2 p3 p4 p5 pos q1 q2 q3 pos4 pos' pos0 pos2 pos6 : Pos} {ma : Rho → Res (List D)} {m2 m4 me : Rho → Res D} {m : List D → Res D} {mr : Rho → Out}
end
end TW
-- TWOwnA
namespace TW
open PySem PySem.Spec PyProof.Rows L2
def PostO (K : PySem.W.Frag) (F : Addr → Prop) (S : Nat → List Addr) (n : Nat) (H : Hp) (Q : VK) (d : D) : Prop :=
  ∀ x H' A B, (∀ c u, H c = some u → (∀ i, c ∉ S i) → H' c = some u) → Dat K H' d n x A B → (∀ a ∈ B, ¬ F a) → A.Nodup → (∀ a ∈ A, (H a = none ∨ ∃ i, a ∈ S i) ∧ a ∉ B) → Q x H'
structure ArgO (K : PySem.W.Frag) (F : Addr → Prop) (Γ : List Nat) (H : Hp) (vs : List V) (ds : List D) (S R : Nat → List Addr) : Prop where
  slot : ∀ i d, ds[i]? = some d → ∃ x, vs[i]? = some x ∧ Dat K H d (Γ.getD i 0) x (S i) (R i)
  emp : ∀ i, ds[i]? = none → S i = [] ∧ R i = []
  nd : ∀ i, (S i).Nodup
  dj : ∀ i j, i ≠ j → ∀ a ∈ S i, a ∉ S j
  rs : ∀ i j, ∀ a ∈ R i, a ∉ S j
  rf : ∀ i, ∀ a ∈ R i, ¬ F a
  sf : ∀ i, ∀ a ∈ S i, ¬ F a
  fd : ∀ a, F a → H a ≠ none
def spO (K : PySem.W.Frag) (Γ : List Nat) (n ar : Nat) (m : List D → Res D) : Sp := fun vs H Q E => vs.length = ar ∧ ∃ (ds : List D) (F : Addr → Prop) (S R : Nat → List Addr), ds.length = ar ∧ ArgO K F Γ H vs ds S R ∧
  match m ds with
  | .ok d => PostO K F S n H Q d
  | _ => False
structure FnO (P : Program) (w : World) (K : PySem.W.Frag) (mg : Str → Option Value) (base : Heap) (x : Str) (k : Nat) (Γ : List Nat) (n ar : Nat) (m : List D → Res D) : Prop where
  ex : ∃ (f : Addr) (fd : FuncData) (ps : List Str), FnOk P w K mg base (L2.CX P w) k f fd ps (spO K Γ n ar m) ∧ mg x = some (.ref f) ∧ PySem.W.keepIn K (.ref f) = true ∧ Binds K fd ps []
theorem FnO.mono {P : Program} {w : World} {K : PySem.W.Frag} {mg : Str → Option Value} {base : Heap} {x : Str} {j k n ar : Nat} {Γ : List Nat} {m : List D → Res D} (h : FnO P w K mg base x j Γ n ar m) (hk : j ≤ k) : FnO P w K mg base x k Γ n ar m := by
  obtain ⟨f, fd, ps, F, r⟩ := h.ex
  exact ⟨f, fd, ps, F.mono hk, r⟩
section
variable {X : Cx} {W : WX} {Γ ns : List Nat} {n : Nat} {e : Expr} {es : List Expr} {me : Rho → Res D} {ma : Rho → Res (List D)}
end
section
variable {X : Cx} {W : WX} {Γ Γf : List Nat} {n nf k ar : Nat} {e : Expr} {es : List Expr} {x : Str} {p pos : Pos} {ma : Rho → Res (List D)} {m : List D → Res D}
end
section
variable {X : Cx} {W : WX} {Γ : List Nat} {n i k : Nat} {x : Str} {e : Expr} {p pos pos' pos2 : Pos}
end
end TW
-- TWEqN
namespace TW
open PySem PySem.Spec PyProof.Rows L2
section
variable {prog : Program} {w : World} {K : Type} [DecidableEq K] {knd : HeapKind prog w K} {A : Around} {E : Value → Shared → Prop} {s : Shared}
end
section
variable {X : Cx} {W : WX} {Γ : List Nat} {n n1 n2 : Nat} {f1 f2 : Bool} {a b : Expr} {pos : Pos} {ma mb : Rho → Res D}
end
end TW
-- TWPutMv
namespace TW
open PySem PySem.Spec PyProof.Rows L2
section
variable {K : PySem.W.Frag} {F : Fr} {H0 H : Hp} {Γ : List Nat} {ρ : Rho} {σ : L2.St} {S R : Nat → List Addr}
end
section
variable {X : Cx} {W : WX} {Γ : List Nat} {n t y m : Nat} {e b o : Expr} {pos pos' : Pos} {mk : Rho → Res D}
end
end TW
-- TWRuin
namespace TW
open PySem PySem.Spec PyProof.Rows L2
def D.isS : D → Bool
  | .str _ => true
  | _ => false
section
variable {K : PySem.W.Frag} {F : Fr} {H0 H H' : Hp} {Γ : List Nat} {ρ : Rho} {σ σ' : L2.St} {S R : Nat → List Addr}
theorem strs_at {os : List D} {xs : List V} {A B : List Addr} {n : Nat} (hs : os.all D.isS = true) (hd : Dats K H os n xs A B) : ∀ x ∈ xs, ∃ s : Str, x = .str s := by
  intro x hx
  obtain ⟨i, hi⟩ := List.mem_iff_getElem?.mp hx
  have hl := hd.length
  obtain ⟨d, ed⟩ : ∃ d, os[i]? = some d := ⟨_, List.getElem?_eq_getElem (by have := (List.getElem?_eq_some_iff.mp hi).1; omega)⟩
  obtain ⟨y, S', R', ey, g, _, _⟩ := hd.get ed
  rw [hi] at ey
  cases ey
  have sm := List.all_eq_true.mp hs d (List.mem_of_getElem? ed)
  cases d with
  | str s => exact ⟨s, dat_str g⟩
  | _ => cases sm
end
section
variable {X : Cx} {W : WX} {Γ : List Nat} {n h o c l : Nat} {eh eh2 eo2 ec2 el e : Expr} {on cn : Str} {p1 p2 pA pB pC pD pE : Pos} {me : Rho → Res D}
end
end TW
-- TWIo
namespace TW
open PySem PySem.Spec PyProof.Rows L2
def sRetI (m : Rho → Res D) : Rho → Out := fun ρ => (m ρ).out ρ fun d => match ρ[0]? with
  | some (some s) => if d.flat = true then .rt (.tup [d, s]) else .stuck
  | _ => .stuck
section
variable {X : Cx} {W : WX} {Γ Γ1 : List Nat}
theorem rs_retI {e : Expr} {pos : Pos} {m : Rho → Res D} (h : RE X W Γ 0 true e m) (hΓ : Γ.getD 0 0 = 99 := by rfl) : RS X W 1000 Γ Γ1 (.Return (some e) pos) (sRetI m) := by
  obtain ⟨t, p, q⟩ := h
  refine ⟨_, ps_ret p, fun F H0 ρ σ H S R E st po => ?_⟩
  refine q F H0 ρ σ H S R _ st (PostE.iff.mpr ((PostS.ofR st po).imp fun d _ po => ?_))
  intro x H1 A B s1 d1 v1 f1
  cases e0 : ρ[0]? with
  | none => rw [e0] at po; exact po.elim
  | some o =>
    rw [e0] at po
    cases o with
    | none => exact po.elim
    | some s =>
      dsimp only at po
      by_cases hf : d.flat = true
      · rw [if_pos hf] at po
        have po : PostRt X F H0 1000 E (.tup [d, s]) := po
        unfold PostRt at po
        rw [if_neg (by decide)] at po
        obtain ⟨v, s', ed, fl, po⟩ := po
        cases ed
        obtain ⟨rfl, rfl, up⟩ := d1.flat hf
        obtain ⟨x0, ex0, g⟩ := st.slot 0 s e0
        rw [hΓ] at g
        exact po x x0 H1 (S 0) (R 0) (fun p hp => by
          have := (st.pin 0 p hp).2
          rw [ex0] at this
          exact (Option.some.inj (Option.some.inj this)).symm) (st.same.trans s1) (up 0) (g.same s1) ⟨st.nd 0, fun a ha => ⟨st.new 0 a ha, fun hr => st.rs 0 0 a hr ha⟩⟩ (st.rf 0) (st.sf 0)
      · rw [if_neg hf] at po; exact po.elim
end
def PostIo (K : PySem.W.Frag) (F : Addr → Prop) (S : Nat → List Addr) (H : Hp) (Q : VK) (x0 : V) (d : D) : Prop :=
  ∃ v s, d = .tup [v, s] ∧ v.flat = true ∧ ∀ x H' A B, (∀ c u, H c = some u → (∀ i, c ∉ S i) → H' c = some u) → Dat K H' v 0 x [] [] → Dat K H' s 99 x0 A B → A.Nodup → (∀ a ∈ A, (H a = none ∨ ∃ i, a ∈ S i) ∧ a ∉ B) → (∀ a ∈ B, ¬ F a) → (∀ a ∈ A, ¬ F a) → Q x H'
def spI (K : PySem.W.Frag) (mg : Str → Option Value) (Γ : List Nat) (ar : Nat) (m : List D → Res D) : Sp := fun vs H Q E => vs.length = ar ∧ ∃ (ds : List D) (F : Addr → Prop) (S R : Nat → List Addr) (x0 : V), ds.length = ar ∧ vs[0]? = some x0 ∧ ArgO K F Γ H vs ds S R ∧
  match m ds with
  | .ok d => PostIo K F S H Q x0 d
  | .exn c => ∀ C H', mg c = some (.ref C) → Same H H' → E (.ref C) none H'
  | .stuck => False
def callI (N : Nat) (b : Rho → Out) (ds : List D) : Res D := match b (ds.map some ++ List.replicate (N - ds.length) none) with
  | .rt d => .ok d
  | _ => .stuck
theorem mk_okI {P : Program} {w : World} {K : PySem.W.Frag} {mg : Str → Option Value} {base : Heap} {x qual : Str} {st : Stmt} {f : Addr} {fd : FuncData} {N ps : List Str} {k ar : Nat} {m : Rho → Out} {Γ Γ' : List Nat}
    (F : Fun K x qual st f fd) (Sc : FnScope N ps (defScope st)) (har : ps.length = ar)
    (body : ∀ (cdv : Value) (A : Around) (outer : List Env) (s : Shared) (H : Hp) (E : XK), Room k (A.deeper (envOfC qual (defScope st) s.heap.objs.size f cdv)) →
      RSs (cxOf (L2.CX P w) P w K mg base N qual (defScope st) f cdv A outer s H E) (fun cls d _ H => E cls d H) 1000 Γ Γ' (defBody st) m) (hΓ : Γ.getD 0 0 = 99 := by rfl) :
    FnOk P w K mg base (L2.CX P w) (k + 1) f fd ps (spI K mg Γ ar (callI N.length m)) := by
  refine F.okX Sc (fun vs H Q E h => by rw [h.1, har]) (fun cdv A outer s H vs Q E hr h => ?_)
  obtain ⟨t, p, q⟩ := body cdv A outer s H E hr
  refine ⟨t, p, ?_⟩
  obtain ⟨hl, ds, Fb, S, R, x0, hds, hx0, ag, po⟩ := h
  have hps : ps.length ≤ N.length := by have := congrArg List.length Sc.pre; rw [List.length_take] at this; omega
  have ρget : ∀ i d, (ds.map some ++ List.replicate (N.length - ds.length) none : Rho)[i]? = some (some d) → ds[i]? = some d := fun i d e => by
    by_cases hi : i < ds.length
    · rw [List.getElem?_append_left (by simpa using hi), List.getElem?_map] at e
      cases e2 : ds[i]? with
      | none => rw [e2] at e; cases e
      | some d' => rw [e2] at e; cases e; rfl
    · rw [List.getElem?_append_right (by simpa using hi), List.getElem?_replicate] at e
      split at e <;> cases e
  let H0 : Hp := fun c => open Classical in if ∃ i, c ∈ S i then none else H c
  have h0n : ∀ c, (∃ i, c ∈ S i) → H0 c = none := fun c h => if_pos h
  have h0s : ∀ c, ¬ (∃ i, c ∈ S i) → H0 c = H c := fun c h => if_neg h
  have sm : Same H0 H := fun c u e => by
    by_cases z : ∃ i, c ∈ S i
    · rw [h0n c z] at e; cases e
    · rw [h0s c z] at e; exact e
  have back : ∀ H', Same H0 H' → ∀ c u, H c = some u → (∀ i, c ∉ S i) → H' c = some u := fun H' s c u e hc => s c u (by rw [h0s c fun ⟨i, z⟩ => hc i z]; exact e)
  have st0 : Sto K ⟨Fb, fun j => if j = 0 then some x0 else none⟩ H0 Γ (ds.map some ++ List.replicate (N.length - ds.length) none) (L2.start N vs) H S R := by
    refine ⟨sm, ?_, fun i d e => ?_, fun i z => ag.emp i ?_, fun i a z => h0n a ⟨i, z⟩, ag.nd, ag.dj, ag.rs, ag.rf, ag.sf, ag.fd, fun i v q => ?_⟩
    · unfold L2.start
      simp only [List.length_append, List.length_map, List.length_replicate]
      rw [hds, hl]
    · obtain ⟨x, ex, g⟩ := ag.slot i d (ρget i d e)
      have hi : i < vs.length := (List.getElem?_eq_some_iff.mp ex).1
      refine ⟨x, ?_, g⟩
      unfold L2.start
      rw [List.getElem?_append_left (by simpa using hi), List.getElem?_map, ex]
      rfl
    · cases e : ds[i]? with
      | none => rfl
      | some d =>
        have hi : i < ds.length := (List.getElem?_eq_some_iff.mp e).1
        refine absurd ?_ (z d)
        rw [List.getElem?_append_left (by simpa using hi), List.getElem?_map, e]
        rfl
    · dsimp only at q
      split at q
      · rename_i hj
        cases q
        subst hj
        refine ⟨hΓ, ?_⟩
        have hi : 0 < vs.length := (List.getElem?_eq_some_iff.mp hx0).1
        unfold L2.start
        rw [List.getElem?_append_left (by simpa using hi), List.getElem?_map, hx0]
        rfl
      · cases q
  refine q ⟨Fb, fun j => if j = 0 then some x0 else none⟩ H0 _ (L2.start N vs) H S R _ st0 ?_
  unfold callI at po
  cases eb : m (ds.map some ++ List.replicate (N.length - ds.length) none) with
  | nx ρ' => rw [eb] at po; exact po.elim
  | rt d =>
    rw [eb] at po
    have po : PostIo K Fb S H Q x0 d := po
    obtain ⟨v, s, ed, fl, po⟩ := po
    show PostRt _ _ _ _ _ _
    unfold PostRt
    rw [if_neg (by decide)]
    refine ⟨v, s, ed, fl, fun x x1 H' A B hp sa dv ds' nw hB hA => ?_⟩
    obtain rfl : x0 = x1 := hp x0 rfl
    refine po x H' A B (back H' sa) dv ds' nw.1 (fun a ha => ⟨?_, (nw.2 a ha).2⟩) hB hA
    have := (nw.2 a ha).1
    by_cases z : ∃ i, a ∈ S i
    · exact .inr z
    · rw [h0s a z] at this; exact .inl this
  | ex c ρ' => rw [eb] at po; exact po.elim
  | stuck => rw [eb] at po; exact po.elim
structure FnI (P : Program) (w : World) (K : PySem.W.Frag) (mg : Str → Option Value) (base : Heap) (x : Str) (k : Nat) (Γ : List Nat) (ar : Nat) (m : List D → Res D) : Prop where
  ex : ∃ (f : Addr) (fd : FuncData) (ps : List Str), FnOk P w K mg base (L2.CX P w) k f fd ps (spI K mg Γ ar m) ∧ mg x = some (.ref f) ∧ PySem.W.keepIn K (.ref f) = true ∧ Binds K fd ps []
theorem FnI.mono {P : Program} {w : World} {K : PySem.W.Frag} {mg : Str → Option Value} {base : Heap} {x : Str} {j k ar : Nat} {Γ : List Nat} {m : List D → Res D} (h : FnI P w K mg base x j Γ ar m) (hk : j ≤ k) : FnI P w K mg base x k Γ ar m := by
  obtain ⟨f, fd, ps, F, r⟩ := h.ex
  exact ⟨f, fd, ps, F.mono hk, r⟩
section
variable {K : PySem.W.Frag} {F : Fr} {H0 H H' : Hp} {Γ : List Nat} {ρ : Rho} {σ : L2.St} {S R : Nat → List Addr}
theorem Sto.swap {i k : Nat} {d s : D} {x : V} {A B : List Addr} (h : Sto K F H0 Γ ρ σ H S R) (hi : ρ[i]? = some (some d)) (hx : σ[i]? = some (some x)) (fr : ∀ c u, H c = some u → c ∉ S i → H' c = some u)
    (hd : Dat K H' s k x A B) (hk : Γ.getD i 0 = k) (nd : A.Nodup) (hA : ∀ a ∈ A, H a = none ∨ a ∈ S i) (hAB : ∀ a ∈ A, a ∉ B) (hAF : ∀ a ∈ A, ¬ F a) (hBF : ∀ b ∈ B, ¬ F b) (hBS : ∀ b ∈ B, ∀ j, j ≠ i → b ∉ S j) :
    ∃ S' R', Sto K F H0 Γ (ρ.set i (some s)) σ H' S' R' ∧ Keep S H H' ∧ Grow S H S' := by
  have il : i < ρ.length := (List.getElem?_eq_some_iff.mp hi).1
  have same : Same H0 H' := fun c u e => fr c u (h.same c u e) fun z => by
    have := h.new i c z
    rw [this] at e; cases e
  have nAS : ∀ a ∈ A, ∀ j, j ≠ i → a ∉ S j := fun a ha j hj z => by
    rcases hA a ha with q | q
    · exact h.domS j a z q
    · exact h.dj i j (Ne.symm hj) a q z
  have nAR : ∀ a ∈ A, ∀ j, a ∉ R j := fun a ha j z => by
    rcases hA a ha with q | q
    · exact h.domR j a z q
    · exact h.rs j i a z q
  have mu : ∀ c, ¬ Mut (H c) → c ∉ S i := fun c hc z => hc (h.mut i c z)
  refine ⟨fun j => if j = i then A else S j, fun j => if j = i then B else R j, ⟨same, by simp [h.len], fun j e q => ?_, fun j q => ?_, fun j a ha => ?_, fun j => ?_, fun j l hjl a ha hl => ?_, fun j l a ha hl => ?_, fun j a ha => ?_, fun j a ha => ?_, fun a ha => ?_, h.pin⟩, fun a o e hn => fr a o e (hn i), fun j a ha => ?_⟩
  · by_cases hj : j = i
    · subst hj
      rw [List.getElem?_set_self il] at q
      cases q
      rw [if_pos rfl, if_pos rfl, hk]
      exact ⟨x, hx, hd⟩
    · rw [List.getElem?_set_ne (Ne.symm hj)] at q
      obtain ⟨y, e1, g⟩ := h.slot j e q
      rw [if_neg hj, if_neg hj]
      refine ⟨y, e1, Dat.stay e _ y (S j) (R j) ⟨fun b xs z => fr b _ z (mu b (by rw [z]; exact id)), fun b o xs z => fr b _ z (mu b (by rw [z]; exact id)), fun b o xs z => fr b _ z (mu b (by rw [z]; exact id)), fun b hb o z => fr b o z (h.dj j i hj b hb), fun b hb o z => fr b o z (h.rs j i b hb)⟩ g⟩
  · by_cases hj : j = i
    · subst hj
      exact absurd (List.getElem?_set_self il) (q s)
    · rw [if_neg hj, if_neg hj]
      refine h.emp j fun e q' => q e ?_
      rw [List.getElem?_set_ne (Ne.symm hj)]
      exact q'
  · split at ha
    · rcases hA a ha with z | z
      · exact h.same.free z
      · exact h.new i a z
    · exact h.new j a ha
  · split
    · exact nd
    · exact h.nd j
  · split at ha
    · rename_i hj
      split at hl
      · omega
      · rename_i hl'
        exact nAS a ha l hl' hl
    · rename_i hj
      split at hl
      · exact nAS a hl j hj ha
      · exact h.dj j l hjl a ha hl
  · split at ha
    · split at hl
      · exact hAB a hl ha
      · rename_i hl'
        exact hBS a ha l hl' hl
    · split at hl
      · exact nAR a hl j ha
      · exact h.rs j l a ha hl
  · split at ha
    · exact hBF a ha
    · exact h.rf j a ha
  · split at ha
    · exact hAF a ha
    · exact h.sf j a ha
  · cases q : H a with
    | none => exact absurd q (h.fd a ha)
    | some u => rw [fr a u q fun z => h.sf i a z ha]; simp
  · dsimp only at ha
    split at ha
    · rcases hA a ha with z | z
      · exact .inr z
      · exact .inl ⟨i, z⟩
    · exact .inl ⟨j, ha⟩
end
section
theorem Sto.unpin {K : PySem.W.Frag} {F : Fr} {H0 H : Hp} {Γ : List Nat} {ρ : Rho} {σ : L2.St} {S R : Nat → List Addr} (h : Sto K F H0 Γ ρ σ H S R) : Sto K F.un H0 Γ ρ σ H S R :=
  ⟨h.same, h.len, h.slot, h.emp, h.new, h.nd, h.dj, h.rs, h.rf, h.sf, h.fd, fun i v q => nomatch q⟩
theorem Sto.frzP {K : PySem.W.Frag} {F : Fr} {H0 H : Hp} {Γ : List Nat} {ρ : Rho} {σ : L2.St} {S R : Nat → List Addr} (h : Sto K F H0 Γ ρ σ H S R) (i : Nat) (hi : i < Γ.length) : ∃ S' R', Sto K F.un H0 (Γ.set i 0) ρ σ H S' R' ∧ ∀ j a, a ∈ S' j → a ∈ S j := by
  by_cases hp : Γ.getD i 0 = 99
  · have e : ∀ j, (Γ.set i 98).getD j 0 = if j = i then 98 else Γ.getD j 0 := fun j => by
      by_cases hj : j = i
      · subst hj; rw [if_pos rfl, List.getD_eq_getElem?_getD, List.getElem?_set_self hi]; rfl
      · rw [if_neg hj, List.getD_eq_getElem?_getD, List.getD_eq_getElem?_getD, List.getElem?_set_ne (Ne.symm hj)]
    by_cases ed : ∃ d, ρ[i]? = some (some d)
    · obtain ⟨d, ed⟩ := ed
      obtain ⟨x, e1, g⟩ := h.slot i d ed
      rw [hp] at g
      obtain ⟨A, B, g2, snd, sub, hb, ap⟩ := Dat.weakS (show 98 ≤ 99 by decide) g
      have st2 : Sto K F.un H0 (Γ.set i 98) ρ σ H (fun j => if j = i then A else S j) (fun j => if j = i then B else R j) := by
        have subS : ∀ j a, a ∈ (if j = i then A else S j) → a ∈ S j := fun j a ha => by
          split at ha
          · rename_i hj; subst hj; exact sub a ha
          · exact ha
        refine ⟨h.same, h.len, fun j d' q => ?_, fun j q => ?_, fun j a ha => h.new j a (subS j a ha), fun j => ?_, fun j k hjk a ha hk => h.dj j k hjk a (subS j a ha) (subS k a hk), fun j k a ha hk => ?_, fun j a ha => ?_, fun j a ha => h.sf j a (subS j a ha), h.fd, fun j v q => nomatch q⟩
        · rw [e j]
          by_cases hj : j = i
          · subst hj
            rw [ed] at q; cases q
            rw [if_pos rfl, if_pos rfl, if_pos rfl]
            exact ⟨x, e1, g2⟩
          · rw [if_neg hj, if_neg hj, if_neg hj]
            exact h.slot j d' q
        · by_cases hj : j = i
          · subst hj; exact absurd ed (q d)
          · rw [if_neg hj, if_neg hj]; exact h.emp j q
        · split
          · exact snd (h.nd i)
          · exact h.nd j
        · split at ha
          · split at hk
            · exact ap (h.nd i) (fun a ha hr => h.rs i i a hr ha) a hk ha
            · rename_i hkk
              rcases hb a ha with z | z
              · exact h.dj i k (Ne.symm hkk) a z hk
              · exact h.rs i k a z hk
          · split at hk
            · exact h.rs j i a ha (sub a hk)
            · exact h.rs j k a ha hk
        · split at ha
          · rcases hb a ha with z | z
            · exact h.sf i a z
            · exact h.rf i a z
          · exact h.rf j a ha
      obtain ⟨S', R', st3, sb⟩ := st2.frz i (by simpa using hi) (by rw [e i, if_pos rfl]; decide)
      rw [List.set_set] at st3
      refine ⟨S', R', st3, fun j a ha => ?_⟩
      have := sb j a ha
      split at this
      · rename_i hj; subst hj; exact sub a this
      · exact this
    · have st2 : Sto K F.un H0 (Γ.set i 0) ρ σ H S R := by
        refine ⟨h.same, h.len, fun j d q => ?_, h.emp, h.new, h.nd, h.dj, h.rs, h.rf, h.sf, h.fd, fun i v q => nomatch q⟩
        have hj : j ≠ i := fun z => ed ⟨d, by rw [← z]; exact q⟩
        rw [List.getD_eq_getElem?_getD, List.getElem?_set_ne (Ne.symm hj), ← List.getD_eq_getElem?_getD]
        exact h.slot j d q
      exact ⟨S, R, st2, fun j a ha => ha⟩
  · exact h.unpin.frz i hi hp
theorem re_frzP {X : Cx} {W : WX} {Γ : List Nat} {n : Nat} {e : Expr} {m : Rho → Res D} (i : Nat) (h : RE X W (Γ.set i 0) n true e m) (hi : i < Γ.length := by decide) : RE X W Γ n true e (mSha n m) := by
  obtain ⟨t, p, q⟩ := h
  refine ⟨t, p, fun F H0 ρ σ H S R Q st po => ?_⟩
  obtain ⟨S', R', st', sub⟩ := st.frzP i hi
  refine q F.un H0 ρ σ H S' R' Q st' (PostE.iff.mpr (?_ : PostX X W σ H _ (m ρ)))
  unfold mSha at po
  refine (PostE.iff.mp po).bind.imp fun d _ po => ?_
  intro x H1 A B s1 d1 _ nw
  by_cases f : d.sha n = true
  · rw [if_pos f] at po
    have := shalF_dat f d1
    subst this
    exact po x H1 A [] s1 d1 (fun a z => by simp at z) nw
  · rw [if_neg f] at po
    exact po.elim
end
inductive OutI where
  | ok (v : D) (ρ : Rho) | exn (c : Str) (ρ : Rho) | stuck
def PostI (X : Cx) (W : WX) (F : Fr) (H0 : Hp) (Γ : List Nat) (S : Nat → List Addr) (H : Hp) (σ : L2.St) (Q : VK) : OutI → Prop
  | .ok v ρ' => v.flat = true ∧ ∀ x H' S' R', Dat X.K H' v 0 x [] [] → Sto X.K F H0 Γ ρ' σ H' S' R' → Keep S H H' → Grow S H S' → Q x H'
  | .exn c ρ' => ∀ C H' S' R', X.mg c = some (.ref C) → Sto X.K F H0 Γ ρ' σ H' S' R' → Keep S H H' → Grow S H S' → W (.ref C) none σ H'
  | .stuck => False
def REI (X : Cx) (W : WX) (Γ : List Nat) (e : Expr) (m : Rho → OutI) : Prop :=
  ∃ t, PE X e t ∧ ∀ F H0 ρ σ H S R Q, Sto X.K F H0 Γ ρ σ H S R → PostI X W F H0 Γ S H σ Q (m ρ) → t σ H Q
def iCall (c : Bool) (k i : Nat) (m : List D → Res D) (ma : Rho → Res (List D)) : Rho → OutI := fun ρ => match ρ[i]?, ma ρ with
  | some (some d), .ok ds => if (c = true → d.sha k = true) then (match m (d :: ds) with
    | .ok (.tup [v, s]) => .ok v (ρ.set i (some s))
    | .exn c => .exn c ρ
    | _ => .stuck) else .stuck
  | some (some _), .exn c => .exn c ρ
  | _, _ => .stuck
section
variable {X : Cx} {W : WX} {Γ : List Nat}
theorem io_core {k i ar : Nat} {c : Bool} {Γf : List Nat} {es : List Expr} {ma : Rho → Res (List D)} {m : List D → Res D} {ta : TA} (la : ∀ ρ ds, ma ρ = .ok ds → ds.length = es.length)
    (qa : ∀ F H0 ρ σ H S R Q, Sto X.K F H0 Γ ρ σ H S R → PostA X W (Av F S) 0 true σ H Q (ma ρ) → ta σ H Q)
    (hk : Γ.getD i 0 = k) (hc : k = 99 ∨ (c = true ∧ k ≤ 99)) (hΓ : Γf.getD 0 0 = 99) (hz : ∀ j, Γf.getD (j + 1) 0 = 0) (hl : es.length + 1 = ar)
    {F : Fr} {H0 : Hp} {ρ : Rho} {σ : L2.St} {H : Hp} {S R : Nat → List Addr} {Q : VK} (st : Sto X.K F H0 Γ ρ σ H S R) {d0 : D} {x0 : V} (ei : ρ[i]? = some (some d0)) (hx0 : σ[i]? = some (some x0)) (g0 : Dat X.K H d0 k x0 (S i) (R i))
    (po : PostI X W F H0 Γ S H σ Q (iCall c k i m ma ρ)) : ta σ H (fun xs H1 => spI X.K X.mg Γf ar m (x0 :: xs) H1 Q (WE W σ)) := by
  unfold iCall at po
  rw [ei] at po
  refine qa F H0 ρ σ H S R _ st ?_
  cases ea : ma ρ with
  | stuck => rw [ea] at po; exact po.elim
  | exn c =>
    rw [ea] at po
    exact fun C H' hc s1 => po C H' S R hc (st.grow s1) (Keep.of_same s1) Grow.refl
  | ok ds =>
    rw [ea] at po
    dsimp only at po
    by_cases hcond : c = true → d0.sha k = true
    case neg => rw [if_neg hcond] at po; exact po.elim
    rw [if_pos hcond] at po
    intro xs H1 A B s1 d1 v1 _
    obtain rfl : A = [] := Dats.noS d1
    have st1 := st.grow s1
    have g1 : Dat X.K H1 d0 99 x0 (S i) (R i) := by
      rcases hc with rfl | ⟨hc, hk99⟩
      · exact g0.same s1
      · exact shalF_up hk99 (hcond hc) (g0.same s1)
    have slotq : ∀ j : Nat, ∃ R1 : List Addr, (∀ d, ds[j]? = some d → ∃ x, xs[j]? = some x ∧ Dat X.K H1 d 0 x [] R1) ∧ (∀ a ∈ R1, a ∈ B) ∧ (ds[j]? = none → R1 = []) := fun j => by
      cases e : ds[j]? with
      | none => exact ⟨[], ⟨(fun d z => nomatch z), (fun a z => nomatch z), (fun _ => rfl)⟩⟩
      | some d =>
        obtain ⟨x, R', e1, g, r⟩ := d1.slot j d e
        exact ⟨R', ⟨fun d' z => by cases z; exact ⟨x, e1, g⟩, r, fun z => by cases z⟩⟩
    let Fc : Addr → Prop := fun a => F a ∨ ∃ j, j ≠ i ∧ a ∈ S j
    have av : ∀ b ∈ B, ¬ F b ∧ ∀ j, b ∉ S j := fun b hb => ⟨fun z => v1 b hb (.inl z), fun j z => v1 b hb (.inr ⟨j, z⟩)⟩
    have ag : ArgO X.K Fc Γf H1 (x0 :: xs) (d0 :: ds) (fun j => match j with | 0 => S i | _ + 1 => []) (fun j => match j with | 0 => R i | j + 1 => Classical.choose (slotq j)) := by
      refine ⟨fun j d e => ?_, fun j e => ?_, fun j => ?_, fun j l hjl a h1 h2 => ?_, fun j l a h1 h2 => ?_, fun j a ha => ?_, fun j a ha => ?_, fun a ha => ?_⟩
      · cases j with
        | zero => cases e; exact ⟨x0, rfl, by rw [hΓ]; exact g1⟩
        | succ j =>
          obtain ⟨y, e1, g⟩ := (Classical.choose_spec (slotq j)).1 d e
          exact ⟨y, e1, by rw [hz j]; exact g⟩
      · cases j with
        | zero => cases e
        | succ j => exact ⟨rfl, (Classical.choose_spec (slotq j)).2.2 e⟩
      · cases j with
        | zero => exact st.nd i
        | succ j => exact List.nodup_nil
      · cases j with
        | zero =>
          cases l with
          | zero => exact hjl rfl
          | succ l => cases h2
        | succ j => cases h1
      · cases l with
        | succ l => cases h2
        | zero =>
          cases j with
          | zero => exact st.rs i i a h1 h2
          | succ j => exact (av a ((Classical.choose_spec (slotq j)).2.1 a h1)).2 i h2
      · cases j with
        | zero =>
          rintro (z | ⟨j, hj, z⟩)
          · exact st.rf i a ha z
          · exact st.rs i j a ha z
        | succ j =>
          have := av a ((Classical.choose_spec (slotq j)).2.1 a ha)
          rintro (z | ⟨j, hj, z⟩)
          · exact this.1 z
          · exact this.2 j z
      · cases j with
        | zero =>
          rintro (z | ⟨j, hj, z⟩)
          · exact st.sf i a ha z
          · exact st.dj i j (Ne.symm hj) a ha z
        | succ j => cases ha
      · rcases ha with z | ⟨j, hj, z⟩
        · exact st1.fd a z
        · exact st1.domS j a z
    have hlen : (x0 :: xs).length = ar := by
      have h1 := d1.length
      have h2 := la ρ ds ea
      rw [← hl]
      simp only [List.length_cons]
      omega
    refine ⟨hlen, d0 :: ds, Fc, _, _, x0, ?_, rfl, ag, ?_⟩
    · have h2 := la ρ ds ea
      rw [← hl]
      simp only [List.length_cons]
      omega
    · cases em : m (d0 :: ds) with
      | stuck => rw [em] at po; exact po.elim
      | exn c =>
        rw [em] at po
        exact fun C H' hc s2 => po C H' S R hc (st1.grow s2) (Keep.of_same (s1.trans s2)) Grow.refl
      | ok dd =>
        rw [em] at po
        split at po
        · rename_i v s z
          cases z
          refine ⟨v, s, rfl, po.1, fun y H2 A2 B2 fr dv dsd nd hA2 hB2 hA2F => ?_⟩
          have hk99 : k ≤ 99 := by rcases hc with rfl | ⟨_, h⟩ <;> omega
          obtain ⟨A3, B3, g3, snd, sub, hb3, ap⟩ := Dat.weakS hk99 dsd
          have inS : ∀ a ∈ A2, H1 a = none ∨ a ∈ S i := fun a ha => by
            rcases (hA2 a ha).1 with z | ⟨j, z⟩
            · exact .inl z
            · cases j with
              | zero => exact .inr z
              | succ j => cases z
          obtain ⟨S3, R3, st3, kp, gr⟩ := st1.swap ei hx0 (H' := H2) (fun c u e hn => fr c u e fun j => by
            cases j with
            | zero => exact hn
            | succ j => exact List.not_mem_nil) g3 hk (snd nd) (fun a ha => inS a (sub a ha)) (ap nd fun a ha => (hA2 a ha).2) (fun a ha z => hA2F a (sub a ha) (.inl z)) (fun b hb z => by
              rcases hb3 b hb with q | q
              · exact hA2F b q (.inl z)
              · exact hB2 b q (.inl z)) (fun b hb j hj z => by
              rcases hb3 b hb with q | q
              · exact hA2F b q (.inr ⟨j, hj, z⟩)
              · exact hB2 b q (.inr ⟨j, hj, z⟩))
          exact po.2 y H2 S3 R3 dv st3 (fun a o e hn => kp a o (s1 a o e) hn) fun j a ha => by
            rcases gr j a ha with z | z
            · exact .inl z
            · exact .inr (s1.free z)
        · rename_i z; cases z
        · exact po.elim
theorem PostI.later {F : Fr} {H0 H H' : Hp} {S S' : Nat → List Addr} {σ : L2.St} {Q : VK} {o : OutI} (h : PostI X W F H0 Γ S H σ Q o) (k : Keep S H H') (g : Grow S H S') : PostI X W F H0 Γ S' H' σ Q o := by
  cases o with
  | ok v ρ' => exact ⟨h.1, fun x H2 S2 R2 d st k' g' => h.2 x H2 S2 R2 d st (k.trans g k') (g.trans k g')⟩
  | exn c ρ' => exact fun C H2 S2 R2 hc st k' g' => h C H2 S2 R2 hc st (k.trans g k') (g.trans k g')
  | stuck => exact h
def OutI.out (o : OutI) (f : D → Rho → Out) : Out := match o with
  | .ok v ρ => f v ρ
  | .exn c ρ => .ex c ρ
  | .stuck => .stuck
theorem Sto.fall {F : Fr} {H0 H : Hp} {K : PySem.W.Frag} {ρ : Rho} {σ : L2.St} {S R : Nat → List Addr} (st : Sto K F H0 Γ ρ σ H S R) : ∃ S' R', Sto K F.un H0 [] ρ σ H S' R' ∧ ∀ i, S' i = [] := by
  have q : ∀ i : Nat, ∃ R1 : List Addr, (∀ d, ρ[i]? = some (some d) → ∃ x, σ[i]? = some (some x) ∧ Dat K H d 0 x [] R1) ∧ (∀ a ∈ R1, ¬ F a) ∧ ((∀ d, ρ[i]? ≠ some (some d)) → R1 = []) := fun i => by
    by_cases e : ∃ d, ρ[i]? = some (some d)
    · obtain ⟨d, e⟩ := e
      obtain ⟨x, e1, g⟩ := st.slot i d e
      obtain ⟨S1, R1, g, sl, hr⟩ := Dat.weak d _ 0 x _ _ (Nat.zero_le _) g
      obtain rfl : S1 = [] := Dat.noS g
      refine ⟨R1, fun d' e' => ?_, fun a ha => ?_, fun z => absurd e (z d)⟩
      · rw [e] at e'; cases e'
        exact ⟨x, e1, g⟩
      · rcases hr a ha with ha | ha
        · exact st.sf i a ha
        · exact st.rf i a ha
    · exact ⟨[], fun d e' => absurd ⟨d, e'⟩ e, fun a z => by simp at z, fun _ => rfl⟩
  refine ⟨fun _ => [], fun i => Classical.choose (q i), ⟨st.same, st.len, fun i d e => ?_, fun i z => ?_, fun i a z => by simp at z, fun i => List.nodup_nil, fun i j _ a z => by simp at z, fun i j a _ z => by simp at z, fun i a ha => ?_, fun i a z => by simp at z, st.fd, fun i v q => nomatch q⟩, fun i => rfl⟩
  · exact (Classical.choose_spec (q i)).1 d e
  · exact ⟨rfl, (Classical.choose_spec (q i)).2.2 z⟩
  · exact (Classical.choose_spec (q i)).2.1 a ha
theorem PostS.ofI {F : Fr} {H0 H : Hp} {Γ' : List Nat} {n : Nat} {E : Ends} {S : Nat → List Addr} {σ : L2.St} {o : OutI} {f : D → Rho → Out} {Q : VK} (h : PostS X W F H0 Γ' n S H E (o.out f))
    (ok : ∀ v ρ', o = .ok v ρ' → v.flat = true ∧ ∀ x H' S' R', Dat X.K H' v 0 x [] [] → Sto X.K F H0 Γ ρ' σ H' S' R' → Keep S H H' → Grow S H S' → Q x H') : PostI X W F H0 Γ S H σ Q o := by
  cases o with
  | ok v ρ' => exact ok v ρ' rfl
  | exn c ρ' =>
    intro C H' S' R' hc st k g
    obtain ⟨S2, R2, st2, e2⟩ := st.fall
    exact h C σ H' S2 R2 hc st2 k fun i a ha => by rw [e2 i] at ha; simp at ha
  | stuck => exact h
def sSetI (i : Nat) (m : Rho → OutI) : Rho → Out := fun ρ => (m ρ).out fun v ρ' => if v.flat = true then .nx (ρ'.set i (some v)) else .stuck
theorem rs_setI {n i : Nat} {x : Str} {e : Expr} {m : Rho → OutI} {pos pos' : Pos} {Γ1 : List Nat} (h : REI X W Γ e m) (hN : X.N.Nodup) (hx : Loc X.env.scope x) (hi : X.N[i]? = some x := by rfl) (hl : i < Γ.length := by decide)
    (hs : swapsWith e (some (.Name x pos')) pos.line X.env = pure false := by rfl) (hf : X.fn x = true ∨ X.env.scope.names.lookup x = some .local := by first | exact .inl rfl | exact .inr rfl | assumption) (hp : Γ.getD i 0 ≠ 99 := by decide) (hΓ : Γ.set i 0 = Γ1 := by rfl) : RS X W n Γ Γ1 (.Assign [.Name x pos'] e pos) (sSetI i m) := by
  subst hΓ
  obtain ⟨t, p, q⟩ := h
  refine ⟨_, ps_set hN hi hx p hs hf, fun F H0 ρ σ H S R E st po => ?_⟩
  refine q F H0 ρ σ H S R _ st (PostS.ofI po fun v ρ' ev => ?_)
  unfold sSetI at po
  rw [ev] at po
  unfold OutI.out at po
  dsimp only at po
  by_cases hf : v.flat = true
  · rw [if_pos hf] at po
    refine ⟨hf, fun y H1 S1 R1 d1 st1 kp gr => ?_⟩
    obtain ⟨S', R', st2, gr2⟩ := st1.set (i := i) (n := 0) (.inl hl) d1 (fun a z => by simp at z) List.nodup_nil (fun a z => by simp at z) (fun a z => by simp at z) (fun a z => by simp at z) (fun a z => by simp at z) (fun a z => by simp at z) hp
    refine po _ H1 S' R' st2 kp fun j a ha => ?_
    rcases gr2 j a ha with z | z
    · exact gr j a z
    · simp at z
  · rw [if_neg hf] at po; exact po.elim
end
end TW
-- TWDesk
namespace TW
open PySem PySem.Spec PyProof.Rows L2
class DeskAt where
  C : Nat
def gHouse [DeskAt] : D → Option D
  | .ins c h _ => if c = DeskAt.C then some h else none
  | _ => none
def gTable [DeskAt] : D → Option D
  | .ins c _ t => if c = DeskAt.C then some t else none
  | _ => none
def sHouse [DeskAt] (i : Nat) (m : Rho → Res D) : Rho → Out := fun ρ => match ρ[i]? with
  | some (some (.ins c h t)) => if c = DeskAt.C then (m ρ).out ρ fun v => .nx (ρ.set i (some (.ins c v t))) else .stuck
  | _ => .stuck
def sTable [DeskAt] (i : Nat) (m : Rho → Res D) : Rho → Out := fun ρ => match ρ[i]? with
  | some (some (.ins c h t)) => if c = DeskAt.C then (m ρ).out ρ fun v => .nx (ρ.set i (some (.ins c h v))) else .stuck
  | _ => .stuck
def sDesk [DeskAt] (i : Nat) : Rho → Out := fun ρ => .nx (ρ.set i (some (.ins DeskAt.C .non .non)))
def iMeth [DeskAt] (i : Nat) (m : List D → Res D) (me : Rho → Res D) : Rho → OutI := fun ρ => match ρ[i]? with
  | some (some (.ins c h t)) => if c = DeskAt.C then iCall false 99 i m (mA1 me mA0) ρ else .stuck
  | _ => .stuck
section
variable [DeskAt] {X : Cx} {W : WX} {Γ : List Nat} {n : Nat} {e o value : Expr} {pos pos' apos : Pos} {me m : Rho → Res D}
theorem re_house (c : Cls X.K DeskAt.C) (na : NoAttr X.K DeskAt.C "house") (he : RE X W Γ 0 true e me) (hb : attributeBase e "house" X.env (eval e X.env) = eval e X.env := by rfl) : RE X W Γ 0 true (.Attribute e "house" pos) (m1 gHouse me) := by
  obtain ⟨t, p, q⟩ := he
  refine ⟨_, pe_fld p hb, fun F H0 ρ σ H S R Q st po => ?_⟩
  refine q F H0 ρ σ H S R _ st (PostE.iff.mpr ((PostE.iff.mp po).bind.imp fun d _ po => ?_))
  intro x H1 A B s1 d1 v1 _
  obtain ⟨z, ez, po2⟩ := PostE.ofO (PostE.iff.mpr po)
  cases d with
  | ins C h tt =>
    by_cases hC : C = DeskAt.C
    · have ez : (if C = DeskAt.C then some h else none) = some z := ez
      rw [if_pos hC] at ez
      cases ez
      subst hC
      simp only [Dat] at d1
      obtain ⟨a, dx, x1, y1, R1, R2, rfl, qa, qd, rfl, rfl, h1, h2⟩ := d1
      exact ⟨a, _, dx, _, x1, rfl, qa, c, na, rfl, po2 x1 H1 [] R1 s1 h1 (fun b hb => v1 b (List.mem_cons_of_mem _ (List.mem_cons_of_mem _ (List.mem_append_left _ hb)))) fun _ => New.nil⟩
    · have ez : (if C = DeskAt.C then some h else none) = some z := ez
      rw [if_neg hC] at ez; cases ez
  | _ => cases ez
theorem re_table (c : Cls X.K DeskAt.C) (na : NoAttr X.K DeskAt.C "table") (he : RE X W Γ 0 true e me) (hb : attributeBase e "table" X.env (eval e X.env) = eval e X.env := by rfl) : RE X W Γ 0 true (.Attribute e "table" pos) (m1 gTable me) := by
  obtain ⟨t, p, q⟩ := he
  refine ⟨_, pe_fld p hb, fun F H0 ρ σ H S R Q st po => ?_⟩
  refine q F H0 ρ σ H S R _ st (PostE.iff.mpr ((PostE.iff.mp po).bind.imp fun d _ po => ?_))
  intro x H1 A B s1 d1 v1 _
  obtain ⟨z, ez, po2⟩ := PostE.ofO (PostE.iff.mpr po)
  cases d with
  | ins C h tt =>
    by_cases hC : C = DeskAt.C
    · have ez : (if C = DeskAt.C then some tt else none) = some z := ez
      rw [if_pos hC] at ez
      cases ez
      subst hC
      simp only [Dat] at d1
      obtain ⟨a, dx, x1, y1, R1, R2, rfl, qa, qd, rfl, rfl, h1, h2⟩ := d1
      exact ⟨a, _, dx, _, y1, rfl, qa, c, na, rfl, po2 y1 H1 [] R2 s1 h2 (fun b hb => v1 b (List.mem_cons_of_mem _ (List.mem_cons_of_mem _ (List.mem_append_right _ hb)))) fun _ => New.nil⟩
    · have ez : (if C = DeskAt.C then some tt else none) = some z := ez
      rw [if_neg hC] at ez; cases ez
  | _ => cases ez
theorem Sto.field {F : Fr} {H0 H H1 : Hp} {ρ : Rho} {σ : L2.St} {S R : Nat → List Addr} {i : Nat} {C : Nat} {h t v h' t' : D} {y x1 y1 x' y' : V} {a dx : Addr} {A B S1 S2 R1 R2 S1' S2' R1' R2' : List Addr} (st : Sto X.K F H0 Γ ρ σ H S R) (s1 : Same H H1) (hΓ : Γ.getD i 0 = 99)
    (hi : ρ[i]? = some (some (.ins C h t))) (hx : σ[i]? = some (some (.ref a))) (qa : H a = some (.ins C dx [("house", x1), ("table", y1)])) (qd : H dx = some (.own a)) (eS : S i = a :: (S1 ++ S2)) (eR : R i = dx :: (R1 ++ R2))
    (hv : Dat X.K H1 v 98 y A B) (vB : ∀ b ∈ B, ¬ Av F S b) (nA : New H A B)
    (hh : ∃ (So Ro : List Addr) (d : D) (w : V), Dat X.K H d 98 w So Ro ∧ (∀ b ∈ So, b ∈ S1 ++ S2) ∧ So.Nodup ∧ (∀ b ∈ Ro, b ∈ R1 ++ R2) ∧
      ((h' = v ∧ x' = y ∧ S1' = A ∧ R1' = B ∧ t' = d ∧ y' = w ∧ S2' = So ∧ R2' = Ro) ∨ (t' = v ∧ y' = y ∧ S2' = A ∧ R2' = B ∧ h' = d ∧ x' = w ∧ S1' = So ∧ R1' = Ro))) :
    ∃ S' R', Sto X.K F H0 Γ (ρ.set i (some (.ins C h' t'))) σ (L2.upd H1 a (.ins C dx [("house", x'), ("table", y')])) S' R' ∧ Keep S H (L2.upd H1 a (.ins C dx [("house", x'), ("table", y')])) ∧ Grow S H S' := by
  have aS : a ∈ S i := by rw [eS]; exact List.mem_cons_self
  have inS : ∀ b ∈ S1 ++ S2, b ∈ S i := fun b hb => by rw [eS]; exact List.mem_cons_of_mem _ hb
  have inR : ∀ b ∈ R1 ++ R2, b ∈ R i := fun b hb => by rw [eR]; exact List.mem_cons_of_mem _ hb
  have dR : dx ∈ R i := by rw [eR]; exact List.mem_cons_self
  have ndS := st.nd i
  rw [eS] at ndS
  have aN : a ∉ S1 ++ S2 := (List.nodup_cons.mp ndS).1
  have adx : a ≠ dx := fun z => by rw [← z, qa] at qd; cases qd
  have aA : a ∉ A := fun z => by have := (nA.2 a z).1; rw [qa] at this; cases this
  have aB : a ∉ B := fun z => vB a z (.inr ⟨i, aS⟩)
  have aR : a ∉ R1 ++ R2 := fun z => st.rs i i a (inR a z) aS
  have stay : ∀ (So Ro : List Addr), a ∉ So → a ∉ Ro → Stay H1 (L2.upd H1 a (.ins C dx [("house", x'), ("table", y')])) So Ro := fun So Ro h1 h2 => by
    have e1 := s1 a _ qa
    have ne : ∀ {b o}, H1 b = some o → (∀ c d f, o ≠ .ins c d f) → b ≠ a := fun {b o} q hn z => by rw [z, e1] at q; cases q; exact hn _ _ _ rfl
    exact ⟨fun b xs q => by rw [upd_ne (ne q fun _ _ _ z => nomatch z)]; exact q, fun b o xs q => by rw [upd_ne (ne q fun _ _ _ z => nomatch z)]; exact q, fun b o xs q => by rw [upd_ne (ne q fun _ _ _ z => nomatch z)]; exact q,
      fun b hb o q => by rw [upd_ne (fun z => h1 (by rw [← z]; exact hb))]; exact q, fun b hb o q => by rw [upd_ne (fun z => h2 (by rw [← z]; exact hb))]; exact q⟩
  obtain ⟨So, Ro, d, w, gd, hSo, ndSo, hRo, hcase⟩ := hh
  have gv := Dat.stay _ _ _ _ _ (stay A B aA aB) hv
  have gd := Dat.stay _ _ _ _ _ (stay So Ro (fun z => aN (hSo a z)) (fun z => aR (hRo a z))) (gd.same s1)
  have hnew : ∀ b ∈ A, b ∉ So := fun b hb z => st.domS i b (inS b (hSo b z)) (nA.2 b hb).1
  have fin : ∀ (P Q' : List Addr), Dat X.K (L2.upd H1 a (.ins C dx [("house", x'), ("table", y')])) (.ins C h' t') 99 (.ref a) (a :: P) (dx :: Q') → P.Nodup → (∀ b ∈ P, b ∈ A ∨ b ∈ So) → (∀ b ∈ Q', b ∈ B ∨ b ∈ Ro) →
      ∃ S' R', Sto X.K F H0 Γ (ρ.set i (some (.ins C h' t'))) σ (L2.upd H1 a (.ins C dx [("house", x'), ("table", y')])) S' R' ∧ Keep S H (L2.upd H1 a (.ins C dx [("house", x'), ("table", y')])) ∧ Grow S H S' := fun P Q' g ndP hP hQ => by
    refine st.swap hi hx (fun c u e hn => ?_) g hΓ (List.nodup_cons.mpr ⟨fun z => ?_, ndP⟩) (fun b hb => ?_) (fun b hb hbq => ?_) (fun b hb z => ?_) (fun b hb z => ?_) (fun b hb j hj z => ?_)
    · rw [upd_ne (fun z => hn (by rw [z]; exact aS))]; exact s1 c u e
    · rcases hP a z with z | z
      · exact aA z
      · exact aN (hSo a z)
    · rcases List.mem_cons.mp hb with rfl | hb
      · exact .inr aS
      · rcases hP b hb with z | z
        · exact .inl (nA.2 b z).1
        · exact .inr (inS b (hSo b z))
    · rcases List.mem_cons.mp hbq with rfl | hbq
      · rcases List.mem_cons.mp hb with z | hb
        · exact adx z.symm
        · rcases hP _ hb with z | z
          · have := (nA.2 _ z).1
            rw [qd] at this; cases this
          · exact st.rs i i _ dR (inS _ (hSo _ z))
      · rcases List.mem_cons.mp hb with rfl | hb
        · rcases hQ _ hbq with z | z
          · exact aB z
          · exact aR (hRo _ z)
        · rcases hP b hb with z | z
          · rcases hQ b hbq with z' | z'
            · exact (nA.2 b z).2 z'
            · exact st.domR i b (inR b (hRo b z')) (nA.2 b z).1
          · rcases hQ b hbq with z' | z'
            · exact vB b z' (.inr ⟨i, inS b (hSo b z)⟩)
            · exact st.rs i i b (inR b (hRo b z')) (inS b (hSo b z))
    · rcases List.mem_cons.mp hb with rfl | hb
      · exact st.sf i _ aS z
      · rcases hP b hb with q | q
        · exact st.fd b z (nA.2 b q).1
        · exact st.sf i b (inS b (hSo b q)) z
    · rcases List.mem_cons.mp hb with rfl | hb
      · exact st.rf i _ dR z
      · rcases hQ b hb with q | q
        · exact vB b q (.inl z)
        · exact st.rf i b (inR b (hRo b q)) z
    · rcases List.mem_cons.mp hb with rfl | hb
      · exact st.rs i j _ dR z
      · rcases hQ b hb with q | q
        · exact vB b q (.inr ⟨j, z⟩)
        · exact st.rs i j b (inR b (hRo b q)) z
  have qd1 : L2.upd H1 a (.ins C dx [("house", x'), ("table", y')]) dx = some (.own a) := by rw [upd_ne (Ne.symm adx)]; exact s1 dx _ qd
  rcases hcase with ⟨rfl, rfl, rfl, rfl, rfl, rfl, rfl, rfl⟩ | ⟨rfl, rfl, rfl, rfl, rfl, rfl, rfl, rfl⟩
  · refine fin (S1' ++ S2') (R1' ++ R2') ?_ (List.nodup_append.mpr ⟨nA.1, ndSo, fun b hb c hc z => by subst z; exact hnew b hb hc⟩) (fun b hb => List.mem_append.mp hb) (fun b hb => List.mem_append.mp hb)
    unfold Dat
    exact ⟨a, dx, _, _, S1', S2', R1', R2', rfl, upd_same, qd1, rfl, rfl, gv, gd⟩
  · refine fin (S1' ++ S2') (R1' ++ R2') ?_ (List.nodup_append.mpr ⟨ndSo, nA.1, fun b hb c hc z => by subst z; exact hnew b hc hb⟩) (fun b hb => (List.mem_append.mp hb).symm) (fun b hb => (List.mem_append.mp hb).symm)
    unfold Dat
    exact ⟨a, dx, _, _, S1', S2', R1', R2', rfl, upd_same, qd1, rfl, rfl, gd, gv⟩
theorem rs_house {i : Nat} (c : Cls X.K DeskAt.C) (na : NoAttr X.K DeskAt.C "house") (ho : PE X o (tVar i)) (he : RE X W Γ 98 true value m) (hΓ : Γ.getD i 0 = 99 := by rfl) (hs : swapsWith value (some (.Attribute o "house" pos')) pos.line X.env = pure false := by rfl) :
    RS X W n Γ Γ (.Assign [.Attribute o "house" pos'] value pos) (sHouse i m) := by
  obtain ⟨t, p, q⟩ := he
  refine ⟨_, ps_fld ho p hs, fun F H0 ρ σ H S R E st po => ?_⟩
  unfold sHouse at po
  cases ei : ρ[i]? with
  | none => rw [ei] at po; exact po.elim
  | some oi =>
    rw [ei] at po
    cases oi with
    | none => exact po.elim
    | some d0 =>
      cases d0 with
      | ins C hh tt =>
        dsimp only at po
        by_cases hC : C = DeskAt.C
        case neg => rw [if_neg hC] at po; exact po.elim
        rw [if_pos hC] at po
        subst hC
        refine q F H0 ρ σ H S R _ st (PostE.iff.mpr ((PostS.ofR st po).imp fun d _ po => ?_))
        intro y H1 A B s1 d1 v1 f1
        obtain ⟨x0, hx0, g0⟩ := st.slot i _ ei
        rw [hΓ] at g0
        simp only [Dat] at g0
        obtain ⟨a, dx, x1, y1, S1, S2, R1, R2, rfl, qa, qd, eS, eR, h1, h2⟩ := g0
        have ndS := st.nd i
        rw [eS] at ndS
        have nd2 := (List.nodup_append.mp (List.nodup_cons.mp ndS).2).2.1
        obtain ⟨S', R', st2, kp, gr⟩ := st.field (h' := d) (t' := tt) (x' := y) (y' := y1) s1 hΓ ei hx0 qa qd eS eR d1 v1 (f1 rfl) ⟨S2, R2, tt, y1, h2, fun b hb => List.mem_append_right _ hb, nd2, fun b hb => List.mem_append_right _ hb, .inl ⟨rfl, rfl, rfl, rfl, rfl, rfl, rfl, rfl⟩⟩
        exact ⟨.ref a, hx0, a, _, dx, _, rfl, s1 a _ qa, c, na, by simp, po σ _ S' R' st2 kp gr⟩
      | _ => exact po.elim
theorem rs_table {i : Nat} (c : Cls X.K DeskAt.C) (na : NoAttr X.K DeskAt.C "table") (ho : PE X o (tVar i)) (he : RE X W Γ 98 true value m) (hΓ : Γ.getD i 0 = 99 := by rfl) (hs : swapsWith value (some (.Attribute o "table" pos')) pos.line X.env = pure false := by rfl) :
    RS X W n Γ Γ (.Assign [.Attribute o "table" pos'] value pos) (sTable i m) := by
  obtain ⟨t, p, q⟩ := he
  refine ⟨_, ps_fld ho p hs, fun F H0 ρ σ H S R E st po => ?_⟩
  unfold sTable at po
  cases ei : ρ[i]? with
  | none => rw [ei] at po; exact po.elim
  | some oi =>
    rw [ei] at po
    cases oi with
    | none => exact po.elim
    | some d0 =>
      cases d0 with
      | ins C hh tt =>
        dsimp only at po
        by_cases hC : C = DeskAt.C
        case neg => rw [if_neg hC] at po; exact po.elim
        rw [if_pos hC] at po
        subst hC
        refine q F H0 ρ σ H S R _ st (PostE.iff.mpr ((PostS.ofR st po).imp fun d _ po => ?_))
        intro y H1 A B s1 d1 v1 f1
        obtain ⟨x0, hx0, g0⟩ := st.slot i _ ei
        rw [hΓ] at g0
        simp only [Dat] at g0
        obtain ⟨a, dx, x1, y1, S1, S2, R1, R2, rfl, qa, qd, eS, eR, h1, h2⟩ := g0
        have ndS := st.nd i
        rw [eS] at ndS
        have nd1 := (List.nodup_append.mp (List.nodup_cons.mp ndS).2).1
        obtain ⟨S', R', st2, kp, gr⟩ := st.field (h' := hh) (t' := d) (x' := x1) (y' := y) s1 hΓ ei hx0 qa qd eS eR d1 v1 (f1 rfl) ⟨S1, R1, hh, x1, h1, fun b hb => List.mem_append_left _ hb, nd1, fun b hb => List.mem_append_left _ hb, .inr ⟨rfl, rfl, rfl, rfl, rfl, rfl, rfl, rfl⟩⟩
        exact ⟨.ref a, hx0, a, _, dx, _, rfl, s1 a _ qa, c, na, by simp, po σ _ S' R' st2 kp gr⟩
      | _ => exact po.elim
end
def spInit [DeskAt] : Sp := fun vs H Q _ => ∃ x dx, vs = [.ref x] ∧ H x = some (.ins DeskAt.C dx []) ∧ Q .non (L2.upd H x (.ins DeskAt.C dx [("house", .non), ("table", .non)]))
structure DeskG [DeskAt] (P : Program) (w : World) (K : PySem.W.Frag) (mg : Str → Option Value) (base : Heap) (k : Nat) : Prop where
  make : ∃ (f : Addr) (fd : FuncData), Mk K DeskAt.C f ∧ FnOk P w K mg base (L2.CX P w) k f fd ["self"] spInit ∧ Binds K fd ["self"] []
  mg : mg "Desk" = some (.ref DeskAt.C)
  cls : Cls K DeskAt.C
  h : NoAttr K DeskAt.C "house"
  t : NoAttr K DeskAt.C "table"
theorem DeskG.mono [DeskAt] {P : Program} {w : World} {K : PySem.W.Frag} {mg : Str → Option Value} {base : Heap} {j k : Nat} (h : DeskG P w K mg base j) (hk : j ≤ k) : DeskG P w K mg base k := by
  obtain ⟨f, fd, M, F, b⟩ := h.make
  exact ⟨⟨f, fd, M, F.mono hk, b⟩, h.mg, h.cls, h.h, h.t⟩
section
variable [DeskAt] {X : Cx} {W : WX} {Γ : List Nat} {n k i : Nat} {x : Str} {p pos pos' pos2 : Pos}
theorem rs_desk (G : DeskG X.prog X.w X.K X.mg X.base k) (hr : Room (k + 1) X.A) (hN : X.N.Nodup) (hx : Loc X.env.scope x) (hi : X.N[i]? = some x := by rfl) (hl : i < Γ.length := by decide) (hp : Γ.getD i 0 ≠ 99 := by decide) (hg : Gl X "Desk" := by rfl)
    (hs : swapsWith (.Call (.Name "Desk" p) [] [] pos) (some (.Name x pos')) pos2.line X.env = pure false := by rfl) (hf : X.fn x = true ∨ X.env.scope.names.lookup x = some .local := by first | exact .inl rfl | exact .inr rfl | assumption) {Γ1 : List Nat} (hΓ : Γ.set i 99 = Γ1 := by rfl) :
    RS X W n Γ Γ1 (.Assign [.Name x pos'] (.Call (.Name "Desk" p) [] [] pos) pos2) (sDesk i) := by
  subst hΓ
  obtain ⟨f, fd, M, Fi, b⟩ := G.make
  refine ⟨_, ps_set hN hi hx (pe_make0 (ds := []) (dvs := []) (E := fun _ _ _ => False) M Fi hr hg G.mg b .nil (fun pins σ H s e s' I c => by
    obtain ⟨_, _, _, _, _, _, _, _, _, _, _, _, z⟩ := c
    exact z.elim) (by decide)) hs hf, fun F H0 ρ σ H S R E st po => ?_⟩
  intro y dx hy hdx hne
  refine ⟨y, dx, rfl, upd_same, rfl, ?_⟩
  rw [upd_upd]
  have sm : Same H (L2.upd (L2.upd H dx (.own y)) y (.ins DeskAt.C dx [("house", .non), ("table", .non)])) := fun c u e => by
    rw [upd_ne (fun z => by rw [z, hy] at e; cases e), upd_ne (fun z => by rw [z, hdx] at e; cases e)]; exact e
  have st1 := st.grow sm
  have g : Dat X.K (L2.upd (L2.upd H dx (.own y)) y (.ins DeskAt.C dx [("house", .non), ("table", .non)])) (.ins DeskAt.C .non .non) 99 (.ref y) [y] [dx] := by
    unfold Dat
    exact ⟨y, dx, .non, .non, [], [], [], [], rfl, upd_same, by rw [upd_ne hne]; exact upd_same, rfl, rfl, dat_of_non 98, dat_of_non 98⟩
  obtain ⟨S', R', st2, gr⟩ := st1.set (i := i) (n := 99) (.inl hl) g (fun a ha z => by
    rw [List.mem_singleton.mp ha] at z
    exact st.avd dx z hdx) (by simp) (fun a ha => by rw [List.mem_singleton.mp ha]; exact st.same.free hy) (fun a ha z => by rw [List.mem_singleton.mp ha] at z; exact st.fd y z hy) (fun a ha j hj => by rw [List.mem_singleton.mp ha] at hj; exact st.domS j y hj hy) (fun a ha j hj => by rw [List.mem_singleton.mp ha] at hj; exact st.domR j y hj hy) (fun a ha hb => by
    rw [List.mem_singleton.mp ha] at hb
    exact hne (List.mem_singleton.mp hb).symm) hp
  refine po _ _ S' R' st2 (Keep.of_same sm) fun j a ha => ?_
  rcases gr j a ha with z | z
  · exact .inl ⟨j, z⟩
  · rw [List.mem_singleton.mp z]; exact .inr hy
end
section
variable {X : Cx} {CX : CXT} {k : Nat} {f C : Addr} {fd : FuncData} {ps : List Str} {sp : Sp} {E : L2.St → XK} {m : Str} {pos apos : Pos} {e o : Expr} {es : List Expr} {ta : TE} {t : TA}
def tMethS (C : Addr) (m : Str) (sp : Sp) (E : L2.St → XK) (ta : TE) (t : TA) : TE := fun σ H Q => ta σ H fun x H1 => ∃ a dx fs, x = .ref a ∧ H1 a = some (.ins C dx fs) ∧ fs.lookup m = none ∧ t σ H1 fun vs H2 => sp (x :: vs) H2 Q (E σ)
theorem pe_methS {pl : Sem Bool} (he : PE X o ta) (c : Cls X.K C) (hm : Meth X.K C m f) (F : FnOk X.prog X.w X.K X.mg X.base CX k f fd ps sp) (hr : Room k X.A) (hb : Binds X.K fd ps []) (hx : ∀ σ, PassesAt CX X σ (E σ)) (ha : PA X (e :: es) t)
    (hst : starEach (e :: es) X.env = (false, eval e X.env) :: starEach es X.env := by rfl) (hpl : (backTo pos (starEach es X.env)).any (·.1) = false := by rfl)
    (ht : eval (.Call (.Attribute o m apos) (e :: es) [] pos) X.env = (do
      let ov ← eval o X.env
      standAt apos.atName
      let (f, first) ← holding [ov] (getMethod ov m pl)
      callWith pos f first (backTo pos (starEach (e :: es) X.env)) (backToKw pos (keywordEach [] X.env))) := by rfl) :
    PE X (.Call (.Attribute o m apos) (e :: es) [] pos) (tMethS C m sp E ta t) := by
  refine ⟨fun pins s σ H Q I h => ?_⟩
  refine PySem.W.methodCall_KW (pl := pl) (thn (he.run pins s σ H _ I h) fun u s1 ⟨x, H1, I1, rx, a, dx, fs, ex, ea, l, q⟩ => ?_) ht
  subst ex
  obtain rfl : u = Value.ref a := rx
  refine getmeth_ok I1 ea c hm l ?_
  refine PySem.W.callWith_K (first := [.ref a]) (h₀ := X.base) I.ok.mod.kin hm.kp (thn (ha.run pos pins s1 σ H1 _ I1 q) fun us s2 ⟨vs, H2, I2, r, q2⟩ => ⟨I2.kIn, ?_⟩) hst hpl
  exact run_fnS (us := .ref a :: us) (vs := .ref a :: vs) F hr hb (hx σ) I2 (.cons rfl r) q2
end
structure SayG [DeskAt] (P : Program) (w : World) (K : PySem.W.Frag) (mg : Str → Option Value) (base : Heap) (k : Nat) (Γ : List Nat) (m : List D → Res D) : Prop where
  ex : ∃ (f : Addr) (fd : FuncData), FnOk P w K mg base (L2.CX P w) k f fd ["self", "row"] (spI K mg Γ 2 m) ∧ Meth K DeskAt.C "say" f ∧ Binds K fd ["self", "row"] []
  cls : Cls K DeskAt.C
theorem SayG.mono [DeskAt] {P : Program} {w : World} {K : PySem.W.Frag} {mg : Str → Option Value} {base : Heap} {j k : Nat} {Γ : List Nat} {m : List D → Res D} (h : SayG P w K mg base j Γ m) (hk : j ≤ k) : SayG P w K mg base k Γ m := by
  obtain ⟨f, fd, F, r⟩ := h.ex
  exact ⟨⟨f, fd, F.mono hk, r⟩, h.cls⟩
section
variable [DeskAt] {X : Cx} {W : WX} {Γ : List Nat}
theorem rei_say {kf i : Nat} {Γf : List Nat} {o e : Expr} {apos pos : Pos} {pl : Sem Bool} {m : List D → Res D} {me : Rho → Res D} (G : SayG X.prog X.w X.K X.mg X.base kf Γf m) (hr : Room kf X.A) (tk : Takes X W) (hv : PE X o (tVar i)) (he : RE X W Γ 0 true e me)
    (hk : Γ.getD i 0 = 99 := by rfl) (hΓ : Γf.getD 0 0 = 99 := by rfl) (hz : ∀ j, Γf.getD (j + 1) 0 = 0 := by intro j; match j with | 0 => rfl | 1 => rfl | 2 => rfl | 3 => rfl | 4 => rfl | 5 => rfl | 6 => rfl | 7 => rfl | 8 => rfl | 9 => rfl | 10 => rfl | 11 => rfl | 12 => rfl | 13 => rfl | 14 => rfl | 15 => rfl | _ + 16 => rfl)
    (hst : starEach (e :: []) X.env = (false, eval e X.env) :: starEach [] X.env := by rfl) (hpl : (backTo pos (starEach [] X.env)).any (·.1) = false := by rfl)
    (ht : eval (.Call (.Attribute o "say" apos) (e :: []) [] pos) X.env = (do
      let ov ← eval o X.env
      standAt apos.atName
      let (f, first) ← holding [ov] (getMethod ov "say" pl)
      callWith pos f first (backTo pos (starEach (e :: []) X.env)) (backToKw pos (keywordEach [] X.env))) := by rfl) :
    REI X W Γ (.Call (.Attribute o "say" apos) [e] [] pos) (iMeth i m me) := by
  obtain ⟨f, fd, Fo, hm, hb⟩ := G.ex
  obtain ⟨la, ta, pa, qa⟩ := ra_cons he ra_nil hst
  refine ⟨_, pe_methS (pos := pos) (apos := apos) hv G.cls hm Fo hr hb (fun σ => passAt tk σ) pa hst hpl ht, fun F H0 ρ σ H S R Q st po => ?_⟩
  unfold iMeth at po
  cases ei : ρ[i]? with
  | none => rw [ei] at po; exact po.elim
  | some oi =>
    rw [ei] at po
    cases oi with
    | none => exact po.elim
    | some d0 =>
      cases d0 with
      | ins C h t =>
        dsimp only at po
        by_cases hC : C = DeskAt.C
        case neg => rw [if_neg hC] at po; exact po.elim
        rw [if_pos hC] at po
        subst hC
        obtain ⟨x0, hx0, g0⟩ := st.slot i _ ei
        rw [hk] at g0
        have g1 := g0
        simp only [Dat] at g1
        obtain ⟨a, dx, x1, y1, S1, S2, R1, R2, rfl, qa', qd, eS, eR, h1, h2⟩ := g1
        exact ⟨.ref a, hx0, a, dx, _, rfl, qa', rfl, io_core la qa hk (.inl rfl) hΓ hz rfl st ei hx0 g0 po⟩
      | _ => exact po.elim
def RTI (X : Cx) (W : WX) (Γ : List Nat) (e : Expr) (m : Rho → OutI) : Prop :=
  ∃ t, PT X e t ∧ ∀ F H0 ρ σ H S R (Q : Bool → Hp → Prop), Sto X.K F H0 Γ ρ σ H S R → PostI X W F H0 Γ S H σ (fun x H' => ∃ b, x = .bl b ∧ Q b H') (m ρ) → t σ H Q
def i2 (g : D → D → Option D) (ma : Rho → OutI) (mb : Rho → Res D) : Rho → OutI := fun ρ => match ma ρ with
  | .ok v ρ' => if v.flat = true then (match mb ρ' with
    | .ok e => (match g v e with
      | some z => .ok z ρ'
      | none => .stuck)
    | .exn c => .exn c ρ'
    | .stuck => .stuck) else .stuck
  | .exn c ρ' => .exn c ρ'
  | .stuck => .stuck
theorem i2_run {r : R2} {g : D → D → Option D} {ta tb : TE} {ma : Rho → OutI} {mb : Rho → Res D} (hv : BinF X.K r g)
    (qa : ∀ F H0 ρ σ H S R Q, Sto X.K F H0 Γ ρ σ H S R → PostI X W F H0 Γ S H σ Q (ma ρ) → ta σ H Q) (qb : ∀ F H0 ρ σ H S R Q, Sto X.K F H0 Γ ρ σ H S R → PostE X W (Av F S) 0 true σ H Q (mb ρ) → tb σ H Q)
    {F : Fr} {H0 : Hp} {ρ : Rho} {σ : L2.St} {H : Hp} {S R : Nat → List Addr} {Q : VK} (st : Sto X.K F H0 Γ ρ σ H S R) (po : PostI X W F H0 Γ S H σ Q (i2 g ma mb ρ)) : tOp r ta tb σ H Q := by
  refine qa F H0 ρ σ H S R _ st ?_
  unfold i2 at po
  cases ea : ma ρ with
  | stuck => rw [ea] at po; exact po.elim
  | exn c ρ' => rw [ea] at po; exact po
  | ok v ρ' =>
    rw [ea] at po
    dsimp only at po
    by_cases hf : v.flat = true
    case neg => rw [if_neg hf] at po; exact po.elim
    rw [if_pos hf] at po
    refine ⟨hf, fun x H1 S1 R1 d1 st1 kp gr => ?_⟩
    refine qb F H0 ρ' σ H1 S1 R1 _ st1 ?_
    cases eb : mb ρ' with
    | stuck => rw [eb] at po; exact po.elim
    | exn c =>
      rw [eb] at po
      exact fun C H' hc s1 => po C H' S1 R1 hc (st1.grow s1) (kp.trans gr (Keep.of_same s1)) (gr.trans kp (fun i a h => .inl ⟨i, h⟩))
    | ok e =>
      rw [eb] at po
      dsimp only at po
      intro y H2 A B s2 d2 v2 _
      obtain rfl : A = [] := Dat.noS d2
      cases ez : g v e with
      | none => rw [ez] at po; exact po.elim
      | some z =>
        rw [ez] at po
        refine hv x y v e z H2 [] B Q (d1.same s2) d2 ez fun fz w dw => ?_
        exact po.2 w H2 S1 R1 (dw 0) (st1.grow s2) (kp.trans gr (Keep.of_same s2)) (gr.trans kp (fun i a h => .inl ⟨i, h⟩))
theorem rti_cmp {op : CmpOp} {r : R2} {g : D → D → Option D} {a b : Expr} {pos : Pos} {ma : Rho → OutI} {mb : Rho → Res D} (ho : OpR X (compareOp op) r) (hv : BinF X.K r g) (hm : behindInMarks op b = false) (ha : REI X W Γ a ma) (hb : RE X W Γ 0 true b mb) : RTI X W Γ (.Compare a [op] [b] pos) (i2 g ma mb) := by
  obtain ⟨ta, pa, qa⟩ := ha
  obtain ⟨tb, pb, qb⟩ := hb
  exact ⟨_, pt_cmpR ho pa pb hm, fun F H0 ρ σ H S R Q st po => i2_run hv qa qb st po⟩
theorem rti_ne {a b : Expr} {pos : Pos} {ma : Rho → OutI} {mb : Rho → Res D} (hu : X.A.units + 64 < cLine) (ha : REI X W Γ a ma) (hb : RE X W Γ 0 true b mb) : RTI X W Γ (.Compare a [.NotEq] [b] pos) (i2 gNe ma mb) := rti_cmp (op_neD hu) bf_ne (nomark _) ha hb
def sIfI (c : Rho → OutI) (a b : Rho → Out) : Rho → Out := fun ρ => (c ρ).out fun v ρ' => match v with
  | .bl true => a ρ'
  | .bl false => b ρ'
  | _ => .stuck
theorem rs_ifI {n : Nat} {Γ1 : List Nat} {c : Expr} {a b : List Stmt} {pos : Pos} {mc : Rho → OutI} {ma mb : Rho → Out} (hc : RTI X W Γ c mc) (ha : RSs X W n Γ Γ1 a ma) (hb : RSs X W n Γ Γ1 b mb) : RS X W n Γ Γ1 (.If c a b pos) (sIfI mc ma mb) := by
  obtain ⟨tc, pc, qc⟩ := hc
  obtain ⟨ta, pa, qa⟩ := ha
  obtain ⟨tb, pb, qb⟩ := hb
  refine ⟨_, ps_if pc pa pb, fun F H0 ρ σ H S R E st po => ?_⟩
  refine qc F H0 ρ σ H S R _ st (PostS.ofI po fun v ρ' ev => ?_)
  unfold sIfI at po
  rw [ev] at po
  unfold OutI.out at po
  dsimp only at po
  cases v with
  | bl k =>
    refine ⟨rfl, fun y H1 S1 R1 d1 st1 kp gr => ⟨k, dat_bl d1, ?_⟩⟩
    cases k with
    | true => exact iteT (qa F H0 ρ' σ H1 S1 R1 E st1 (PostS.later po kp gr))
    | false => exact iteF (qb F H0 ρ' σ H1 S1 R1 E st1 (PostS.later po kp gr))
  | _ => exact po.elim
end
def clsS (s : Stmt) (j : Nat) : Stmt := match s with
  | .ClassDef _ _ _ body _ _ _ _ _ _ _ => body.getD j (.Pass ⟨0, 0, 0, 0⟩)
  | _ => .Pass ⟨0, 0, 0, 0⟩
theorem rss_dead {X : Cx} {W : WX} {n : Nat} {Γ Γ' : List Nat} {sts : List Stmt} : RSs X W n Γ Γ' sts sDead :=
  ⟨fun _ _ _ => False, ⟨fun _ _ _ _ _ _ h => h.elim⟩, fun _ _ _ _ _ _ _ _ _ h => h⟩
theorem rt_frzP {X : Cx} {W : WX} {Γ : List Nat} {e : Expr} {m : Rho → Res Bool} (i : Nat) (h : RT X W (Γ.set i 0) e m) (hi : i < Γ.length := by decide) : RT X W Γ e m := by
  obtain ⟨t, p, q⟩ := h
  refine ⟨t, p, fun F H0 ρ σ H S R Q st po => ?_⟩
  obtain ⟨S', R', st', sub⟩ := st.frzP i hi
  exact q F.un H0 ρ σ H S' R' Q st' po
def CstT (K : PySem.W.Frag) (mg : Str → Option Value) (x : Str) (ss : List Str) : Prop := ∃ (a : Addr) (o : Obj) (its : Array Value) (n : Nat), mg x = some (.ref a) ∧ K.lookup a = some o ∧ o.cls = .type "tuple" ∧ o.data = .seq its n ∧ its.size ≤ sizeLine ∧ Vals (ss.map V.str) its.toList
def gNinS (ss : List Str) : D → Option D
  | .str z => some (.bl (!ss.any (· == z)))
  | _ => none
section
variable {X : Cx} {W : WX} {Γ : List Nat} {n : Nat} {a : Expr} {x : Str} {p pos : Pos} {ma : Rho → Res D} {ss : List Str}
theorem bf_ninS {K : PySem.W.Frag} {mg : Str → Option Value} (h : CstT K mg x ss) : ∃ b : Addr, mg x = some (.ref b) ∧ ∀ (d z : D) (y : V) (H : Hp) (B : List Addr) (Q : VK), Dat K H d 0 y [] B → gNinS ss d = some z → (z.flat = true → ∀ v, (∀ k, Dat K H z k v [] []) → Q v H) → rIn K true y (.ref b) H Q := by
  obtain ⟨b, o, its, m, h1, h2, h3, h4, h5, h6⟩ := h
  refine ⟨b, h1, fun d z y H B Q hd ez q => ?_⟩
  cases d with
  | str s =>
    cases ez
    refine ⟨b, ss.map V.str, rfl, .inr (.inr ⟨o, its, m, h2, h3, h4, h5, h6⟩), by rw [dat_str hd]; rfl, all_flat_strs ss, ?_⟩
    rw [dat_str hd, inV_str]
    exact q rfl _ dat_of_bl
  | _ => cases ez
theorem rt_ninG (h : CstT X.K X.mg x ss) (ha : RE X W Γ 0 true a ma) (hg : Gl X x := by rfl) (hd : (x == ("__debug__" : Str)) = false := by decide) (hm : behindInMarks .NotIn (.Name x p) = false := by rfl) : RT X W Γ (.Compare a [.NotIn] [.Name x p] pos) (mT (m1 (gNinS ss) ma)) := by
  obtain ⟨b, hb, f⟩ := bf_ninS h
  obtain ⟨ta, pa, qa⟩ := ha
  refine ⟨_, pt_cmpR op_notIn_seq pa (pe_glob (v := .ref b) hg hb rfl hd) hm, fun F H0 ρ σ H S R Q st po => ?_⟩
  unfold mT at po
  refine qa F H0 ρ σ H S R _ st (PostE.iff.mpr ?_)
  have po := (PostT.iff.mp po).bind
  unfold m1 at po
  refine po.bind.imp fun d _ po => ?_
  intro y H1 A B s1 d1 _ _
  obtain rfl : A = [] := Dat.noS d1
  cases ez : gNinS ss d with
  | none => rw [ez] at po; exact po.elim
  | some z =>
    rw [ez] at po
    show rIn X.K true y (V.ref b) H1 (fun x H' => ∃ k, x = .bl k ∧ Q k H')
    refine f d z y H1 B _ d1 ez fun fz v dv => ?_
    cases z with
    | bl c => exact ⟨c, dat_bl (dv 0), po H1 s1⟩
    | _ => exact po.elim
end
end TW
-- TWDefs
namespace TW
open PySem PySem.Spec PyProof.Rows L2
def b__law_cell : Rho → Out := sSeq (sIf (mT (m2 gLt (mVar 1) (mL gLen (mA1 (mVar 0) (mA0))))) (sRet (m2 gIx (mVar 0) (mVar 1))) (sNil)) (sRet (mC (.int 0)))
def m__law_cell : List D → Res D := callM 2 b__law_cell
def b__law_number : Rho → Out := sSeq (sIf (mT (m2 gEq (m2 gMod (mVar 0) (mC (.int 4))) (mC (.int 0)))) (sRet (m2 gSub (m2 gMod (m2 gDiv (mVar 0) (mC (.int 4))) (mC (.int 19))) (mC (.int 9)))) (sNil)) (sSeq (sIf (mT (m2 gEq (m2 gMod (mVar 0) (mC (.int 4))) (mC (.int 1)))) (sRet (m2 gSub (m2 gMod (m2 gDiv (mVar 0) (mC (.int 4))) (mC (.int 3))) (mC (.int 1)))) (sNil)) (sSeq (sIf (mT (m2 gEq (m2 gMod (mVar 0) (mC (.int 4))) (mC (.int 2)))) (sRet (m2 gSub (m2 gMod (m2 gDiv (mVar 0) (mC (.int 4))) (m2 gMul (mC (.int 2)) (m2 gPow (mC (.int 10)) (mC (.int 18))))) (m2 gPow (mC (.int 10)) (mC (.int 18))))) (sNil)) (sRet (m2 gSub (m2 gMod (m2 gDiv (mVar 0) (mC (.int 4))) (m2 gAdd (m2 gMul (mC (.int 2)) (mVar 1)) (mC (.int 1)))) (mVar 1)))))
def m__law_number : List D → Res D := callM 2 b__law_number
def b_is_name : Rho → Out := sSeq (sIf (tOrM (tNotM (mT (m1 (gIsi "str") (mVar 0)))) (tNotM (mT (mChain gLe gLe (mC (.int 1)) (mL gLen (mA1 (mVar 0) (mA0))) (mC (.int 8)))))) (sRet (mC (.bl false))) (sNil)) (sSeq (sFor (tgN 1) (iAny (mVar 0)) (sIf (mT (m2 gNin (mVar 1) (mC (.str "abcdefghijklmnopqrstuvwxyz")))) (sRet (mC (.bl false))) (sNil))) (sRet (mC (.bl true))))
def m_is_name : List D → Res D := callM 2 b_is_name
def b_is_worth : Rho → Out := sRet (mAnd (m1 (gIsi "int") (mVar 0)) (mAnd (m1 gNot (m1 (gIsi "bool") (mVar 0))) (mChain gLt gLt (m2 gSub (mC (.int 0)) (m2 gPow (mC (.int 10)) (mC (.int 60)))) (mVar 0) (m2 gPow (mC (.int 10)) (mC (.int 60))))))
def m_is_worth : List D → Res D := callM 1 b_is_worth
def b_are_worths : Rho → Out := sSeq (sIf (tOrM (tNotM (mT (m1 (gIsi "list") (mVar 0)))) (mT (m2 gNe (mL gLen (mA1 (mVar 0) (mA0))) (mVar 1)))) (sRet (mC (.bl false))) (sNil)) (sSeq (sFor (tgN 3) (iAny (mVar 0)) (sSeq (sIf (tOrM (tNotM (mT (m1 (gIsi "list") (mVar 3)))) (mT (m2 gNe (mL gLen (mA1 (mVar 3) (mA0))) (mVar 2)))) (sRet (mC (.bl false))) (sNil)) (sFor (tgN 4) (iAny (mVar 3)) (sIf (tNotM (mT (mArgs m_is_worth (mA1 (mVar 4) (mA0))))) (sRet (mC (.bl false))) (sNil))))) (sRet (mC (.bl true))))
def m_are_worths : List D → Res D := callM 5 b_are_worths
def b_are_names : Rho → Out := sSeq (sIf (tOrM (tNotM (mT (m1 (gIsi "list") (mVar 0)))) (tNotM (mT (mChain gLe gLe (mC (.int 1)) (mL gLen (mA1 (mVar 0) (mA0))) (mVar 1))))) (sRet (mC (.bl false))) (sNil)) (sSeq (sFor (tgN 2) (iAny (mVar 0)) (sIf (tNotM (mT (mArgs m_is_name (mA1 (mVar 2) (mA0))))) (sRet (mC (.bl false))) (sNil))) (sRet (m2 gEq (m1 gLenSetT (mVar 0)) (mL gLen (mA1 (mVar 0) (mA0))))))
def m_are_names : List D → Res D := callM 3 b_are_names
def b_is_hand : Rho → Out := sSeq (sIf (tOrM (tNotM (mT (m1 (gIsi "tuple") (mVar 0)))) (mT (m2 gNe (mL gLen (mA1 (mVar 0) (mA0))) (mC (.int 3))))) (sRet (mC (.bl false))) (sNil)) (sSeq (sIf (tOrM (tNotM (mT (mArgs m_is_name (mA1 (m2 gIx (mVar 0) (mC (.int 0))) (mA0))))) (tNotM (mT (mArgs m_are_names (mA1 (m2 gIx (mVar 0) (mC (.int 1))) (mA1 (mC (.int 8)) (mA0))))))) (sRet (mC (.bl false))) (sNil)) (sRet (mArgs m_are_worths (mA1 (m2 gIx (mVar 0) (mC (.int 2))) (mA1 (mL gLen (mA1 (m2 gIx (mVar 0) (mC (.int 1))) (mA0))) (mA1 (mVar 1) (mA0)))))))
def m_is_hand : List D → Res D := callM 2 b_is_hand
def b_holds (r_holds : List D → Res D) : Rho → Out := sSeq (sIf (mT (m1 (fun d => gIsN d .non) (mVar 0))) (sRet (mC (.bl true))) (sNil)) (sSeq (sSet 2 (m2 gIx (mVar 0) (mC (.int 0)))) (sSeq (sIf (mT (m2 gEq (mVar 2) (mC (.str "says")))) (sRet (m2 gEq (m2 gIx (mVar 1) (m2 gIx (mVar 0) (mC (.int 1)))) (m2 gIx (mVar 0) (mC (.int 2))))) (sNil)) (sSeq (sIf (mT (m2 gEq (mVar 2) (mC (.str "count")))) (sRet (m2 gGe (mMeth gCount (mVar 1) (m2 gIx (mVar 0) (mC (.int 2)))) (m2 gIx (mVar 0) (mC (.int 1))))) (sNil)) (sSeq (sIf (mT (m2 gEq (mVar 2) (mC (.str "not")))) (sRet (m1 gNot (mArgs r_holds (mA1 (m2 gIx (mVar 0) (mC (.int 1))) (mA1 (mVar 1) (mA0)))))) (sNil)) (sSeq (sIf (mT (m2 gEq (mVar 2) (mC (.str "and")))) (sRet (mAnd (mArgs r_holds (mA1 (m2 gIx (mVar 0) (mC (.int 1))) (mA1 (mVar 1) (mA0)))) (mArgs r_holds (mA1 (m2 gIx (mVar 0) (mC (.int 2))) (mA1 (mVar 1) (mA0)))))) (sNil)) (sRet (mOr (mArgs r_holds (mA1 (m2 gIx (mVar 0) (mC (.int 1))) (mA1 (mVar 1) (mA0)))) (mArgs r_holds (mA1 (m2 gIx (mVar 0) (mC (.int 2))) (mA1 (mVar 1) (mA0)))))))))))
def m_holds : Nat → List D → Res D
  | 0 => fun _ => .stuck
  | f + 1 => callM 3 (b_holds (m_holds f))
def b_word_at : Rho → Out := sSeq (sIf (mT (m2 gGe (mVar 1) (mL gLen (mA1 (mVar 0) (mA0))))) (sDead) (sNil)) (sRet (m2 gIx (mVar 0) (mVar 1)))
def m_word_at : List D → Res D := callM 2 b_word_at
def b_saying : Rho → Out := sSeq (sSet 3 (mArgs m_word_at (mA1 (mVar 1) (mA1 (m2 gAdd (mVar 2) (mC (.int 1))) (mA0))))) (sSeq (sSet 4 (mArgs m_word_at (mA1 (mVar 1) (mA1 (m2 gAdd (mVar 2) (mC (.int 2))) (mA0))))) (sSeq (sFor (tgT [5, 6]) (iEnumM (m2 gIx (mVar 0) (mC (.int 1)))) (sIf (tAndM (mT (m2 gEq (m2 gIx (mVar 6) (mC (.int 0))) (mVar 3))) (mT (m2 gIn (mVar 4) (m2 gIx (mVar 6) (mC (.int 1)))))) (sRet (mL gTup (mA1 (mL gTup (mA1 (mC (.str "says")) (mA1 (mVar 5) (mA1 (mVar 4) (mA0))))) (mA1 (m2 gAdd (mVar 2) (mC (.int 3))) (mA0))))) (sNil))) (sDead)))
def m_saying : List D → Res D := callM 7 b_saying
def b_counting : Rho → Out := sSeq (sSet 3 (mArgs m_word_at (mA1 (mVar 1) (mA1 (m2 gAdd (mVar 2) (mC (.int 1))) (mA0))))) (sSeq (sSet 4 (mArgs m_word_at (mA1 (mVar 1) (mA1 (m2 gAdd (mVar 2) (mC (.int 2))) (mA0))))) (sSeq (sIf (mT (m2 gNin (mVar 3) (mL gLst (mA1 (mC (.str "1")) (mA1 (mC (.str "2")) (mA1 (mC (.str "3")) (mA1 (mC (.str "4")) (mA0)))))))) (sDead) (sNil)) (sSeq (sFor (tgN 5) (iAny (m2 gIx (mVar 0) (mC (.int 1)))) (sIf (mT (m2 gIn (mVar 4) (m2 gIx (mVar 5) (mC (.int 1))))) (sRet (mL gTup (mA1 (mL gTup (mA1 (mC (.str "count")) (mA1 (mL gIntS (mA1 (mVar 3) (mA0))) (mA1 (mVar 4) (mA0))))) (mA1 (m2 gAdd (mVar 2) (mC (.int 3))) (mA0))))) (sNil))) (sDead))))
def m_counting : List D → Res D := callM 6 b_counting
def b_condition_at (r_condition_at : List D → Res D) : Rho → Out := sSeq (sSet 3 (mArgs m_word_at (mA1 (mVar 1) (mA1 (mVar 2) (mA0))))) (sSeq (sIf (mT (m2 gEq (mVar 3) (mC (.str "says")))) (sRet (mArgs m_saying (mA1 (mVar 0) (mA1 (mVar 1) (mA1 (mVar 2) (mA0)))))) (sNil)) (sSeq (sIf (mT (m2 gEq (mVar 3) (mC (.str "count")))) (sRet (mArgs m_counting (mA1 (mVar 0) (mA1 (mVar 1) (mA1 (mVar 2) (mA0)))))) (sNil)) (sSeq (sIf (mT (m2 gEq (mVar 3) (mC (.str "not")))) (sSeq (sAsg (tgT [4, 5]) (mArgs r_condition_at (mA1 (mVar 0) (mA1 (mVar 1) (mA1 (m2 gAdd (mVar 2) (mC (.int 1))) (mA0)))))) (sRet (mL gTup (mA1 (mL gTup (mA1 (mC (.str "not")) (mA1 (mVar 4) (mA0)))) (mA1 (mVar 5) (mA0)))))) (sNil)) (sSeq (sIf (tOrM (mT (m2 gEq (mVar 3) (mC (.str "and")))) (mT (m2 gEq (mVar 3) (mC (.str "or"))))) (sSeq (sAsg (tgT [4, 5]) (mArgs r_condition_at (mA1 (mVar 0) (mA1 (mVar 1) (mA1 (m2 gAdd (mVar 2) (mC (.int 1))) (mA0)))))) (sSeq (sAsg (tgT [6, 5]) (mArgs r_condition_at (mA1 (mVar 0) (mA1 (mVar 1) (mA1 (mVar 5) (mA0)))))) (sRet (mL gTup (mA1 (mL gTup (mA1 (mVar 3) (mA1 (mVar 4) (mA1 (mVar 6) (mA0))))) (mA1 (mVar 5) (mA0))))))) (sNil)) (sDead)))))
def m_condition_at : Nat → List D → Res D
  | 0 => fun _ => .stuck
  | f + 1 => callM 7 (b_condition_at (m_condition_at f))
def b_clause_of : Rho → Out := sSeq (sSet 3 (mMeth gSplit (mVar 1) (mC (.str " ")))) (sSeq (sIf (mT (m2 gGt (mL gLen (mA1 (mVar 3) (mA0))) (mC (.int 40)))) (sDead) (sNil)) (sSeq (sSet 4 (mC .non)) (sSeq (sSet 5 (mC (.int 0))) (sSeq (sIf (tNotM (mT (mVar 2))) (sSeq (sIf (mT (m2 gNe (m2 gIx (mVar 3) (mC (.int 0))) (mC (.str "when")))) (sDead) (sNil)) (sAsg (tgT [4, 5]) (mArgs (m_condition_at 60) (mA1 (mVar 0) (mA1 (mVar 3) (mA1 (mC (.int 1)) (mA0))))))) (sNil)) (sSeq (sIf (tOrM (mT (m2 gNe (mL gLen (mA1 (mVar 3) (mA0))) (m2 gAdd (mVar 5) (mC (.int 2))))) (tOrM (mT (m2 gNe (m2 gIx (mVar 3) (mVar 5)) (mC (.str "deal")))) (mT (m2 gNin (m2 gIx (mVar 3) (m2 gAdd (mVar 5) (mC (.int 1)))) (m2 gIx (mVar 0) (mC (.int 0))))))) (sDead) (sNil)) (sRet (mL gTup (mA1 (mVar 4) (mA1 (m2 gIx (mVar 3) (m2 gAdd (mVar 5) (mC (.int 1)))) (mA0))))))))))
def m_clause_of : List D → Res D := callM 6 b_clause_of
def b_read_rule : Rho → Out := sSeq (sIf (tNotM (mT (m1 (gIsi "str") (mVar 1)))) (sDead) (sNil)) (sSeq (sSet 2 (mMeth gSplit (mVar 1) (mC (.str "; ")))) (sSeq (sIf (mT (m2 gGt (mL gLen (mA1 (mVar 2) (mA0))) (mC (.int 20)))) (sDead) (sNil)) (sRet (mLc [3, 4] (tgT [3, 4]) (iEnumM (mVar 2)) (tYesM) (mArgs m_clause_of (mA1 (mVar 0) (mA1 (mVar 4) (mA1 (m2 gEq (mVar 3) (m2 gSub (mL gLen (mA1 (mVar 2) (mA0))) (mC (.int 1)))) (mA0)))))))))
def m_read_rule : List D → Res D := callM 5 b_read_rule
def b_house_of_v3 : Rho → Out := sSeq (sIf (tNotM (mT (mArgs m_are_names (mA1 (mVar 0) (mA1 (mC (.int 8)) (mA0)))))) (sDead) (sNil)) (sSeq (sIf (tOrM (tNotM (mT (m1 (gIsi "list") (mVar 1)))) (tNotM (mT (mChain gLe gLe (mC (.int 1)) (mL gLen (mA1 (mVar 1) (mA0))) (mC (.int 4)))))) (sDead) (sNil)) (sSeq (sSet 2 (mC (.int 1))) (sSeq (sSet 3 (mL gLst (mA0))) (sSeq (sFor (tgN 4) (iAny (mVar 1)) (sSeq (sIf (tNotM (mT (mArgs m_is_hand (mA1 (mVar 4) (mA1 (mL gLen (mA1 (mVar 0) (mA0))) (mA0)))))) (sDead) (sNil)) (sSeq (sSet 2 (m2 gMul (mVar 2) (mL gLen (mA1 (m2 gIx (mVar 4) (mC (.int 1))) (mA0))))) (sApp 3 (pNil) (mL gTup (mA1 (m2 gIx (mVar 4) (mC (.int 0))) (mA1 (mL gTuple (mA1 (m2 gIx (mVar 4) (mC (.int 1))) (mA0))) (mA1 (mL gTuple (mA1 (mLc [5] (tgN 5) (iAny (m2 gIx (mVar 4) (mC (.int 2)))) (tYesM) (mL gTuple (mA1 (mVar 5) (mA0)))) (mA0))) (mA0))))))))) (sSeq (sIf (tOrM (mT (m2 gGt (mVar 2) (mC (.int 256)))) (mT (m2 gNe (m1 gLenSetT (mLc [4] (tgN 4) (iAny (mVar 3)) (tYesM) (m2 gIx (mVar 4) (mC (.int 0))))) (mL gLen (mA1 (mVar 3) (mA0)))))) (sDead) (sNil)) (sRet (mL gTup (mA1 (mL gTuple (mA1 (mVar 0) (mA0))) (mA1 (mL gTuple (mA1 (mVar 3) (mA0))) (mA0))))))))))
def m_house_of_v3 : List D → Res D := callM 6 b_house_of_v3
def b_dealt : Rho → Out := sSeq (sFor (tgT [2, 3]) (iAny (mVar 0)) (sIf (mT (mArgs (m_holds 60) (mA1 (mVar 2) (mA1 (mVar 1) (mA0))))) (sRet (mVar 3)) (sNil))) (sRet (m2 gIx (m2 gIx (mVar 0) (m1 gNeg (mC (.int 1)))) (mC (.int 1))))
def m_dealt : List D → Res D := callM 4 b_dealt
def b_crossed_v3 : Rho → Out := sSeq (sSet 1 (mL gLst (mA1 (mL gTup (mA0)) (mA0)))) (sSeq (sFor (tgN 2) (iAny (mVar 0)) (sSeq (sSet 3 (mL gLst (mA0))) (sSeq (sFor (tgN 4) (iAny (mVar 1)) (sFor (tgN 5) (iAny (mVar 2)) (sApp 3 (pNil) (m2 gAddF (mVar 4) (mL gTupDF (mA1 (mVar 5) (mA0))))))) (sMv 1 3)))) (sRet (mVar 1)))
def m_crossed_v3 : List D → Res D := callM 6 b_crossed_v3
def b_rows_of_v3 : Rho → Out := sRet (mArgs m_crossed_v3 (mA1 (mLc [1] (tgN 1) (iAny (m2 gIx (mVar 0) (mC (.int 1)))) (tYesM) (m2 gIx (mVar 1) (mC (.int 1)))) (mA0)))
def m_rows_of_v3 : List D → Res D := callM 2 b_rows_of_v3
def b_table_of : Rho → Out := sSeq (sSet 2 (mC (.dT [] []))) (sSeq (sTab 2 3 m_rows_of_v3 (mA1 (mVar 0) (mA0)) (mArgs m_dealt (mA1 (mVar 1) (mA1 (mVar 3) (mA0))))) (sRet (mVar 2)))
def m_table_of : List D → Res D := callM 4 b_table_of
def b_number_in : Rho → Out := sSeq (sSet 1 (mVar 0)) (sSeq (sIf (mT (m2 gEq (mSl (mVar 0) (oNo) (oYes (mC (.int 1)))) (mC (.str "-")))) (sSet 1 (mSl (mVar 0) (oYes (mC (.int 1))) (oNo))) (sNil)) (sSeq (sIf (tOrM (tNotM (mT (mChain gLe gLe (mC (.int 1)) (mL gLen (mA1 (mVar 1) (mA0))) (mC (.int 60))))) (tAndM (mT (m2 gEq (m2 gIx (mVar 1) (mC (.int 0))) (mC (.str "0")))) (mT (m2 gNe (mVar 0) (mC (.str "0")))))) (sRet (mC .non)) (sNil)) (sSeq (sFor (tgN 2) (iAny (mVar 1)) (sIf (mT (m2 gNin (mVar 2) (mC (.str "0123456789")))) (sRet (mC .non)) (sNil))) (sRet (mL gIntS (mA1 (mVar 0) (mA0)))))))
def m_number_in : List D → Res D := callM 3 b_number_in
def b_numbers_in : Rho → Out := sRet (mLc [1] (tgN 1) (iAny (mMeth gSplit (mVar 0) (mC (.str " ")))) (tYesM) (mArgs m_number_in (mA1 (mVar 1) (mA0))))
def m_numbers_in : List D → Res D := callM 2 b_numbers_in
def b_hand_in : Rho → Out := sSeq (sSet 1 (mMeth gSplit (mVar 0) (mC (.str " = ")))) (sSeq (sSet 2 (mL gLst (mA0))) (sSeq (sSet 3 (mL gLst (mA0))) (sSeq (sFor (tgN 4) (iAny (mSl (mVar 1) (oYes (mC (.int 1))) (oNo))) (sSeq (sSet 5 (mMeth gPart (mVar 4) (mC (.str " ")))) (sSeq (sApp 2 (pNil) (m2 gIx (mVar 5) (mC (.int 0)))) (sApp 3 (pNil) (mArgs m_numbers_in (mA1 (m2 gIx (mVar 5) (mC (.int 2))) (mA0))))))) (sRet (mL gTup (mA1 (m2 gIx (mVar 1) (mC (.int 0))) (mA1 (mVar 2) (mA1 (mVar 3) (mA0)))))))))
def m_hand_in : List D → Res D := callM 6 b_hand_in
def b_house_in : Rho → Out := sSeq (sSet 1 (mMeth gSplit (mVar 0) (mC (.str " / ")))) (sRet (mArgs m_house_of_v3 (mA1 (mMeth gSplit (m2 gIx (mVar 1) (mC (.int 0))) (mC (.str " "))) (mA1 (mLc [2] (tgN 2) (iAny (mSl (mVar 1) (oYes (mC (.int 1))) (oNo))) (tYesM) (mArgs m_hand_in (mA1 (mVar 2) (mA0)))) (mA0)))))
def m_house_in : List D → Res D := callM 3 b_house_in
def b_row_in : Rho → Out := sSeq (sSet 2 (mL gTuple (mA1 (mMeth gSplit (mVar 1) (mC (.str " "))) (mA0)))) (sSeq (sIf (mT (m2 gNin (mVar 2) (mVar 0))) (sDead) (sNil)) (sRet (mVar 2)))
def m_row_in : List D → Res D := callM 3 b_row_in
def b_told_about : Rho → Out := sSeq (sIf (mT (m2 gEq (mVar 2) (mC (.str "verdict")))) (sDead) (sNil)) (sSeq (sIf (mT (m2 gEq (mVar 2) (mC (.str "menu")))) (sDead) (sNil)) (sSeq (sSet 4 (mArgs m_row_in (mA1 (mVar 1) (mA1 (mVar 3) (mA0))))) (sSeq (sIf (mT (m2 gEq (mVar 2) (mC (.str "deal")))) (sRet (m2 gIx (mVar 1) (mVar 4))) (sNil)) (sDead))))
def m_told_about : List D → Res D := callM 6 b_told_about
def b_say [DeskAt] : Rho → Out := sSeq (sIf (tNotM (mT (m1 (gIsi "str") (mVar 1)))) (sDead) (sNil)) (sSeq (sSet 2 (mMeth gPart (mVar 1) (mC (.str " ")))) (sSeq (sIf (tOrM (mT (m1 (gNinS ["house", "rule", "best", "deal", "pays", "verdict", "menu"]) (m2 gIx (mVar 2) (mC (.int 0))))) (tAndM (mT (m2 gEq (m2 gIx (mVar 2) (mC (.int 0))) (mC (.str "verdict")))) (mT (m2 gNe (m2 gIx (mVar 2) (mC (.int 1))) (mC (.str "")))))) (sDead) (sNil)) (sSeq (sIf (mT (m2 gEq (m2 gIx (mVar 2) (mC (.int 0))) (mC (.str "house")))) (sSeq (sHouse 0 (mSha 0 (mArgs m_house_in (mA1 (m2 gIx (mVar 2) (mC (.int 2))) (mA0))))) (sSeq (sTable 0 (mC .non)) (sRetI (mC (.str "ok"))))) (sNil)) (sSeq (sIf (mT (m1 (fun d => gIsN d .non) (m1 gHouse (mVar 0)))) (sDead) (sNil)) (sSeq (sIf (mT (m2 gEq (m2 gIx (mVar 2) (mC (.int 0))) (mC (.str "rule")))) (sSeq (sTable 0 (mSha 1 (mSha 1 (mArgs m_table_of (mA1 (m1 gHouse (mVar 0)) (mA1 (mArgs m_read_rule (mA1 (m1 gHouse (mVar 0)) (mA1 (m2 gIx (mVar 2) (mC (.int 2))) (mA0)))) (mA0))))))) (sRetI (mC (.str "ok")))) (sNil)) (sSeq (sIf (mT (m2 gEq (m2 gIx (mVar 2) (mC (.int 0))) (mC (.str "best")))) (sDead) (sNil)) (sSeq (sIf (mT (m1 (fun d => gIsN d .non) (m1 gTable (mVar 0)))) (sDead) (sNil)) (sRetI (mSha 0 (mArgs m_told_about (mA1 (m1 gHouse (mVar 0)) (mA1 (m1 gTable (mVar 0)) (mA1 (m2 gIx (mVar 2) (mC (.int 0))) (mA1 (m2 gIx (mVar 2) (mC (.int 2))) (mA0)))))))))))))))
def m_say [DeskAt] : List D → Res D := callI 3 b_say
def b__law_names_v2 : Rho → Out := sSeq (sSet 2 (mC (.str "abcdefghijklmnopqrstuvwxyz"))) (sSeq (sSet 3 (mL gLst (mA1 (mC (.str "deal")) (mA1 (mC (.str "rule")) (mA1 (mC (.str "best")) (mA1 (mC (.str "house")) (mA1 (mC (.str "pays")) (mA1 (mC (.str "verdict")) (mA1 (mC (.str "menu")) (mA1 (mC (.str "ok")) (mA1 (mC (.str "ring")) (mA1 (mC (.str "when")) (mA1 (mC (.str "says")) (mA1 (mC (.str "count")) (mA1 (mC (.str "not")) (mA0)))))))))))))))) (sSeq (sSet 3 (m2 gAdd (mVar 3) (mL gLst (mA1 (mC (.str "and")) (mA1 (mC (.str "or")) (mA1 (mC (.str "payable")) (mA1 (mC (.str "a")) (mA1 (mC (.str "b")) (mA1 (mC (.str "c")) (mA1 (mC (.str "aa")) (mA1 (mC (.str "ab")) (mA1 (mC (.str "ba")) (mA1 (mC (.str "d")) (mA1 (mC (.str "e")) (mA1 (mC (.str "f")) (mA1 (mC (.str "g")) (mA0))))))))))))))))) (sSeq (sIf (mT (m2 gEq (m2 gMod (mVar 0) (mC (.int 12))) (mC (.int 5)))) (sRet (mLc [6] (tgN 6) (iR1 (mVar 1)) (tYesM) (m2 gIx (mVar 3) (m2 gMod (m2 gAdd (m2 gDiv (mVar 0) (mC (.int 12))) (mVar 6)) (mC (.int 26)))))) (sNil)) (sSeq (sIf (mT (m2 gEq (m2 gMod (mVar 0) (mC (.int 3))) (mC (.int 0)))) (sRet (mLc [6] (tgN 6) (iR1 (mVar 1)) (tYesM) (m2 gMul (m2 gIx (mVar 2) (m2 gMod (m2 gDiv (mVar 0) (mC (.int 3))) (mC (.int 26)))) (m2 gAdd (mVar 6) (mC (.int 1)))))) (sNil)) (sSeq (sSet 4 (m2 gIx (mVar 2) (m2 gMod (m2 gDiv (mVar 0) (mC (.int 468))) (mC (.int 26))))) (sSeq (sSet 5 (mL gLst (mA0))) (sSeq (sFor (tgN 6) (iR1 (mVar 1)) (sSeq (sSet 7 (m2 gIx (mVar 2) (m2 gMod (m2 gAdd (m2 gDiv (mVar 0) (mC (.int 3))) (m2 gMul (mVar 6) (m2 gAdd (mC (.int 1)) (m2 gMul (mC (.int 2)) (m2 gMod (m2 gDiv (mVar 0) (mC (.int 78))) (mC (.int 6))))))) (mC (.int 26))))) (sSeq (sSet 8 (m2 gMul (mVar 4) (m2 gMod (m2 gDiv (mVar 0) (mC (.int 5))) (mC (.int 4))))) (sApp 5 (pNil) (m2 gAdd (m2 gAdd (mVar 8) (mVar 7)) (m2 gMul (mVar 4) (m2 gMod (m2 gDiv (mVar 0) (mC (.int 7))) (mC (.int 4))))))))) (sRet (mVar 5)))))))))
def m__law_names_v2 : List D → Res D := callM 9 b__law_names_v2
def b__law_hands_v3 : Rho → Out := sSeq (sSet 3 (m2 gAdd (mC (.int 1)) (m2 gMod (m2 gDiv (mArgs m__law_cell (mA1 (mVar 0) (mA1 (mC (.int 0)) (mA0)))) (mC (.int 4))) (mC (.int 3))))) (sSeq (sSet 4 (mArgs m__law_names_v2 (mA1 (mArgs m__law_cell (mA1 (mVar 0) (mA1 (mC (.int 6)) (mA0)))) (mA1 (mC (.int 3)) (mA0))))) (sSeq (sSet 5 (mL gLst (mA0))) (sSeq (sSet 6 (mC (.int 8))) (sSeq (sFor (tgN 7) (iR1 (mVar 3)) (sSeq (sSet 8 (m2 gAdd (mC (.int 1)) (m2 gMod (m2 gDiv (mArgs m__law_cell (mA1 (mVar 0) (mA1 (mC (.int 1)) (mA0)))) (m2 gIx (mL gLst (mA1 (mC (.int 1)) (mA1 (mC (.int 3)) (mA1 (mC (.int 9)) (mA0))))) (mVar 7))) (mC (.int 3))))) (sSeq (sSet 9 (mL gLst (mA0))) (sSeq (sFor (tgN 10) (iR1 (mVar 8)) (sSeq (sApp 9 (pNil) (mLc [11] (tgN 11) (iR1 (mVar 1)) (tYesM) (mArgs m__law_number (mA1 (mArgs m__law_cell (mA1 (mVar 0) (mA1 (m2 gAdd (mVar 6) (mVar 11)) (mA0)))) (mA1 (mVar 2) (mA0)))))) (sSet 6 (m2 gAdd (mVar 6) (mVar 1))))) (sApp 5 (pNil) (mL gTup (mA1 (m2 gIx (mVar 4) (mVar 7)) (mA1 (mArgs m__law_names_v2 (mA1 (mArgs m__law_cell (mA1 (mVar 0) (mA1 (m2 gAdd (mC (.int 3)) (mVar 7)) (mA0)))) (mA1 (mVar 8) (mA0)))) (mA1 (mVar 9) (mA0)))))))))) (sRet (mVar 5))))))
def m__law_hands_v3 : List D → Res D := callM 12 b__law_hands_v3
def b__law_rows_v6 : Rho → Out := sSeq (sSet 1 (mL gLst (mA1 (mL gTup (mA0)) (mA0)))) (sSeq (sFor (tgN 2) (iAny (mVar 0)) (sSeq (sSet 3 (mL gLst (mA0))) (sSeq (sFor (tgN 4) (iAny (mVar 1)) (sFor (tgN 5) (iAny (m2 gIx (mVar 2) (mC (.int 1)))) (sApp 3 (pNil) (m2 gAddF (mVar 4) (mL gTupDF (mA1 (mVar 5) (mA0))))))) (sMv 1 3)))) (sRet (mVar 1)))
def m__law_rows_v6 : List D → Res D := callM 6 b__law_rows_v6
def b__law_house_row : Rho → Out := sSeq (sSet 2 (mL gLst (mA1 (mMeth gJoin (mC (.str " ")) (mVar 0)) (mA0)))) (sSeq (sFor (tgN 3) (iAny (mVar 1)) (sSeq (sSet 4 (m2 gIx (mVar 3) (mC (.int 0)))) (sSeq (sFor (tgN 5) (iR1 (mL gLen (mA1 (m2 gIx (mVar 3) (mC (.int 1))) (mA0)))) (sSet 4 (m2 gAdd (m2 gAdd (mVar 4) (mC (.str " = "))) (mMeth gJoin (mC (.str " ")) (m2 gAdd (mL gLst (mA1 (m2 gIx (m2 gIx (mVar 3) (mC (.int 1))) (mVar 5)) (mA0))) (mLc [6] (tgN 6) (iAny (m2 gIx (m2 gIx (mVar 3) (mC (.int 2))) (mVar 5))) (tYesM) (mL gStr (mA1 (mVar 6) (mA0))))))))) (sApp 2 (pNil) (mVar 4))))) (sRet (m2 gAdd (mC (.str "house ")) (mMeth gJoin (mC (.str " / ")) (mVar 2)))))
def m__law_house_row : List D → Res D := callM 7 b__law_house_row
def b__law_condition : Rho → Out := sSeq (sSet 2 (m2 gMod (mVar 0) (mL gLen (mA1 (mVar 1) (mA0))))) (sSeq (sSet 3 (m2 gMod (m2 gDiv (mVar 0) (mC (.int 3))) (mL gLen (mA1 (mVar 1) (mA0))))) (sSeq (sSet 4 (m2 gIx (m2 gIx (m2 gIx (mVar 1) (mVar 2)) (mC (.int 1))) (m2 gMod (m2 gDiv (mVar 0) (mC (.int 9))) (mL gLen (mA1 (m2 gIx (m2 gIx (mVar 1) (mVar 2)) (mC (.int 1))) (mA0)))))) (sSeq (sSet 5 (m2 gIx (m2 gIx (m2 gIx (mVar 1) (mVar 3)) (mC (.int 1))) (m2 gMod (m2 gDiv (mVar 0) (mC (.int 27))) (mL gLen (mA1 (m2 gIx (m2 gIx (mVar 1) (mVar 3)) (mC (.int 1))) (mA0)))))) (sRet (mL gLst (mA1 (m2 gMod (m2 gDiv (mVar 0) (mC (.int 81))) (mC (.int 5))) (mA1 (mVar 2) (mA1 (mVar 4) (mA1 (mVar 3) (mA1 (mVar 5) (mA1 (m2 gAdd (mC (.int 1)) (m2 gMod (m2 gDiv (mVar 0) (mC (.int 405))) (mC (.int 4)))) (mA0))))))))))))
def m__law_condition : List D → Res D := callM 6 b__law_condition
def b__law_condition_text : Rho → Out := sSeq (sSet 2 (m2 gAdd (m2 gAdd (m2 gAdd (mC (.str "says ")) (m2 gIx (m2 gIx (mVar 1) (m2 gIx (mVar 0) (mC (.int 1)))) (mC (.int 0)))) (mC (.str " "))) (m2 gIx (mVar 0) (mC (.int 2))))) (sSeq (sSet 3 (m2 gAdd (m2 gAdd (m2 gAdd (mC (.str "says ")) (m2 gIx (m2 gIx (mVar 1) (m2 gIx (mVar 0) (mC (.int 3)))) (mC (.int 0)))) (mC (.str " "))) (m2 gIx (mVar 0) (mC (.int 4))))) (sSeq (sSet 4 (mL gLst (mA1 (mVar 2) (mA1 (m2 gAdd (mC (.str "not ")) (mVar 2)) (mA1 (m2 gAdd (m2 gAdd (m2 gAdd (mC (.str "count ")) (mL gStr (mA1 (m2 gIx (mVar 0) (mC (.int 5))) (mA0)))) (mC (.str " "))) (m2 gIx (mVar 0) (mC (.int 2)))) (mA1 (m2 gAdd (m2 gAdd (m2 gAdd (mC (.str "and ")) (mVar 2)) (mC (.str " "))) (mVar 3)) (mA0))))))) (sRet (m2 gIx (m2 gAdd (mVar 4) (mL gLst (mA1 (m2 gAdd (m2 gAdd (m2 gAdd (mC (.str "or ")) (mVar 3)) (mC (.str " not "))) (mVar 2)) (mA0)))) (m2 gIx (mVar 0) (mC (.int 0)))))))
def m__law_condition_text : List D → Res D := callM 5 b__law_condition_text
def b__law_condition_holds : Rho → Out := sSeq (sSet 2 (m2 gEq (m2 gIx (mVar 1) (m2 gIx (mVar 0) (mC (.int 1)))) (m2 gIx (mVar 0) (mC (.int 2))))) (sSeq (sSet 3 (m2 gEq (m2 gIx (mVar 1) (m2 gIx (mVar 0) (mC (.int 3)))) (m2 gIx (mVar 0) (mC (.int 4))))) (sRet (m2 gIx (mL gLst (mA1 (mVar 2) (mA1 (m1 gNot (mVar 2)) (mA1 (m2 gGe (mMeth gCount (mVar 1) (m2 gIx (mVar 0) (mC (.int 2)))) (m2 gIx (mVar 0) (mC (.int 5)))) (mA1 (mAnd (mVar 2) (mVar 3)) (mA1 (mOr (mVar 3) (m1 gNot (mVar 2))) (mA0))))))) (m2 gIx (mVar 0) (mC (.int 0))))))
def m__law_condition_holds : List D → Res D := callM 4 b__law_condition_holds
def b__law_clauses_v2 : Rho → Out := sSeq (sSet 3 (mL gLst (mA0))) (sSeq (sFor (tgN 4) (iR1 (m2 gMod (mArgs m__law_cell (mA1 (mVar 0) (mA1 (mC (.int 7)) (mA0)))) (mC (.int 4)))) (sSeq (sSet 5 (mArgs m__law_cell (mA1 (mVar 0) (mA1 (m2 gAdd (mC (.int 51)) (m2 gMul (mC (.int 2)) (mVar 4))) (mA0))))) (sApp 3 (pNil) (mL gTup (mA1 (mArgs m__law_condition (mA1 (mVar 5) (mA1 (mVar 1) (mA0)))) (mA1 (m2 gIx (mVar 2) (m2 gMod (mArgs m__law_cell (mA1 (mVar 0) (mA1 (m2 gAdd (mC (.int 52)) (m2 gMul (mC (.int 2)) (mVar 4))) (mA0)))) (mL gLen (mA1 (mVar 2) (mA0))))) (mA0))))))) (sRet (mVar 3)))
def m__law_clauses_v2 : List D → Res D := callM 6 b__law_clauses_v2
def b__law_rule_row : Rho → Out := sSeq (sSet 3 (mLc [4, 5] (tgT [4, 5]) (iAny (mVar 0)) (tYesM) (m2 gAdd (m2 gAdd (m2 gAdd (mC (.str "when ")) (mArgs m__law_condition_text (mA1 (mVar 4) (mA1 (mVar 1) (mA0))))) (mC (.str " deal "))) (mVar 5)))) (sRet (m2 gAdd (mC (.str "rule ")) (mMeth gJoin (mC (.str "; ")) (m2 gAdd (mVar 3) (mL gLst (mA1 (m2 gAdd (mC (.str "deal ")) (mVar 2)) (mA0)))))))
def m__law_rule_row : List D → Res D := callM 6 b__law_rule_row
def b__law_dealt : Rho → Out := sSeq (sFor (tgT [3, 4]) (iAny (mVar 0)) (sIf (mT (mArgs m__law_condition_holds (mA1 (mVar 3) (mA1 (mVar 1) (mA0))))) (sRet (mVar 4)) (sNil))) (sRet (mVar 2))
def m__law_dealt : List D → Res D := callM 5 b__law_dealt
def b_law_k73 [DeskAt] : Rho → Out := sSeq (sSet 1 (m2 gAdd (mC (.int 1)) (m2 gMod (mArgs m__law_cell (mA1 (mVar 0) (mA1 (mC (.int 0)) (mA0)))) (mC (.int 4))))) (sSeq (sSet 2 (mArgs m__law_hands_v3 (mA1 (mVar 0) (mA1 (mVar 1) (mA1 (m2 gPow (mC (.int 10)) (mC (.int 57))) (mA0)))))) (sSeq (sSet 3 (mArgs m__law_names_v2 (mA1 (mArgs m__law_cell (mA1 (mVar 0) (mA1 (mC (.int 2)) (mA0)))) (mA1 (mVar 1) (mA0))))) (sSeq (sDesk 4) (sSeq (sIfI (i2 gNe (iMeth 4 m_say (mArgs m__law_house_row (mA1 (mVar 3) (mA1 (mVar 2) (mA0))))) (mC (.str "ok"))) (sRet (mC (.bl false))) (sNil)) (sSeq (sSet 5 (m2 gIx (mVar 3) (m2 gMod (mArgs m__law_cell (mA1 (mVar 0) (mA1 (mC (.int 50)) (mA0)))) (mVar 1)))) (sSeq (sFor (tgN 6) (iAny (mL gLst (mA1 (mArgs m__law_clauses_v2 (mA1 (mVar 0) (mA1 (mVar 2) (mA1 (mVar 3) (mA0))))) (mA1 (mL gLst (mA0)) (mA0))))) (sSeq (sIfI (i2 gNe (iMeth 4 m_say (mArgs m__law_rule_row (mA1 (mVar 6) (mA1 (mVar 2) (mA1 (mVar 5) (mA0)))))) (mC (.str "ok"))) (sRet (mC (.bl false))) (sNil)) (sSeq (sFor (tgN 7) (iAny (mArgs m__law_rows_v6 (mA1 (mVar 2) (mA0)))) (sSeq (sSetI 8 (iMeth 4 m_say (m2 gAdd (mC (.str "deal ")) (mMeth gJoin (mC (.str " ")) (mVar 7))))) (sIf (tOrM (tNotM (mT (m1 (gIsi "str") (mVar 8)))) (mT (m2 gNe (mVar 8) (mArgs m__law_dealt (mA1 (mVar 6) (mA1 (mVar 7) (mA1 (mVar 5) (mA0)))))))) (sRet (mC (.bl false))) (sNil)))) (sSet 5 (m2 gIx (mVar 3) (mC (.int 0))))))) (sRet (mC (.bl true)))))))))
def m_law_k73 [DeskAt] : List D → Res D := callM 9 b_law_k73
end TW
-- Row_k73
set_option maxHeartbeats 4000000
namespace Lk73
open PySem PySem.Spec PyProof.Rows L2 TW
def topS (i : Nat) : Stmt := PySem.Challenge.pw_trueword_k73_rules_said.main.body.getD i (.Pass ⟨0, 0, 0, 0⟩)
abbrev s_is_name : Stmt := topS 11
abbrev N_is_name : List Str := ["thing", "sign"]
theorem sc_is_name : FnScope N_is_name ["thing"] (defScope s_is_name) := ⟨rfl, rfl, rfl, by decide +kernel, rfl, by decide +kernel, by decide +kernel⟩
abbrev s_are_names : Stmt := topS 12
abbrev N_are_names : List Str := ["thing", "top", "one"]
theorem sc_are_names : FnScope N_are_names ["thing", "top"] (defScope s_are_names) := ⟨rfl, rfl, rfl, by decide +kernel, rfl, by decide +kernel, by decide +kernel⟩
abbrev s_is_worth : Stmt := topS 13
abbrev N_is_worth : List Str := ["thing"]
theorem sc_is_worth : FnScope N_is_worth ["thing"] (defScope s_is_worth) := ⟨rfl, rfl, rfl, by decide +kernel, rfl, by decide +kernel, by decide +kernel⟩
abbrev s_are_worths : Stmt := topS 14
abbrev N_are_worths : List Str := ["thing", "words", "outcomes", "row", "number"]
theorem sc_are_worths : FnScope N_are_worths ["thing", "words", "outcomes"] (defScope s_are_worths) := ⟨rfl, rfl, rfl, by decide +kernel, rfl, by decide +kernel, by decide +kernel⟩
abbrev s_is_hand : Stmt := topS 15
abbrev N_is_hand : List Str := ["thing", "outcomes"]
theorem sc_is_hand : FnScope N_is_hand ["thing", "outcomes"] (defScope s_is_hand) := ⟨rfl, rfl, rfl, by decide +kernel, rfl, by decide +kernel, by decide +kernel⟩
abbrev s_house_of : Stmt := topS 16
abbrev N_house_of : List Str := ["outcomes", "hands", "many", "made", "hand", "row"]
theorem sc_house_of : FnScope N_house_of ["outcomes", "hands"] (defScope s_house_of) := ⟨rfl, rfl, rfl, by decide +kernel, rfl, by decide +kernel, by decide +kernel⟩
abbrev s_crossed : Stmt := topS 17
abbrev N_crossed : List Str := ["lists", "rows", "words", "longer", "row", "word"]
theorem sc_crossed : FnScope N_crossed ["lists"] (defScope s_crossed) := ⟨rfl, rfl, rfl, by decide +kernel, rfl, by decide +kernel, by decide +kernel⟩
abbrev s_rows_of : Stmt := topS 18
abbrev N_rows_of : List Str := ["house", "hand"]
theorem sc_rows_of : FnScope N_rows_of ["house"] (defScope s_rows_of) := ⟨rfl, rfl, rfl, by decide +kernel, rfl, by decide +kernel, by decide +kernel⟩
abbrev s_holds : Stmt := topS 49
abbrev N_holds : List Str := ["condition", "row", "kind"]
theorem sc_holds : FnScope N_holds ["condition", "row"] (defScope s_holds) := ⟨rfl, rfl, rfl, by decide +kernel, rfl, by decide +kernel, by decide +kernel⟩
abbrev s_dealt : Stmt := topS 50
abbrev N_dealt : List Str := ["rule", "row", "condition", "outcome"]
theorem sc_dealt : FnScope N_dealt ["rule", "row"] (defScope s_dealt) := ⟨rfl, rfl, rfl, by decide +kernel, rfl, by decide +kernel, by decide +kernel⟩
abbrev s_table_of : Stmt := topS 51
abbrev N_table_of : List Str := ["house", "rule", "table", "row"]
theorem sc_table_of : FnScope N_table_of ["house", "rule"] (defScope s_table_of) := ⟨rfl, rfl, rfl, by decide +kernel, rfl, by decide +kernel, by decide +kernel⟩
abbrev s_word_at : Stmt := topS 53
abbrev N_word_at : List Str := ["words", "place"]
theorem sc_word_at : FnScope N_word_at ["words", "place"] (defScope s_word_at) := ⟨rfl, rfl, rfl, by decide +kernel, rfl, by decide +kernel, by decide +kernel⟩
abbrev s_saying : Stmt := topS 54
abbrev N_saying : List Str := ["house", "words", "place", "name", "word", "k", "hand"]
theorem sc_saying : FnScope N_saying ["house", "words", "place"] (defScope s_saying) := ⟨rfl, rfl, rfl, by decide +kernel, rfl, by decide +kernel, by decide +kernel⟩
abbrev s_counting : Stmt := topS 55
abbrev N_counting : List Str := ["house", "words", "place", "figure", "word", "hand"]
theorem sc_counting : FnScope N_counting ["house", "words", "place"] (defScope s_counting) := ⟨rfl, rfl, rfl, by decide +kernel, rfl, by decide +kernel, by decide +kernel⟩
abbrev s_condition_at : Stmt := topS 56
abbrev N_condition_at : List Str := ["house", "words", "place", "head", "one", "behind", "other"]
theorem sc_condition_at : FnScope N_condition_at ["house", "words", "place"] (defScope s_condition_at) := ⟨rfl, rfl, rfl, by decide +kernel, rfl, by decide +kernel, by decide +kernel⟩
abbrev s_clause_of : Stmt := topS 57
abbrev N_clause_of : List Str := ["house", "text", "last", "words", "condition", "place"]
theorem sc_clause_of : FnScope N_clause_of ["house", "text", "last"] (defScope s_clause_of) := ⟨rfl, rfl, rfl, by decide +kernel, rfl, by decide +kernel, by decide +kernel⟩
abbrev s_read_rule : Stmt := topS 58
abbrev N_read_rule : List Str := ["house", "text", "parts", "k", "part"]
theorem sc_read_rule : FnScope N_read_rule ["house", "text"] (defScope s_read_rule) := ⟨rfl, rfl, rfl, by decide +kernel, rfl, by decide +kernel, by decide +kernel⟩
abbrev s_number_in : Stmt := topS 62
abbrev N_number_in : List Str := ["word", "figures", "sign"]
theorem sc_number_in : FnScope N_number_in ["word"] (defScope s_number_in) := ⟨rfl, rfl, rfl, by decide +kernel, rfl, by decide +kernel, by decide +kernel⟩
abbrev s_numbers_in : Stmt := topS 63
abbrev N_numbers_in : List Str := ["text", "word"]
theorem sc_numbers_in : FnScope N_numbers_in ["text"] (defScope s_numbers_in) := ⟨rfl, rfl, rfl, by decide +kernel, rfl, by decide +kernel, by decide +kernel⟩
abbrev s_hand_in : Stmt := topS 64
abbrev N_hand_in : List Str := ["text", "pieces", "words", "worths", "piece", "told"]
theorem sc_hand_in : FnScope N_hand_in ["text"] (defScope s_hand_in) := ⟨rfl, rfl, rfl, by decide +kernel, rfl, by decide +kernel, by decide +kernel⟩
abbrev s_house_in : Stmt := topS 65
abbrev N_house_in : List Str := ["text", "pieces", "piece"]
theorem sc_house_in : FnScope N_house_in ["text"] (defScope s_house_in) := ⟨rfl, rfl, rfl, by decide +kernel, rfl, by decide +kernel, by decide +kernel⟩
abbrev s_row_in : Stmt := topS 67
abbrev N_row_in : List Str := ["table", "text", "row"]
theorem sc_row_in : FnScope N_row_in ["table", "text"] (defScope s_row_in) := ⟨rfl, rfl, rfl, by decide +kernel, rfl, by decide +kernel, by decide +kernel⟩
abbrev s_told_about : Stmt := topS 70
abbrev N_told_about : List Str := ["house", "table", "word", "text", "row", "number"]
theorem sc_told_about : FnScope N_told_about ["house", "table", "word", "text"] (defScope s_told_about) := ⟨rfl, rfl, rfl, by decide +kernel, rfl, by decide +kernel, by decide +kernel⟩
abbrev s_say : Stmt := clsS (topS 71) 1
abbrev N_say : List Str := ["self", "row", "pieces"]
theorem sc_say : FnScope N_say ["self", "row"] (defScope s_say) := ⟨rfl, rfl, rfl, by decide +kernel, rfl, by decide +kernel, by decide +kernel⟩
abbrev s__law_cell : Stmt := topS 73
abbrev N__law_cell : List Str := ["script", "k"]
theorem sc__law_cell : FnScope N__law_cell ["script", "k"] (defScope s__law_cell) := ⟨rfl, rfl, rfl, by decide +kernel, rfl, by decide +kernel, by decide +kernel⟩
abbrev s__law_number : Stmt := topS 74
abbrev N__law_number : List Str := ["cell", "top"]
theorem sc__law_number : FnScope N__law_number ["cell", "top"] (defScope s__law_number) := ⟨rfl, rfl, rfl, by decide +kernel, rfl, by decide +kernel, by decide +kernel⟩
abbrev s__law_names : Stmt := topS 75
abbrev N__law_names : List Str := ["cell", "many", "letters", "words", "other", "names", "k", "sign", "head"]
theorem sc__law_names : FnScope N__law_names ["cell", "many"] (defScope s__law_names) := ⟨rfl, rfl, rfl, by decide +kernel, rfl, by decide +kernel, by decide +kernel⟩
abbrev s__law_hands : Stmt := topS 76
abbrev N__law_hands : List Str := ["script", "places", "top", "many", "called", "hands", "spot", "k", "size", "worths", "t", "j"]
theorem sc__law_hands : FnScope N__law_hands ["script", "places", "top"] (defScope s__law_hands) := ⟨rfl, rfl, rfl, by decide +kernel, rfl, by decide +kernel, by decide +kernel⟩
abbrev s__law_rows : Stmt := topS 77
abbrev N__law_rows : List Str := ["hands", "rows", "hand", "longer_ones", "row", "word"]
theorem sc__law_rows : FnScope N__law_rows ["hands"] (defScope s__law_rows) := ⟨rfl, rfl, rfl, by decide +kernel, rfl, by decide +kernel, by decide +kernel⟩
abbrev s__law_house_row : Stmt := topS 82
abbrev N__law_house_row : List Str := ["outcomes", "hands", "some", "hand", "text", "t", "one"]
theorem sc__law_house_row : FnScope N__law_house_row ["outcomes", "hands"] (defScope s__law_house_row) := ⟨rfl, rfl, rfl, by decide +kernel, rfl, by decide +kernel, by decide +kernel⟩
abbrev s__law_condition : Stmt := topS 84
abbrev N__law_condition : List Str := ["cell", "hands", "k", "j", "one", "other"]
theorem sc__law_condition : FnScope N__law_condition ["cell", "hands"] (defScope s__law_condition) := ⟨rfl, rfl, rfl, by decide +kernel, rfl, by decide +kernel, by decide +kernel⟩
abbrev s__law_condition_text : Stmt := topS 85
abbrev N__law_condition_text : List Str := ["told", "hands", "one", "other", "some"]
theorem sc__law_condition_text : FnScope N__law_condition_text ["told", "hands"] (defScope s__law_condition_text) := ⟨rfl, rfl, rfl, by decide +kernel, rfl, by decide +kernel, by decide +kernel⟩
abbrev s__law_condition_holds : Stmt := topS 86
abbrev N__law_condition_holds : List Str := ["told", "row", "one", "other"]
theorem sc__law_condition_holds : FnScope N__law_condition_holds ["told", "row"] (defScope s__law_condition_holds) := ⟨rfl, rfl, rfl, by decide +kernel, rfl, by decide +kernel, by decide +kernel⟩
abbrev s__law_clauses : Stmt := topS 87
abbrev N__law_clauses : List Str := ["script", "hands", "outcomes", "clauses", "k", "cell"]
theorem sc__law_clauses : FnScope N__law_clauses ["script", "hands", "outcomes"] (defScope s__law_clauses) := ⟨rfl, rfl, rfl, by decide +kernel, rfl, by decide +kernel, by decide +kernel⟩
abbrev s__law_rule_row : Stmt := topS 88
abbrev N__law_rule_row : List Str := ["clauses", "hands", "last", "some", "told", "outcome"]
theorem sc__law_rule_row : FnScope N__law_rule_row ["clauses", "hands", "last"] (defScope s__law_rule_row) := ⟨rfl, rfl, rfl, by decide +kernel, rfl, by decide +kernel, by decide +kernel⟩
abbrev s__law_dealt : Stmt := topS 89
abbrev N__law_dealt : List Str := ["clauses", "row", "last", "told", "outcome"]
theorem sc__law_dealt : FnScope N__law_dealt ["clauses", "row", "last"] (defScope s__law_dealt) := ⟨rfl, rfl, rfl, by decide +kernel, rfl, by decide +kernel, by decide +kernel⟩
abbrev s_law : Stmt := topS 90
abbrev N_law : List Str := ["script", "places", "hands", "outcomes", "desk", "last", "clauses", "row", "found"]
theorem sc_law : FnScope N_law ["script"] (defScope s_law) := ⟨rfl, rfl, rfl, by decide +kernel, rfl, by decide +kernel, by decide +kernel⟩
abbrev s___init__ : Stmt := clsS (topS 71) 0
abbrev N___init__ : List Str := ["self"]
theorem sc___init__ : FnScope N___init__ ["self"] (defScope s___init__) := ⟨rfl, rfl, rfl, by decide +kernel, rfl, by decide +kernel, by decide +kernel⟩
section
variable {P : Program} {w : World} {K : PySem.W.Frag} {mg : Str → Option Value} {base : Heap}
theorem ok___init__ [DeskAt] {f : Addr} {fd : FuncData} (F : Fun K "__init__" "Desk.__init__" s___init__ f fd) (c_Desk : Cls K DeskAt.C) (n_house : NoAttr K DeskAt.C "house") (n_table : NoAttr K DeskAt.C "table") : FnOk P w K mg base (L2.CX P w) 1 f fd ["self"] spInit := by
  refine F.okX (k := 0) sc___init__ (fun vs H Q E h => by obtain ⟨x, dx, rfl, _⟩ := h; rfl) (fun cdv A outer s H vs Q E hr h => ?_)
  obtain ⟨x, dx, rfl, hx, q⟩ := h
  refine ⟨_, pss_cons (ps_fld (pv 0) pe_non rfl) (pss_one (ps_fld (pv 0) pe_non rfl)), ?_⟩
  refine ⟨.ref x, rfl, x, _, dx, [], rfl, hx, c_Desk, n_house, by simp, .ref x, rfl, x, _, dx, _, rfl, upd_same, c_Desk, n_table, by simp [putF], ?_⟩
  rw [upd_upd]
  exact q
theorem ok_is_name {f : Addr} {fd : FuncData} (F : Fun K "is_name" "is_name" s_is_name f fd) (z_isinstance : mg "isinstance" = none) (z_len : mg "len" = none) (z_str : mg "str" = none) (q_LETTERS : CstG mg "LETTERS" (.str "abcdefghijklmnopqrstuvwxyz")) : FnOk P w K mg base (L2.CX P w) 1 f fd ["thing"] (spM K mg 0 1 m_is_name) :=
  mk_ok (k := 0) (n := 0) (N := N_is_name) (m := b_is_name) (Γ := [0, 0]) (Γ' := [0, 0]) F sc_is_name rfl (by decide) (fun cdv A outer s H E hr =>
    rss_cons (Γ1 := [0, 0]) (rs_if (RW.t (rw_or (rt_not (rt_val (n1 := 0) (f1 := true) (re_isi z_isinstance z_str boot_str (RE.b (n := 0) (fr := true) (re_v (pv 0)))))) (rw_or1 (rt_not (rt_chain op_le op_le bf_le bf_le (re_int) (re_len z_len (rab_cons (RE.b (n := 0) (fr := true) (re_v (pv 0))) (rab_nil))) (re_int)))))) (rss_one (rs_ret (re_bl))) (rss_nil))
    (rss_cons (Γ1 := [0, 0]) (rs_for (passes_of rfl) rfl (ri_any (re_v (pv 0))) (rg_n sc_is_name.nd (.inl rfl)) (rss_one (rs_if (rt_nin (n1 := 0) (f1 := true) (n2 := 0) (f2 := true) (units65 hr) (re_v (pv 1)) (re_glob q_LETTERS)) (rss_one (rs_ret (re_bl))) (rss_nil))))
    (rss_one (rs_ret (re_bl)))))
theorem ok_are_names {f : Addr} {fd : FuncData} (F : Fun K "are_names" "are_names" s_are_names f fd) (z_isinstance : mg "isinstance" = none) (z_len : mg "len" = none) (z_list : mg "list" = none) (z_set : mg "set" = none) (g_is_name : FnG P w K mg base "is_name" 1 0 1 m_is_name) : FnOk P w K mg base (L2.CX P w) 2 f fd ["thing", "top"] (spM K mg 0 2 m_are_names) :=
  mk_ok (k := 1) (n := 0) (N := N_are_names) (m := b_are_names) (Γ := [0, 0, 0]) (Γ' := [0, 0, 0]) F sc_are_names rfl (by decide) (fun cdv A outer s H E hr =>
    rss_cons (Γ1 := [0, 0, 0]) (rs_if (RW.t (rw_or (rt_not (rt_val (n1 := 0) (f1 := true) (re_isi z_isinstance z_list boot_list (RE.b (n := 0) (fr := true) (re_v (pv 0)))))) (rw_or1 (rt_not (rt_chain op_le op_le bf_le bf_le (re_int) (re_len z_len (rab_cons (RE.b (n := 0) (fr := true) (re_v (pv 0))) (rab_nil))) (re_v (pv 1))))))) (rss_one (rs_ret (re_bl))) (rss_nil))
    (rss_cons (Γ1 := [0, 0, 0]) (rs_for (passes_of rfl) rfl (ri_any (re_v (pv 0))) (rg_n sc_are_names.nd (.inl rfl)) (rss_one (rs_if (rt_not (rt_val (n1 := 0) (f1 := true) (re_call (n := 0) (g_is_name.mono (by decide)) hr (takes_of rfl rfl rfl rfl) (ra_cons (re_v (pv 2)) (ra_nil))))) (rss_one (rs_ret (re_bl))) (rss_nil))))
    (rss_one (rs_ret (re_eq (n1 := 0) (f1 := true) (n2 := 0) (f2 := true) hr.units (re_lenSetT z_len z_set (RE.b (n := 0) (fr := true) (re_v (pv 0)))) (re_len z_len (rab_cons (RE.b (n := 0) (fr := true) (re_v (pv 0))) (rab_nil))))))))
theorem ok_is_worth {f : Addr} {fd : FuncData} (F : Fun K "is_worth" "is_worth" s_is_worth f fd) (z_bool : mg "bool" = none) (z_int : mg "int" = none) (z_isinstance : mg "isinstance" = none) : FnOk P w K mg base (L2.CX P w) 1 f fd ["thing"] (spM K mg 0 1 m_is_worth) :=
  mk_ok (k := 0) (n := 0) (N := N_is_worth) (m := b_is_worth) (Γ := [0]) (Γ' := [0]) F sc_is_worth rfl (by decide) (fun cdv A outer s H E hr =>
    rss_one (rs_ret (re_and (n1 := 0) (f1 := true) (re_isi z_isinstance z_int boot_int (RE.b (n := 0) (fr := true) (re_v (pv 0)))) (re_and (n1 := 0) (f1 := true) (re_not (n1 := 0) (f1 := true) (re_isi z_isinstance z_bool boot_bool (RE.b (n := 0) (fr := true) (re_v (pv 0))))) (re_one (re_chain op_lt op_lt bf_lt bf_lt (re_sub (re_int) (re_pow (re_int) (re_int))) (re_v (pv 0)) (re_pow (re_int) (re_int))))))))
theorem ok_are_worths {f : Addr} {fd : FuncData} (F : Fun K "are_worths" "are_worths" s_are_worths f fd) (z_isinstance : mg "isinstance" = none) (z_len : mg "len" = none) (z_list : mg "list" = none) (g_is_worth : FnG P w K mg base "is_worth" 1 0 1 m_is_worth) : FnOk P w K mg base (L2.CX P w) 2 f fd ["thing", "words", "outcomes"] (spM K mg 0 3 m_are_worths) :=
  mk_ok (k := 1) (n := 0) (N := N_are_worths) (m := b_are_worths) (Γ := [0, 0, 0, 0, 0]) (Γ' := [0, 0, 0, 0, 0]) F sc_are_worths rfl (by decide) (fun cdv A outer s H E hr =>
    rss_cons (Γ1 := [0, 0, 0, 0, 0]) (rs_if (RW.t (rw_or (rt_not (rt_val (n1 := 0) (f1 := true) (re_isi z_isinstance z_list boot_list (RE.b (n := 0) (fr := true) (re_v (pv 0)))))) (rw_or1 (rt_ne (n1 := 0) (f1 := true) (n2 := 0) (f2 := true) hr.units (re_len z_len (rab_cons (RE.b (n := 0) (fr := true) (re_v (pv 0))) (rab_nil))) (re_v (pv 1)))))) (rss_one (rs_ret (re_bl))) (rss_nil))
    (rss_cons (Γ1 := [0, 0, 0, 0, 0]) (rs_for (passes_of rfl) rfl (ri_any (re_v (pv 0))) (rg_n sc_are_worths.nd (.inl rfl)) (rss_cons (Γ1 := [0, 0, 0, 0, 0]) (rs_if (RW.t (rw_or (rt_not (rt_val (n1 := 0) (f1 := true) (re_isi z_isinstance z_list boot_list (RE.b (n := 0) (fr := true) (re_v (pv 3)))))) (rw_or1 (rt_ne (n1 := 0) (f1 := true) (n2 := 0) (f2 := true) hr.units (re_len z_len (rab_cons (RE.b (n := 0) (fr := true) (re_v (pv 3))) (rab_nil))) (re_v (pv 2)))))) (rss_one (rs_ret (re_bl))) (rss_nil))
    (rss_one (rs_for (passes_of rfl) rfl (ri_any (re_v (pv 3))) (rg_n sc_are_worths.nd (.inl rfl)) (rss_one (rs_if (rt_not (rt_val (n1 := 0) (f1 := true) (re_call (n := 0) (g_is_worth.mono (by decide)) hr (takes_of rfl rfl rfl rfl) (ra_cons (re_v (pv 4)) (ra_nil))))) (rss_one (rs_ret (re_bl))) (rss_nil)))))))
    (rss_one (rs_ret (re_bl)))))
theorem ok_is_hand {f : Addr} {fd : FuncData} (F : Fun K "is_hand" "is_hand" s_is_hand f fd) (z_isinstance : mg "isinstance" = none) (z_len : mg "len" = none) (z_tuple : mg "tuple" = none) (g_are_names : FnG P w K mg base "are_names" 2 0 2 m_are_names) (g_are_worths : FnG P w K mg base "are_worths" 2 0 3 m_are_worths) (g_is_name : FnG P w K mg base "is_name" 1 0 1 m_is_name) : FnOk P w K mg base (L2.CX P w) 3 f fd ["thing", "outcomes"] (spM K mg 0 2 m_is_hand) :=
  mk_ok (k := 2) (n := 0) (N := N_is_hand) (m := b_is_hand) (Γ := [0, 0]) (Γ' := [0, 0]) F sc_is_hand rfl (by decide) (fun cdv A outer s H E hr =>
    rss_cons (Γ1 := [0, 0]) (rs_if (RW.t (rw_or (rt_not (rt_val (n1 := 0) (f1 := true) (re_isi z_isinstance z_tuple boot_tuple (RE.b (n := 0) (fr := true) (re_v (pv 0)))))) (rw_or1 (rt_ne (n1 := 0) (f1 := true) (n2 := 0) (f2 := true) hr.units (re_len z_len (rab_cons (RE.b (n := 0) (fr := true) (re_v (pv 0))) (rab_nil))) (re_int))))) (rss_one (rs_ret (re_bl))) (rss_nil))
    (rss_cons (Γ1 := [0, 0]) (rs_if (RW.t (rw_or (rt_not (rt_val (n1 := 0) (f1 := true) (re_call (n := 0) (g_is_name.mono (by decide)) hr (takes_of rfl rfl rfl rfl) (ra_cons (re_ix (hu_of hr) (re_v (pv 0)) (re_int)) (ra_nil))))) (rw_or1 (rt_not (rt_val (n1 := 0) (f1 := true) (re_call (n := 0) (g_are_names.mono (by decide)) hr (takes_of rfl rfl rfl rfl) (ra_cons (re_ix (hu_of hr) (re_v (pv 0)) (re_int)) (ra_cons (re_int) (ra_nil))))))))) (rss_one (rs_ret (re_bl))) (rss_nil))
    (rss_one (rs_ret (re_call (n := 0) (g_are_worths.mono (by decide)) hr (takes_of rfl rfl rfl rfl) (ra_cons (re_ix (hu_of hr) (re_v (pv 0)) (re_int)) (ra_cons (re_len z_len (rab_cons (RE.b (n := 0) (fr := true) (re_ix (hu_of hr) (re_v (pv 0)) (re_int))) (rab_nil))) (ra_cons (re_v (pv 1)) (ra_nil)))))))))
theorem ok_house_of {f : Addr} {fd : FuncData} (F : Fun K "house_of" "house_of" s_house_of f fd) (z_isinstance : mg "isinstance" = none) (z_len : mg "len" = none) (z_list : mg "list" = none) (z_set : mg "set" = none) (z_tuple : mg "tuple" = none) (g_are_names : FnG P w K mg base "are_names" 2 0 2 m_are_names) (g_is_hand : FnG P w K mg base "is_hand" 3 0 2 m_is_hand) : FnOk P w K mg base (L2.CX P w) 4 f fd ["outcomes", "hands"] (spM K mg 0 2 m_house_of_v3) :=
  mk_ok (k := 3) (n := 0) (N := N_house_of) (m := b_house_of_v3) (Γ := [0, 0, 0, 0, 0, 0]) (Γ' := [0, 0, 0, 0, 0, 0]) F sc_house_of rfl (by decide) (fun cdv A outer s H E hr =>
    rss_cons (Γ1 := [0, 0, 0, 0, 0, 0]) (rs_if (rt_not (rt_val (n1 := 0) (f1 := true) (re_call (n := 0) (g_are_names.mono (by decide)) hr (takes_of rfl rfl rfl rfl) (ra_cons (re_v (pv 0)) (ra_cons (re_int) (ra_nil)))))) (rss_one (rs_dead)) (rss_nil))
    (rss_cons (Γ1 := [0, 0, 0, 0, 0, 0]) (rs_if (RW.t (rw_or (rt_not (rt_val (n1 := 0) (f1 := true) (re_isi z_isinstance z_list boot_list (RE.b (n := 0) (fr := true) (re_v (pv 1)))))) (rw_or1 (rt_not (rt_chain op_le op_le bf_le bf_le (re_int) (re_len z_len (rab_cons (RE.b (n := 0) (fr := true) (re_v (pv 1))) (rab_nil))) (re_int)))))) (rss_one (rs_dead)) (rss_nil))
    (rss_cons (Γ1 := [0, 0, 0, 0, 0, 0]) (rs_set (k := 0) (re_int) sc_house_of.nd (.inl rfl))
    (rss_cons (Γ1 := [0, 0, 0, 1, 0, 0]) (rs_set (k := 1) (re_lst (ra_nil)) sc_house_of.nd (.inl rfl))
    (rss_cons (Γ1 := [0, 0, 0, 1, 0, 0]) (rs_for (passes_of rfl) rfl (ri_any (re_v (pv 1))) (rg_n sc_house_of.nd (.inl rfl)) (rss_cons (Γ1 := [0, 0, 0, 1, 0, 0]) (rs_if (rt_not (rt_val (n1 := 0) (f1 := true) (re_call (n := 0) (g_is_hand.mono (by decide)) hr (takes_of rfl rfl rfl rfl) (ra_cons (re_v (pv 4)) (ra_cons (re_len z_len (rab_cons (RE.b (n := 0) (fr := true) (re_v (pv 0))) (rab_nil))) (ra_nil)))))) (rss_one (rs_dead)) (rss_nil))
    (rss_cons (Γ1 := [0, 0, 0, 1, 0, 0]) (rs_set (k := 0) (re_mul (re_v (pv 2)) (re_len z_len (rab_cons (RE.b (n := 0) (fr := true) (re_ix (hu_of hr) (re_v (pv 4)) (re_int))) (rab_nil)))) sc_house_of.nd (.inl rfl))
    (rss_one (rs_app (rp_var (pv 3)) (re_tup (ra_cons (re_ix (hu_of hr) (re_v (pv 4)) (re_int)) (ra_cons (re_tuple z_tuple (ra_cons (re_ix (hu_of hr) (re_v (pv 4)) (re_int)) (ra_nil))) (ra_cons (re_tuple z_tuple (ra_cons ((RE.w (n := 1) (re_lc (n := 0) (own := [("row", 5)]) rfl sc_house_of.nd (ri_any (re_ix (hu_of hr) (re_v (pv 4)) (re_int))) (blkOk_by (own := [("row", 5)]) (N := N_house_of) (sc := defScope s_house_of) (by decide +kernel)) (fun _ _ _ _ _ => rgw_n sc_house_of.nd (.inl rfl)) (fun _ _ _ _ _ => rts_nil) (fun _ _ _ _ _ => re_tuple z_tuple (ra_cons (re_v (pv 5)) (ra_nil)))))) (ra_nil))) (ra_nil))))))))))
    (rss_frz 3 (rss_cons (Γ1 := [0, 0, 0, 0, 0, 0]) (rs_if (RW.t (rw_or (rt_gt (n1 := 0) (f1 := true) (n2 := 0) (f2 := true) (re_v (pv 2)) (re_int)) (rw_or1 (rt_ne (n1 := 0) (f1 := true) (n2 := 0) (f2 := true) hr.units (re_lenSetT z_len z_set (RE.b (n := 0) (fr := true) ((RE.w (n := 1) (re_lc (n := 0) (own := [("hand", 4)]) rfl sc_house_of.nd (ri_any (re_v (pv 3))) (blkOk_by (own := [("hand", 4)]) (N := N_house_of) (sc := defScope s_house_of) (by decide +kernel)) (fun _ _ _ _ _ => rgw_n sc_house_of.nd (.inl rfl)) (fun _ _ _ _ _ => rts_nil) (fun _ _ _ _ _ => re_ix (hu_of hr) (re_v (pv 4)) (re_int))))))) (re_len z_len (rab_cons (RE.b (n := 0) (fr := true) (re_v (pv 3))) (rab_nil))))))) (rss_one (rs_dead)) (rss_nil))
    (rss_one (rs_ret (re_tup (ra_cons (re_tuple z_tuple (ra_cons (re_v (pv 0)) (ra_nil))) (ra_cons (re_tuple z_tuple (ra_cons (re_v (pv 3)) (ra_nil))) (ra_nil)))))))))))))
theorem ok_crossed {f : Addr} {fd : FuncData} (F : Fun K "crossed" "crossed" s_crossed f fd) : FnOk P w K mg base (L2.CX P w) 1 f fd ["lists"] (spM K mg 1 1 m_crossed_v3) :=
  mk_ok (k := 0) (n := 1) (N := N_crossed) (m := b_crossed_v3) (Γ := [0, 0, 0, 0, 0, 0]) (Γ' := [0, 0, 0, 0, 0, 0]) F sc_crossed rfl (by decide) (fun cdv A outer s H E hr =>
    rss_cons (Γ1 := [0, 1, 0, 0, 0, 0]) (rs_set (k := 1) (re_lst (ra_cons (re_tup (ra_nil)) (ra_nil))) sc_crossed.nd (.inl rfl))
    (rss_cons (Γ1 := [0, 1, 0, 0, 0, 0]) (rs_for (passes_of rfl) rfl (ri_any (re_v (pv 0))) (rg_n sc_crossed.nd (.inl rfl)) (rss_fz (Γ1 := [0, 1, 0, 1, 0, 0]) 3 (rss_cons (Γ1 := [0, 1, 0, 1, 0, 0]) (rs_set (k := 1) (re_lst (ra_nil)) sc_crossed.nd (.inl rfl))
    (rss_frz 1 (rss_cons (Γ1 := [0, 0, 0, 1, 0, 0]) (rs_for (passes_of rfl) rfl (ri_any (re_v (pv 1))) (rg_n sc_crossed.nd (.inl rfl)) (rss_one (rs_for (passes_of rfl) rfl (ri_any (re_v (pv 2))) (rg_n sc_crossed.nd (.inl rfl)) (rss_one (rs_app (rp_var (pv 3)) (re_addF (re_v (pv 4)) (re_tupDF (ra_cons (re_v (pv 5)) (ra_nil)))))))))
    (rss_one (rs_mv (pv 3) sc_crossed.nd (.inl rfl))))))))
    (rss_one (rs_retO (pv 1)))))
theorem ok_rows_of {f : Addr} {fd : FuncData} (F : Fun K "rows_of" "rows_of" s_rows_of f fd) (g_crossed : FnG P w K mg base "crossed" 1 1 1 m_crossed_v3) : FnOk P w K mg base (L2.CX P w) 2 f fd ["house"] (spM K mg 1 1 m_rows_of_v3) :=
  mk_ok (k := 1) (n := 1) (N := N_rows_of) (m := b_rows_of_v3) (Γ := [0, 0]) (Γ' := [0, 0]) F sc_rows_of rfl (by decide) (fun cdv A outer s H E hr =>
    rss_one (rs_ret (re_call (n := 1) (g_crossed.mono (by decide)) hr (takes_of rfl rfl rfl rfl) (ra_cons ((RE.w (n := 1) (re_lc (n := 0) (own := [("hand", 1)]) rfl sc_rows_of.nd (ri_any (re_ix (hu_of hr) (re_v (pv 0)) (re_int))) (blkOk_by (own := [("hand", 1)]) (N := N_rows_of) (sc := defScope s_rows_of) (by decide +kernel)) (fun _ _ _ _ _ => rgw_n sc_rows_of.nd (.inl rfl)) (fun _ _ _ _ _ => rts_nil) (fun _ _ _ _ _ => re_ix (hu_of hr) (re_v (pv 1)) (re_int))))) (ra_nil)))))
theorem ok_holds {f : Addr} {fd : FuncData} (F : Fun K "holds" "holds" s_holds f fd) {k : Nat} (hk : 0 ≤ k) {r_holds : List D → Res D} (g_holds : FnG P w K mg base "holds" k 0 2 r_holds) : FnOk P w K mg base (L2.CX P w) (k + 1) f fd ["condition", "row"] (spM K mg 0 2 (callM 3 (b_holds r_holds))) :=
  mk_ok (k := k) (n := 0) (N := N_holds) (m := b_holds r_holds) (Γ := [0, 0, 0]) (Γ' := [0, 0, 0]) F sc_holds rfl (by decide) (fun cdv A outer s H E hr =>
    rss_cons (Γ1 := [0, 0, 0]) (rs_if (rt_isN (n1 := 0) (f1 := true) (re_v (pv 0))) (rss_one (rs_ret (re_bl))) (rss_nil))
    (rss_cons (Γ1 := [0, 0, 0]) (rs_set (k := 0) (re_ix (hu_of hr) (re_v (pv 0)) (re_int)) sc_holds.nd (.inl rfl))
    (rss_cons (Γ1 := [0, 0, 0]) (rs_if (rt_eq (n1 := 0) (f1 := true) (n2 := 0) (f2 := true) hr.units (re_v (pv 2)) (re_str)) (rss_one (rs_ret (re_eq (n1 := 0) (f1 := true) (n2 := 0) (f2 := true) hr.units (re_ix (hu_of hr) (re_v (pv 1)) (re_ix (hu_of hr) (re_v (pv 0)) (re_int))) (re_ix (hu_of hr) (re_v (pv 0)) (re_int))))) (rss_nil))
    (rss_cons (Γ1 := [0, 0, 0]) (rs_if (rt_eq (n1 := 0) (f1 := true) (n2 := 0) (f2 := true) hr.units (re_v (pv 2)) (re_str)) (rss_one (rs_ret (re_ge (n1 := 0) (f1 := true) (n2 := 0) (f2 := true) (re_count (RE.b (n := 0) (fr := true) (re_v (pv 1))) (RE.b (n := 0) (fr := true) (re_ix (hu_of hr) (re_v (pv 0)) (re_int)))) (re_ix (hu_of hr) (re_v (pv 0)) (re_int))))) (rss_nil))
    (rss_cons (Γ1 := [0, 0, 0]) (rs_if (rt_eq (n1 := 0) (f1 := true) (n2 := 0) (f2 := true) hr.units (re_v (pv 2)) (re_str)) (rss_one (rs_ret (re_not (n1 := 0) (f1 := true) (re_call (n := 0) (g_holds.mono (by omega)) hr (takes_of rfl rfl rfl rfl) (ra_cons (re_ix (hu_of hr) (re_v (pv 0)) (re_int)) (ra_cons (re_v (pv 1)) (ra_nil))))))) (rss_nil))
    (rss_cons (Γ1 := [0, 0, 0]) (rs_if (rt_eq (n1 := 0) (f1 := true) (n2 := 0) (f2 := true) hr.units (re_v (pv 2)) (re_str)) (rss_one (rs_ret (re_and (n1 := 0) (f1 := true) (re_call (n := 0) (g_holds.mono (by omega)) hr (takes_of rfl rfl rfl rfl) (ra_cons (re_ix (hu_of hr) (re_v (pv 0)) (re_int)) (ra_cons (re_v (pv 1)) (ra_nil)))) (re_one (re_call (n := 0) (g_holds.mono (by omega)) hr (takes_of rfl rfl rfl rfl) (ra_cons (re_ix (hu_of hr) (re_v (pv 0)) (re_int)) (ra_cons (re_v (pv 1)) (ra_nil)))))))) (rss_nil))
    (rss_one (rs_ret (re_or (n1 := 0) (f1 := true) (re_call (n := 0) (g_holds.mono (by omega)) hr (takes_of rfl rfl rfl rfl) (ra_cons (re_ix (hu_of hr) (re_v (pv 0)) (re_int)) (ra_cons (re_v (pv 1)) (ra_nil)))) (re_one (re_call (n := 0) (g_holds.mono (by omega)) hr (takes_of rfl rfl rfl rfl) (ra_cons (re_ix (hu_of hr) (re_v (pv 0)) (re_int)) (ra_cons (re_v (pv 1)) (ra_nil))))))))))))))
theorem ok_dealt {f : Addr} {fd : FuncData} (F : Fun K "dealt" "dealt" s_dealt f fd) (g_holds : FnG P w K mg base "holds" 60 0 2 (m_holds 60)) : FnOk P w K mg base (L2.CX P w) 61 f fd ["rule", "row"] (spM K mg 0 2 m_dealt) :=
  mk_ok (k := 60) (n := 0) (N := N_dealt) (m := b_dealt) (Γ := [0, 0, 0, 0]) (Γ' := [0, 0, 0, 0]) F sc_dealt rfl (by decide) (fun cdv A outer s H E hr =>
    rss_cons (Γ1 := [0, 0, 0, 0]) (rs_for (passes_of rfl) rfl (ri_any (re_v (pv 0))) (rg_t rfl (rgs_cons (rg_n sc_dealt.nd (.inl rfl)) (rgs_cons (rg_n sc_dealt.nd (.inl rfl)) (rgs_nil)))) (rss_one (rs_if (rt_val (n1 := 0) (f1 := true) (re_call (n := 0) (g_holds.mono (by decide)) hr (takes_of rfl rfl rfl rfl) (ra_cons (re_v (pv 2)) (ra_cons (re_v (pv 1)) (ra_nil))))) (rss_one (rs_ret (re_v (pv 3)))) (rss_nil))))
    (rss_one (rs_ret (re_ix (hu_of hr) (re_ix (hu_of hr) (re_v (pv 0)) (re_neg (re_int))) (re_int)))))
theorem ok_table_of {f : Addr} {fd : FuncData} (F : Fun K "table_of" "table_of" s_table_of f fd) (g_dealt : FnG P w K mg base "dealt" 61 0 2 m_dealt) (g_rows_of : FnG P w K mg base "rows_of" 2 1 1 m_rows_of_v3) : FnOk P w K mg base (L2.CX P w) 62 f fd ["house", "rule"] (spM K mg 1 2 m_table_of) :=
  mk_ok (k := 61) (n := 1) (N := N_table_of) (m := b_table_of) (Γ := [0, 0, 0, 0]) (Γ' := [0, 0, 0, 0]) F sc_table_of rfl (by decide) (fun cdv A outer s H E hr =>
    rss_cons (Γ1 := [0, 0, 1, 0]) (rs_set (k := 1) (re_dT0) sc_table_of.nd (.inl rfl))
    (rss_cons (Γ1 := [0, 0, 1, 0]) (rs_tab (g_rows_of.mono (by decide)).n hr (passes_of rfl) rfl (hu_of hr) (ra_cons (re_v (pv 0)) (ra_nil)) (re_call (n := 0) (g_dealt.mono (by decide)) hr (takes_of rfl rfl rfl rfl) (ra_cons (re_v (pv 1)) (ra_cons (re_v (pv 3)) (ra_nil)))) sc_table_of.nd (.inl rfl) (pv 2) (pv 3))
    (rss_one (rs_retO (pv 2)))))
theorem ok_word_at {f : Addr} {fd : FuncData} (F : Fun K "word_at" "word_at" s_word_at f fd) (z_len : mg "len" = none) : FnOk P w K mg base (L2.CX P w) 1 f fd ["words", "place"] (spM K mg 0 2 m_word_at) :=
  mk_ok (k := 0) (n := 0) (N := N_word_at) (m := b_word_at) (Γ := [0, 0]) (Γ' := [0, 0]) F sc_word_at rfl (by decide) (fun cdv A outer s H E hr =>
    rss_cons (Γ1 := [0, 0]) (rs_if (rt_ge (n1 := 0) (f1 := true) (n2 := 0) (f2 := true) (re_v (pv 1)) (re_len z_len (rab_cons (RE.b (n := 0) (fr := true) (re_v (pv 0))) (rab_nil)))) (rss_one (rs_dead)) (rss_nil))
    (rss_one (rs_ret (re_ix (hu_of hr) (re_v (pv 0)) (re_v (pv 1))))))
theorem ok_saying {f : Addr} {fd : FuncData} (F : Fun K "saying" "saying" s_saying f fd) (z_enumerate : mg "enumerate" = none) (g_word_at : FnG P w K mg base "word_at" 1 0 2 m_word_at) : FnOk P w K mg base (L2.CX P w) 2 f fd ["house", "words", "place"] (spM K mg 0 3 m_saying) :=
  mk_ok (k := 1) (n := 0) (N := N_saying) (m := b_saying) (Γ := [0, 0, 0, 0, 0, 0, 0]) (Γ' := [0, 0, 0, 0, 0, 0, 0]) F sc_saying rfl (by decide) (fun cdv A outer s H E hr =>
    rss_cons (Γ1 := [0, 0, 0, 0, 0, 0, 0]) (rs_set (k := 0) (re_call (n := 0) (g_word_at.mono (by decide)) hr (takes_of rfl rfl rfl rfl) (ra_cons (re_v (pv 1)) (ra_cons (re_add (re_v (pv 2)) (re_int)) (ra_nil)))) sc_saying.nd (.inl rfl))
    (rss_cons (Γ1 := [0, 0, 0, 0, 0, 0, 0]) (rs_set (k := 0) (re_call (n := 0) (g_word_at.mono (by decide)) hr (takes_of rfl rfl rfl rfl) (ra_cons (re_v (pv 1)) (ra_cons (re_add (re_v (pv 2)) (re_int)) (ra_nil)))) sc_saying.nd (.inl rfl))
    (rss_cons (Γ1 := [0, 0, 0, 0, 0, 0, 0]) (rs_for (passes_of rfl) rfl (ri_enum z_enumerate (re_ix (hu_of hr) (re_v (pv 0)) (re_int))) (rg_t rfl (rgs_cons (rg_n sc_saying.nd (.inl rfl)) (rgs_cons (rg_n sc_saying.nd (.inl rfl)) (rgs_nil)))) (rss_one (rs_if (RW.t (rw_and (rt_eq (n1 := 0) (f1 := true) (n2 := 0) (f2 := true) hr.units (re_ix (hu_of hr) (re_v (pv 6)) (re_int)) (re_v (pv 3))) (rw_and1 (rt_in (n1 := 0) (f1 := true) (n2 := 0) (f2 := true) (units65 hr) (re_v (pv 4)) (re_ix (hu_of hr) (re_v (pv 6)) (re_int)))))) (rss_one (rs_ret (re_tup (ra_cons (re_tup (ra_cons (re_str) (ra_cons (re_v (pv 5)) (ra_cons (re_v (pv 4)) (ra_nil))))) (ra_cons (re_add (re_v (pv 2)) (re_int)) (ra_nil)))))) (rss_nil))))
    (rss_one (rs_dead)))))
theorem ok_counting {f : Addr} {fd : FuncData} (F : Fun K "counting" "counting" s_counting f fd) (z_int : mg "int" = none) (g_word_at : FnG P w K mg base "word_at" 1 0 2 m_word_at) : FnOk P w K mg base (L2.CX P w) 2 f fd ["house", "words", "place"] (spM K mg 0 3 m_counting) :=
  mk_ok (k := 1) (n := 0) (N := N_counting) (m := b_counting) (Γ := [0, 0, 0, 0, 0, 0]) (Γ' := [0, 0, 0, 0, 0, 0]) F sc_counting rfl (by decide) (fun cdv A outer s H E hr =>
    rss_cons (Γ1 := [0, 0, 0, 0, 0, 0]) (rs_set (k := 0) (re_call (n := 0) (g_word_at.mono (by decide)) hr (takes_of rfl rfl rfl rfl) (ra_cons (re_v (pv 1)) (ra_cons (re_add (re_v (pv 2)) (re_int)) (ra_nil)))) sc_counting.nd (.inl rfl))
    (rss_cons (Γ1 := [0, 0, 0, 0, 0, 0]) (rs_set (k := 0) (re_call (n := 0) (g_word_at.mono (by decide)) hr (takes_of rfl rfl rfl rfl) (ra_cons (re_v (pv 1)) (ra_cons (re_add (re_v (pv 2)) (re_int)) (ra_nil)))) sc_counting.nd (.inl rfl))
    (rss_cons (Γ1 := [0, 0, 0, 0, 0, 0]) (rs_if (rt_nin (n1 := 0) (f1 := true) (n2 := 0) (f2 := true) (units65 hr) (re_v (pv 3)) ((RE.w (n := 1) (re_lst (ra_cons (re_str) (ra_cons (re_str) (ra_cons (re_str) (ra_cons (re_str) (ra_nil))))))))) (rss_one (rs_dead)) (rss_nil))
    (rss_cons (Γ1 := [0, 0, 0, 0, 0, 0]) (rs_for (passes_of rfl) rfl (ri_any (re_ix (hu_of hr) (re_v (pv 0)) (re_int))) (rg_n sc_counting.nd (.inl rfl)) (rss_one (rs_if (rt_in (n1 := 0) (f1 := true) (n2 := 0) (f2 := true) (units65 hr) (re_v (pv 4)) (re_ix (hu_of hr) (re_v (pv 5)) (re_int))) (rss_one (rs_ret (re_tup (ra_cons (re_tup (ra_cons (re_str) (ra_cons (re_intS z_int (rab_cons (RE.b (n := 0) (fr := true) (re_v (pv 3))) (rab_nil))) (ra_cons (re_v (pv 4)) (ra_nil))))) (ra_cons (re_add (re_v (pv 2)) (re_int)) (ra_nil)))))) (rss_nil))))
    (rss_one (rs_dead))))))
theorem ok_condition_at {f : Addr} {fd : FuncData} (F : Fun K "condition_at" "condition_at" s_condition_at f fd) (g_counting : FnG P w K mg base "counting" 2 0 3 m_counting) (g_saying : FnG P w K mg base "saying" 2 0 3 m_saying) (g_word_at : FnG P w K mg base "word_at" 1 0 2 m_word_at) {k : Nat} (hk : 2 ≤ k) {r_condition_at : List D → Res D} (g_condition_at : FnG P w K mg base "condition_at" k 0 3 r_condition_at) : FnOk P w K mg base (L2.CX P w) (k + 1) f fd ["house", "words", "place"] (spM K mg 0 3 (callM 7 (b_condition_at r_condition_at))) :=
  mk_ok (k := k) (n := 0) (N := N_condition_at) (m := b_condition_at r_condition_at) (Γ := [0, 0, 0, 0, 0, 0, 0]) (Γ' := [0, 0, 0, 0, 0, 0, 0]) F sc_condition_at rfl (by decide) (fun cdv A outer s H E hr =>
    rss_cons (Γ1 := [0, 0, 0, 0, 0, 0, 0]) (rs_set (k := 0) (re_call (n := 0) (g_word_at.mono (by omega)) hr (takes_of rfl rfl rfl rfl) (ra_cons (re_v (pv 1)) (ra_cons (re_v (pv 2)) (ra_nil)))) sc_condition_at.nd (.inl rfl))
    (rss_cons (Γ1 := [0, 0, 0, 0, 0, 0, 0]) (rs_if (rt_eq (n1 := 0) (f1 := true) (n2 := 0) (f2 := true) hr.units (re_v (pv 3)) (re_str)) (rss_one (rs_ret (re_call (n := 0) (g_saying.mono (by omega)) hr (takes_of rfl rfl rfl rfl) (ra_cons (re_v (pv 0)) (ra_cons (re_v (pv 1)) (ra_cons (re_v (pv 2)) (ra_nil))))))) (rss_nil))
    (rss_cons (Γ1 := [0, 0, 0, 0, 0, 0, 0]) (rs_if (rt_eq (n1 := 0) (f1 := true) (n2 := 0) (f2 := true) hr.units (re_v (pv 3)) (re_str)) (rss_one (rs_ret (re_call (n := 0) (g_counting.mono (by omega)) hr (takes_of rfl rfl rfl rfl) (ra_cons (re_v (pv 0)) (ra_cons (re_v (pv 1)) (ra_cons (re_v (pv 2)) (ra_nil))))))) (rss_nil))
    (rss_cons (Γ1 := [0, 0, 0, 0, 0, 0, 0]) (rs_if (rt_eq (n1 := 0) (f1 := true) (n2 := 0) (f2 := true) hr.units (re_v (pv 3)) (re_str)) (rss_cons (Γ1 := [0, 0, 0, 0, 0, 0, 0]) (rs_asg (re_call (n := 0) (g_condition_at.mono (by omega)) hr (takes_of rfl rfl rfl rfl) (ra_cons (re_v (pv 0)) (ra_cons (re_v (pv 1)) (ra_cons (re_add (re_v (pv 2)) (re_int)) (ra_nil))))) (rg_t rfl (rgs_cons (rg_n sc_condition_at.nd (.inl rfl)) (rgs_cons (rg_n sc_condition_at.nd (.inl rfl)) (rgs_nil)))))
    (rss_one (rs_ret (re_tup (ra_cons (re_tup (ra_cons (re_str) (ra_cons (re_v (pv 4)) (ra_nil)))) (ra_cons (re_v (pv 5)) (ra_nil))))))) (rss_nil))
    (rss_cons (Γ1 := [0, 0, 0, 0, 0, 0, 0]) (rs_if (RW.t (rw_or (rt_eq (n1 := 0) (f1 := true) (n2 := 0) (f2 := true) hr.units (re_v (pv 3)) (re_str)) (rw_or1 (rt_eq (n1 := 0) (f1 := true) (n2 := 0) (f2 := true) hr.units (re_v (pv 3)) (re_str))))) (rss_cons (Γ1 := [0, 0, 0, 0, 0, 0, 0]) (rs_asg (re_call (n := 0) (g_condition_at.mono (by omega)) hr (takes_of rfl rfl rfl rfl) (ra_cons (re_v (pv 0)) (ra_cons (re_v (pv 1)) (ra_cons (re_add (re_v (pv 2)) (re_int)) (ra_nil))))) (rg_t rfl (rgs_cons (rg_n sc_condition_at.nd (.inl rfl)) (rgs_cons (rg_n sc_condition_at.nd (.inl rfl)) (rgs_nil)))))
    (rss_cons (Γ1 := [0, 0, 0, 0, 0, 0, 0]) (rs_asg (re_call (n := 0) (g_condition_at.mono (by omega)) hr (takes_of rfl rfl rfl rfl) (ra_cons (re_v (pv 0)) (ra_cons (re_v (pv 1)) (ra_cons (re_v (pv 5)) (ra_nil))))) (rg_t rfl (rgs_cons (rg_n sc_condition_at.nd (.inl rfl)) (rgs_cons (rg_n sc_condition_at.nd (.inl rfl)) (rgs_nil)))))
    (rss_one (rs_ret (re_tup (ra_cons (re_tup (ra_cons (re_v (pv 3)) (ra_cons (re_v (pv 4)) (ra_cons (re_v (pv 6)) (ra_nil))))) (ra_cons (re_v (pv 5)) (ra_nil)))))))) (rss_nil))
    (rss_one (rs_dead)))))))
theorem ok_clause_of {f : Addr} {fd : FuncData} (F : Fun K "clause_of" "clause_of" s_clause_of f fd) (z_len : mg "len" = none) (g_condition_at : FnG P w K mg base "condition_at" 62 0 3 (m_condition_at 60)) : FnOk P w K mg base (L2.CX P w) 63 f fd ["house", "text", "last"] (spM K mg 0 3 m_clause_of) :=
  mk_ok (k := 62) (n := 0) (N := N_clause_of) (m := b_clause_of) (Γ := [0, 0, 0, 0, 0, 0]) (Γ' := [0, 0, 0, 0, 0, 0]) F sc_clause_of rfl (by decide) (fun cdv A outer s H E hr =>
    rss_cons (Γ1 := [0, 0, 0, 0, 0, 0]) (rs_set (k := 0) (re_split (RE.b (n := 0) (fr := true) (re_v (pv 1))) (RE.b (n := 0) (fr := true) (re_str))) sc_clause_of.nd (.inl rfl))
    (rss_cons (Γ1 := [0, 0, 0, 0, 0, 0]) (rs_if (rt_gt (n1 := 0) (f1 := true) (n2 := 0) (f2 := true) (re_len z_len (rab_cons (RE.b (n := 0) (fr := true) (re_v (pv 3))) (rab_nil))) (re_int)) (rss_one (rs_dead)) (rss_nil))
    (rss_cons (Γ1 := [0, 0, 0, 0, 0, 0]) (rs_set (k := 0) (re_non) sc_clause_of.nd (.inl rfl))
    (rss_cons (Γ1 := [0, 0, 0, 0, 0, 0]) (rs_set (k := 0) (re_int) sc_clause_of.nd (.inl rfl))
    (rss_cons (Γ1 := [0, 0, 0, 0, 0, 0]) (rs_if (rt_not (rt_val (n1 := 0) (f1 := true) (re_v (pv 2)))) (rss_cons (Γ1 := [0, 0, 0, 0, 0, 0]) (rs_if (rt_ne (n1 := 0) (f1 := true) (n2 := 0) (f2 := true) hr.units (re_ix (hu_of hr) (re_v (pv 3)) (re_int)) (re_str)) (rss_one (rs_dead)) (rss_nil))
    (rss_one (rs_asg (re_call (n := 0) (g_condition_at.mono (by decide)) hr (takes_of rfl rfl rfl rfl) (ra_cons (re_v (pv 0)) (ra_cons (re_v (pv 3)) (ra_cons (re_int) (ra_nil))))) (rg_t rfl (rgs_cons (rg_n sc_clause_of.nd (.inl rfl)) (rgs_cons (rg_n sc_clause_of.nd (.inl rfl)) (rgs_nil))))))) (rss_nil))
    (rss_cons (Γ1 := [0, 0, 0, 0, 0, 0]) (rs_if (RW.t (rw_or (rt_ne (n1 := 0) (f1 := true) (n2 := 0) (f2 := true) hr.units (re_len z_len (rab_cons (RE.b (n := 0) (fr := true) (re_v (pv 3))) (rab_nil))) (re_add (re_v (pv 5)) (re_int))) (rw_or (rt_ne (n1 := 0) (f1 := true) (n2 := 0) (f2 := true) hr.units (re_ix (hu_of hr) (re_v (pv 3)) (re_v (pv 5))) (re_str)) (rw_or1 (rt_nin (n1 := 0) (f1 := true) (n2 := 0) (f2 := true) (units65 hr) (re_ix (hu_of hr) (re_v (pv 3)) (re_add (re_v (pv 5)) (re_int))) (re_ix (hu_of hr) (re_v (pv 0)) (re_int))))))) (rss_one (rs_dead)) (rss_nil))
    (rss_one (rs_ret (re_tup (ra_cons (re_v (pv 4)) (ra_cons (re_ix (hu_of hr) (re_v (pv 3)) (re_add (re_v (pv 5)) (re_int))) (ra_nil))))))))))))
theorem ok_read_rule {f : Addr} {fd : FuncData} (F : Fun K "read_rule" "read_rule" s_read_rule f fd) (z_enumerate : mg "enumerate" = none) (z_isinstance : mg "isinstance" = none) (z_len : mg "len" = none) (z_str : mg "str" = none) (g_clause_of : FnG P w K mg base "clause_of" 63 0 3 m_clause_of) : FnOk P w K mg base (L2.CX P w) 64 f fd ["house", "text"] (spM K mg 1 2 m_read_rule) :=
  mk_ok (k := 63) (n := 1) (N := N_read_rule) (m := b_read_rule) (Γ := [0, 0, 0, 0, 0]) (Γ' := [0, 0, 0, 0, 0]) F sc_read_rule rfl (by decide) (fun cdv A outer s H E hr =>
    rss_cons (Γ1 := [0, 0, 0, 0, 0]) (rs_if (rt_not (rt_val (n1 := 0) (f1 := true) (re_isi z_isinstance z_str boot_str (RE.b (n := 0) (fr := true) (re_v (pv 1)))))) (rss_one (rs_dead)) (rss_nil))
    (rss_cons (Γ1 := [0, 0, 0, 0, 0]) (rs_set (k := 0) (re_split (RE.b (n := 0) (fr := true) (re_v (pv 1))) (RE.b (n := 0) (fr := true) (re_str))) sc_read_rule.nd (.inr rfl))
    (rss_cons (Γ1 := [0, 0, 0, 0, 0]) (rs_if (rt_gt (n1 := 0) (f1 := true) (n2 := 0) (f2 := true) (re_len z_len (rab_cons (RE.b (n := 0) (fr := true) (re_v (pv 2))) (rab_nil))) (re_int)) (rss_one (rs_dead)) (rss_nil))
    (rss_one (rs_ret (re_lc (n := 0) (own := [("k", 3), ("part", 4)]) rfl sc_read_rule.nd (ri_enum z_enumerate (re_v (pv 2))) (blkOk_by (own := [("k", 3), ("part", 4)]) (N := N_read_rule) (sc := defScope s_read_rule) (by decide +kernel)) (fun _ _ _ _ _ => rgw_t rfl (rgws_cons (rgw_n sc_read_rule.nd (.inl rfl)) (rgws_cons (rgw_n sc_read_rule.nd (.inl rfl)) (rgws_nil)))) (fun _ _ _ _ _ => rts_nil) (fun _ _ _ _ _ => re_call (n := 0) (g_clause_of.mono (by decide)) hr takes0 (ra_cons (re_v (pv 0)) (ra_cons (re_v (pv 4)) (ra_cons (re_eq (n1 := 0) (f1 := true) (n2 := 0) (f2 := true) hr.units (re_v (pv 3)) (re_sub (re_len z_len (rab_cons (RE.b (n := 0) (fr := true) (re_v (pv 2))) (rab_nil))) (re_int))) (ra_nil)))))))))))
theorem ok_number_in {f : Addr} {fd : FuncData} (F : Fun K "number_in" "number_in" s_number_in f fd) (z_int : mg "int" = none) (z_len : mg "len" = none) (q_FIGURES : CstG mg "FIGURES" (.str "0123456789")) : FnOk P w K mg base (L2.CX P w) 1 f fd ["word"] (spM K mg 0 1 m_number_in) :=
  mk_ok (k := 0) (n := 0) (N := N_number_in) (m := b_number_in) (Γ := [0, 0, 0]) (Γ' := [0, 0, 0]) F sc_number_in rfl (by decide) (fun cdv A outer s H E hr =>
    rss_cons (Γ1 := [0, 0, 0]) (rs_set (k := 0) (re_v (pv 0)) sc_number_in.nd (.inl rfl))
    (rss_cons (Γ1 := [0, 0, 0]) (rs_if (rt_eq (n1 := 0) (f1 := true) (n2 := 0) (f2 := true) hr.units (re_sl (re_v (pv 0)) (ro_no) (ro_yes (re_int))) (re_str)) (rss_one (rs_set (k := 0) (re_sl (re_v (pv 0)) (ro_yes (re_int)) (ro_no)) sc_number_in.nd (.inl rfl))) (rss_nil))
    (rss_cons (Γ1 := [0, 0, 0]) (rs_if (RW.t (rw_or (rt_not (rt_chain op_le op_le bf_le bf_le (re_int) (re_len z_len (rab_cons (RE.b (n := 0) (fr := true) (re_v (pv 1))) (rab_nil))) (re_int))) (rw_or1 (RW.t (rw_and (rt_eq (n1 := 0) (f1 := true) (n2 := 0) (f2 := true) hr.units (re_ix (hu_of hr) (re_v (pv 1)) (re_int)) (re_str)) (rw_and1 (rt_ne (n1 := 0) (f1 := true) (n2 := 0) (f2 := true) hr.units (re_v (pv 0)) (re_str)))))))) (rss_one (rs_ret (re_non))) (rss_nil))
    (rss_cons (Γ1 := [0, 0, 0]) (rs_for (passes_of rfl) rfl (ri_any (re_v (pv 1))) (rg_n sc_number_in.nd (.inl rfl)) (rss_one (rs_if (rt_nin (n1 := 0) (f1 := true) (n2 := 0) (f2 := true) (units65 hr) (re_v (pv 2)) (re_glob q_FIGURES)) (rss_one (rs_ret (re_non))) (rss_nil))))
    (rss_one (rs_ret (re_intS z_int (rab_cons (RE.b (n := 0) (fr := true) (re_v (pv 0))) (rab_nil)))))))))
theorem ok_numbers_in {f : Addr} {fd : FuncData} (F : Fun K "numbers_in" "numbers_in" s_numbers_in f fd) (g_number_in : FnG P w K mg base "number_in" 1 0 1 m_number_in) : FnOk P w K mg base (L2.CX P w) 2 f fd ["text"] (spM K mg 0 1 m_numbers_in) :=
  mk_ok (k := 1) (n := 0) (N := N_numbers_in) (m := b_numbers_in) (Γ := [0, 0]) (Γ' := [0, 0]) F sc_numbers_in rfl (by decide) (fun cdv A outer s H E hr =>
    rss_one (rs_ret ((RE.w (n := 1) (re_lc (n := 0) (own := [("word", 1)]) rfl sc_numbers_in.nd (ri_any (re_split (RE.b (n := 0) (fr := true) (re_v (pv 0))) (RE.b (n := 0) (fr := true) (re_str)))) (blkOk_by (own := [("word", 1)]) (N := N_numbers_in) (sc := defScope s_numbers_in) (by decide +kernel)) (fun _ _ _ _ _ => rgw_n sc_numbers_in.nd (.inl rfl)) (fun _ _ _ _ _ => rts_nil) (fun _ _ _ _ _ => re_call (n := 0) (g_number_in.mono (by decide)) hr takes0 (ra_cons (re_v (pv 1)) (ra_nil))))))))
theorem ok_hand_in {f : Addr} {fd : FuncData} (F : Fun K "hand_in" "hand_in" s_hand_in f fd) (g_numbers_in : FnG P w K mg base "numbers_in" 2 0 1 m_numbers_in) : FnOk P w K mg base (L2.CX P w) 3 f fd ["text"] (spM K mg 0 1 m_hand_in) :=
  mk_ok (k := 2) (n := 0) (N := N_hand_in) (m := b_hand_in) (Γ := [0, 0, 0, 0, 0, 0]) (Γ' := [0, 0, 0, 0, 0, 0]) F sc_hand_in rfl (by decide) (fun cdv A outer s H E hr =>
    rss_cons (Γ1 := [0, 0, 0, 0, 0, 0]) (rs_set (k := 0) (re_split (RE.b (n := 0) (fr := true) (re_v (pv 0))) (RE.b (n := 0) (fr := true) (re_str))) sc_hand_in.nd (.inl rfl))
    (rss_cons (Γ1 := [0, 0, 1, 0, 0, 0]) (rs_set (k := 1) (re_lst (ra_nil)) sc_hand_in.nd (.inl rfl))
    (rss_cons (Γ1 := [0, 0, 1, 1, 0, 0]) (rs_set (k := 1) (re_lst (ra_nil)) sc_hand_in.nd (.inl rfl))
    (rss_cons (Γ1 := [0, 0, 1, 1, 0, 0]) (rs_for (passes_of rfl) rfl (ri_any (re_sl (re_v (pv 1)) (ro_yes (re_int)) (ro_no))) (rg_n sc_hand_in.nd (.inl rfl)) (rss_cons (Γ1 := [0, 0, 1, 1, 0, 0]) (rs_set (k := 0) (re_part (RE.b (n := 0) (fr := true) (re_v (pv 4))) (RE.b (n := 0) (fr := true) (re_str))) sc_hand_in.nd (.inl rfl))
    (rss_cons (Γ1 := [0, 0, 1, 1, 0, 0]) (rs_app (rp_var (pv 2)) (re_ix (hu_of hr) (re_v (pv 5)) (re_int)))
    (rss_one (rs_app (rp_var (pv 3)) (re_call (n := 0) (g_numbers_in.mono (by decide)) hr (takes_of rfl rfl rfl rfl) (ra_cons (re_ix (hu_of hr) (re_v (pv 5)) (re_int)) (ra_nil))))))))
    (rss_frz 3 (rss_frz 2 (rss_one (rs_ret (re_tup (ra_cons (re_ix (hu_of hr) (re_v (pv 1)) (re_int)) (ra_cons (re_v (pv 2)) (ra_cons (re_v (pv 3)) (ra_nil)))))))))))))
theorem ok_house_in {f : Addr} {fd : FuncData} (F : Fun K "house_in" "house_in" s_house_in f fd) (g_hand_in : FnG P w K mg base "hand_in" 3 0 1 m_hand_in) (g_house_of : FnG P w K mg base "house_of" 4 0 2 m_house_of_v3) : FnOk P w K mg base (L2.CX P w) 5 f fd ["text"] (spM K mg 0 1 m_house_in) :=
  mk_ok (k := 4) (n := 0) (N := N_house_in) (m := b_house_in) (Γ := [0, 0, 0]) (Γ' := [0, 0, 0]) F sc_house_in rfl (by decide) (fun cdv A outer s H E hr =>
    rss_cons (Γ1 := [0, 0, 0]) (rs_set (k := 0) (re_split (RE.b (n := 0) (fr := true) (re_v (pv 0))) (RE.b (n := 0) (fr := true) (re_str))) sc_house_in.nd (.inl rfl))
    (rss_one (rs_ret (re_call (n := 0) (g_house_of.mono (by decide)) hr (takes_of rfl rfl rfl rfl) (ra_cons (re_split (RE.b (n := 0) (fr := true) (re_ix (hu_of hr) (re_v (pv 1)) (re_int))) (RE.b (n := 0) (fr := true) (re_str))) (ra_cons ((RE.w (n := 1) (re_lc (n := 0) (own := [("piece", 2)]) rfl sc_house_in.nd (ri_any (re_sl (re_v (pv 1)) (ro_yes (re_int)) (ro_no))) (blkOk_by (own := [("piece", 2)]) (N := N_house_in) (sc := defScope s_house_in) (by decide +kernel)) (fun _ _ _ _ _ => rgw_n sc_house_in.nd (.inl rfl)) (fun _ _ _ _ _ => rts_nil) (fun _ _ _ _ _ => re_call (n := 0) (g_hand_in.mono (by decide)) hr takes0 (ra_cons (re_v (pv 2)) (ra_nil)))))) (ra_nil)))))))
theorem ok_row_in {f : Addr} {fd : FuncData} (F : Fun K "row_in" "row_in" s_row_in f fd) (z_tuple : mg "tuple" = none) : FnOk P w K mg base (L2.CX P w) 1 f fd ["table", "text"] (spM K mg 0 2 m_row_in) :=
  mk_ok (k := 0) (n := 0) (N := N_row_in) (m := b_row_in) (Γ := [0, 0, 0]) (Γ' := [0, 0, 0]) F sc_row_in rfl (by decide) (fun cdv A outer s H E hr =>
    rss_cons (Γ1 := [0, 0, 0]) (rs_set (k := 0) (re_tuple z_tuple (ra_cons (re_split (RE.b (n := 0) (fr := true) (re_v (pv 1))) (RE.b (n := 0) (fr := true) (re_str))) (ra_nil))) sc_row_in.nd (.inl rfl))
    (rss_cons (Γ1 := [0, 0, 0]) (rs_if (rt_nin (n1 := 0) (f1 := true) (n2 := 0) (f2 := true) (units65 hr) (re_v (pv 2)) (re_v (pv 0))) (rss_one (rs_dead)) (rss_nil))
    (rss_one (rs_ret (re_v (pv 2))))))
theorem ok_told_about {f : Addr} {fd : FuncData} (F : Fun K "told_about" "told_about" s_told_about f fd) (g_row_in : FnG P w K mg base "row_in" 1 0 2 m_row_in) : FnOk P w K mg base (L2.CX P w) 2 f fd ["house", "table", "word", "text"] (spM K mg 0 4 m_told_about) :=
  mk_ok (k := 1) (n := 0) (N := N_told_about) (m := b_told_about) (Γ := [0, 0, 0, 0, 0, 0]) (Γ' := [0, 0, 0, 0, 0, 0]) F sc_told_about rfl (by decide) (fun cdv A outer s H E hr =>
    rss_cons (Γ1 := [0, 0, 0, 0, 0, 0]) (rs_if (rt_eq (n1 := 0) (f1 := true) (n2 := 0) (f2 := true) hr.units (re_v (pv 2)) (re_str)) (rss_dead) (rss_nil))
    (rss_cons (Γ1 := [0, 0, 0, 0, 0, 0]) (rs_if (rt_eq (n1 := 0) (f1 := true) (n2 := 0) (f2 := true) hr.units (re_v (pv 2)) (re_str)) (rss_dead) (rss_nil))
    (rss_cons (Γ1 := [0, 0, 0, 0, 0, 0]) (rs_set (k := 0) (re_call (n := 0) (g_row_in.mono (by decide)) hr (takes_of rfl rfl rfl rfl) (ra_cons (re_v (pv 1)) (ra_cons (re_v (pv 3)) (ra_nil)))) sc_told_about.nd (.inl rfl))
    (rss_cons (Γ1 := [0, 0, 0, 0, 0, 0]) (rs_if (rt_eq (n1 := 0) (f1 := true) (n2 := 0) (f2 := true) hr.units (re_v (pv 2)) (re_str)) (rss_one (rs_ret (re_ix (hu_of hr) (re_v (pv 1)) (re_v (pv 4))))) (rss_nil))
    (rss_dead)))))
theorem ok_say [DeskAt] {f : Addr} {fd : FuncData} (F : Fun K "say" "Desk.say" s_say f fd) (z_isinstance : mg "isinstance" = none) (z_str : mg "str" = none) (t_FIRST : CstT K mg "FIRST" ["house", "rule", "best", "deal", "pays", "verdict", "menu"]) (c_Desk : Cls K DeskAt.C) (n_house : NoAttr K DeskAt.C "house") (n_table : NoAttr K DeskAt.C "table") (g_house_in : FnG P w K mg base "house_in" 5 0 1 m_house_in) (g_read_rule : FnG P w K mg base "read_rule" 64 1 2 m_read_rule) (g_table_of : FnG P w K mg base "table_of" 62 1 2 m_table_of) (g_told_about : FnG P w K mg base "told_about" 2 0 4 m_told_about) : FnOk P w K mg base (L2.CX P w) 65 f fd ["self", "row"] (spI K mg [99, 0, 0] 2 m_say) :=
  mk_okI (k := 64) (N := N_say) (m := b_say) (Γ := [99, 0, 0]) (Γ' := [0, 0, 0]) F sc_say rfl (fun cdv A outer s H E hr =>
    rss_cons (Γ1 := [99, 0, 0]) (rs_if (rt_not (rt_val (n1 := 0) (f1 := true) (re_isi z_isinstance z_str boot_str (RE.b (n := 0) (fr := true) (re_v (pv 1)))))) (rss_one (rs_dead)) (rss_nil))
    (rss_cons (Γ1 := [99, 0, 0]) (rs_set (k := 0) (re_part (RE.b (n := 0) (fr := true) (re_v (pv 1))) (RE.b (n := 0) (fr := true) (re_str))) sc_say.nd (.inl rfl))
    (rss_cons (Γ1 := [99, 0, 0]) (rs_if (RW.t (rw_or (rt_ninG t_FIRST (re_ix (hu_of hr) (re_v (pv 2)) (re_int))) (rw_or1 (RW.t (rw_and (rt_eq (n1 := 0) (f1 := true) (n2 := 0) (f2 := true) hr.units (re_ix (hu_of hr) (re_v (pv 2)) (re_int)) (re_str)) (rw_and1 (rt_ne (n1 := 0) (f1 := true) (n2 := 0) (f2 := true) hr.units (re_ix (hu_of hr) (re_v (pv 2)) (re_int)) (re_str)))))))) (rss_one (rs_dead)) (rss_nil))
    (rss_cons (Γ1 := [99, 0, 0]) (rs_if (rt_eq (n1 := 0) (f1 := true) (n2 := 0) (f2 := true) hr.units (re_ix (hu_of hr) (re_v (pv 2)) (re_int)) (re_str)) (rss_cons (Γ1 := [99, 0, 0]) (rs_house c_Desk n_house (pv 0) (re_up (n := 0) (re_call (n := 0) (g_house_in.mono (by decide)) hr (takes_of rfl rfl rfl rfl) (ra_cons (re_ix (hu_of hr) (re_v (pv 2)) (re_int)) (ra_nil)))))
    (rss_cons (Γ1 := [99, 0, 0]) (rs_table c_Desk n_table (pv 0) (re_non))
    (rss_one (rs_retI (re_str))))) (rss_nil))
    (rss_cons (Γ1 := [99, 0, 0]) (rs_if (rt_frzP 0 (rt_isN (n1 := 0) (f1 := true) (re_house c_Desk n_house (re_v (pv 0))))) (rss_one (rs_dead)) (rss_nil))
    (rss_cons (Γ1 := [99, 0, 0]) (rs_if (rt_eq (n1 := 0) (f1 := true) (n2 := 0) (f2 := true) hr.units (re_ix (hu_of hr) (re_v (pv 2)) (re_int)) (re_str)) (rss_cons (Γ1 := [99, 0, 0]) (rs_table c_Desk n_table (pv 0) (re_up (n := 1) (re_frzP 0 (re_call (n := 1) (g_table_of.mono (by decide)) hr (takes_of rfl rfl rfl rfl) (ra_cons (re_house c_Desk n_house (re_v (pv 0))) (ra_cons (re_call (n := 0) (g_read_rule.mono (by decide)) hr (takes_of rfl rfl rfl rfl) (ra_cons (re_house c_Desk n_house (re_v (pv 0))) (ra_cons (re_ix (hu_of hr) (re_v (pv 2)) (re_int)) (ra_nil)))) (ra_nil)))))))
    (rss_one (rs_retI (re_str)))) (rss_nil))
    (rss_cons (Γ1 := [99, 0, 0]) (rs_if (rt_eq (n1 := 0) (f1 := true) (n2 := 0) (f2 := true) hr.units (re_ix (hu_of hr) (re_v (pv 2)) (re_int)) (re_str)) (rss_dead) (rss_nil))
    (rss_cons (Γ1 := [99, 0, 0]) (rs_if (rt_frzP 0 (rt_isN (n1 := 0) (f1 := true) (re_table c_Desk n_table (re_v (pv 0))))) (rss_one (rs_dead)) (rss_nil))
    (rss_one (rs_retI (re_frzP 0 (re_call (n := 0) (g_told_about.mono (by decide)) hr (takes_of rfl rfl rfl rfl) (ra_cons (re_house c_Desk n_house (re_v (pv 0))) (ra_cons (re_table c_Desk n_table (re_v (pv 0))) (ra_cons (re_ix (hu_of hr) (re_v (pv 2)) (re_int)) (ra_cons (re_ix (hu_of hr) (re_v (pv 2)) (re_int)) (ra_nil)))))))))))))))))
theorem ok__law_cell {f : Addr} {fd : FuncData} (F : Fun K "_law_cell" "_law_cell" s__law_cell f fd) (z_len : mg "len" = none) : FnOk P w K mg base (L2.CX P w) 1 f fd ["script", "k"] (spM K mg 0 2 m__law_cell) :=
  mk_ok (k := 0) (n := 0) (N := N__law_cell) (m := b__law_cell) (Γ := [0, 0]) (Γ' := [0, 0]) F sc__law_cell rfl (by decide) (fun cdv A outer s H E hr =>
    rss_cons (Γ1 := [0, 0]) (rs_if (rt_lt (n1 := 0) (f1 := true) (n2 := 0) (f2 := true) (re_v (pv 1)) (re_len z_len (rab_cons (RE.b (n := 0) (fr := true) (re_v (pv 0))) (rab_nil)))) (rss_one (rs_ret (re_ix (hu_of hr) (re_v (pv 0)) (re_v (pv 1))))) (rss_nil))
    (rss_one (rs_ret (re_int))))
theorem ok__law_number {f : Addr} {fd : FuncData} (F : Fun K "_law_number" "_law_number" s__law_number f fd) : FnOk P w K mg base (L2.CX P w) 1 f fd ["cell", "top"] (spM K mg 9 2 m__law_number) :=
  mk_ok (k := 0) (n := 9) (N := N__law_number) (m := b__law_number) (Γ := [0, 0]) (Γ' := [0, 0]) F sc__law_number rfl (by decide) (fun cdv A outer s H E hr =>
    rss_cons (Γ1 := [0, 0]) (rs_if (rt_eq (n1 := 0) (f1 := true) (n2 := 0) (f2 := true) hr.units (re_mod (re_v (pv 0)) (re_int)) (re_int)) (rss_one (rs_ret (re_sub (re_mod (re_div (re_v (pv 0)) (re_int)) (re_int)) (re_int)))) (rss_nil))
    (rss_cons (Γ1 := [0, 0]) (rs_if (rt_eq (n1 := 0) (f1 := true) (n2 := 0) (f2 := true) hr.units (re_mod (re_v (pv 0)) (re_int)) (re_int)) (rss_one (rs_ret (re_sub (re_mod (re_div (re_v (pv 0)) (re_int)) (re_int)) (re_int)))) (rss_nil))
    (rss_cons (Γ1 := [0, 0]) (rs_if (rt_eq (n1 := 0) (f1 := true) (n2 := 0) (f2 := true) hr.units (re_mod (re_v (pv 0)) (re_int)) (re_int)) (rss_one (rs_ret (re_sub (re_mod (re_div (re_v (pv 0)) (re_int)) (re_mul (re_int) (re_pow (re_int) (re_int)))) (re_pow (re_int) (re_int))))) (rss_nil))
    (rss_one (rs_ret (re_sub (re_mod (re_div (re_v (pv 0)) (re_int)) (re_add (re_mul (re_int) (re_v (pv 1))) (re_int))) (re_v (pv 1))))))))
theorem ok__law_names {f : Addr} {fd : FuncData} (F : Fun K "_law_names" "_law_names" s__law_names f fd) (z_range : mg "range" = none) : FnOk P w K mg base (L2.CX P w) 1 f fd ["cell", "many"] (spM K mg 0 2 m__law_names_v2) :=
  mk_ok (k := 0) (n := 0) (N := N__law_names) (m := b__law_names_v2) (Γ := [0, 0, 0, 0, 0, 0, 0, 0, 0]) (Γ' := [0, 0, 0, 0, 0, 0, 0, 0, 0]) F sc__law_names rfl (by decide) (fun cdv A outer s H E hr =>
    rss_cons (Γ1 := [0, 0, 0, 0, 0, 0, 0, 0, 0]) (rs_set (k := 0) (re_str) sc__law_names.nd (.inr rfl))
    (rss_cons (Γ1 := [0, 0, 0, 0, 0, 0, 0, 0, 0]) (rs_set (k := 0) ((RE.w (n := 1) (re_lst (ra_cons (re_str) (ra_cons (re_str) (ra_cons (re_str) (ra_cons (re_str) (ra_cons (re_str) (ra_cons (re_str) (ra_cons (re_str) (ra_cons (re_str) (ra_cons (re_str) (ra_cons (re_str) (ra_cons (re_str) (ra_cons (re_str) (ra_cons (re_str) (ra_nil))))))))))))))))) sc__law_names.nd (.inr rfl))
    (rss_cons (Γ1 := [0, 0, 0, 0, 0, 0, 0, 0, 0]) (rs_set (k := 0) (re_add (re_v (pv 3)) ((RE.w (n := 1) (re_lst (ra_cons (re_str) (ra_cons (re_str) (ra_cons (re_str) (ra_cons (re_str) (ra_cons (re_str) (ra_cons (re_str) (ra_cons (re_str) (ra_cons (re_str) (ra_cons (re_str) (ra_cons (re_str) (ra_cons (re_str) (ra_cons (re_str) (ra_cons (re_str) (ra_nil)))))))))))))))))) sc__law_names.nd (.inr rfl))
    (rss_cons (Γ1 := [0, 0, 0, 0, 0, 0, 0, 0, 0]) (rs_if (rt_eq (n1 := 0) (f1 := true) (n2 := 0) (f2 := true) hr.units (re_mod (re_v (pv 0)) (re_int)) (re_int)) (rss_one (rs_ret ((RE.w (n := 1) (re_lc (n := 0) (own := [("k", 6)]) rfl sc__law_names.nd (ri_r1 z_range (re_v (pv 1))) (blkOk_by (own := [("k", 6)]) (N := N__law_names) (sc := defScope s__law_names) (by decide +kernel)) (fun _ _ _ _ _ => rgw_n sc__law_names.nd (.inl rfl)) (fun _ _ _ _ _ => rts_nil) (fun _ _ _ _ _ => re_ix (hu_of hr) (re_v (pv 3)) (re_mod (re_add (re_div (re_v (pv 0)) (re_int)) (re_v (pv 6))) (re_int)))))))) (rss_nil))
    (rss_cons (Γ1 := [0, 0, 0, 0, 0, 0, 0, 0, 0]) (rs_if (rt_eq (n1 := 0) (f1 := true) (n2 := 0) (f2 := true) hr.units (re_mod (re_v (pv 0)) (re_int)) (re_int)) (rss_one (rs_ret ((RE.w (n := 1) (re_lc (n := 0) (own := [("k", 6)]) rfl sc__law_names.nd (ri_r1 z_range (re_v (pv 1))) (blkOk_by (own := [("k", 6)]) (N := N__law_names) (sc := defScope s__law_names) (by decide +kernel)) (fun _ _ _ _ _ => rgw_n sc__law_names.nd (.inl rfl)) (fun _ _ _ _ _ => rts_nil) (fun _ _ _ _ _ => re_mul (re_ix (hu_of hr) (re_v (pv 2)) (re_mod (re_div (re_v (pv 0)) (re_int)) (re_int))) (re_add (re_v (pv 6)) (re_int)))))))) (rss_nil))
    (rss_cons (Γ1 := [0, 0, 0, 0, 0, 0, 0, 0, 0]) (rs_set (k := 0) (re_ix (hu_of hr) (re_v (pv 2)) (re_mod (re_div (re_v (pv 0)) (re_int)) (re_int))) sc__law_names.nd (.inl rfl))
    (rss_cons (Γ1 := [0, 0, 0, 0, 0, 1, 0, 0, 0]) (rs_set (k := 1) (re_lst (ra_nil)) sc__law_names.nd (.inl rfl))
    (rss_cons (Γ1 := [0, 0, 0, 0, 0, 1, 0, 0, 0]) (rs_for (passes_of rfl) rfl (ri_r1 z_range (re_v (pv 1))) (rg_n sc__law_names.nd (.inl rfl)) (rss_cons (Γ1 := [0, 0, 0, 0, 0, 1, 0, 0, 0]) (rs_set (k := 0) (re_ix (hu_of hr) (re_v (pv 2)) (re_mod (re_add (re_div (re_v (pv 0)) (re_int)) (re_mul (re_v (pv 6)) (re_add (re_int) (re_mul (re_int) (re_mod (re_div (re_v (pv 0)) (re_int)) (re_int)))))) (re_int))) sc__law_names.nd (.inl rfl))
    (rss_cons (Γ1 := [0, 0, 0, 0, 0, 1, 0, 0, 0]) (rs_set (k := 0) (re_mul (re_v (pv 4)) (re_mod (re_div (re_v (pv 0)) (re_int)) (re_int))) sc__law_names.nd (.inl rfl))
    (rss_one (rs_app (rp_var (pv 5)) (re_add (re_add (re_v (pv 8)) (re_v (pv 7))) (re_mul (re_v (pv 4)) (re_mod (re_div (re_v (pv 0)) (re_int)) (re_int)))))))))
    (rss_frz 5 (rss_one (rs_ret (re_v (pv 5)))))))))))))
theorem ok__law_hands {f : Addr} {fd : FuncData} (F : Fun K "_law_hands" "_law_hands" s__law_hands f fd) (z_range : mg "range" = none) (g__law_cell : FnG P w K mg base "_law_cell" 1 0 2 m__law_cell) (g__law_names : FnG P w K mg base "_law_names" 1 0 2 m__law_names_v2) (g__law_number : FnG P w K mg base "_law_number" 1 9 2 m__law_number) : FnOk P w K mg base (L2.CX P w) 2 f fd ["script", "places", "top"] (spM K mg 0 3 m__law_hands_v3) :=
  mk_ok (k := 1) (n := 0) (N := N__law_hands) (m := b__law_hands_v3) (Γ := [0, 0, 0, 0, 0, 0, 0, 0, 0, 0, 0, 0]) (Γ' := [0, 0, 0, 0, 0, 0, 0, 0, 0, 0, 0, 0]) F sc__law_hands rfl (by decide) (fun cdv A outer s H E hr =>
    rss_cons (Γ1 := [0, 0, 0, 0, 0, 0, 0, 0, 0, 0, 0, 0]) (rs_set (k := 0) (re_add (re_int) (re_mod (re_div (re_call (n := 0) (g__law_cell.mono (by decide)) hr (takes_of rfl rfl rfl rfl) (ra_cons (re_v (pv 0)) (ra_cons (re_int) (ra_nil)))) (re_int)) (re_int))) sc__law_hands.nd (.inl rfl))
    (rss_cons (Γ1 := [0, 0, 0, 0, 0, 0, 0, 0, 0, 0, 0, 0]) (rs_set (k := 0) (re_call (n := 0) (g__law_names.mono (by decide)) hr (takes_of rfl rfl rfl rfl) (ra_cons (re_call (n := 0) (g__law_cell.mono (by decide)) hr (takes_of rfl rfl rfl rfl) (ra_cons (re_v (pv 0)) (ra_cons (re_int) (ra_nil)))) (ra_cons (re_int) (ra_nil)))) sc__law_hands.nd (.inl rfl))
    (rss_cons (Γ1 := [0, 0, 0, 0, 0, 1, 0, 0, 0, 0, 0, 0]) (rs_set (k := 1) (re_lst (ra_nil)) sc__law_hands.nd (.inl rfl))
    (rss_cons (Γ1 := [0, 0, 0, 0, 0, 1, 0, 0, 0, 0, 0, 0]) (rs_set (k := 0) (re_int) sc__law_hands.nd (.inr rfl))
    (rss_cons (Γ1 := [0, 0, 0, 0, 0, 1, 0, 0, 0, 0, 0, 0]) (rs_for (passes_of rfl) rfl (ri_r1 z_range (re_v (pv 3))) (rg_n sc__law_hands.nd (.inl rfl)) (rss_cons (Γ1 := [0, 0, 0, 0, 0, 1, 0, 0, 0, 0, 0, 0]) (rs_set (k := 0) (re_add (re_int) (re_mod (re_div (re_call (n := 0) (g__law_cell.mono (by decide)) hr (takes_of rfl rfl rfl rfl) (ra_cons (re_v (pv 0)) (ra_cons (re_int) (ra_nil)))) (re_ix (hu_of hr) ((RE.w (n := 1) (re_lst (ra_cons (re_int) (ra_cons (re_int) (ra_cons (re_int) (ra_nil))))))) (re_v (pv 7)))) (re_int))) sc__law_hands.nd (.inl rfl))
    (rss_cons (Γ1 := [0, 0, 0, 0, 0, 1, 0, 0, 0, 1, 0, 0]) (rs_set (k := 1) (re_lst (ra_nil)) sc__law_hands.nd (.inl rfl))
    (rss_cons (Γ1 := [0, 0, 0, 0, 0, 1, 0, 0, 0, 1, 0, 0]) (rs_for (passes_of rfl) rfl (ri_r1 z_range (re_v (pv 8))) (rg_n sc__law_hands.nd (.inl rfl)) (rss_cons (Γ1 := [0, 0, 0, 0, 0, 1, 0, 0, 0, 1, 0, 0]) (rs_app (rp_var (pv 9)) ((RE.w (n := 1) (re_lc (n := 0) (own := [("j", 11)]) rfl sc__law_hands.nd (ri_r1 z_range (re_v (pv 1))) (blkOk_by (own := [("j", 11)]) (N := N__law_hands) (sc := defScope s__law_hands) (by decide +kernel)) (fun _ _ _ _ _ => rgw_n sc__law_hands.nd (.inl rfl)) (fun _ _ _ _ _ => rts_nil) (fun _ _ _ _ _ => re_call (n := 0) (g__law_number.mono (by decide)) hr takes0 (ra_cons (re_call (n := 0) (g__law_cell.mono (by decide)) hr takes0 (ra_cons (re_v (pv 0)) (ra_cons (re_add (re_v (pv 6)) (re_v (pv 11))) (ra_nil)))) (ra_cons (re_v (pv 2)) (ra_nil))))))))
    (rss_one (rs_set (k := 0) (re_add (re_v (pv 6)) (re_v (pv 1))) sc__law_hands.nd (.inr rfl)))))
    (rss_frz 9 (rss_one (rs_app (rp_var (pv 5)) (re_tup (ra_cons (re_ix (hu_of hr) (re_v (pv 4)) (re_v (pv 7))) (ra_cons (re_call (n := 0) (g__law_names.mono (by decide)) hr (takes_of rfl rfl rfl rfl) (ra_cons (re_call (n := 0) (g__law_cell.mono (by decide)) hr (takes_of rfl rfl rfl rfl) (ra_cons (re_v (pv 0)) (ra_cons (re_add (re_int) (re_v (pv 7))) (ra_nil)))) (ra_cons (re_v (pv 8)) (ra_nil)))) (ra_cons (re_v (pv 9)) (ra_nil))))))))))))
    (rss_frz 5 (rss_one (rs_ret (re_v (pv 5))))))))))
theorem ok__law_rows {f : Addr} {fd : FuncData} (F : Fun K "_law_rows" "_law_rows" s__law_rows f fd) : FnOk P w K mg base (L2.CX P w) 1 f fd ["hands"] (spM K mg 0 1 m__law_rows_v6) :=
  mk_ok (k := 0) (n := 0) (N := N__law_rows) (m := b__law_rows_v6) (Γ := [0, 0, 0, 0, 0, 0]) (Γ' := [0, 0, 0, 0, 0, 0]) F sc__law_rows rfl (by decide) (fun cdv A outer s H E hr =>
    rss_cons (Γ1 := [0, 1, 0, 0, 0, 0]) (rs_set (k := 1) (re_lst (ra_cons (re_tup (ra_nil)) (ra_nil))) sc__law_rows.nd (.inl rfl))
    (rss_cons (Γ1 := [0, 1, 0, 0, 0, 0]) (rs_for (passes_of rfl) rfl (ri_any (re_v (pv 0))) (rg_n sc__law_rows.nd (.inl rfl)) (rss_fz (Γ1 := [0, 1, 0, 1, 0, 0]) 3 (rss_cons (Γ1 := [0, 1, 0, 1, 0, 0]) (rs_set (k := 1) (re_lst (ra_nil)) sc__law_rows.nd (.inl rfl))
    (rss_frz 1 (rss_cons (Γ1 := [0, 0, 0, 1, 0, 0]) (rs_for (passes_of rfl) rfl (ri_any (re_v (pv 1))) (rg_n sc__law_rows.nd (.inl rfl)) (rss_one (rs_for (passes_of rfl) rfl (ri_any (re_ix (hu_of hr) (re_v (pv 2)) (re_int))) (rg_n sc__law_rows.nd (.inl rfl)) (rss_one (rs_app (rp_var (pv 3)) (re_addF (re_v (pv 4)) (re_tupDF (ra_cons (re_v (pv 5)) (ra_nil)))))))))
    (rss_one (rs_mv (pv 3) sc__law_rows.nd (.inl rfl))))))))
    (rss_frz 1 (rss_one (rs_ret (re_v (pv 1)))))))
theorem ok__law_house_row {f : Addr} {fd : FuncData} (F : Fun K "_law_house_row" "_law_house_row" s__law_house_row f fd) (z_len : mg "len" = none) (z_range : mg "range" = none) (z_str : mg "str" = none) : FnOk P w K mg base (L2.CX P w) 1 f fd ["outcomes", "hands"] (spM K mg 0 2 m__law_house_row) :=
  mk_ok (k := 0) (n := 0) (N := N__law_house_row) (m := b__law_house_row) (Γ := [0, 0, 0, 0, 0, 0, 0]) (Γ' := [0, 0, 0, 0, 0, 0, 0]) F sc__law_house_row rfl (by decide) (fun cdv A outer s H E hr =>
    rss_cons (Γ1 := [0, 0, 1, 0, 0, 0, 0]) (rs_set (k := 1) (re_lst (ra_cons (re_join (RE.b (n := 0) (fr := true) (re_str)) (RE.b (n := 0) (fr := true) (re_v (pv 0)))) (ra_nil))) sc__law_house_row.nd (.inl rfl))
    (rss_cons (Γ1 := [0, 0, 1, 0, 0, 0, 0]) (rs_for (passes_of rfl) rfl (ri_any (re_v (pv 1))) (rg_n sc__law_house_row.nd (.inl rfl)) (rss_cons (Γ1 := [0, 0, 1, 0, 0, 0, 0]) (rs_set (k := 0) (re_ix (hu_of hr) (re_v (pv 3)) (re_int)) sc__law_house_row.nd (.inl rfl))
    (rss_cons (Γ1 := [0, 0, 1, 0, 0, 0, 0]) (rs_for (passes_of rfl) rfl (ri_r1 z_range (re_len z_len (rab_cons (RE.b (n := 0) (fr := true) (re_ix (hu_of hr) (re_v (pv 3)) (re_int))) (rab_nil)))) (rg_n sc__law_house_row.nd (.inl rfl)) (rss_one (rs_set (k := 0) (re_add (re_add (re_v (pv 4)) (re_str)) (re_join (RE.b (n := 0) (fr := true) (re_str)) (RE.b (n := 0) (fr := true) (re_add ((RE.w (n := 1) (re_lst (ra_cons (re_ix (hu_of hr) (re_ix (hu_of hr) (re_v (pv 3)) (re_int)) (re_v (pv 5))) (ra_nil))))) ((RE.w (n := 1) (re_lc (n := 0) (own := [("one", 6)]) rfl sc__law_house_row.nd (ri_any (re_ix (hu_of hr) (re_ix (hu_of hr) (re_v (pv 3)) (re_int)) (re_v (pv 5)))) (blkOk_by (own := [("one", 6)]) (N := N__law_house_row) (sc := defScope s__law_house_row) (by decide +kernel)) (fun _ _ _ _ _ => rgw_n sc__law_house_row.nd (.inl rfl)) (fun _ _ _ _ _ => rts_nil) (fun _ _ _ _ _ => re_strC z_str (rab_cons (RE.b (n := 0) (fr := true) (re_v (pv 6))) (rab_nil)))))))))) sc__law_house_row.nd (.inl rfl))))
    (rss_one (rs_app (rp_var (pv 2)) (re_v (pv 4)))))))
    (rss_one (rs_ret (re_add (re_str) (re_join (RE.b (n := 0) (fr := true) (re_str)) (RE.b (n := 1) (fr := false) (re_own (pv 2) 1))))))))
theorem ok__law_condition {f : Addr} {fd : FuncData} (F : Fun K "_law_condition" "_law_condition" s__law_condition f fd) (z_len : mg "len" = none) : FnOk P w K mg base (L2.CX P w) 1 f fd ["cell", "hands"] (spM K mg 0 2 m__law_condition) :=
  mk_ok (k := 0) (n := 0) (N := N__law_condition) (m := b__law_condition) (Γ := [0, 0, 0, 0, 0, 0]) (Γ' := [0, 0, 0, 0, 0, 0]) F sc__law_condition rfl (by decide) (fun cdv A outer s H E hr =>
    rss_cons (Γ1 := [0, 0, 0, 0, 0, 0]) (rs_set (k := 0) (re_mod (re_v (pv 0)) (re_len z_len (rab_cons (RE.b (n := 0) (fr := true) (re_v (pv 1))) (rab_nil)))) sc__law_condition.nd (.inl rfl))
    (rss_cons (Γ1 := [0, 0, 0, 0, 0, 0]) (rs_set (k := 0) (re_mod (re_div (re_v (pv 0)) (re_int)) (re_len z_len (rab_cons (RE.b (n := 0) (fr := true) (re_v (pv 1))) (rab_nil)))) sc__law_condition.nd (.inl rfl))
    (rss_cons (Γ1 := [0, 0, 0, 0, 0, 0]) (rs_set (k := 0) (re_ix (hu_of hr) (re_ix (hu_of hr) (re_ix (hu_of hr) (re_v (pv 1)) (re_v (pv 2))) (re_int)) (re_mod (re_div (re_v (pv 0)) (re_int)) (re_len z_len (rab_cons (RE.b (n := 0) (fr := true) (re_ix (hu_of hr) (re_ix (hu_of hr) (re_v (pv 1)) (re_v (pv 2))) (re_int))) (rab_nil))))) sc__law_condition.nd (.inl rfl))
    (rss_cons (Γ1 := [0, 0, 0, 0, 0, 0]) (rs_set (k := 0) (re_ix (hu_of hr) (re_ix (hu_of hr) (re_ix (hu_of hr) (re_v (pv 1)) (re_v (pv 3))) (re_int)) (re_mod (re_div (re_v (pv 0)) (re_int)) (re_len z_len (rab_cons (RE.b (n := 0) (fr := true) (re_ix (hu_of hr) (re_ix (hu_of hr) (re_v (pv 1)) (re_v (pv 3))) (re_int))) (rab_nil))))) sc__law_condition.nd (.inl rfl))
    (rss_one (rs_ret ((RE.w (n := 1) (re_lst (ra_cons (re_mod (re_div (re_v (pv 0)) (re_int)) (re_int)) (ra_cons (re_v (pv 2)) (ra_cons (re_v (pv 4)) (ra_cons (re_v (pv 3)) (ra_cons (re_v (pv 5)) (ra_cons (re_add (re_int) (re_mod (re_div (re_v (pv 0)) (re_int)) (re_int))) (ra_nil))))))))))))))))
theorem ok__law_condition_text {f : Addr} {fd : FuncData} (F : Fun K "_law_condition_text" "_law_condition_text" s__law_condition_text f fd) (z_str : mg "str" = none) : FnOk P w K mg base (L2.CX P w) 1 f fd ["told", "hands"] (spM K mg 0 2 m__law_condition_text) :=
  mk_ok (k := 0) (n := 0) (N := N__law_condition_text) (m := b__law_condition_text) (Γ := [0, 0, 0, 0, 0]) (Γ' := [0, 0, 0, 0, 0]) F sc__law_condition_text rfl (by decide) (fun cdv A outer s H E hr =>
    rss_cons (Γ1 := [0, 0, 0, 0, 0]) (rs_set (k := 0) (re_add (re_add (re_add (re_str) (re_ix (hu_of hr) (re_ix (hu_of hr) (re_v (pv 1)) (re_ix (hu_of hr) (re_v (pv 0)) (re_int))) (re_int))) (re_str)) (re_ix (hu_of hr) (re_v (pv 0)) (re_int))) sc__law_condition_text.nd (.inl rfl))
    (rss_cons (Γ1 := [0, 0, 0, 0, 0]) (rs_set (k := 0) (re_add (re_add (re_add (re_str) (re_ix (hu_of hr) (re_ix (hu_of hr) (re_v (pv 1)) (re_ix (hu_of hr) (re_v (pv 0)) (re_int))) (re_int))) (re_str)) (re_ix (hu_of hr) (re_v (pv 0)) (re_int))) sc__law_condition_text.nd (.inl rfl))
    (rss_cons (Γ1 := [0, 0, 0, 0, 0]) (rs_set (k := 0) ((RE.w (n := 1) (re_lst (ra_cons (re_v (pv 2)) (ra_cons (re_add (re_str) (re_v (pv 2))) (ra_cons (re_add (re_add (re_add (re_str) (re_strC z_str (rab_cons (RE.b (n := 0) (fr := true) (re_ix (hu_of hr) (re_v (pv 0)) (re_int))) (rab_nil)))) (re_str)) (re_ix (hu_of hr) (re_v (pv 0)) (re_int))) (ra_cons (re_add (re_add (re_add (re_str) (re_v (pv 2))) (re_str)) (re_v (pv 3))) (ra_nil)))))))) sc__law_condition_text.nd (.inl rfl))
    (rss_one (rs_ret (re_ix (hu_of hr) (re_add (re_v (pv 4)) ((RE.w (n := 1) (re_lst (ra_cons (re_add (re_add (re_add (re_str) (re_v (pv 3))) (re_str)) (re_v (pv 2))) (ra_nil)))))) (re_ix (hu_of hr) (re_v (pv 0)) (re_int))))))))
theorem ok__law_condition_holds {f : Addr} {fd : FuncData} (F : Fun K "_law_condition_holds" "_law_condition_holds" s__law_condition_holds f fd) : FnOk P w K mg base (L2.CX P w) 1 f fd ["told", "row"] (spM K mg 0 2 m__law_condition_holds) :=
  mk_ok (k := 0) (n := 0) (N := N__law_condition_holds) (m := b__law_condition_holds) (Γ := [0, 0, 0, 0]) (Γ' := [0, 0, 0, 0]) F sc__law_condition_holds rfl (by decide) (fun cdv A outer s H E hr =>
    rss_cons (Γ1 := [0, 0, 0, 0]) (rs_set (k := 0) (re_eq (n1 := 0) (f1 := true) (n2 := 0) (f2 := true) hr.units (re_ix (hu_of hr) (re_v (pv 1)) (re_ix (hu_of hr) (re_v (pv 0)) (re_int))) (re_ix (hu_of hr) (re_v (pv 0)) (re_int))) sc__law_condition_holds.nd (.inl rfl))
    (rss_cons (Γ1 := [0, 0, 0, 0]) (rs_set (k := 0) (re_eq (n1 := 0) (f1 := true) (n2 := 0) (f2 := true) hr.units (re_ix (hu_of hr) (re_v (pv 1)) (re_ix (hu_of hr) (re_v (pv 0)) (re_int))) (re_ix (hu_of hr) (re_v (pv 0)) (re_int))) sc__law_condition_holds.nd (.inl rfl))
    (rss_one (rs_ret (re_ix (hu_of hr) ((RE.w (n := 1) (re_lst (ra_cons (re_v (pv 2)) (ra_cons (re_not (n1 := 0) (f1 := true) (re_v (pv 2))) (ra_cons (re_ge (n1 := 0) (f1 := true) (n2 := 0) (f2 := true) (re_count (RE.b (n := 0) (fr := true) (re_v (pv 1))) (RE.b (n := 0) (fr := true) (re_ix (hu_of hr) (re_v (pv 0)) (re_int)))) (re_ix (hu_of hr) (re_v (pv 0)) (re_int))) (ra_cons (re_and (n1 := 0) (f1 := true) (re_v (pv 2)) (re_one (re_v (pv 3)))) (ra_cons (re_or (n1 := 0) (f1 := true) (re_v (pv 3)) (re_one (re_not (n1 := 0) (f1 := true) (re_v (pv 2))))) (ra_nil))))))))) (re_ix (hu_of hr) (re_v (pv 0)) (re_int)))))))
theorem ok__law_clauses {f : Addr} {fd : FuncData} (F : Fun K "_law_clauses" "_law_clauses" s__law_clauses f fd) (z_len : mg "len" = none) (z_range : mg "range" = none) (g__law_cell : FnG P w K mg base "_law_cell" 1 0 2 m__law_cell) (g__law_condition : FnG P w K mg base "_law_condition" 1 0 2 m__law_condition) : FnOk P w K mg base (L2.CX P w) 2 f fd ["script", "hands", "outcomes"] (spM K mg 0 3 m__law_clauses_v2) :=
  mk_ok (k := 1) (n := 0) (N := N__law_clauses) (m := b__law_clauses_v2) (Γ := [0, 0, 0, 0, 0, 0]) (Γ' := [0, 0, 0, 0, 0, 0]) F sc__law_clauses rfl (by decide) (fun cdv A outer s H E hr =>
    rss_cons (Γ1 := [0, 0, 0, 1, 0, 0]) (rs_set (k := 1) (re_lst (ra_nil)) sc__law_clauses.nd (.inl rfl))
    (rss_cons (Γ1 := [0, 0, 0, 1, 0, 0]) (rs_for (passes_of rfl) rfl (ri_r1 z_range (re_mod (re_call (n := 0) (g__law_cell.mono (by decide)) hr (takes_of rfl rfl rfl rfl) (ra_cons (re_v (pv 0)) (ra_cons (re_int) (ra_nil)))) (re_int))) (rg_n sc__law_clauses.nd (.inl rfl)) (rss_cons (Γ1 := [0, 0, 0, 1, 0, 0]) (rs_set (k := 0) (re_call (n := 0) (g__law_cell.mono (by decide)) hr (takes_of rfl rfl rfl rfl) (ra_cons (re_v (pv 0)) (ra_cons (re_add (re_int) (re_mul (re_int) (re_v (pv 4)))) (ra_nil)))) sc__law_clauses.nd (.inl rfl))
    (rss_one (rs_app (rp_var (pv 3)) (re_tup (ra_cons (re_call (n := 0) (g__law_condition.mono (by decide)) hr (takes_of rfl rfl rfl rfl) (ra_cons (re_v (pv 5)) (ra_cons (re_v (pv 1)) (ra_nil)))) (ra_cons (re_ix (hu_of hr) (re_v (pv 2)) (re_mod (re_call (n := 0) (g__law_cell.mono (by decide)) hr (takes_of rfl rfl rfl rfl) (ra_cons (re_v (pv 0)) (ra_cons (re_add (re_int) (re_mul (re_int) (re_v (pv 4)))) (ra_nil)))) (re_len z_len (rab_cons (RE.b (n := 0) (fr := true) (re_v (pv 2))) (rab_nil))))) (ra_nil))))))))
    (rss_frz 3 (rss_one (rs_ret (re_v (pv 3)))))))
theorem ok__law_rule_row {f : Addr} {fd : FuncData} (F : Fun K "_law_rule_row" "_law_rule_row" s__law_rule_row f fd) (g__law_condition_text : FnG P w K mg base "_law_condition_text" 1 0 2 m__law_condition_text) : FnOk P w K mg base (L2.CX P w) 2 f fd ["clauses", "hands", "last"] (spM K mg 0 3 m__law_rule_row) :=
  mk_ok (k := 1) (n := 0) (N := N__law_rule_row) (m := b__law_rule_row) (Γ := [0, 0, 0, 0, 0, 0]) (Γ' := [0, 0, 0, 0, 0, 0]) F sc__law_rule_row rfl (by decide) (fun cdv A outer s H E hr =>
    rss_cons (Γ1 := [0, 0, 0, 0, 0, 0]) (rs_setLc (k := 0) (n := 0) (own := [("told", 4), ("outcome", 5)]) rfl sc__law_rule_row.nd rfl (sw_true rfl rfl rfl (by decide +kernel)) (ri_any (re_v (pv 0))) (blkOk_by (own := [("told", 4), ("outcome", 5)]) (N := N__law_rule_row) (sc := defScope s__law_rule_row) (by decide +kernel)) (fun _ _ _ _ _ => rgw_t rfl (rgws_cons (rgw_n sc__law_rule_row.nd (.inl rfl)) (rgws_cons (rgw_n sc__law_rule_row.nd (.inl rfl)) (rgws_nil)))) (fun _ _ _ _ _ => rts_nil) (fun _ _ _ _ _ => re_add (re_add (re_add (re_str) (re_call (n := 0) (g__law_condition_text.mono (by decide)) hr takes0 (ra_cons (re_v (pv 4)) (ra_cons (re_v (pv 1)) (ra_nil))))) (re_str)) (re_v (pv 5))))
    (rss_one (rs_ret (re_add (re_str) (re_join (RE.b (n := 0) (fr := true) (re_str)) (RE.b (n := 0) (fr := true) (re_add (re_v (pv 3)) ((RE.w (n := 1) (re_lst (ra_cons (re_add (re_str) (re_v (pv 2))) (ra_nil))))))))))))
theorem ok__law_dealt {f : Addr} {fd : FuncData} (F : Fun K "_law_dealt" "_law_dealt" s__law_dealt f fd) (g__law_condition_holds : FnG P w K mg base "_law_condition_holds" 1 0 2 m__law_condition_holds) : FnOk P w K mg base (L2.CX P w) 2 f fd ["clauses", "row", "last"] (spM K mg 0 3 m__law_dealt) :=
  mk_ok (k := 1) (n := 0) (N := N__law_dealt) (m := b__law_dealt) (Γ := [0, 0, 0, 0, 0]) (Γ' := [0, 0, 0, 0, 0]) F sc__law_dealt rfl (by decide) (fun cdv A outer s H E hr =>
    rss_cons (Γ1 := [0, 0, 0, 0, 0]) (rs_for (passes_of rfl) rfl (ri_any (re_v (pv 0))) (rg_t rfl (rgs_cons (rg_n sc__law_dealt.nd (.inl rfl)) (rgs_cons (rg_n sc__law_dealt.nd (.inl rfl)) (rgs_nil)))) (rss_one (rs_if (rt_val (n1 := 0) (f1 := true) (re_call (n := 0) (g__law_condition_holds.mono (by decide)) hr (takes_of rfl rfl rfl rfl) (ra_cons (re_v (pv 3)) (ra_cons (re_v (pv 1)) (ra_nil))))) (rss_one (rs_ret (re_v (pv 4)))) (rss_nil))))
    (rss_one (rs_ret (re_v (pv 2)))))
theorem ok_law [DeskAt] {f : Addr} {fd : FuncData} (F : Fun K "law" "law" s_law f fd) (z_isinstance : mg "isinstance" = none) (z_str : mg "str" = none) (g_Desk : DeskG P w K mg base 1) (g__law_cell : FnG P w K mg base "_law_cell" 1 0 2 m__law_cell) (g__law_clauses : FnG P w K mg base "_law_clauses" 2 0 3 m__law_clauses_v2) (g__law_dealt : FnG P w K mg base "_law_dealt" 2 0 3 m__law_dealt) (g__law_hands : FnG P w K mg base "_law_hands" 2 0 3 m__law_hands_v3) (g__law_house_row : FnG P w K mg base "_law_house_row" 1 0 2 m__law_house_row) (g__law_names : FnG P w K mg base "_law_names" 1 0 2 m__law_names_v2) (g__law_rows : FnG P w K mg base "_law_rows" 1 0 1 m__law_rows_v6) (g__law_rule_row : FnG P w K mg base "_law_rule_row" 2 0 3 m__law_rule_row) (g_say : SayG P w K mg base 65 [99, 0, 0] m_say) : FnOk P w K mg base (L2.CX P w) 66 f fd ["script"] (spM K mg 0 1 m_law_k73) :=
  mk_ok (k := 65) (n := 0) (N := N_law) (m := b_law_k73) (Γ := [0, 0, 0, 0, 0, 0, 0, 0, 0]) (Γ' := [0, 0, 0, 0, 0, 0, 0, 0, 0]) F sc_law rfl (by decide) (fun cdv A outer s H E hr =>
    rss_cons (Γ1 := [0, 0, 0, 0, 0, 0, 0, 0, 0]) (rs_set (k := 0) (re_add (re_int) (re_mod (re_call (n := 0) (g__law_cell.mono (by decide)) hr (takes_of rfl rfl rfl rfl) (ra_cons (re_v (pv 0)) (ra_cons (re_int) (ra_nil)))) (re_int))) sc_law.nd (.inl rfl))
    (rss_cons (Γ1 := [0, 0, 0, 0, 0, 0, 0, 0, 0]) (rs_set (k := 0) (re_call (n := 0) (g__law_hands.mono (by decide)) hr (takes_of rfl rfl rfl rfl) (ra_cons (re_v (pv 0)) (ra_cons (re_v (pv 1)) (ra_cons (re_pow (re_int) (re_int)) (ra_nil))))) sc_law.nd (.inl rfl))
    (rss_cons (Γ1 := [0, 0, 0, 0, 0, 0, 0, 0, 0]) (rs_set (k := 0) (re_call (n := 0) (g__law_names.mono (by decide)) hr (takes_of rfl rfl rfl rfl) (ra_cons (re_call (n := 0) (g__law_cell.mono (by decide)) hr (takes_of rfl rfl rfl rfl) (ra_cons (re_v (pv 0)) (ra_cons (re_int) (ra_nil)))) (ra_cons (re_v (pv 1)) (ra_nil)))) sc_law.nd (.inl rfl))
    (rss_cons (Γ1 := [0, 0, 0, 0, 99, 0, 0, 0, 0]) (rs_desk g_Desk (hr.mono (by decide)) sc_law.nd (.inl rfl))
    (rss_cons (Γ1 := [0, 0, 0, 0, 99, 0, 0, 0, 0]) (rs_ifI (rti_ne hr.units (rei_say (i := 4) (g_say.mono (by decide)) hr (takes_of rfl rfl rfl rfl) (pv 4) (re_call (n := 0) (g__law_house_row.mono (by decide)) hr (takes_of rfl rfl rfl rfl) (ra_cons (re_v (pv 3)) (ra_cons (re_v (pv 2)) (ra_nil))))) (re_str)) (rss_one (rs_ret (re_bl))) (rss_nil))
    (rss_cons (Γ1 := [0, 0, 0, 0, 99, 0, 0, 0, 0]) (rs_set (k := 0) (re_ix (hu_of hr) (re_v (pv 3)) (re_mod (re_call (n := 0) (g__law_cell.mono (by decide)) hr (takes_of rfl rfl rfl rfl) (ra_cons (re_v (pv 0)) (ra_cons (re_int) (ra_nil)))) (re_v (pv 1)))) sc_law.nd (.inl rfl))
    (rss_cons (Γ1 := [0, 0, 0, 0, 99, 0, 0, 0, 0]) (rs_for (passes_of rfl) rfl (ri_any ((RE.w (n := 1) (re_lst (ra_cons (re_call (n := 0) (g__law_clauses.mono (by decide)) hr (takes_of rfl rfl rfl rfl) (ra_cons (re_v (pv 0)) (ra_cons (re_v (pv 2)) (ra_cons (re_v (pv 3)) (ra_nil))))) (ra_cons ((RE.w (n := 1) (re_lst (ra_nil)))) (ra_nil))))))) (rg_n sc_law.nd (.inl rfl)) (rss_cons (Γ1 := [0, 0, 0, 0, 99, 0, 0, 0, 0]) (rs_ifI (rti_ne hr.units (rei_say (i := 4) (g_say.mono (by decide)) hr (takes_of rfl rfl rfl rfl) (pv 4) (re_call (n := 0) (g__law_rule_row.mono (by decide)) hr (takes_of rfl rfl rfl rfl) (ra_cons (re_v (pv 6)) (ra_cons (re_v (pv 2)) (ra_cons (re_v (pv 5)) (ra_nil)))))) (re_str)) (rss_one (rs_ret (re_bl))) (rss_nil))
    (rss_cons (Γ1 := [0, 0, 0, 0, 99, 0, 0, 0, 0]) (rs_for (passes_of rfl) rfl (ri_any (re_call (n := 0) (g__law_rows.mono (by decide)) hr (takes_of rfl rfl rfl rfl) (ra_cons (re_v (pv 2)) (ra_nil)))) (rg_n sc_law.nd (.inl rfl)) (rss_cons (Γ1 := [0, 0, 0, 0, 99, 0, 0, 0, 0]) (rs_setI (rei_say (i := 4) (g_say.mono (by decide)) hr (takes_of rfl rfl rfl rfl) (pv 4) (re_add (re_str) (re_join (RE.b (n := 0) (fr := true) (re_str)) (RE.b (n := 0) (fr := true) (re_v (pv 7)))))) sc_law.nd (.inl rfl))
    (rss_one (rs_if (RW.t (rw_or (rt_not (rt_val (n1 := 0) (f1 := true) (re_isi z_isinstance z_str boot_str (RE.b (n := 0) (fr := true) (re_v (pv 8)))))) (rw_or1 (rt_ne (n1 := 0) (f1 := true) (n2 := 0) (f2 := true) hr.units (re_v (pv 8)) (re_call (n := 0) (g__law_dealt.mono (by decide)) hr (takes_of rfl rfl rfl rfl) (ra_cons (re_v (pv 6)) (ra_cons (re_v (pv 7)) (ra_cons (re_v (pv 5)) (ra_nil))))))))) (rss_one (rs_ret (re_bl))) (rss_nil)))))
    (rss_one (rs_set (k := 0) (re_ix (hu_of hr) (re_v (pv 3)) (re_int)) sc_law.nd (.inl rfl))))))
    (rss_one (rs_ret (re_bl))))))))))
end
theorem all_mk {l : PySem.W.OpenLaw} {w : World} {K : PySem.W.Frag} {h : Heap} {mg : Str → Option Value} {fa f_is_name f_are_names f_is_worth f_are_worths f_is_hand f_house_of f_crossed f_rows_of f_holds f_dealt f_table_of f_word_at f_saying f_counting f_condition_at f_clause_of f_read_rule f_number_in f_numbers_in f_hand_in f_house_in f_row_in f_told_about f_say f__law_cell f__law_number f__law_names f__law_hands f__law_rows f__law_house_row f__law_condition f__law_condition_text f__law_condition_holds f__law_clauses f__law_rule_row f__law_dealt f_law : Addr} (X : K.In h) (G : h.Ns mainGlobals mg) (hfa : mg "law" = some (.ref fa))
    {C_Desk f___init__ : Addr} (a_Desk : PySem.W.nsIn K mainGlobals "Desk" = some (some (.ref C_Desk)))
    {od_is_name an_is_name od_are_names an_are_names od_is_worth an_is_worth od_are_worths an_are_worths od_is_hand an_is_hand od_house_of an_house_of od_crossed an_crossed od_rows_of an_rows_of od_holds an_holds od_dealt an_dealt od_table_of an_table_of od_word_at an_word_at od_saying an_saying od_counting an_counting od_condition_at an_condition_at od_clause_of an_clause_of od_read_rule an_read_rule od_number_in an_number_in od_numbers_in an_numbers_in od_hand_in an_hand_in od_house_in an_house_in od_row_in an_row_in od_told_about an_told_about od_say an_say od__law_cell an__law_cell od__law_number an__law_number od__law_names an__law_names od__law_hands an__law_hands od__law_rows an__law_rows od__law_house_row an__law_house_row od__law_condition an__law_condition od__law_condition_text an__law_condition_text od__law_condition_holds an__law_condition_holds od__law_clauses an__law_clauses od__law_rule_row an__law_rule_row od__law_dealt an__law_dealt od_law an_law od___init__ an___init__ : Option Addr} {sl_is_name sl_are_names sl_is_worth sl_are_worths sl_is_hand sl_house_of sl_crossed sl_rows_of sl_holds sl_dealt sl_table_of sl_word_at sl_saying sl_counting sl_condition_at sl_clause_of sl_read_rule sl_number_in sl_numbers_in sl_hand_in sl_house_in sl_row_in sl_told_about sl_say sl__law_cell sl__law_number sl__law_names sl__law_hands sl__law_rows sl__law_house_row sl__law_condition sl__law_condition_text sl__law_condition_holds sl__law_clauses sl__law_rule_row sl__law_dealt sl_law sl___init__ : Array (Option Value)} {oc_is_name kV_is_name dc_is_name pm_is_name cd_is_name ct_is_name oc_are_names kV_are_names dc_are_names pm_are_names cd_are_names ct_are_names oc_is_worth kV_is_worth dc_is_worth pm_is_worth cd_is_worth ct_is_worth oc_are_worths kV_are_worths dc_are_worths pm_are_worths cd_are_worths ct_are_worths oc_is_hand kV_is_hand dc_is_hand pm_is_hand cd_is_hand ct_is_hand oc_house_of kV_house_of dc_house_of pm_house_of cd_house_of ct_house_of oc_crossed kV_crossed dc_crossed pm_crossed cd_crossed ct_crossed oc_rows_of kV_rows_of dc_rows_of pm_rows_of cd_rows_of ct_rows_of oc_holds kV_holds dc_holds pm_holds cd_holds ct_holds oc_dealt kV_dealt dc_dealt pm_dealt cd_dealt ct_dealt oc_table_of kV_table_of dc_table_of pm_table_of cd_table_of ct_table_of oc_word_at kV_word_at dc_word_at pm_word_at cd_word_at ct_word_at oc_saying kV_saying dc_saying pm_saying cd_saying ct_saying oc_counting kV_counting dc_counting pm_counting cd_counting ct_counting oc_condition_at kV_condition_at dc_condition_at pm_condition_at cd_condition_at ct_condition_at oc_clause_of kV_clause_of dc_clause_of pm_clause_of cd_clause_of ct_clause_of oc_read_rule kV_read_rule dc_read_rule pm_read_rule cd_read_rule ct_read_rule oc_number_in kV_number_in dc_number_in pm_number_in cd_number_in ct_number_in oc_numbers_in kV_numbers_in dc_numbers_in pm_numbers_in cd_numbers_in ct_numbers_in oc_hand_in kV_hand_in dc_hand_in pm_hand_in cd_hand_in ct_hand_in oc_house_in kV_house_in dc_house_in pm_house_in cd_house_in ct_house_in oc_row_in kV_row_in dc_row_in pm_row_in cd_row_in ct_row_in oc_told_about kV_told_about dc_told_about pm_told_about cd_told_about ct_told_about oc_say kV_say dc_say pm_say cd_say ct_say oc__law_cell kV__law_cell dc__law_cell pm__law_cell cd__law_cell ct__law_cell oc__law_number kV__law_number dc__law_number pm__law_number cd__law_number ct__law_number oc__law_names kV__law_names dc__law_names pm__law_names cd__law_names ct__law_names oc__law_hands kV__law_hands dc__law_hands pm__law_hands cd__law_hands ct__law_hands oc__law_rows kV__law_rows dc__law_rows pm__law_rows cd__law_rows ct__law_rows oc__law_house_row kV__law_house_row dc__law_house_row pm__law_house_row cd__law_house_row ct__law_house_row oc__law_condition kV__law_condition dc__law_condition pm__law_condition cd__law_condition ct__law_condition oc__law_condition_text kV__law_condition_text dc__law_condition_text pm__law_condition_text cd__law_condition_text ct__law_condition_text oc__law_condition_holds kV__law_condition_holds dc__law_condition_holds pm__law_condition_holds cd__law_condition_holds ct__law_condition_holds oc__law_clauses kV__law_clauses dc__law_clauses pm__law_clauses cd__law_clauses ct__law_clauses oc__law_rule_row kV__law_rule_row dc__law_rule_row pm__law_rule_row cd__law_rule_row ct__law_rule_row oc__law_dealt kV__law_dealt dc__law_dealt pm__law_dealt cd__law_dealt ct__law_dealt oc_law kV_law dc_law pm_law cd_law ct_law oc___init__ kV___init__ dc___init__ pm___init__ cd___init__ ct___init__ : Value}
    (a_is_name : PySem.W.nsIn K mainGlobals "is_name" = some (some (.ref f_is_name))) (l_is_name : K.lookup f_is_name = some ⟨oc_is_name, od_is_name, .func (PySem.W.fnOf "is_name" "is_name" (defArgs s_is_name) (defBody s_is_name) (defScope s_is_name) .none kV_is_name dc_is_name pm_is_name an_is_name cd_is_name ct_is_name), sl_is_name⟩) (c_is_name : PySem.W.codeIn K cd_is_name "is_name" = true) (k_is_name : PySem.W.keepIn K (.ref f_is_name) = true)
    (a_are_names : PySem.W.nsIn K mainGlobals "are_names" = some (some (.ref f_are_names))) (l_are_names : K.lookup f_are_names = some ⟨oc_are_names, od_are_names, .func (PySem.W.fnOf "are_names" "are_names" (defArgs s_are_names) (defBody s_are_names) (defScope s_are_names) .none kV_are_names dc_are_names pm_are_names an_are_names cd_are_names ct_are_names), sl_are_names⟩) (c_are_names : PySem.W.codeIn K cd_are_names "are_names" = true) (k_are_names : PySem.W.keepIn K (.ref f_are_names) = true)
    (a_is_worth : PySem.W.nsIn K mainGlobals "is_worth" = some (some (.ref f_is_worth))) (l_is_worth : K.lookup f_is_worth = some ⟨oc_is_worth, od_is_worth, .func (PySem.W.fnOf "is_worth" "is_worth" (defArgs s_is_worth) (defBody s_is_worth) (defScope s_is_worth) .none kV_is_worth dc_is_worth pm_is_worth an_is_worth cd_is_worth ct_is_worth), sl_is_worth⟩) (c_is_worth : PySem.W.codeIn K cd_is_worth "is_worth" = true) (k_is_worth : PySem.W.keepIn K (.ref f_is_worth) = true)
    (a_are_worths : PySem.W.nsIn K mainGlobals "are_worths" = some (some (.ref f_are_worths))) (l_are_worths : K.lookup f_are_worths = some ⟨oc_are_worths, od_are_worths, .func (PySem.W.fnOf "are_worths" "are_worths" (defArgs s_are_worths) (defBody s_are_worths) (defScope s_are_worths) .none kV_are_worths dc_are_worths pm_are_worths an_are_worths cd_are_worths ct_are_worths), sl_are_worths⟩) (c_are_worths : PySem.W.codeIn K cd_are_worths "are_worths" = true) (k_are_worths : PySem.W.keepIn K (.ref f_are_worths) = true)
    (a_is_hand : PySem.W.nsIn K mainGlobals "is_hand" = some (some (.ref f_is_hand))) (l_is_hand : K.lookup f_is_hand = some ⟨oc_is_hand, od_is_hand, .func (PySem.W.fnOf "is_hand" "is_hand" (defArgs s_is_hand) (defBody s_is_hand) (defScope s_is_hand) .none kV_is_hand dc_is_hand pm_is_hand an_is_hand cd_is_hand ct_is_hand), sl_is_hand⟩) (c_is_hand : PySem.W.codeIn K cd_is_hand "is_hand" = true) (k_is_hand : PySem.W.keepIn K (.ref f_is_hand) = true)
    (a_house_of : PySem.W.nsIn K mainGlobals "house_of" = some (some (.ref f_house_of))) (l_house_of : K.lookup f_house_of = some ⟨oc_house_of, od_house_of, .func (PySem.W.fnOf "house_of" "house_of" (defArgs s_house_of) (defBody s_house_of) (defScope s_house_of) .none kV_house_of dc_house_of pm_house_of an_house_of cd_house_of ct_house_of), sl_house_of⟩) (c_house_of : PySem.W.codeIn K cd_house_of "house_of" = true) (k_house_of : PySem.W.keepIn K (.ref f_house_of) = true)
    (a_crossed : PySem.W.nsIn K mainGlobals "crossed" = some (some (.ref f_crossed))) (l_crossed : K.lookup f_crossed = some ⟨oc_crossed, od_crossed, .func (PySem.W.fnOf "crossed" "crossed" (defArgs s_crossed) (defBody s_crossed) (defScope s_crossed) .none kV_crossed dc_crossed pm_crossed an_crossed cd_crossed ct_crossed), sl_crossed⟩) (c_crossed : PySem.W.codeIn K cd_crossed "crossed" = true) (k_crossed : PySem.W.keepIn K (.ref f_crossed) = true)
    (a_rows_of : PySem.W.nsIn K mainGlobals "rows_of" = some (some (.ref f_rows_of))) (l_rows_of : K.lookup f_rows_of = some ⟨oc_rows_of, od_rows_of, .func (PySem.W.fnOf "rows_of" "rows_of" (defArgs s_rows_of) (defBody s_rows_of) (defScope s_rows_of) .none kV_rows_of dc_rows_of pm_rows_of an_rows_of cd_rows_of ct_rows_of), sl_rows_of⟩) (c_rows_of : PySem.W.codeIn K cd_rows_of "rows_of" = true) (k_rows_of : PySem.W.keepIn K (.ref f_rows_of) = true)
    (a_holds : PySem.W.nsIn K mainGlobals "holds" = some (some (.ref f_holds))) (l_holds : K.lookup f_holds = some ⟨oc_holds, od_holds, .func (PySem.W.fnOf "holds" "holds" (defArgs s_holds) (defBody s_holds) (defScope s_holds) .none kV_holds dc_holds pm_holds an_holds cd_holds ct_holds), sl_holds⟩) (c_holds : PySem.W.codeIn K cd_holds "holds" = true) (k_holds : PySem.W.keepIn K (.ref f_holds) = true)
    (a_dealt : PySem.W.nsIn K mainGlobals "dealt" = some (some (.ref f_dealt))) (l_dealt : K.lookup f_dealt = some ⟨oc_dealt, od_dealt, .func (PySem.W.fnOf "dealt" "dealt" (defArgs s_dealt) (defBody s_dealt) (defScope s_dealt) .none kV_dealt dc_dealt pm_dealt an_dealt cd_dealt ct_dealt), sl_dealt⟩) (c_dealt : PySem.W.codeIn K cd_dealt "dealt" = true) (k_dealt : PySem.W.keepIn K (.ref f_dealt) = true)
    (a_table_of : PySem.W.nsIn K mainGlobals "table_of" = some (some (.ref f_table_of))) (l_table_of : K.lookup f_table_of = some ⟨oc_table_of, od_table_of, .func (PySem.W.fnOf "table_of" "table_of" (defArgs s_table_of) (defBody s_table_of) (defScope s_table_of) .none kV_table_of dc_table_of pm_table_of an_table_of cd_table_of ct_table_of), sl_table_of⟩) (c_table_of : PySem.W.codeIn K cd_table_of "table_of" = true) (k_table_of : PySem.W.keepIn K (.ref f_table_of) = true)
    (a_word_at : PySem.W.nsIn K mainGlobals "word_at" = some (some (.ref f_word_at))) (l_word_at : K.lookup f_word_at = some ⟨oc_word_at, od_word_at, .func (PySem.W.fnOf "word_at" "word_at" (defArgs s_word_at) (defBody s_word_at) (defScope s_word_at) .none kV_word_at dc_word_at pm_word_at an_word_at cd_word_at ct_word_at), sl_word_at⟩) (c_word_at : PySem.W.codeIn K cd_word_at "word_at" = true) (k_word_at : PySem.W.keepIn K (.ref f_word_at) = true)
    (a_saying : PySem.W.nsIn K mainGlobals "saying" = some (some (.ref f_saying))) (l_saying : K.lookup f_saying = some ⟨oc_saying, od_saying, .func (PySem.W.fnOf "saying" "saying" (defArgs s_saying) (defBody s_saying) (defScope s_saying) .none kV_saying dc_saying pm_saying an_saying cd_saying ct_saying), sl_saying⟩) (c_saying : PySem.W.codeIn K cd_saying "saying" = true) (k_saying : PySem.W.keepIn K (.ref f_saying) = true)
    (a_counting : PySem.W.nsIn K mainGlobals "counting" = some (some (.ref f_counting))) (l_counting : K.lookup f_counting = some ⟨oc_counting, od_counting, .func (PySem.W.fnOf "counting" "counting" (defArgs s_counting) (defBody s_counting) (defScope s_counting) .none kV_counting dc_counting pm_counting an_counting cd_counting ct_counting), sl_counting⟩) (c_counting : PySem.W.codeIn K cd_counting "counting" = true) (k_counting : PySem.W.keepIn K (.ref f_counting) = true)
    (a_condition_at : PySem.W.nsIn K mainGlobals "condition_at" = some (some (.ref f_condition_at))) (l_condition_at : K.lookup f_condition_at = some ⟨oc_condition_at, od_condition_at, .func (PySem.W.fnOf "condition_at" "condition_at" (defArgs s_condition_at) (defBody s_condition_at) (defScope s_condition_at) .none kV_condition_at dc_condition_at pm_condition_at an_condition_at cd_condition_at ct_condition_at), sl_condition_at⟩) (c_condition_at : PySem.W.codeIn K cd_condition_at "condition_at" = true) (k_condition_at : PySem.W.keepIn K (.ref f_condition_at) = true)
    (a_clause_of : PySem.W.nsIn K mainGlobals "clause_of" = some (some (.ref f_clause_of))) (l_clause_of : K.lookup f_clause_of = some ⟨oc_clause_of, od_clause_of, .func (PySem.W.fnOf "clause_of" "clause_of" (defArgs s_clause_of) (defBody s_clause_of) (defScope s_clause_of) .none kV_clause_of dc_clause_of pm_clause_of an_clause_of cd_clause_of ct_clause_of), sl_clause_of⟩) (c_clause_of : PySem.W.codeIn K cd_clause_of "clause_of" = true) (k_clause_of : PySem.W.keepIn K (.ref f_clause_of) = true)
    (a_read_rule : PySem.W.nsIn K mainGlobals "read_rule" = some (some (.ref f_read_rule))) (l_read_rule : K.lookup f_read_rule = some ⟨oc_read_rule, od_read_rule, .func (PySem.W.fnOf "read_rule" "read_rule" (defArgs s_read_rule) (defBody s_read_rule) (defScope s_read_rule) .none kV_read_rule dc_read_rule pm_read_rule an_read_rule cd_read_rule ct_read_rule), sl_read_rule⟩) (c_read_rule : PySem.W.codeIn K cd_read_rule "read_rule" = true) (k_read_rule : PySem.W.keepIn K (.ref f_read_rule) = true)
    (a_number_in : PySem.W.nsIn K mainGlobals "number_in" = some (some (.ref f_number_in))) (l_number_in : K.lookup f_number_in = some ⟨oc_number_in, od_number_in, .func (PySem.W.fnOf "number_in" "number_in" (defArgs s_number_in) (defBody s_number_in) (defScope s_number_in) .none kV_number_in dc_number_in pm_number_in an_number_in cd_number_in ct_number_in), sl_number_in⟩) (c_number_in : PySem.W.codeIn K cd_number_in "number_in" = true) (k_number_in : PySem.W.keepIn K (.ref f_number_in) = true)
    (a_numbers_in : PySem.W.nsIn K mainGlobals "numbers_in" = some (some (.ref f_numbers_in))) (l_numbers_in : K.lookup f_numbers_in = some ⟨oc_numbers_in, od_numbers_in, .func (PySem.W.fnOf "numbers_in" "numbers_in" (defArgs s_numbers_in) (defBody s_numbers_in) (defScope s_numbers_in) .none kV_numbers_in dc_numbers_in pm_numbers_in an_numbers_in cd_numbers_in ct_numbers_in), sl_numbers_in⟩) (c_numbers_in : PySem.W.codeIn K cd_numbers_in "numbers_in" = true) (k_numbers_in : PySem.W.keepIn K (.ref f_numbers_in) = true)
    (a_hand_in : PySem.W.nsIn K mainGlobals "hand_in" = some (some (.ref f_hand_in))) (l_hand_in : K.lookup f_hand_in = some ⟨oc_hand_in, od_hand_in, .func (PySem.W.fnOf "hand_in" "hand_in" (defArgs s_hand_in) (defBody s_hand_in) (defScope s_hand_in) .none kV_hand_in dc_hand_in pm_hand_in an_hand_in cd_hand_in ct_hand_in), sl_hand_in⟩) (c_hand_in : PySem.W.codeIn K cd_hand_in "hand_in" = true) (k_hand_in : PySem.W.keepIn K (.ref f_hand_in) = true)
    (a_house_in : PySem.W.nsIn K mainGlobals "house_in" = some (some (.ref f_house_in))) (l_house_in : K.lookup f_house_in = some ⟨oc_house_in, od_house_in, .func (PySem.W.fnOf "house_in" "house_in" (defArgs s_house_in) (defBody s_house_in) (defScope s_house_in) .none kV_house_in dc_house_in pm_house_in an_house_in cd_house_in ct_house_in), sl_house_in⟩) (c_house_in : PySem.W.codeIn K cd_house_in "house_in" = true) (k_house_in : PySem.W.keepIn K (.ref f_house_in) = true)
    (a_row_in : PySem.W.nsIn K mainGlobals "row_in" = some (some (.ref f_row_in))) (l_row_in : K.lookup f_row_in = some ⟨oc_row_in, od_row_in, .func (PySem.W.fnOf "row_in" "row_in" (defArgs s_row_in) (defBody s_row_in) (defScope s_row_in) .none kV_row_in dc_row_in pm_row_in an_row_in cd_row_in ct_row_in), sl_row_in⟩) (c_row_in : PySem.W.codeIn K cd_row_in "row_in" = true) (k_row_in : PySem.W.keepIn K (.ref f_row_in) = true)
    (a_told_about : PySem.W.nsIn K mainGlobals "told_about" = some (some (.ref f_told_about))) (l_told_about : K.lookup f_told_about = some ⟨oc_told_about, od_told_about, .func (PySem.W.fnOf "told_about" "told_about" (defArgs s_told_about) (defBody s_told_about) (defScope s_told_about) .none kV_told_about dc_told_about pm_told_about an_told_about cd_told_about ct_told_about), sl_told_about⟩) (c_told_about : PySem.W.codeIn K cd_told_about "told_about" = true) (k_told_about : PySem.W.keepIn K (.ref f_told_about) = true)
    (a_say : PySem.W.findIn K (.ref C_Desk) "say" = some (some (.ref f_say))) (fn_say : PySem.W.isFn K (.ref f_say) = true) (l_say : K.lookup f_say = some ⟨oc_say, od_say, .func (PySem.W.fnOf "say" "Desk.say" (defArgs s_say) (defBody s_say) (defScope s_say) .none kV_say dc_say pm_say an_say cd_say ct_say), sl_say⟩) (c_say : PySem.W.codeIn K cd_say "Desk.say" = true) (k_say : PySem.W.keepIn K (.ref f_say) = true)
    (a__law_cell : PySem.W.nsIn K mainGlobals "_law_cell" = some (some (.ref f__law_cell))) (l__law_cell : K.lookup f__law_cell = some ⟨oc__law_cell, od__law_cell, .func (PySem.W.fnOf "_law_cell" "_law_cell" (defArgs s__law_cell) (defBody s__law_cell) (defScope s__law_cell) .none kV__law_cell dc__law_cell pm__law_cell an__law_cell cd__law_cell ct__law_cell), sl__law_cell⟩) (c__law_cell : PySem.W.codeIn K cd__law_cell "_law_cell" = true) (k__law_cell : PySem.W.keepIn K (.ref f__law_cell) = true)
    (a__law_number : PySem.W.nsIn K mainGlobals "_law_number" = some (some (.ref f__law_number))) (l__law_number : K.lookup f__law_number = some ⟨oc__law_number, od__law_number, .func (PySem.W.fnOf "_law_number" "_law_number" (defArgs s__law_number) (defBody s__law_number) (defScope s__law_number) .none kV__law_number dc__law_number pm__law_number an__law_number cd__law_number ct__law_number), sl__law_number⟩) (c__law_number : PySem.W.codeIn K cd__law_number "_law_number" = true) (k__law_number : PySem.W.keepIn K (.ref f__law_number) = true)
    (a__law_names : PySem.W.nsIn K mainGlobals "_law_names" = some (some (.ref f__law_names))) (l__law_names : K.lookup f__law_names = some ⟨oc__law_names, od__law_names, .func (PySem.W.fnOf "_law_names" "_law_names" (defArgs s__law_names) (defBody s__law_names) (defScope s__law_names) .none kV__law_names dc__law_names pm__law_names an__law_names cd__law_names ct__law_names), sl__law_names⟩) (c__law_names : PySem.W.codeIn K cd__law_names "_law_names" = true) (k__law_names : PySem.W.keepIn K (.ref f__law_names) = true)
    (a__law_hands : PySem.W.nsIn K mainGlobals "_law_hands" = some (some (.ref f__law_hands))) (l__law_hands : K.lookup f__law_hands = some ⟨oc__law_hands, od__law_hands, .func (PySem.W.fnOf "_law_hands" "_law_hands" (defArgs s__law_hands) (defBody s__law_hands) (defScope s__law_hands) .none kV__law_hands dc__law_hands pm__law_hands an__law_hands cd__law_hands ct__law_hands), sl__law_hands⟩) (c__law_hands : PySem.W.codeIn K cd__law_hands "_law_hands" = true) (k__law_hands : PySem.W.keepIn K (.ref f__law_hands) = true)
    (a__law_rows : PySem.W.nsIn K mainGlobals "_law_rows" = some (some (.ref f__law_rows))) (l__law_rows : K.lookup f__law_rows = some ⟨oc__law_rows, od__law_rows, .func (PySem.W.fnOf "_law_rows" "_law_rows" (defArgs s__law_rows) (defBody s__law_rows) (defScope s__law_rows) .none kV__law_rows dc__law_rows pm__law_rows an__law_rows cd__law_rows ct__law_rows), sl__law_rows⟩) (c__law_rows : PySem.W.codeIn K cd__law_rows "_law_rows" = true) (k__law_rows : PySem.W.keepIn K (.ref f__law_rows) = true)
    (a__law_house_row : PySem.W.nsIn K mainGlobals "_law_house_row" = some (some (.ref f__law_house_row))) (l__law_house_row : K.lookup f__law_house_row = some ⟨oc__law_house_row, od__law_house_row, .func (PySem.W.fnOf "_law_house_row" "_law_house_row" (defArgs s__law_house_row) (defBody s__law_house_row) (defScope s__law_house_row) .none kV__law_house_row dc__law_house_row pm__law_house_row an__law_house_row cd__law_house_row ct__law_house_row), sl__law_house_row⟩) (c__law_house_row : PySem.W.codeIn K cd__law_house_row "_law_house_row" = true) (k__law_house_row : PySem.W.keepIn K (.ref f__law_house_row) = true)
    (a__law_condition : PySem.W.nsIn K mainGlobals "_law_condition" = some (some (.ref f__law_condition))) (l__law_condition : K.lookup f__law_condition = some ⟨oc__law_condition, od__law_condition, .func (PySem.W.fnOf "_law_condition" "_law_condition" (defArgs s__law_condition) (defBody s__law_condition) (defScope s__law_condition) .none kV__law_condition dc__law_condition pm__law_condition an__law_condition cd__law_condition ct__law_condition), sl__law_condition⟩) (c__law_condition : PySem.W.codeIn K cd__law_condition "_law_condition" = true) (k__law_condition : PySem.W.keepIn K (.ref f__law_condition) = true)
    (a__law_condition_text : PySem.W.nsIn K mainGlobals "_law_condition_text" = some (some (.ref f__law_condition_text))) (l__law_condition_text : K.lookup f__law_condition_text = some ⟨oc__law_condition_text, od__law_condition_text, .func (PySem.W.fnOf "_law_condition_text" "_law_condition_text" (defArgs s__law_condition_text) (defBody s__law_condition_text) (defScope s__law_condition_text) .none kV__law_condition_text dc__law_condition_text pm__law_condition_text an__law_condition_text cd__law_condition_text ct__law_condition_text), sl__law_condition_text⟩) (c__law_condition_text : PySem.W.codeIn K cd__law_condition_text "_law_condition_text" = true) (k__law_condition_text : PySem.W.keepIn K (.ref f__law_condition_text) = true)
    (a__law_condition_holds : PySem.W.nsIn K mainGlobals "_law_condition_holds" = some (some (.ref f__law_condition_holds))) (l__law_condition_holds : K.lookup f__law_condition_holds = some ⟨oc__law_condition_holds, od__law_condition_holds, .func (PySem.W.fnOf "_law_condition_holds" "_law_condition_holds" (defArgs s__law_condition_holds) (defBody s__law_condition_holds) (defScope s__law_condition_holds) .none kV__law_condition_holds dc__law_condition_holds pm__law_condition_holds an__law_condition_holds cd__law_condition_holds ct__law_condition_holds), sl__law_condition_holds⟩) (c__law_condition_holds : PySem.W.codeIn K cd__law_condition_holds "_law_condition_holds" = true) (k__law_condition_holds : PySem.W.keepIn K (.ref f__law_condition_holds) = true)
    (a__law_clauses : PySem.W.nsIn K mainGlobals "_law_clauses" = some (some (.ref f__law_clauses))) (l__law_clauses : K.lookup f__law_clauses = some ⟨oc__law_clauses, od__law_clauses, .func (PySem.W.fnOf "_law_clauses" "_law_clauses" (defArgs s__law_clauses) (defBody s__law_clauses) (defScope s__law_clauses) .none kV__law_clauses dc__law_clauses pm__law_clauses an__law_clauses cd__law_clauses ct__law_clauses), sl__law_clauses⟩) (c__law_clauses : PySem.W.codeIn K cd__law_clauses "_law_clauses" = true) (k__law_clauses : PySem.W.keepIn K (.ref f__law_clauses) = true)
    (a__law_rule_row : PySem.W.nsIn K mainGlobals "_law_rule_row" = some (some (.ref f__law_rule_row))) (l__law_rule_row : K.lookup f__law_rule_row = some ⟨oc__law_rule_row, od__law_rule_row, .func (PySem.W.fnOf "_law_rule_row" "_law_rule_row" (defArgs s__law_rule_row) (defBody s__law_rule_row) (defScope s__law_rule_row) .none kV__law_rule_row dc__law_rule_row pm__law_rule_row an__law_rule_row cd__law_rule_row ct__law_rule_row), sl__law_rule_row⟩) (c__law_rule_row : PySem.W.codeIn K cd__law_rule_row "_law_rule_row" = true) (k__law_rule_row : PySem.W.keepIn K (.ref f__law_rule_row) = true)
    (a__law_dealt : PySem.W.nsIn K mainGlobals "_law_dealt" = some (some (.ref f__law_dealt))) (l__law_dealt : K.lookup f__law_dealt = some ⟨oc__law_dealt, od__law_dealt, .func (PySem.W.fnOf "_law_dealt" "_law_dealt" (defArgs s__law_dealt) (defBody s__law_dealt) (defScope s__law_dealt) .none kV__law_dealt dc__law_dealt pm__law_dealt an__law_dealt cd__law_dealt ct__law_dealt), sl__law_dealt⟩) (c__law_dealt : PySem.W.codeIn K cd__law_dealt "_law_dealt" = true) (k__law_dealt : PySem.W.keepIn K (.ref f__law_dealt) = true)
    (a_law : PySem.W.nsIn K mainGlobals "law" = some (some (.ref f_law))) (l_law : K.lookup f_law = some ⟨oc_law, od_law, .func (PySem.W.fnOf "law" "law" (defArgs s_law) (defBody s_law) (defScope s_law) .none kV_law dc_law pm_law an_law cd_law ct_law), sl_law⟩) (c_law : PySem.W.codeIn K cd_law "law" = true) (k_law : PySem.W.keepIn K (.ref f_law) = true)
    (a___init__ : PySem.W.findIn K (.ref C_Desk) "__init__" = some (some (.ref f___init__))) (fn___init__ : PySem.W.isFn K (.ref f___init__) = true) (l___init__ : K.lookup f___init__ = some ⟨oc___init__, od___init__, .func (PySem.W.fnOf "__init__" "Desk.__init__" (defArgs s___init__) (defBody s___init__) (defScope s___init__) .none kV___init__ dc___init__ pm___init__ an___init__ cd___init__ ct___init__), sl___init__⟩) (c___init__ : PySem.W.codeIn K cd___init__ "Desk.__init__" = true) (k___init__ : PySem.W.keepIn K (.ref f___init__) = true)
    (pg_ : PySem.W.plainGet K C_Desk Str.empty = true) (hd_ : PySem.W.hasDictIn K C_Desk = true) (po_ : PySem.W.plainOver K C_Desk = true) (sa_ : PySem.W.findIn K (.ref C_Desk) "__setattr__" = some (some (.builtin "object.__setattr__")))
    (nh_ : PySem.W.findIn K (.ref C_Desk) "house" = some none) (nt_ : PySem.W.findIn K (.ref C_Desk) "table" = some none) (mk_ : PySem.W.makesIn K C_Desk = true) (kp_ : PySem.W.keepIn K (.ref C_Desk) = true)
    {A_FIRST : Addr} {od_FIRST : Option Addr} {sl_FIRST : Array (Option Value)} {nn_FIRST : Nat} {u0_FIRST u1_FIRST u2_FIRST u3_FIRST u4_FIRST u5_FIRST u6_FIRST : Value} (a_FIRST : PySem.W.nsIn K mainGlobals "FIRST" = some (some (.ref A_FIRST))) (l_FIRST : K.lookup A_FIRST = some ⟨.type "tuple", od_FIRST, .seq #[u0_FIRST, u1_FIRST, u2_FIRST, u3_FIRST, u4_FIRST, u5_FIRST, u6_FIRST] nn_FIRST, sl_FIRST⟩) (r_FIRST : Vals ((["house", "rule", "best", "deal", "pays", "verdict", "menu"] : List Str).map V.str) [u0_FIRST, u1_FIRST, u2_FIRST, u3_FIRST, u4_FIRST, u5_FIRST, u6_FIRST])
    (n_bool : PySem.W.nsIn K mainGlobals "bool" = some none)
    (n_enumerate : PySem.W.nsIn K mainGlobals "enumerate" = some none)
    (n_int : PySem.W.nsIn K mainGlobals "int" = some none)
    (n_isinstance : PySem.W.nsIn K mainGlobals "isinstance" = some none)
    (n_len : PySem.W.nsIn K mainGlobals "len" = some none)
    (n_list : PySem.W.nsIn K mainGlobals "list" = some none)
    (n_range : PySem.W.nsIn K mainGlobals "range" = some none)
    (n_set : PySem.W.nsIn K mainGlobals "set" = some none)
    (n_str : PySem.W.nsIn K mainGlobals "str" = some none)
    (n_tuple : PySem.W.nsIn K mainGlobals "tuple" = some none)
    {u_FIGURES : Value} (w_FIGURES : PySem.W.nsIn K mainGlobals "FIGURES" = some (some u_FIGURES)) (r_FIGURES : CstV (.str "0123456789") u_FIGURES)
    {u_LETTERS : Value} (w_LETTERS : PySem.W.nsIn K mainGlobals "LETTERS" = some (some u_LETTERS)) (r_LETTERS : CstV (.str "abcdefghijklmnopqrstuvwxyz") u_LETTERS)
    (hm : ∀ (DA : DeskAt) (ns : List Int), ns.length ≤ 63 → (∀ z ∈ ns, Builtin.Int.intBits z ≤ 1048576) → @m_law_k73 DA [.scr ns] = .ok (.bl true)) :
    ∃ fd : FuncData, (∀ (s : Shared) (v : Value), BindsTo s fd ⟨[v], []⟩ [("script", v)]) ∧ ∀ base : Heap, K.In base → base.Ns mainGlobals mg → FnOk l.prog w K mg base (L2.CX l.prog w) 66 fa fd ["script"] (spLaw K) := by
  have e := hfa.symm.trans (PySem.W.mg_of X G a_law)
  cases e
  letI DA : DeskAt := ⟨C_Desk⟩
  have c_Desk : Cls K DeskAt.C := ⟨pg_, hd_, po_, sa_⟩
  have n_house : NoAttr K DeskAt.C "house" := nh_
  have n_table : NoAttr K DeskAt.C "table" := nt_
  have t_FIRST : CstT K mg "FIRST" ["house", "rule", "best", "deal", "pays", "verdict", "menu"] := ⟨A_FIRST, _, _, _, PySem.W.mg_of X G a_FIRST, l_FIRST, rfl, rfl, by show 7 ≤ sizeLine; decide, r_FIRST⟩
  have z_bool := PySem.W.mg_none_of X G n_bool
  have z_enumerate := PySem.W.mg_none_of X G n_enumerate
  have z_int := PySem.W.mg_none_of X G n_int
  have z_isinstance := PySem.W.mg_none_of X G n_isinstance
  have z_len := PySem.W.mg_none_of X G n_len
  have z_list := PySem.W.mg_none_of X G n_list
  have z_range := PySem.W.mg_none_of X G n_range
  have z_set := PySem.W.mg_none_of X G n_set
  have z_str := PySem.W.mg_none_of X G n_str
  have z_tuple := PySem.W.mg_none_of X G n_tuple
  have q_FIGURES : CstG mg "FIGURES" (.str "0123456789") := ⟨_, PySem.W.mg_of X G w_FIGURES, r_FIGURES⟩
  have q_LETTERS : CstG mg "LETTERS" (.str "abcdefghijklmnopqrstuvwxyz") := ⟨_, PySem.W.mg_of X G w_LETTERS, r_LETTERS⟩
  have F_is_name := fun_mk (st := s_is_name) l_is_name c_is_name k_is_name
  have F_are_names := fun_mk (st := s_are_names) l_are_names c_are_names k_are_names
  have F_is_worth := fun_mk (st := s_is_worth) l_is_worth c_is_worth k_is_worth
  have F_are_worths := fun_mk (st := s_are_worths) l_are_worths c_are_worths k_are_worths
  have F_is_hand := fun_mk (st := s_is_hand) l_is_hand c_is_hand k_is_hand
  have F_house_of := fun_mk (st := s_house_of) l_house_of c_house_of k_house_of
  have F_crossed := fun_mk (st := s_crossed) l_crossed c_crossed k_crossed
  have F_rows_of := fun_mk (st := s_rows_of) l_rows_of c_rows_of k_rows_of
  have F_holds := fun_mk (st := s_holds) l_holds c_holds k_holds
  have F_dealt := fun_mk (st := s_dealt) l_dealt c_dealt k_dealt
  have F_table_of := fun_mk (st := s_table_of) l_table_of c_table_of k_table_of
  have F_word_at := fun_mk (st := s_word_at) l_word_at c_word_at k_word_at
  have F_saying := fun_mk (st := s_saying) l_saying c_saying k_saying
  have F_counting := fun_mk (st := s_counting) l_counting c_counting k_counting
  have F_condition_at := fun_mk (st := s_condition_at) l_condition_at c_condition_at k_condition_at
  have F_clause_of := fun_mk (st := s_clause_of) l_clause_of c_clause_of k_clause_of
  have F_read_rule := fun_mk (st := s_read_rule) l_read_rule c_read_rule k_read_rule
  have F_number_in := fun_mk (st := s_number_in) l_number_in c_number_in k_number_in
  have F_numbers_in := fun_mk (st := s_numbers_in) l_numbers_in c_numbers_in k_numbers_in
  have F_hand_in := fun_mk (st := s_hand_in) l_hand_in c_hand_in k_hand_in
  have F_house_in := fun_mk (st := s_house_in) l_house_in c_house_in k_house_in
  have F_row_in := fun_mk (st := s_row_in) l_row_in c_row_in k_row_in
  have F_told_about := fun_mk (st := s_told_about) l_told_about c_told_about k_told_about
  have F_say := fun_mk (st := s_say) l_say c_say k_say
  have F__law_cell := fun_mk (st := s__law_cell) l__law_cell c__law_cell k__law_cell
  have F__law_number := fun_mk (st := s__law_number) l__law_number c__law_number k__law_number
  have F__law_names := fun_mk (st := s__law_names) l__law_names c__law_names k__law_names
  have F__law_hands := fun_mk (st := s__law_hands) l__law_hands c__law_hands k__law_hands
  have F__law_rows := fun_mk (st := s__law_rows) l__law_rows c__law_rows k__law_rows
  have F__law_house_row := fun_mk (st := s__law_house_row) l__law_house_row c__law_house_row k__law_house_row
  have F__law_condition := fun_mk (st := s__law_condition) l__law_condition c__law_condition k__law_condition
  have F__law_condition_text := fun_mk (st := s__law_condition_text) l__law_condition_text c__law_condition_text k__law_condition_text
  have F__law_condition_holds := fun_mk (st := s__law_condition_holds) l__law_condition_holds c__law_condition_holds k__law_condition_holds
  have F__law_clauses := fun_mk (st := s__law_clauses) l__law_clauses c__law_clauses k__law_clauses
  have F__law_rule_row := fun_mk (st := s__law_rule_row) l__law_rule_row c__law_rule_row k__law_rule_row
  have F__law_dealt := fun_mk (st := s__law_dealt) l__law_dealt c__law_dealt k__law_dealt
  have F_law := fun_mk (st := s_law) l_law c_law k_law
  have F___init__ := fun_mk (st := s___init__) l___init__ c___init__ k___init__
  have bd___init__ := F___init__.binds (ps := ["self"]) fun _ _ _ _ _ _ us hl => match us, hl with | [_], _ => rfl
  have bd_is_name := F_is_name.binds (ps := ["thing"]) fun _ _ _ _ _ _ us hl => match us, hl with | [_], _ => rfl
  have bd_are_names := F_are_names.binds (ps := ["thing", "top"]) fun _ _ _ _ _ _ us hl => match us, hl with | [_, _], _ => rfl
  have bd_is_worth := F_is_worth.binds (ps := ["thing"]) fun _ _ _ _ _ _ us hl => match us, hl with | [_], _ => rfl
  have bd_are_worths := F_are_worths.binds (ps := ["thing", "words", "outcomes"]) fun _ _ _ _ _ _ us hl => match us, hl with | [_, _, _], _ => rfl
  have bd_is_hand := F_is_hand.binds (ps := ["thing", "outcomes"]) fun _ _ _ _ _ _ us hl => match us, hl with | [_, _], _ => rfl
  have bd_house_of := F_house_of.binds (ps := ["outcomes", "hands"]) fun _ _ _ _ _ _ us hl => match us, hl with | [_, _], _ => rfl
  have bd_crossed := F_crossed.binds (ps := ["lists"]) fun _ _ _ _ _ _ us hl => match us, hl with | [_], _ => rfl
  have bd_rows_of := F_rows_of.binds (ps := ["house"]) fun _ _ _ _ _ _ us hl => match us, hl with | [_], _ => rfl
  have bd_holds := F_holds.binds (ps := ["condition", "row"]) fun _ _ _ _ _ _ us hl => match us, hl with | [_, _], _ => rfl
  have bd_dealt := F_dealt.binds (ps := ["rule", "row"]) fun _ _ _ _ _ _ us hl => match us, hl with | [_, _], _ => rfl
  have bd_table_of := F_table_of.binds (ps := ["house", "rule"]) fun _ _ _ _ _ _ us hl => match us, hl with | [_, _], _ => rfl
  have bd_word_at := F_word_at.binds (ps := ["words", "place"]) fun _ _ _ _ _ _ us hl => match us, hl with | [_, _], _ => rfl
  have bd_saying := F_saying.binds (ps := ["house", "words", "place"]) fun _ _ _ _ _ _ us hl => match us, hl with | [_, _, _], _ => rfl
  have bd_counting := F_counting.binds (ps := ["house", "words", "place"]) fun _ _ _ _ _ _ us hl => match us, hl with | [_, _, _], _ => rfl
  have bd_condition_at := F_condition_at.binds (ps := ["house", "words", "place"]) fun _ _ _ _ _ _ us hl => match us, hl with | [_, _, _], _ => rfl
  have bd_clause_of := F_clause_of.binds (ps := ["house", "text", "last"]) fun _ _ _ _ _ _ us hl => match us, hl with | [_, _, _], _ => rfl
  have bd_read_rule := F_read_rule.binds (ps := ["house", "text"]) fun _ _ _ _ _ _ us hl => match us, hl with | [_, _], _ => rfl
  have bd_number_in := F_number_in.binds (ps := ["word"]) fun _ _ _ _ _ _ us hl => match us, hl with | [_], _ => rfl
  have bd_numbers_in := F_numbers_in.binds (ps := ["text"]) fun _ _ _ _ _ _ us hl => match us, hl with | [_], _ => rfl
  have bd_hand_in := F_hand_in.binds (ps := ["text"]) fun _ _ _ _ _ _ us hl => match us, hl with | [_], _ => rfl
  have bd_house_in := F_house_in.binds (ps := ["text"]) fun _ _ _ _ _ _ us hl => match us, hl with | [_], _ => rfl
  have bd_row_in := F_row_in.binds (ps := ["table", "text"]) fun _ _ _ _ _ _ us hl => match us, hl with | [_, _], _ => rfl
  have bd_told_about := F_told_about.binds (ps := ["house", "table", "word", "text"]) fun _ _ _ _ _ _ us hl => match us, hl with | [_, _, _, _], _ => rfl
  have bd_say := F_say.binds (ps := ["self", "row"]) fun _ _ _ _ _ _ us hl => match us, hl with | [_, _], _ => rfl
  have bd__law_cell := F__law_cell.binds (ps := ["script", "k"]) fun _ _ _ _ _ _ us hl => match us, hl with | [_, _], _ => rfl
  have bd__law_number := F__law_number.binds (ps := ["cell", "top"]) fun _ _ _ _ _ _ us hl => match us, hl with | [_, _], _ => rfl
  have bd__law_names := F__law_names.binds (ps := ["cell", "many"]) fun _ _ _ _ _ _ us hl => match us, hl with | [_, _], _ => rfl
  have bd__law_hands := F__law_hands.binds (ps := ["script", "places", "top"]) fun _ _ _ _ _ _ us hl => match us, hl with | [_, _, _], _ => rfl
  have bd__law_rows := F__law_rows.binds (ps := ["hands"]) fun _ _ _ _ _ _ us hl => match us, hl with | [_], _ => rfl
  have bd__law_house_row := F__law_house_row.binds (ps := ["outcomes", "hands"]) fun _ _ _ _ _ _ us hl => match us, hl with | [_, _], _ => rfl
  have bd__law_condition := F__law_condition.binds (ps := ["cell", "hands"]) fun _ _ _ _ _ _ us hl => match us, hl with | [_, _], _ => rfl
  have bd__law_condition_text := F__law_condition_text.binds (ps := ["told", "hands"]) fun _ _ _ _ _ _ us hl => match us, hl with | [_, _], _ => rfl
  have bd__law_condition_holds := F__law_condition_holds.binds (ps := ["told", "row"]) fun _ _ _ _ _ _ us hl => match us, hl with | [_, _], _ => rfl
  have bd__law_clauses := F__law_clauses.binds (ps := ["script", "hands", "outcomes"]) fun _ _ _ _ _ _ us hl => match us, hl with | [_, _, _], _ => rfl
  have bd__law_rule_row := F__law_rule_row.binds (ps := ["clauses", "hands", "last"]) fun _ _ _ _ _ _ us hl => match us, hl with | [_, _, _], _ => rfl
  have bd__law_dealt := F__law_dealt.binds (ps := ["clauses", "row", "last"]) fun _ _ _ _ _ _ us hl => match us, hl with | [_, _, _], _ => rfl
  refine ⟨PySem.W.fnOf "law" "law" (defArgs s_law) (defBody s_law) (defScope s_law) .none kV_law dc_law pm_law an_law cd_law ct_law, fun s v => .of_eq rfl, fun base _ _ => ?_⟩
  have g_Desk : DeskG l.prog w K mg base 1 := ⟨⟨f___init__, _, ⟨mk_, a___init__, fn___init__, kp_⟩, ok___init__ F___init__ c_Desk n_house n_table, bd___init__⟩, PySem.W.mg_of X G a_Desk, c_Desk, n_house, n_table⟩
  have g__law_cell : FnG l.prog w K mg base "_law_cell" 1 0 2 m__law_cell := ⟨_, _, _, ok__law_cell F__law_cell z_len, PySem.W.mg_of X G a__law_cell, k__law_cell, bd__law_cell⟩
  have g__law_condition : FnG l.prog w K mg base "_law_condition" 1 0 2 m__law_condition := ⟨_, _, _, ok__law_condition F__law_condition z_len, PySem.W.mg_of X G a__law_condition, k__law_condition, bd__law_condition⟩
  have g__law_clauses : FnG l.prog w K mg base "_law_clauses" 2 0 3 m__law_clauses_v2 := ⟨_, _, _, ok__law_clauses F__law_clauses z_len z_range g__law_cell g__law_condition, PySem.W.mg_of X G a__law_clauses, k__law_clauses, bd__law_clauses⟩
  have g__law_condition_holds : FnG l.prog w K mg base "_law_condition_holds" 1 0 2 m__law_condition_holds := ⟨_, _, _, ok__law_condition_holds F__law_condition_holds, PySem.W.mg_of X G a__law_condition_holds, k__law_condition_holds, bd__law_condition_holds⟩
  have g__law_dealt : FnG l.prog w K mg base "_law_dealt" 2 0 3 m__law_dealt := ⟨_, _, _, ok__law_dealt F__law_dealt g__law_condition_holds, PySem.W.mg_of X G a__law_dealt, k__law_dealt, bd__law_dealt⟩
  have g__law_names : FnG l.prog w K mg base "_law_names" 1 0 2 m__law_names_v2 := ⟨_, _, _, ok__law_names F__law_names z_range, PySem.W.mg_of X G a__law_names, k__law_names, bd__law_names⟩
  have g__law_number : FnG l.prog w K mg base "_law_number" 1 9 2 m__law_number := ⟨_, _, _, ok__law_number F__law_number, PySem.W.mg_of X G a__law_number, k__law_number, bd__law_number⟩
  have g__law_hands : FnG l.prog w K mg base "_law_hands" 2 0 3 m__law_hands_v3 := ⟨_, _, _, ok__law_hands F__law_hands z_range g__law_cell g__law_names g__law_number, PySem.W.mg_of X G a__law_hands, k__law_hands, bd__law_hands⟩
  have g__law_house_row : FnG l.prog w K mg base "_law_house_row" 1 0 2 m__law_house_row := ⟨_, _, _, ok__law_house_row F__law_house_row z_len z_range z_str, PySem.W.mg_of X G a__law_house_row, k__law_house_row, bd__law_house_row⟩
  have g__law_rows : FnG l.prog w K mg base "_law_rows" 1 0 1 m__law_rows_v6 := ⟨_, _, _, ok__law_rows F__law_rows, PySem.W.mg_of X G a__law_rows, k__law_rows, bd__law_rows⟩
  have g__law_condition_text : FnG l.prog w K mg base "_law_condition_text" 1 0 2 m__law_condition_text := ⟨_, _, _, ok__law_condition_text F__law_condition_text z_str, PySem.W.mg_of X G a__law_condition_text, k__law_condition_text, bd__law_condition_text⟩
  have g__law_rule_row : FnG l.prog w K mg base "_law_rule_row" 2 0 3 m__law_rule_row := ⟨_, _, _, ok__law_rule_row F__law_rule_row g__law_condition_text, PySem.W.mg_of X G a__law_rule_row, k__law_rule_row, bd__law_rule_row⟩
  have g_number_in : FnG l.prog w K mg base "number_in" 1 0 1 m_number_in := ⟨_, _, _, ok_number_in F_number_in z_int z_len q_FIGURES, PySem.W.mg_of X G a_number_in, k_number_in, bd_number_in⟩
  have g_numbers_in : FnG l.prog w K mg base "numbers_in" 2 0 1 m_numbers_in := ⟨_, _, _, ok_numbers_in F_numbers_in g_number_in, PySem.W.mg_of X G a_numbers_in, k_numbers_in, bd_numbers_in⟩
  have g_hand_in : FnG l.prog w K mg base "hand_in" 3 0 1 m_hand_in := ⟨_, _, _, ok_hand_in F_hand_in g_numbers_in, PySem.W.mg_of X G a_hand_in, k_hand_in, bd_hand_in⟩
  have g_is_name : FnG l.prog w K mg base "is_name" 1 0 1 m_is_name := ⟨_, _, _, ok_is_name F_is_name z_isinstance z_len z_str q_LETTERS, PySem.W.mg_of X G a_is_name, k_is_name, bd_is_name⟩
  have g_are_names : FnG l.prog w K mg base "are_names" 2 0 2 m_are_names := ⟨_, _, _, ok_are_names F_are_names z_isinstance z_len z_list z_set g_is_name, PySem.W.mg_of X G a_are_names, k_are_names, bd_are_names⟩
  have g_is_worth : FnG l.prog w K mg base "is_worth" 1 0 1 m_is_worth := ⟨_, _, _, ok_is_worth F_is_worth z_bool z_int z_isinstance, PySem.W.mg_of X G a_is_worth, k_is_worth, bd_is_worth⟩
  have g_are_worths : FnG l.prog w K mg base "are_worths" 2 0 3 m_are_worths := ⟨_, _, _, ok_are_worths F_are_worths z_isinstance z_len z_list g_is_worth, PySem.W.mg_of X G a_are_worths, k_are_worths, bd_are_worths⟩
  have g_is_hand : FnG l.prog w K mg base "is_hand" 3 0 2 m_is_hand := ⟨_, _, _, ok_is_hand F_is_hand z_isinstance z_len z_tuple g_are_names g_are_worths g_is_name, PySem.W.mg_of X G a_is_hand, k_is_hand, bd_is_hand⟩
  have g_house_of : FnG l.prog w K mg base "house_of" 4 0 2 m_house_of_v3 := ⟨_, _, _, ok_house_of F_house_of z_isinstance z_len z_list z_set z_tuple g_are_names g_is_hand, PySem.W.mg_of X G a_house_of, k_house_of, bd_house_of⟩
  have g_house_in : FnG l.prog w K mg base "house_in" 5 0 1 m_house_in := ⟨_, _, _, ok_house_in F_house_in g_hand_in g_house_of, PySem.W.mg_of X G a_house_in, k_house_in, bd_house_in⟩
  have g_word_at : FnG l.prog w K mg base "word_at" 1 0 2 m_word_at := ⟨_, _, _, ok_word_at F_word_at z_len, PySem.W.mg_of X G a_word_at, k_word_at, bd_word_at⟩
  have g_counting : FnG l.prog w K mg base "counting" 2 0 3 m_counting := ⟨_, _, _, ok_counting F_counting z_int g_word_at, PySem.W.mg_of X G a_counting, k_counting, bd_counting⟩
  have g_saying : FnG l.prog w K mg base "saying" 2 0 3 m_saying := ⟨_, _, _, ok_saying F_saying z_enumerate g_word_at, PySem.W.mg_of X G a_saying, k_saying, bd_saying⟩
  have h_condition_at : ∀ j : Nat, FnG l.prog w K mg base "condition_at" (2 + j) 0 3 (m_condition_at j) := fun j => by
    induction j with
    | zero => exact ⟨_, _, ["house", "words", "place"], fnOk_stuck, PySem.W.mg_of X G a_condition_at, k_condition_at, bd_condition_at⟩
    | succ j ih => exact ⟨_, _, _, ok_condition_at F_condition_at g_counting g_saying g_word_at (k := 2 + j) (by omega) ih, PySem.W.mg_of X G a_condition_at, k_condition_at, bd_condition_at⟩
  have g_condition_at : FnG l.prog w K mg base "condition_at" 62 0 3 (m_condition_at 60) := h_condition_at 60
  have g_clause_of : FnG l.prog w K mg base "clause_of" 63 0 3 m_clause_of := ⟨_, _, _, ok_clause_of F_clause_of z_len g_condition_at, PySem.W.mg_of X G a_clause_of, k_clause_of, bd_clause_of⟩
  have g_read_rule : FnG l.prog w K mg base "read_rule" 64 1 2 m_read_rule := ⟨_, _, _, ok_read_rule F_read_rule z_enumerate z_isinstance z_len z_str g_clause_of, PySem.W.mg_of X G a_read_rule, k_read_rule, bd_read_rule⟩
  have h_holds : ∀ j : Nat, FnG l.prog w K mg base "holds" (0 + j) 0 2 (m_holds j) := fun j => by
    induction j with
    | zero => exact ⟨_, _, ["condition", "row"], fnOk_stuck, PySem.W.mg_of X G a_holds, k_holds, bd_holds⟩
    | succ j ih => exact ⟨_, _, _, ok_holds F_holds (k := 0 + j) (by omega) ih, PySem.W.mg_of X G a_holds, k_holds, bd_holds⟩
  have g_holds : FnG l.prog w K mg base "holds" 60 0 2 (m_holds 60) := h_holds 60
  have g_dealt : FnG l.prog w K mg base "dealt" 61 0 2 m_dealt := ⟨_, _, _, ok_dealt F_dealt g_holds, PySem.W.mg_of X G a_dealt, k_dealt, bd_dealt⟩
  have g_crossed : FnG l.prog w K mg base "crossed" 1 1 1 m_crossed_v3 := ⟨_, _, _, ok_crossed F_crossed, PySem.W.mg_of X G a_crossed, k_crossed, bd_crossed⟩
  have g_rows_of : FnG l.prog w K mg base "rows_of" 2 1 1 m_rows_of_v3 := ⟨_, _, _, ok_rows_of F_rows_of g_crossed, PySem.W.mg_of X G a_rows_of, k_rows_of, bd_rows_of⟩
  have g_table_of : FnG l.prog w K mg base "table_of" 62 1 2 m_table_of := ⟨_, _, _, ok_table_of F_table_of g_dealt g_rows_of, PySem.W.mg_of X G a_table_of, k_table_of, bd_table_of⟩
  have g_row_in : FnG l.prog w K mg base "row_in" 1 0 2 m_row_in := ⟨_, _, _, ok_row_in F_row_in z_tuple, PySem.W.mg_of X G a_row_in, k_row_in, bd_row_in⟩
  have g_told_about : FnG l.prog w K mg base "told_about" 2 0 4 m_told_about := ⟨_, _, _, ok_told_about F_told_about g_row_in, PySem.W.mg_of X G a_told_about, k_told_about, bd_told_about⟩
  have g_say : SayG l.prog w K mg base 65 [99, 0, 0] m_say := ⟨⟨f_say, _, ok_say F_say z_isinstance z_str t_FIRST c_Desk n_house n_table g_house_in g_read_rule g_table_of g_told_about, ⟨a_say, fn_say, k_say⟩, bd_say⟩, c_Desk⟩
  exact (ok_law F_law z_isinstance z_str g_Desk g__law_cell g__law_clauses g__law_dealt g__law_hands g__law_house_row g__law_names g__law_rows g__law_rule_row g_say).imp (law_sp (hm DA))
end Lk73
-- TWM
namespace TW
open PySem PySem.Spec PyProof.Rows L2

section
variable {ρ : Rho} {i j : Nat} {a b c : Rho → Res D} {g g' : D → D → Option D} {m mb : Rho → Out}
@[simp] theorem mVar_eq : mVar i ρ = (match ρ[i]? with | some (some d) => .ok d | _ => .stuck) := id rfl
@[simp] theorem mC_eq {d : D} : mC d ρ = .ok d := id rfl
@[simp] theorem m1_eq {g : D → Option D} : m1 g a ρ = (a ρ).bind fun x => ofO (g x) := id rfl
@[simp] theorem m2_eq : m2 g a b ρ = (a ρ).bind fun x => (b ρ).bind fun y => ofO (g x y) := id rfl
@[simp] theorem mA0_eq : mA0 ρ = .ok [] := id rfl
@[simp] theorem mA1_eq {r : Rho → Res (List D)} : mA1 a r ρ = (a ρ).bind fun x => (r ρ).bind fun xs => .ok (x :: xs) := id rfl
@[simp] theorem mArgs_eq {g : List D → Res D} {r : Rho → Res (List D)} : mArgs g r ρ = (r ρ).bind g := id rfl
@[simp] theorem mL_eq {g : List D → Option D} {r : Rho → Res (List D)} : mL g r ρ = (r ρ).bind fun x => ofO (g x) := id rfl
@[simp] theorem mT_eq : mT a ρ = (a ρ).bind ofB := id rfl
@[simp] theorem ofB_eq {t : Bool} : ofB (.bl t) = .ok t := id rfl
@[simp] theorem mFlat_eq : mFlat a ρ = (a ρ).bind fun d => if d.flat then .ok d else .stuck := id rfl
@[simp] theorem flat_int {z : Int} : D.flat (.int z) = true := id rfl
@[simp] theorem flat_bl {z : Bool} : D.flat (.bl z) = true := id rfl
@[simp] theorem flat_str {z : Str} : D.flat (.str z) = true := id rfl
@[simp] theorem flat_non : D.flat .non = true := id rfl
@[simp] theorem mSl_eq {lo hi : Rho → Res (Option Int)} : mSl a lo hi ρ = (a ρ).bind fun d => (lo ρ).bind fun l => (hi ρ).bind fun h => ofO (gSl d l h) := id rfl
@[simp] theorem oNo_eq : oNo ρ = .ok none := id rfl
@[simp] theorem oYes_eq : oYes a ρ = (a ρ).bind ofI := id rfl
@[simp] theorem ofI_eq {z : Int} : ofI (.int z) = .ok (some z) := id rfl
@[simp] theorem mAnd_eq : mAnd a b ρ = (a ρ).bind fun d => match d with | .bl true => b ρ | .bl false => .ok (.bl false) | _ => .stuck := id rfl
@[simp] theorem mOr_eq : mOr a b ρ = (a ρ).bind fun d => match d with | .bl true => .ok (.bl true) | .bl false => b ρ | _ => .stuck := id rfl
@[simp] theorem tAndM_eq {a b : Rho → Res Bool} : tAndM a b ρ = (a ρ).bind fun d => if d = true then b ρ else .ok false := id rfl
@[simp] theorem tOrM_eq {a b : Rho → Res Bool} : tOrM a b ρ = (a ρ).bind fun d => if d = true then .ok true else b ρ := id rfl
@[simp] theorem tNotM_eq {a : Rho → Res Bool} : tNotM a ρ = (a ρ).bind fun d => .ok (!d) := id rfl
@[simp] theorem tYesM_eq : tYesM ρ = .ok true := id rfl
@[simp] theorem mChain_eq : mChain g g' a b c ρ = (a ρ).bind fun x => (b ρ).bind fun y => (ofO (g x y)).bind fun z => match z with
  | .bl true => (c ρ).bind fun w => ofO (g' y w)
  | .bl false => .ok (.bl false)
  | _ => .stuck := id rfl
@[simp] theorem iAny_eq : iAny a ρ = (a ρ).bind fun d => ofO (iLoc d) := id rfl
@[simp] theorem iLoc_lst {l : List D} : iLoc (.lst l) = some l := id rfl
@[simp] theorem iLoc_ftup {l : List D} : iLoc (.ftup l) = some l := id rfl
@[simp] theorem iLoc_tup {l : List D} : iLoc (.tup l) = some l := id rfl
@[simp] theorem iLoc_scr {l : List Int} : iLoc (.scr l) = some (l.map .int) := id rfl
@[simp] theorem pNil_eq : pNil ρ = .ok [] := id rfl
@[simp] theorem pSnoc_eq {p : Rho → Res (List D)} : pSnoc p a ρ = (p ρ).bind fun p => (noX (a ρ)).bind fun j => .ok (p ++ [j]) := id rfl
@[simp] theorem sSet_eq : sSet i a ρ = (a ρ).out ρ fun d => .nx (ρ.set i (some d)) := id rfl
@[simp] theorem sRet_eq : sRet a ρ = (a ρ).out ρ fun d => .rt d := id rfl
@[simp] theorem sDo_eq : sDo a ρ = (a ρ).out ρ fun _ => .nx ρ := id rfl
@[simp] theorem sIf_eq {t : Rho → Res Bool} : sIf t m mb ρ = (t ρ).out ρ fun k => if k = true then m ρ else mb ρ := id rfl
@[simp] theorem sSeq_eq : sSeq m mb ρ = (m ρ).bind mb := id rfl
@[simp] theorem sNil_eq : sNil ρ = .nx ρ := id rfl
@[simp] theorem Out.nx_bind {f : Rho → Out} : (Out.nx ρ).bind f = f ρ := id rfl
@[simp] theorem Out.bind_rt {f : Rho → Out} {d : D} : (Out.rt d).bind f = .rt d := id rfl
@[simp] theorem Out.bind_ex {f : Rho → Out} {e : Str} : (Out.ex e ρ).bind f = .ex e ρ := id rfl
@[simp] theorem Out.bind_stuck {f : Rho → Out} : (Out.stuck).bind f = .stuck := id rfl
@[simp] theorem Out.bind_ite {f : Rho → Out} {p : Prop} [Decidable p] {x y : Out} : (if p then x else y).bind f = if p then x.bind f else y.bind f := by split <;> rfl
@[simp] theorem sApp_eq {mp : Rho → Res (List D)} : sApp i mp a ρ = atS i (fun ρ => (mp ρ).out ρ fun p => (noX (a ρ)).out ρ fun v => mutO i ρ p (nApp v)) ρ := id rfl
@[simp] theorem sAppMv_eq {mp : Rho → Res (List D)} : sAppMv i mp j ρ = atS j (atS i fun ρ => (mp ρ).out ρ fun p => (mVar j ρ).out ρ fun v => mutO i (ρ.set j none) p (nApp v)) ρ := id rfl
@[simp] theorem sPut_eq {mp : Rho → Res (List D)} : sPut i mp a b ρ = atS i (fun ρ => (b ρ).out ρ fun v => (mp ρ).out ρ fun p => (noX (a ρ)).out ρ fun j => mutO i ρ p (nSet j v)) ρ := id rfl
@[simp] theorem sAug_eq {mp : Rho → Res (List D)} : sAug i g mp a b ρ = atS i (fun ρ => (mp ρ).out ρ fun p => (noX (a ρ)).out ρ fun j => (noX (b ρ)).out ρ fun v => mutO i ρ p fun c => (gIx c j).bind fun u => (g u v).bind fun z => nSet j z c) ρ := id rfl
@[simp] theorem sAugN_eq : sAugN i a ρ = atS i (fun ρ => (a ρ).out ρ fun v => (m2 gAddI (mVar i) (mC v) ρ).out ρ fun z => .nx (ρ.set i (some z))) ρ := id rfl
@[simp] theorem atS_eq {f : Rho → Out} : atS i f ρ = (match ρ[i]? with | some (some _) => f ρ | _ => .stuck) := id rfl
@[simp] theorem mutO_eq {p : List D} {f : D → Option D} : mutO i ρ p f = (match ρ[i]? with
  | some (some d) => (match updP d p f with
    | some d' => .nx (ρ.set i (some d'))
    | none => .stuck)
  | _ => .stuck) := id rfl
end
section
variable {i j : Int} {s t : Str} {l r : List D} {ns : List Int}
@[simp] theorem gAdd_int : gAdd (.int i) (.int j) = some (.int (i + j)) := id rfl
@[simp] theorem gAdd_lst (h : l.length + r.length ≤ sizeLine) : gAdd (.lst l) (.lst r) = some (.lst (l ++ r)) := by simp only [gAdd, if_pos h]
@[simp] theorem gAdd_tup (h : l.length + r.length ≤ sizeLine) : gAdd (.tup l) (.tup r) = some (.tup (l ++ r)) := by simp only [gAdd, if_pos h]
@[simp] theorem gSub_int : gSub (.int i) (.int j) = some (.int (i - j)) := id rfl
theorem log2_lt {n k : Nat} (h : n < 2 ^ k) (hk : 0 < k) : n.log2 < k := by
  by_cases e : n = 0
  · subst e; simpa using hk
  · exact (Nat.log2_lt e).mpr h
theorem gMul_int (hi : i.natAbs < 2 ^ 250) (hj : j.natAbs < 2 ^ 250) : gMul (.int i) (.int j) = some (.int (i * j)) := by
  have h1 := log2_lt hi (by decide)
  have h2 := log2_lt hj (by decide)
  show (if _ then _ else _) = _
  rw [if_pos (by omega)]
@[simp] theorem gMod_int (h : 0 < j) : gMod (.int i) (.int j) = some (.int (i % j)) := if_pos h
theorem gDiv_int (h : 0 < j) (h2 : j.natAbs.log2 < 9000) : gDiv (.int i) (.int j) = some (.int (i / j)) := if_pos ⟨h, h2⟩
@[simp] theorem gLt_int : gLt (.int i) (.int j) = some (.bl (decide (i < j))) := id rfl
@[simp] theorem gLe_int : gLe (.int i) (.int j) = some (.bl (decide (i ≤ j))) := id rfl
@[simp] theorem gGt_int : gGt (.int i) (.int j) = some (.bl (decide (j < i))) := id rfl
@[simp] theorem gGe_int : gGe (.int i) (.int j) = some (.bl (decide (j ≤ i))) := id rfl
@[simp] theorem gNot_bl {b : Bool} : gNot (.bl b) = some (.bl (!b)) := id rfl
@[simp] theorem gNeg_int : gNeg (.int i) = some (.int (-i)) := id rfl
@[simp] theorem gLst_eq (h : l.length ≤ sizeLine) : gLst l = some (.lst l) := if_pos h
@[simp] theorem gTup_eq (h : l.length ≤ sizeLine) : gTup l = some (.tup l) := if_pos h
@[simp] theorem gLen_lst : gLen [.lst l] = some (.int l.length) := id rfl
@[simp] theorem gLen_ftup : gLen [.ftup l] = some (.int l.length) := id rfl
@[simp] theorem gLen_tup : gLen [.tup l] = some (.int l.length) := id rfl
@[simp] theorem gLen_scr : gLen [.scr ns] = some (.int ns.length) := id rfl
@[simp] theorem gMax_2 : gMax [.int i, .int j] = some (.int (max i j)) := id rfl
@[simp] theorem gMin_2 : gMin [.int i, .int j] = some (.int (min i j)) := id rfl
@[simp] theorem gInt_int : gInt [.int i] = some (.int i) := id rfl
@[simp] theorem gInt_bl {b : Bool} : gInt [.bl b] = some (.int (if b then 1 else 0)) := id rfl
@[simp] theorem gAbs_int : gAbs [.int i] = some (.int (if i < 0 then -i else i)) := id rfl
@[simp] theorem gList_lst : gList [.lst l] = some (.lst l) := id rfl
@[simp] theorem gList_tup : gList [.tup l] = some (.lst l) := id rfl
@[simp] theorem gList_scr : gList [.scr ns] = some (.lst (ns.map .int)) := id rfl
@[simp] theorem gTuple_lst : gTuple [.lst l] = some (.tup l) := id rfl
@[simp] theorem gTuple_tup : gTuple [.tup l] = some (.tup l) := id rfl
@[simp] theorem gAddI_int : gAddI (.int i) (.int j) = some (.int (i + j)) := id rfl
@[simp] theorem nApp_lst {v : D} (h : l.length < sizeLine) : nApp v (.lst l) = some (.lst (l ++ [v])) := if_pos h
@[simp] theorem updP_nil {d : D} {f : D → Option D} : updP d [] f = f d := by
  unfold updP
  simp only [getP, setP, Option.bind_some]
  cases f d <;> simp
@[simp] theorem isi_int_int : gIsi "int" (.int i) = some (.bl true) := by show (kitB "int" "int").map D.bl = _; rw [show kitB "int" "int" = some true by decide +kernel]; rfl
@[simp] theorem isi_int_bool : gIsi "bool" (.int i) = some (.bl false) := by show (kitB "int" "bool").map D.bl = _; rw [show kitB "int" "bool" = some false by decide +kernel]; rfl
end

theorem b62 {n : Nat} (h : n < 1000000) : -(2 ^ 62 : Int) ≤ (n : Int) ∧ (n : Int) < 2 ^ 62 :=
  ⟨Int.le_trans (show -(2 ^ 62 : Int) ≤ 0 by decide) (Int.natCast_nonneg n), Int.lt_trans (show (n : Int) < 1000000 by omega) (show (1000000 : Int) < 2 ^ 62 by decide)⟩
theorem b24 {n : Nat} (h : n < 1000000) : n < sizeLine := Nat.lt_trans h (show 1000000 < 2 ^ 24 by decide)
theorem b24' {n : Nat} (h : n < 1000000) : n ≤ sizeLine := Nat.le_of_lt (b24 h)
def Pl : Nat → D → Prop
  | _, .non => True
  | _, .int _ => True
  | _, .str s => PySem.PyData.strOk s = true
  | 0, .lst _ => False
  | 0, .tup _ => False
  | n + 1, .lst l => ∀ x ∈ l, Pl n x
  | n + 1, .tup l => ∀ x ∈ l, Pl n x
  | _, .bl _ => False
  | _, .dK _ _ => False
  | _, .dT _ _ => False
  | _, .scr _ => False
  | _, .junk => False
  | _, .ins _ _ _ => False
  | _, .ftup _ => False
theorem pys_of {n : Nat} (ih : ∀ d, Pl n d → ∃ p, toPy d = some p ∧ p.canLay0 = true ∧ p.depth ≤ n) : ∀ l : List D, (∀ x ∈ l, Pl n x) → ∃ ps, toPys l = some ps ∧ PyData.canLayAll0 ps = true ∧ PyData.depthAll ps ≤ n
  | [], _ => ⟨[], rfl, rfl, Nat.zero_le _⟩
  | d :: ds, h => by
    obtain ⟨p, e, c, q⟩ := ih d (h d List.mem_cons_self)
    obtain ⟨ps, e', c', q'⟩ := pys_of ih ds fun x hx => h x (List.mem_cons_of_mem _ hx)
    exact ⟨p :: ps, by simp [toPys, e, e'], by simp [PyData.canLayAll0, c, c'], by simp [PyData.depthAll]; omega⟩
theorem py_of : ∀ (n : Nat) (d : D), Pl n d → ∃ p, toPy d = some p ∧ p.canLay0 = true ∧ p.depth ≤ n
  | n, .non, _ => ⟨.none, rfl, rfl, Nat.zero_le _⟩
  | n, .int i, _ => ⟨.int i, rfl, rfl, Nat.zero_le _⟩
  | n, .str s, h => ⟨.str s, rfl, by cases n <;> exact h, Nat.zero_le _⟩
  | 0, .lst _, h => h.elim
  | 0, .tup _, h => h.elim
  | n + 1, .lst l, h => by
    obtain ⟨ps, e, c, q⟩ := pys_of (py_of n) l h
    exact ⟨.list ps, by simp [toPy, e], c, by simp [PyData.depth]; omega⟩
  | n + 1, .tup l, h => by
    obtain ⟨ps, e, c, q⟩ := pys_of (py_of n) l h
    exact ⟨.tuple ps, by simp [toPy, e], c, by simp [PyData.depth]; omega⟩
  | n, .bl _, h => by cases n <;> exact h.elim
  | n, .dK _ _, h => by cases n <;> exact h.elim
  | n, .dT _ _, h => by cases n <;> exact h.elim
  | n, .scr _, h => by cases n <;> exact h.elim
  | n, .junk, h => by cases n <;> exact h.elim
  | n, .ins _ _ _, h => by cases n <;> exact h.elim
  | n, .ftup _, h => by cases n <;> exact h.elim
theorem eqvs_iff {n : Nat} (ih : ∀ d e, Pl n d → Pl n e → ∀ p q, toPy d = some p → toPy e = some q → (PyData.eqv p q = true ↔ d = e)) : ∀ l r : List D, (∀ x ∈ l, Pl n x) → (∀ x ∈ r, Pl n x) → ∀ p q, toPys l = some p → toPys r = some q → (PyData.eqvAll p q = true ↔ l = r)
  | [], [], _, _, p, q, hp, hq => by cases hp; cases hq; simp [PyData.eqvAll]
  | [], d :: ds, _, h, p, q, hp, hq => by
    obtain ⟨y, e, c, _⟩ := py_of n d (h d List.mem_cons_self)
    obtain ⟨ys, e', c', _⟩ := pys_of (py_of n) ds fun x hx => h x (List.mem_cons_of_mem _ hx)
    cases hp
    simp [toPys, e, e'] at hq
    subst hq
    simp [PyData.eqvAll]
  | d :: ds, [], h, _, p, q, hp, hq => by
    obtain ⟨y, e, c, _⟩ := py_of n d (h d List.mem_cons_self)
    obtain ⟨ys, e', c', _⟩ := pys_of (py_of n) ds fun x hx => h x (List.mem_cons_of_mem _ hx)
    cases hq
    simp [toPys, e, e'] at hp
    subst hp
    simp [PyData.eqvAll]
  | d :: ds, e :: es, h, g, p, q, hp, hq => by
    obtain ⟨y, e1, _, _⟩ := py_of n d (h d List.mem_cons_self)
    obtain ⟨ys, e2, _, _⟩ := pys_of (py_of n) ds fun x hx => h x (List.mem_cons_of_mem _ hx)
    obtain ⟨z, e3, _, _⟩ := py_of n e (g e List.mem_cons_self)
    obtain ⟨zs, e4, _, _⟩ := pys_of (py_of n) es fun x hx => g x (List.mem_cons_of_mem _ hx)
    simp [toPys, e1, e2] at hp
    simp [toPys, e3, e4] at hq
    subst hp hq
    simp only [PyData.eqvAll, Bool.and_eq_true, List.cons.injEq]
    rw [ih d e (h d List.mem_cons_self) (g e List.mem_cons_self) y z e1 e3, eqvs_iff ih ds es (fun x hx => h x (List.mem_cons_of_mem _ hx)) (fun x hx => g x (List.mem_cons_of_mem _ hx)) ys zs e2 e4]
theorem pys_inv {l : List D} {p : PyData} (h : toPy (.lst l) = some p) : ∃ ps, toPys l = some ps ∧ p = .list ps := by
  simp only [toPy, Option.map_eq_some_iff] at h
  obtain ⟨ps, e, rfl⟩ := h
  exact ⟨ps, e, rfl⟩
theorem pyt_inv {l : List D} {p : PyData} (h : toPy (.tup l) = some p) : ∃ ps, toPys l = some ps ∧ p = .tuple ps := by
  simp only [toPy, Option.map_eq_some_iff] at h
  obtain ⟨ps, e, rfl⟩ := h
  exact ⟨ps, e, rfl⟩
theorem pl_no {n : Nat} {d : D} (h : Pl n d) : (∃ i, d = .int i) ∨ d = .non ∨ (∃ s, d = .str s) ∨ (∃ m l, n = m + 1 ∧ d = .lst l ∧ ∀ x ∈ l, Pl m x) ∨ ∃ m l, n = m + 1 ∧ d = .tup l ∧ ∀ x ∈ l, Pl m x := by
  cases d with
  | int i => exact .inl ⟨i, rfl⟩
  | non => exact .inr (.inl rfl)
  | str s => exact .inr (.inr (.inl ⟨s, rfl⟩))
  | lst l => cases n with
    | zero => exact h.elim
    | succ m => exact .inr (.inr (.inr (.inl ⟨m, l, rfl, rfl, h⟩)))
  | tup l => cases n with
    | zero => exact h.elim
    | succ m => exact .inr (.inr (.inr (.inr ⟨m, l, rfl, rfl, h⟩)))
  | bl _ => cases n <;> exact h.elim
  | dK _ _ => cases n <;> exact h.elim
  | dT _ _ => cases n <;> exact h.elim
  | scr _ => cases n <;> exact h.elim
  | junk => cases n <;> exact h.elim
  | ins _ _ _ => cases n <;> exact h.elim
  | ftup _ => cases n <;> exact h.elim
theorem eqv_iff : ∀ (n : Nat) (d e : D), Pl n d → Pl n e → ∀ p q, toPy d = some p → toPy e = some q → (PyData.eqv p q = true ↔ d = e) := by
  intro n
  induction n with
  | zero =>
    intro d e hd he p q hp hq
    rcases pl_no hd with ⟨i, rfl⟩ | rfl | ⟨s, rfl⟩ | ⟨m, l, h, _⟩ | ⟨m, l, h, _⟩
    all_goals first | (exact absurd h (by omega)) | skip
    all_goals rcases pl_no he with ⟨j, rfl⟩ | rfl | ⟨t, rfl⟩ | ⟨m, r, h, _⟩ | ⟨m, r, h, _⟩
    all_goals first | (exact absurd h (by omega)) | skip
    all_goals (cases hp; cases hq; simp [PyData.eqv])
  | succ n ih =>
    intro d e hd he p q hp hq
    rcases pl_no hd with ⟨i, rfl⟩ | rfl | ⟨s, rfl⟩ | ⟨m, l, h, rfl, hl⟩ | ⟨m, l, h, rfl, hl⟩
    all_goals rcases pl_no he with ⟨j, rfl⟩ | rfl | ⟨t, rfl⟩ | ⟨m', r, h', rfl, hr⟩ | ⟨m', r, h', rfl, hr⟩
    all_goals first | (cases h; cases h') | cases h | cases h' | skip
    all_goals first | (obtain ⟨ps, e1, rfl⟩ := pys_inv hp) | (obtain ⟨ps, e1, rfl⟩ := pyt_inv hp) | cases hp
    all_goals first | (obtain ⟨qs, e2, rfl⟩ := pys_inv hq) | (obtain ⟨qs, e2, rfl⟩ := pyt_inv hq) | cases hq
    all_goals first | (simp [PyData.eqv]; done) | (simp only [PyData.eqv, D.lst.injEq]; exact eqvs_iff ih l r hl hr ps qs e1 e2) | (simp only [PyData.eqv, D.tup.injEq]; exact eqvs_iff ih l r hl hr ps qs e1 e2)
theorem gEq_pl {n : Nat} {d e : D} (hd : Pl n d) (he : Pl n e) (hn : n ≤ 64 := by decide) : ∃ b, gEq d e = some (.bl b) ∧ gNe d e = some (.bl !b) ∧ (b = true ↔ d = e) := by
  obtain ⟨p, e1, c1, q1⟩ := py_of n d hd
  obtain ⟨q, e2, c2, q2⟩ := py_of n e he
  refine ⟨PyData.eqv p q, ?_, ?_, eqv_iff n d e hd he p q e1 e2⟩
  · simp [gEq, e1, e2, SeqAt.shaped, c1, c2, show p.depth ≤ 64 by omega, show q.depth ≤ 64 by omega]
  · simp [gNe, e1, e2, SeqAt.shaped, c1, c2, show p.depth ≤ 64 by omega, show q.depth ≤ 64 by omega]
@[simp] theorem gEq_int {i j : Int} : gEq (.int i) (.int j) = some (.bl (decide (i = j))) := by
  obtain ⟨b, g, _, q⟩ := gEq_pl (n := 0) (d := .int i) (e := .int j) trivial trivial
  rw [g]; congr 2
  exact Bool.eq_iff_iff.mpr (q.trans (by simp))
@[simp] theorem gNe_int {i j : Int} : gNe (.int i) (.int j) = some (.bl (!decide (i = j))) := by
  obtain ⟨b, _, g, q⟩ := gEq_pl (n := 0) (d := .int i) (e := .int j) trivial trivial
  rw [g]; congr 3
  exact Bool.eq_iff_iff.mpr (q.trans (by simp))
theorem isi_list_list {l : List D} : gIsi "list" (.lst l) = some (.bl true) := by show (kitB "list" "list").map D.bl = _; rw [show kitB "list" "list" = some true by decide +kernel]; rfl
theorem callM_eq {N : Nat} {b : Rho → Out} {ds : List D} : callM N b ds = (match b (ds.map some ++ List.replicate (N - ds.length) none) with
  | .rt d => .ok d
  | .nx _ => .ok .non
  | .ex c _ => .exn c
  | .stuck => .stuck) := id rfl
theorem call_rt {N : Nat} {b : Rho → Out} {ds : List D} {d : D} (h : b (ds.map some ++ List.replicate (N - ds.length) none) = .rt d) : callM N b ds = .ok d := by rw [callM_eq, h]
theorem iR1_ok {ρ : Rho} {mi : Rho → Res D} {n : Nat} (hm : mi ρ = .ok (.int n)) (hn : n < 1000000) : iR1 mi ρ = .ok ((List.range n).map fun k : Nat => .int k) := by
  unfold iR1
  rw [hm, Res.bind_ok]
  show (if _ then _ else _) = _
  rw [if_pos (b62 hn), Int.toNat_natCast]
section
variable {f : D → Rho → Option Rho} {b : Rho → Out} {j : Nat} {ρ : Rho} {mi : Rho → Res D}
theorem forL_ix (I : Nat → Rho → Prop) (Q : D → Prop) : ∀ (ds : List D) (k : Nat) (ρ : Rho), I k ρ →
    (∀ i d ρ, ds[i]? = some d → I (k + i) ρ → ∃ ρ1, f d ρ = some ρ1 ∧ ((∃ ρ2, b ρ1 = .nx ρ2 ∧ I (k + i + 1) ρ2) ∨ ∃ d, b ρ1 = .rt d ∧ Q d)) →
    (∃ ρ', forL f b ds ρ = .nx ρ' ∧ I (k + ds.length) ρ') ∨ ∃ d, forL f b ds ρ = .rt d ∧ Q d
  | [], k, ρ, h, _ => .inl ⟨ρ, rfl, h⟩
  | d :: ds, k, ρ, h, st => by
    obtain ⟨ρ1, e1, h1⟩ := st 0 d ρ rfl h
    rcases h1 with ⟨ρ2, e2, h2⟩ | ⟨r, e2, h2⟩
    · have := forL_ix I Q ds (k + 1) ρ2 h2 fun i d ρ e hI => by
        have := st (i + 1) d ρ e (by rw [show k + (i + 1) = k + 1 + i by omega]; exact hI)
        rw [show k + (i + 1) + 1 = k + 1 + i + 1 by omega] at this
        exact this
      simp only [forL, e1, e2, Out.nx_bind, List.length_cons]
      rw [show k + (ds.length + 1) = k + 1 + ds.length by omega]
      exact this
    · exact .inr ⟨r, by simp only [forL, e1, e2, Out.bind_rt], h2⟩
theorem for_rX (I : Nat → Rho → Prop) (Q : D → Prop) (n : Nat) (hm : mi ρ = .ok (.int n)) (hn : n < 1000000) (h0 : I 0 ρ)
    (st : ∀ i ρ, i < n → I i ρ → (∃ ρ2, b (ρ.set j (some (.int i))) = .nx ρ2 ∧ I (i + 1) ρ2) ∨ ∃ d, b (ρ.set j (some (.int i))) = .rt d ∧ Q d) :
    (∃ ρ', sFor (tgN j) (iR1 mi) b ρ = .nx ρ' ∧ I n ρ') ∨ ∃ d, sFor (tgN j) (iR1 mi) b ρ = .rt d ∧ Q d := by
  have e : sFor (tgN j) (iR1 mi) b ρ = forL (tgN j) b ((List.range n).map fun k : Nat => .int k) ρ := by
    unfold sFor
    rw [iR1_ok hm hn, Res.out_ok]
  rw [e]
  have := forL_ix (f := tgN j) (b := b) I Q ((List.range n).map fun k : Nat => .int k) 0 ρ h0 fun i d ρ e hI => by
    rw [List.getElem?_map] at e
    by_cases hi : i < n
    · rw [List.getElem?_range hi] at e
      cases e
      refine ⟨_, rfl, ?_⟩
      have := st i ρ hi (by simpa using hI)
      simpa using this
    · rw [List.getElem?_eq_none (by simpa using hi)] at e
      cases e
  simpa using this
theorem for_r (I : Nat → Rho → Prop) (n : Nat) (hm : mi ρ = .ok (.int n)) (hn : n < 1000000) (h0 : I 0 ρ)
    (st : ∀ i ρ, i < n → I i ρ → ∃ ρ2, b (ρ.set j (some (.int i))) = .nx ρ2 ∧ I (i + 1) ρ2) :
    ∃ ρ', sFor (tgN j) (iR1 mi) b ρ = .nx ρ' ∧ I n ρ' := by
  rcases for_rX I (fun _ => False) n hm hn h0 fun i ρ hi h => .inl (st i ρ hi h) with h | ⟨_, _, h⟩
  · exact h
  · exact h.elim
theorem for_lX {m : Rho → Res (List D)} (I : Nat → Rho → Prop) (Q : D → Prop) (ds : List D) (hm : m ρ = .ok ds) (h0 : I 0 ρ)
    (st : ∀ i d ρ, ds[i]? = some d → I i ρ → ∃ ρ1, f d ρ = some ρ1 ∧ ((∃ ρ2, b ρ1 = .nx ρ2 ∧ I (i + 1) ρ2) ∨ ∃ d, b ρ1 = .rt d ∧ Q d)) :
    (∃ ρ', sFor f m b ρ = .nx ρ' ∧ I ds.length ρ') ∨ ∃ d, sFor f m b ρ = .rt d ∧ Q d := by
  have e : sFor f m b ρ = forL f b ds ρ := by
    unfold sFor
    rw [hm]; rfl
  rw [e]
  have := forL_ix (f := f) (b := b) I Q ds 0 ρ h0 fun i d ρ e hI => by
    have := st i d ρ e (by simpa using hI)
    simpa using this
  simpa using this
theorem for_l {m : Rho → Res (List D)} (I : Nat → Rho → Prop) (ds : List D) (hm : m ρ = .ok ds) (h0 : I 0 ρ)
    (st : ∀ i d ρ, ds[i]? = some d → I i ρ → ∃ ρ1 ρ2, f d ρ = some ρ1 ∧ b ρ1 = .nx ρ2 ∧ I (i + 1) ρ2) :
    ∃ ρ', sFor f m b ρ = .nx ρ' ∧ I ds.length ρ' := by
  rcases for_lX I (fun _ => False) ds hm h0 fun i d ρ e h => (let ⟨ρ1, ρ2, e1, e2, h⟩ := st i d ρ e h; ⟨ρ1, e1, .inl ⟨ρ2, e2, h⟩⟩) with h | ⟨_, _, h⟩
  · exact h
  · exact h.elim
variable {vs : List Nat} {me : Rho → Res D} {tt : Rho → Res Bool}
theorem compL_map {F : D → Res (Option D)} {g : D → Option D} : ∀ (ds : List D), (∀ d ∈ ds, F d = .ok (g d)) → compL F ds = .ok (ds.filterMap g)
  | [], _ => rfl
  | d :: ds, h => by
    simp only [compL, h d List.mem_cons_self, noX_ok, Res.bind_ok, compL_map ds fun x hx => h x (List.mem_cons_of_mem _ hx), List.filterMap_cons]
    cases g d <;> rfl
theorem lc_gen {it : Rho → Res (List D)} (ds : List D) (g : D → Option D) (hm : it ρ = .ok ds) (hn : ds.length < sizeLine)
    (h : ∀ d ∈ ds, ∃ ρ', f d (wipeR ρ vs) = some ρ' ∧ ((tt ρ' = .ok false ∧ g d = none) ∨ ∃ v, tt ρ' = .ok true ∧ me ρ' = .ok v ∧ g d = some v)) : mLc vs f it tt me ρ = .ok (.lst (ds.filterMap g)) := by
  unfold mLc
  rw [hm, Res.bind_ok, if_pos hn, compL_map (g := g) ds, Res.bind_ok]
  intro d hd
  obtain ⟨ρ', e, q⟩ := h d hd
  rw [e]
  rcases q with ⟨q, r⟩ | ⟨v, q, q2, r⟩
  · simp [q, r]
  · simp [q, q2, r]
theorem lc_l {it : Rho → Res (List D)} (ds : List D) (g : D → D) (hm : it ρ = .ok ds) (hn : ds.length < sizeLine)
    (h : ∀ d ∈ ds, ∃ ρ', f d (wipeR ρ vs) = some ρ' ∧ me ρ' = .ok (g d)) : mLc vs f it tYesM me ρ = .ok (.lst (ds.map g)) := by
  rw [lc_gen (tt := tYesM) ds (fun d => some (g d)) hm hn fun d hd => (let ⟨ρ', e, q⟩ := h d hd; ⟨ρ', e, .inr ⟨_, rfl, q, rfl⟩⟩)]
  rw [List.filterMap_eq_map']
theorem lc_r (n : Nat) (g : Nat → D) (hm : mi ρ = .ok (.int n)) (hn : n < 1000000)
    (h : ∀ k, k < n → me ((wipeR ρ vs).set j (some (.int k))) = .ok (g k)) : mLc vs (tgN j) (iR1 mi) tYesM me ρ = .ok (.lst ((List.range n).map g)) := by
  have e := iR1_ok hm hn
  rw [lc_gen (tt := tYesM) _ (fun d => match d with | .int k => some (g k.toNat) | _ => none) e (by rw [List.length_map, List.length_range]; exact b24 hn)]
  · congr 2
    rw [List.filterMap_map]
    rw [← List.filterMap_eq_map']
    rfl
  · intro d hd
    obtain ⟨k, hk, rfl⟩ := List.mem_map.mp hd
    exact ⟨_, rfl, .inr ⟨g k, rfl, h k (List.mem_range.mp hk), by simp⟩⟩
end

theorem ixN_of {n k : Nat} (h : k < n) : ixN n (k : Int) = some k := by
  unfold ixN
  rw [if_pos (by omega), if_pos (by omega)]
  rfl
theorem atI_nat {α : Type} {l : List α} {k : Nat} (h : k < l.length) : atI l (k : Int) = l[k]? := by
  unfold atI
  rw [ixN_of h]; rfl
end TW
-- TWGrid
namespace TW
open PySem PySem.Spec PyProof.Rows L2
def cel (ns : List Int) (k : Nat) : Int := ns.getD k 0
theorem cell_ok (ns : List Int) (k : Nat) : m__law_cell [.scr ns, .int k] = .ok (.int (cel ns k)) := by
  rw [m__law_cell]
  refine call_rt ?_
  rw [b__law_cell]
  simp
  by_cases h : k < ns.length
  · have e : gIx (.scr ns) (.int k) = some (.int ns[k]) := by
      show (atI ns _).map D.int = _
      rw [atI_nat h, List.getElem?_eq_getElem h]; rfl
    simp [h, e, cel]
  · simp [h, cel]
theorem cell_at (ns : List Int) {i : Int} (k : Nat) (h : i = k) : m__law_cell [.scr ns, .int i] = .ok (.int (cel ns k)) := by rw [h]; exact cell_ok ns k
def num (c top : Int) : Int :=
  if c % 4 = 0 then c / 4 % 19 - 9 else if c % 4 = 1 then c / 4 % 3 - 1 else if c % 4 = 2 then c / 4 % (2 * 10 ^ 18) - 10 ^ 18 else c / 4 % (2 * top + 1) - top
theorem gPow_10 {k : Nat} (h : k ≤ 1000000) : gPow (.int 10) (.int k) = some (.int (10 ^ k)) := by
  show (if _ then _ else _) = _
  rw [if_pos ⟨by omega, by omega, by decide⟩]
  rfl
theorem num_ok (c top : Int) (h : 0 ≤ top) (h2 : top < 10 ^ 70) : m__law_number [.int c, .int top] = .ok (.int (num c top)) := by
  rw [m__law_number]
  refine call_rt ?_
  rw [b__law_number]
  have e4 : ∀ c, gDiv (.int c) (.int 4) = some (.int (c / 4)) := fun c => gDiv_int (by decide) (by decide)
  have e5 : gMul (.int 2) (.int (10 ^ 18)) = some (.int (2 * 10 ^ 18)) := gMul_int (by decide) (by decide)
  have e6 : gMul (.int 2) (.int top) = some (.int (2 * top)) := gMul_int (by decide) (by
    have : (10 : Int) ^ 70 < 2 ^ 250 := by decide
    have h3 : top.toNat < 2 ^ 250 := by
      have : (top.toNat : Int) < ((2 ^ 250 : Nat) : Int) := by
        rw [Int.toNat_of_nonneg h]
        exact Int.lt_trans h2 (by decide)
      exact Int.ofNat_lt.mp this
    rw [← Int.toNat_of_nonneg h]
    exact h3)
  have e7 : gPow (.int 10) (.int 18) = some (.int (10 ^ 18)) := gPow_10 (k := 18) (by decide)
  have e8 : gMod (.int (c / 4)) (.int (2 * 10 ^ 18)) = some (.int (c / 4 % (2 * 10 ^ 18))) := gMod_int (by decide)
  have e9 : gMod (.int (c / 4)) (.int (2 * top + 1)) = some (.int (c / 4 % (2 * top + 1))) := gMod_int (by omega)
  simp only [List.map_cons, List.map_nil, List.length_cons, List.length_nil, List.cons_append, List.nil_append, List.replicate, Nat.sub_self, Nat.zero_add, Nat.reduceAdd, List.append_nil, sSeq_eq, sIf_eq, mT_eq, m2_eq, mVar_eq, mC_eq, List.getElem?_cons_zero, List.getElem?_cons_succ, Res.bind_ok, sNil_eq, sRet_eq, gMod_int (show (0:Int) < 4 by decide), gMod_int (show (0:Int) < 19 by decide), gMod_int (show (0:Int) < 3 by decide), e4, e5, e6, e7, e8, e9, ofO_some, gEq_int, ofB_eq, Res.out_ok, gSub_int, gAdd_int, Out.bind_rt, Out.nx_bind]
  unfold num
  by_cases h0 : c % 4 = 0
  · simp [h0]
  · by_cases h1 : c % 4 = 1
    · simp [-Int.reducePow, h1, e4]
    · by_cases h2 : c % 4 = 2
      · simp [-Int.reducePow, h2, e4, e5, e7, e8]
      · simp [-Int.reducePow, h0, h1, h2, e4, e6, e9]
theorem num_le (c top : Int) (h : 10 ^ 18 ≤ top) : -top ≤ num c top ∧ num c top ≤ top := by
  have e : (10 : Int) ^ 18 = 1000000000000000000 := by decide
  unfold num
  rw [e] at h ⊢
  split
  · omega
  · split
    · omega
    · split
      · omega
      · have := Int.emod_lt_of_pos (c / 4) (show 0 < 2 * top + 1 by omega)
        have := Int.emod_nonneg (c / 4) (show 2 * top + 1 ≠ 0 by omega)
        omega

end TW

namespace TW
open PySem PySem.Spec PyProof.Rows L2
def T60 : Int := 10 ^ 60
theorem pow60 : gPow (.int 10) (.int 60) = some (.int T60) := gPow_10 (k := 60) (by decide)
def up (G : Nat → Nat → Int) (a b : Nat) (x : Int) (t s : Nat) : Int := if t = a ∧ s = b then G t s + x else G t s
end TW
-- TWAlong
namespace TW
open PySem PySem.Spec PyProof.Rows L2
theorem seq_set {i : Nat} {m : Rho → Res D} {b : Rho → Out} {ρ : Rho} {d : D} (h : m ρ = .ok d) : sSeq (sSet i m) b ρ = b (ρ.set i (some d)) := by
  rw [sSeq_eq, sSet_eq, h, Res.out_ok, Out.nx_bind]
theorem for_lN {m : Rho → Res (List D)} {b : Rho → Out} {j : Nat} {ρ : Rho} (I : Nat → Rho → Prop) (ds : List D) (hm : m ρ = .ok ds) (h0 : I 0 ρ)
    (st : ∀ i d ρ, ds[i]? = some d → I i ρ → ∃ ρ2, b (ρ.set j (some d)) = .nx ρ2 ∧ I (i + 1) ρ2) : ∃ ρ', sFor (tgN j) m b ρ = .nx ρ' ∧ I ds.length ρ' :=
  for_l (f := tgN j) I ds hm h0 fun i d ρ e hI => let ⟨ρ2, e2, h2⟩ := st i d ρ e hI; ⟨_, ρ2, rfl, e2, h2⟩
end TW
-- TWGain
namespace TW
open PySem PySem.Spec PyProof.Rows L2
def trip (M : Nat → Nat → Int) (t s : Nat) : D := .tup [.int t, .int s, .int (M t s)]
def IsFirst (M : Nat → Nat → Int) (n : Nat) (d : D) : Prop :=
  (d = .non ∧ ∀ t s, t < n → s < n → M t s ≤ 0) ∨ ∃ t s, t < n ∧ s < n ∧ d = trip M t s ∧ 0 < M t s ∧ (∀ t' s', t' < t → s' < n → M t' s' ≤ 0) ∧ ∀ s', s' < s → M t s' ≤ 0
theorem IsFirst.pl {M : Nat → Nat → Int} {n : Nat} {d : D} (h : IsFirst M n d) : Pl 1 d := by
  rcases h with ⟨rfl, _⟩ | ⟨t, s, _, _, rfl, _⟩
  · trivial
  · intro x hx
    simp at hx
    rcases hx with rfl | rfl | rfl <;> trivial
theorem tup3 (a b c : D) : gTup [a, b, c] = some (.tup [a, b, c]) := gTup_eq (show 3 ≤ sizeLine by decide)
theorem IsFirst.still {M : Nat → Nat → Int} {n : Nat} {d : D} (h : IsFirst M n d) : d.still = true := by
  rcases h with ⟨rfl, _⟩ | ⟨t, s, _, _, rfl, _⟩ <;> rfl
theorem isi_tup {l : List D} : gIsi "tuple" (.tup l) = some (.bl true) := by show (kitB "tuple" "tuple").map D.bl = _; rw [show kitB "tuple" "tuple" = some true by decide +kernel]; rfl
end TW
-- TWHon
namespace TW
open PySem PySem.Spec PyProof.Rows L2
def Hon (n : Nat) (G : Nat → Nat → Int) (P : Nat → Int) : Prop := ∀ t s, t < n → s < n → G t s - G t t ≤ P s - P t
end TW
-- TWWalk
namespace TW
def wt (T : Nat → Nat → Int) : List Nat → Int
  | a :: b :: l => T a b + wt T (b :: l)
  | _ => 0
def cw (T : Nat → Nat → Int) (l : List Nat) : Int := wt T l + T (l.getLastD 0) (l.headD 0)
section
variable {T : Nat → Nat → Int}
theorem wt_cons {a b : Nat} {l : List Nat} : wt T (a :: b :: l) = T a b + wt T (b :: l) := rfl
theorem wt_app : ∀ (p : List Nat) (x : Nat) (q : List Nat), wt T (p ++ x :: q) = wt T (p ++ [x]) + wt T (x :: q)
  | [], x, q => by simp [wt]
  | [a], x, q => by simp [wt]
  | a :: b :: p, x, q => by
    have := wt_app (b :: p) x q
    simp only [List.cons_append] at this ⊢
    rw [wt_cons, wt_cons, this]
    omega
theorem wt_snoc (p : List Nat) (x y : Nat) : wt T (p ++ [x, y]) = wt T (p ++ [x]) + T x y := by
  rw [wt_app p x [y]]
  simp [wt]
theorem wt_snoc' {l : List Nat} (h : l ≠ []) (y : Nat) : wt T (l ++ [y]) = wt T l + T (l.getLastD 0) y := by
  obtain ⟨p, x, rfl⟩ : ∃ p x, l = p ++ [x] := ⟨l.dropLast, l.getLast h, (List.dropLast_concat_getLast h).symm⟩
  rw [List.append_assoc]
  rw [show [x] ++ [y] = [x, y] from rfl, wt_snoc]
  simp
theorem cw_eq {l : List Nat} (h : l ≠ []) : cw T l = wt T (l ++ [l.headD 0]) := (wt_snoc' h _).symm
theorem cw_split (p : List Nat) (x : Nat) (q r : List Nat) : cw T (p ++ x :: (q ++ x :: r)) = cw T (x :: q) + cw T (p ++ x :: r) := by
  have n1 : p ++ x :: (q ++ x :: r) ≠ [] := by simp
  have n2 : x :: q ≠ [] := by simp
  have n3 : p ++ x :: r ≠ [] := by simp
  rw [cw_eq n1, cw_eq n2, cw_eq n3]
  have h1 : (p ++ x :: (q ++ x :: r)).headD 0 = (p ++ x :: r).headD 0 := by cases p <;> rfl
  rw [h1]
  generalize (p ++ x :: r).headD 0 = y
  have e1 : p ++ x :: (q ++ x :: r) ++ [y] = p ++ x :: (q ++ x :: (r ++ [y])) := by simp
  have e2 : p ++ x :: r ++ [y] = p ++ x :: (r ++ [y]) := by simp
  rw [e1, e2, wt_app p x (q ++ x :: (r ++ [y])), wt_app p x (r ++ [y])]
  have e3 : x :: (q ++ x :: (r ++ [y])) = (x :: q) ++ x :: (r ++ [y]) := by simp
  rw [e3, wt_app (x :: q) x (r ++ [y])]
  simp
  omega
theorem dup_split : ∀ {l : List Nat}, ¬ l.Nodup → ∃ p x q r, l = p ++ x :: (q ++ x :: r)
  | [], h => absurd List.nodup_nil h
  | a :: l, h => by
    by_cases ha : a ∈ l
    · obtain ⟨q, r, rfl⟩ := List.append_of_mem ha
      exact ⟨[], a, q, r, rfl⟩
    · have : ¬ l.Nodup := fun hl => h (List.nodup_cons.mpr ⟨ha, hl⟩)
      obtain ⟨p, x, q, r, rfl⟩ := dup_split this
      exact ⟨a :: p, x, q, r, rfl⟩
def NoNeg (T : Nat → Nat → Int) (n m : Nat) : Prop := ∀ l : List Nat, l ≠ [] → (∀ x ∈ l, x < n) → l.length ≤ m → 0 ≤ cw T l
theorem nodup_le : ∀ {n : Nat} {l : List Nat}, l.Nodup → (∀ x ∈ l, x < n) → l.length ≤ n
  | 0, l, _, hl => by
    cases l with
    | nil => exact Nat.le_refl _
    | cons a l => exact absurd (hl a (by simp)) (Nat.not_lt_zero _)
  | n + 1, l, h, hl => by
    by_cases hn : n ∈ l
    · have := nodup_le (n := n) (h.erase n) fun x hx => by
        have h1 := hl x (List.mem_of_mem_erase hx)
        have h2 : x ≠ n := fun e => by
          subst e
          exact (List.Nodup.not_mem_erase h) hx
        omega
      rw [List.length_erase_of_mem hn] at this
      omega
    · have := nodup_le (n := n) h fun x hx => by
        have h1 := hl x hx
        have h2 : x ≠ n := fun e => hn (e ▸ hx)
        omega
      omega
theorem NoNeg.nodup {n m : Nat} (h : NoNeg T n m) {l : List Nat} (hl : ∀ x ∈ l, x < n) (hm : l.length ≤ m + 1) (hc : cw T l < 0) : l.Nodup := by
  refine Classical.byContradiction fun hd => ?_
  obtain ⟨p, x, q, r, rfl⟩ := dup_split hd
  rw [cw_split] at hc
  simp at hm hl
  have h1 := h (x :: q) (by simp) (fun y hy => by
    rcases List.mem_cons.mp hy with rfl | hy
    · exact hl y (by simp)
    · exact hl y (by simp [hy])) (by simp; omega)
  have h2 := h (p ++ x :: r) (by simp) (fun y hy => by
    rcases List.mem_append.mp hy with hy | hy
    · exact hl y (by simp [hy])
    · rcases List.mem_cons.mp hy with rfl | hy
      · exact hl y (by simp)
      · exact hl y (by simp [hy])) (by simp; omega)
  omega
theorem NoNeg.all {n : Nat} (h : NoNeg T n n) : ∀ m, NoNeg T n m
  | 0 => fun l hl _ hm => by
    cases l with
    | nil => exact absurd rfl hl
    | cons a l => simp at hm
  | m + 1 => fun l hl hx hm => by
    have ih := NoNeg.all h m
    refine Classical.byContradiction fun hc => ?_
    have nd := ih.nodup hx hm (by omega)
    have := h l hl hx (nodup_le nd hx)
    omega
theorem wt_pot {P : Nat → Int} {n : Nat} (h : ∀ s t, s < n → t < n → P t - P s ≤ T s t) : ∀ (l : List Nat), l ≠ [] → (∀ x ∈ l, x < n) → P (l.getLastD 0) - P (l.headD 0) ≤ wt T l
  | [a], _, _ => by simp [wt]
  | a :: b :: l, _, hl => by
    have := wt_pot h (b :: l) (by simp) fun x hx => hl x (List.mem_cons_of_mem _ hx)
    have h1 := h a b (hl a (by simp)) (hl b (by simp))
    rw [wt_cons]
    simp only [List.headD_cons] at this ⊢
    have : (a :: b :: l).getLastD 0 = (b :: l).getLastD 0 := rfl
    rw [this]
    omega
structure Good (T : Nat → Nat → Int) (n k : Nat) (S : Nat → Nat → Int) (W : Nat → Nat → List Nat) : Prop where
  ne : ∀ a b, a < n → b < n → W a b ≠ []
  hd : ∀ a b, a < n → b < n → (W a b).headD 0 = a
  la : ∀ a b, a < n → b < n → (W a b).getLastD 0 = b
  lt : ∀ a b, a < n → b < n → ∀ x ∈ W a b, x < n
  ln : ∀ a b, a < n → b < n → (W a b).length ≤ k
  eq : ∀ a b, a < n → b < n → wt T (W a b) = S a b
  le : ∀ l : List Nat, l ≠ [] → (∀ x ∈ l, x < n) → l.length ≤ k → S (l.headD 0) (l.getLastD 0) ≤ wt T l
theorem Good.start {n : Nat} (h0 : ∀ a, T a a = 0) : Good T n 2 T (fun a b => if a = b then [a] else [a, b]) where
  ne := fun a b _ _ => by split <;> simp
  hd := fun a b _ _ => by split <;> simp
  la := fun a b _ _ => by
    split
    · simp; assumption
    · simp
  lt := fun a b ha hb x hx => by
    split at hx
    · simp at hx; omega
    · simp at hx; omega
  ln := fun a b _ _ => by split <;> simp
  eq := fun a b _ _ => by
    split
    · rename_i h; subst h; rw [h0]; rfl
    · simp [wt]
  le := fun l hl hx hk => by
    match l, hl, hk with
    | [a], _, _ => simp [wt, h0]
    | [a, b], _, _ => simp [wt]
theorem Good.step {n k : Nat} {S : Nat → Nat → Int} {W : Nat → Nat → List Nat} (g : Good T n k S W) (hk : 1 ≤ k) (h0 : ∀ a, T a a = 0) (L : Nat → Nat → Nat) (hL : ∀ a b, a < n → b < n → L a b < n)
    (hm : ∀ a b c, a < n → b < n → c < n → S a (L a b) + T (L a b) b ≤ S a c + T c b) :
    Good T n (k + 1) (fun a b => S a (L a b) + T (L a b) b) (fun a b => W a (L a b) ++ (if L a b = b then [] else [b])) where
  ne := fun a b ha hb => by
    have := g.ne a (L a b) ha (hL a b ha hb)
    simp [this]
  hd := fun a b ha hb => by
    have h1 := g.ne a (L a b) ha (hL a b ha hb)
    have h2 := g.hd a (L a b) ha (hL a b ha hb)
    cases e : W a (L a b) with
    | nil => exact absurd e h1
    | cons x l => rw [e] at h2; simpa [e] using h2
  la := fun a b ha hb => by
    split
    · rename_i h
      rw [List.append_nil, g.la a _ ha (hL a b ha hb), h]
    · rw [List.getLastD_eq_getLast?, List.getLast?_append]; simp
  lt := fun a b ha hb x hx => by
    rcases List.mem_append.mp hx with hx | hx
    · exact g.lt a _ ha (hL a b ha hb) x hx
    · split at hx
      · simp at hx
      · simp at hx; omega
  ln := fun a b ha hb => by
    have := g.ln a _ ha (hL a b ha hb)
    rw [List.length_append]
    split
    · simp; omega
    · simp; omega
  eq := fun a b ha hb => by
    have h1 := g.eq a _ ha (hL a b ha hb)
    split
    · rename_i h
      rw [List.append_nil, h1, h, h0]; omega
    · rw [wt_snoc' (g.ne a _ ha (hL a b ha hb)), h1, g.la a _ ha (hL a b ha hb)]
  le := fun l hl hx hlen => by
    obtain ⟨p, y, rfl⟩ : ∃ p y, l = p ++ [y] := ⟨l.dropLast, l.getLast hl, (List.dropLast_concat_getLast hl).symm⟩
    have hy : y < n := hx y (by simp)
    have hlast : (p ++ [y]).getLastD 0 = y := by rw [List.getLastD_eq_getLast?, List.getLast?_append]; simp
    rw [hlast]
    by_cases hp : p = []
    · subst hp
      have h1 := hm y y y hy hy hy
      have h2 := g.le [y] (by simp) (by simpa using hy) (by simpa using hk)
      simp [wt] at h2 ⊢
      rw [h0] at h1
      omega
    · have hpx : ∀ x ∈ p, x < n := fun x hx' => hx x (by simp [hx'])
      have hz : p.getLastD 0 < n := by
        obtain ⟨q, z, rfl⟩ : ∃ q z, p = q ++ [z] := ⟨p.dropLast, p.getLast hp, (List.dropLast_concat_getLast hp).symm⟩
        rw [List.getLastD_eq_getLast?, List.getLast?_append]
        simpa using hpx z (by simp)
      have hh : (p ++ [y]).headD 0 = p.headD 0 := by
        cases p with
        | nil => exact absurd rfl hp
        | cons a p => rfl
      have hhn : p.headD 0 < n := by
        cases p with
        | nil => exact absurd rfl hp
        | cons a p => exact hpx a (by simp)
      rw [hh, wt_snoc' hp]
      have h1 := g.le p hp hpx (by simp at hlen; omega)
      have h2 := hm (p.headD 0) y (p.getLastD 0) hhn hy hz
      omega
theorem Good.cw {n k : Nat} {S : Nat → Nat → Int} {W : Nat → Nat → List Nat} (g : Good T n k S W) {a c : Nat} (ha : a < n) (hc : c < n) : TW.cw T (W a c) = S a c + T c a := by
  unfold TW.cw
  rw [g.eq a c ha hc, g.la a c ha hc, g.hd a c ha hc]
structure IsRing (T : Nat → Nat → Int) (n : Nat) (l : List Nat) : Prop where
  lt : ∀ x ∈ l, x < n
  nd : l.Nodup
  two : 2 ≤ l.length
  neg : cw T l < 0
  few : NoNeg T n (l.length - 1)
theorem NoNeg.one {n : Nat} (h0 : ∀ a, T a a = 0) : NoNeg T n 1 := by
  intro l hl _ hk
  match l, hl, hk with
  | [a], _, _ => simp [cw, wt, h0]
theorem NoNeg.mono {n m k : Nat} (h : NoNeg T n m) (hk : k ≤ m) : NoNeg T n k := fun l a b c => h l a b (by omega)
theorem Good.ring {n k : Nat} {S : Nat → Nat → Int} {W : Nat → Nat → List Nat} (g : Good T n k S W) (hk : 2 ≤ k) (hn : NoNeg T n (k - 1)) {a c : Nat} (ha : a < n) (hc : c < n) (h : S a c + T c a < 0) : IsRing T n (W a c) := by
  have h1 : TW.cw T (W a c) < 0 := by rw [g.cw ha hc]; exact h
  have h2 := g.ln a c ha hc
  have h3 : k ≤ (W a c).length := by
    refine Classical.byContradiction fun q => ?_
    have := hn _ (g.ne a c ha hc) (g.lt a c ha hc) (by omega)
    omega
  exact ⟨g.lt a c ha hc, hn.nodup (g.lt a c ha hc) (by omega) h1, by omega, h1, hn.mono (by omega)⟩
end
end TW
-- TWRing
namespace TW
open PySem PySem.Spec PyProof.Rows L2
def Tn (G : Nat → Nat → Int) (a b : Nat) : Int := G b b - G b a
theorem one_l {x : D} : gLst [x] = some (.lst [x]) := gLst_eq (show 1 ≤ sizeLine by decide)
theorem nil_l : gLst [] = some (.lst []) := gLst_eq (Nat.zero_le _)
theorem tup2 (a b : D) : gTup [a, b] = some (.tup [a, b]) := gTup_eq (show 2 ≤ sizeLine by decide)
end TW
-- TWBf
namespace TW
section
variable {T : Nat → Nat → Int} {n : Nat}
theorem last_app {p : List Nat} {y d : Nat} : (p ++ [y]).getLastD d = y := by rw [List.getLastD_eq_getLast?, List.getLast?_append]; simp
theorem head_app {p : List Nat} {y d : Nat} (h : p ≠ []) : (p ++ [y]).headD d = p.headD d := by
  cases p with
  | nil => exact absurd rfl h
  | cons a p => rfl
theorem snoc_of {l : List Nat} (h : l ≠ []) : ∃ p y, l = p ++ [y] := ⟨l.dropLast, l.getLast h, (List.dropLast_concat_getLast h).symm⟩
structure Fit (T : Nat → Nat → Int) (n : Nat) (P0 P : Nat → Int) (R : Nat → List Nat) : Prop where
  ne : ∀ t, t < n → R t ≠ []
  la : ∀ t, t < n → (R t).getLastD 0 = t
  lt : ∀ t, t < n → ∀ x ∈ R t, x < n
  eq : ∀ t, t < n → P t = P0 ((R t).headD 0) + wt T (R t)
  pre : ∀ t, t < n → ∀ p u q, R t = p ++ u :: q → P u ≤ P0 ((R t).headD 0) + wt T (p ++ [u])
  nd : ∀ t, t < n → (R t).Nodup
  le : ∀ t, t < n → P t ≤ P0 t
theorem Fit.start {P0 : Nat → Int} : Fit T n P0 P0 (fun t => [t]) where
  ne := fun t _ => by simp
  la := fun t _ => by simp
  lt := fun t ht x hx => by simp at hx; omega
  eq := fun t _ => by simp [wt]
  pre := fun t _ p u q e => by
    cases p with
    | nil => simp at e; simp [wt, e.1]
    | cons a p => simp at e
  nd := fun t _ => by simp
  le := fun t _ => Int.le_refl _
def Bnd (T : Nat → Nat → Int) (n : Nat) (P0 P : Nat → Int) (i : Nat) : Prop := ∀ l : List Nat, l ≠ [] → (∀ x ∈ l, x < n) → l.length ≤ i + 1 → P (l.getLastD 0) ≤ P0 (l.headD 0) + wt T l
theorem Bnd.zero {P0 : Nat → Int} : Bnd T n P0 P0 0 := fun l hl _ hk => by
  match l, hl, hk with
  | [a], _, _ => simp [wt]
theorem Bnd.step {P0 P P' : Nat → Int} {i : Nat} (b : Bnd T n P0 P i) (hle : ∀ t, t < n → P' t ≤ P t) (hs : ∀ s t, s < n → t < n → P' t ≤ P s + T s t) : Bnd T n P0 P' (i + 1) := fun l hl hx hk => by
  obtain ⟨p, y, rfl⟩ := snoc_of hl
  have hy : y < n := hx y (by simp)
  rw [last_app]
  by_cases hp : p = []
  · subst hp
    have := b [y] (by simp) (by simpa using hy) (by simp)
    have h2 := hle y hy
    simp [wt] at this ⊢
    omega
  · have hpx : ∀ x ∈ p, x < n := fun x hx' => hx x (by simp [hx'])
    have hz : p.getLastD 0 < n := by
      obtain ⟨q, z, rfl⟩ := snoc_of hp
      rw [last_app]
      exact hpx z (by simp)
    rw [head_app hp, wt_snoc' hp]
    have h1 := b p hp hpx (by simp at hk; omega)
    have h2 := hs _ _ hz hy
    omega
end
end TW
-- TWSettled
namespace TW
open PySem PySem.Spec PyProof.Rows L2
structure Pass (T : Nat → Nat → Int) (n : Nat) (P0 Q P : Nat → Int) (R : Nat → List Nat) (f : Bool) : Prop where
  fit : Fit T n P0 P R
  le : ∀ u, u < n → P u ≤ Q u
  up : f = true → ∃ u, u < n ∧ P u < Q u
  same : f = false → ∀ u, u < n → P u = Q u
end TW
-- TWRev
namespace TW
end TW
-- TWLeast
namespace TW
open PySem PySem.Spec PyProof.Rows L2
end TW
-- TWRoom
namespace TW
open PySem PySem.Spec PyProof.Rows L2
theorem head_lt {n : Nat} {l : List Nat} (h : l ≠ []) (hx : ∀ x ∈ l, x < n) : l.headD 0 < n := by
  cases l with
  | nil => exact absurd rfl h
  | cons a l => exact hx a (by simp)
theorem Fit.max {T : Nat → Nat → Int} {n : Nat} {P0 P Q : Nat → Int} {R : Nat → List Nat} (f : Fit T n P0 P R) (hQ : ∀ s t, s < n → t < n → Q t - Q s ≤ T s t) (h0 : ∀ t, t < n → Q t ≤ P0 t) {t : Nat} (ht : t < n) : Q t ≤ P t := by
  have h1 := wt_pot hQ (R t) (f.ne t ht) (f.lt t ht)
  have h2 := h0 _ (head_lt (f.ne t ht) (f.lt t ht))
  rw [f.la t ht] at h1
  rw [f.eq t ht]
  omega
end TW
-- TWGreat
namespace TW
open PySem PySem.Spec PyProof.Rows L2
section
variable {n : Nat} {G : Nat → Nat → Int} {P Q : Nat → Int} {R : Nat → List Nat}
theorem hon_T : Hon n G P ↔ ∀ s t, s < n → t < n → P t ≤ P s + Tn G s t :=
  ⟨fun h s t hs ht => by have := h t s ht hs; unfold Tn; omega, fun h t s ht hs => by have := h s t hs ht; unfold Tn at this; omega⟩
end
theorem gEq_str {s t : Str} (hs : PyData.strOk s = true) (ht : PyData.strOk t = true) : gEq (.str s) (.str t) = some (.bl (decide (s = t))) := by
  obtain ⟨b, g, _, q⟩ := gEq_pl (n := 0) (d := .str s) (e := .str t) hs ht
  rw [g]; congr 2
  exact Bool.eq_iff_iff.mpr (q.trans (by simp))
theorem gNe_str {s t : Str} (hs : PyData.strOk s = true) (ht : PyData.strOk t = true) : gNe (.str s) (.str t) = some (.bl (!decide (s = t))) := by
  obtain ⟨b, _, g, q⟩ := gEq_pl (n := 0) (d := .str s) (e := .str t) hs ht
  rw [g]; congr 3
  exact Bool.eq_iff_iff.mpr (q.trans (by simp))
end TW
-- TWNames
namespace TW
open PySem PySem.Spec PyProof.Rows L2
def txt (l : List Nat) : Str := ⟨l.toArray⟩
theorem abc_eq : ("abcdefghijklmnopqrstuvwxyz" : Str) = txt ((List.range 26).map fun k => 97 + k) := by decide +kernel
structure IsName (s : Str) : Prop where
  lo : 1 ≤ s.length
  hi : s.length ≤ 8
  abc : ∀ c ∈ s.cps.toList, 97 ≤ c ∧ c < 123
theorem IsName.ok {s : Str} (h : IsName s) : PyData.strOk s = true := by
  unfold PyData.strOk
  rw [Array.all_eq_true']
  intro c hc
  have := h.abc c (Array.mem_toList_iff.mpr hc)
  simp; omega
theorem gLen_str {s : Str} (h : s.length ≤ 1000) : gLen [.str s] = some (.int s.length) := if_pos (Nat.le_trans h (by decide))
theorem nat250 {z : Int} (h : z.natAbs < 1000) : z.natAbs < 2 ^ 250 := Nat.lt_trans h (by decide)
theorem isi_str {s : Str} : gIsi "str" (.str s) = some (.bl true) := by show (kitB "str" "str").map D.bl = _; rw [show kitB "str" "str" = some true by decide +kernel]; rfl
theorem iLoc_str {s : Str} : iLoc (.str s) = some (s.cps.toList.map fun c => .str ⟨#[c]⟩) := id rfl
theorem nin_abc {c : Nat} (h : 97 ≤ c ∧ c < 123) : gNin (.str ⟨#[c]⟩) (.str "abcdefghijklmnopqrstuvwxyz") = some (.bl false) := by
  have : decide (c ∈ ("abcdefghijklmnopqrstuvwxyz" : Str).cps.toList) = true := by
    rw [abc_eq]
    refine decide_eq_true ?_
    show c ∈ ((List.range 26).map fun k => 97 + k).toArray.toList
    simp
    exact ⟨c - 97, by omega, by omega⟩
  show (some (D.bl (decide (c ∈ ("abcdefghijklmnopqrstuvwxyz" : Str).cps.toList)))).bind _ = _
  rw [this]; rfl
theorem is_name_ok {s : Str} (h : IsName s) : m_is_name [.str s] = .ok (.bl true) := by
  rw [m_is_name]
  refine call_rt ?_
  rw [b_is_name]
  have h1 := h.lo
  have h2 := h.hi
  simp only [List.map_cons, List.map_nil, List.length_cons, List.length_nil, List.cons_append, List.nil_append, List.replicate, Nat.zero_add, Nat.reduceAdd, Nat.reduceSub, List.set_cons_zero, List.set_cons_succ]
  rw [sSeq_eq, show sIf (tOrM (tNotM (mT (m1 (gIsi "str") (mVar 0)))) (tNotM (mT (mChain gLe gLe (mC (.int 1)) (mL gLen (mA1 (mVar 0) (mA0))) (mC (.int 8)))))) (sRet (mC (.bl false))) (sNil) [some (.str s), none] = .nx [some (.str s), none] from by
    simp [isi_str, gLen_str (show s.length ≤ 1000 by omega), show (1 : Int) ≤ s.length by omega]; omega, Out.nx_bind, sSeq_eq]
  obtain ⟨ρ', e, x1, rfl⟩ := for_lN (j := 1) (m := iAny (mVar 0)) (b := sIf (mT (m2 gNin (mVar 1) (mC (.str "abcdefghijklmnopqrstuvwxyz")))) (sRet (mC (.bl false))) (sNil)) (ρ := [some (.str s), none])
    (fun k ρ => ∃ x1, ρ = [some (.str s), x1]) (s.cps.toList.map fun c => .str ⟨#[c]⟩) (by simp [iLoc_str]) ⟨_, rfl⟩ (by
      rintro k d ρ hd ⟨x1, rfl⟩
      obtain ⟨c, hc, rfl⟩ := List.mem_map.mp (List.mem_of_getElem? hd)
      exact ⟨_, by simp [nin_abc (h.abc c hc)]; rfl, _, rfl⟩)
  rw [e]
  simp
def namesD (ss : List Str) : D := .lst (ss.map D.str)
theorem foldl_addU : ∀ (l m : List Str), (m ++ l).Nodup → l.foldl addU m = m ++ l
  | [], m, _ => by simp
  | z :: l, m, h => by
    have : addU m z = m ++ [z] := by
      unfold addU
      rw [if_neg]
      intro q
      obtain ⟨y, hy, e⟩ := List.any_eq_true.mp q
      have e := eq_of_beq e
      subst e
      exact (List.nodup_append.mp h).2.2 y hy y List.mem_cons_self rfl
    rw [List.foldl_cons, this, foldl_addU l (m ++ [z]) (by simpa using h)]
    simp
theorem unlike_nodup {l : List Str} (h : l.Nodup) : unlike l = l := by
  have := foldl_addU l [] (by simpa using h)
  simpa [unlike] using this
theorem lenset_names {ss : List Str} (h : ss.Nodup) (hl : ss.length ≤ 4000) : gLenSetT (namesD ss) = some (.int ss.length) := by
  show ((strsOf (ss.map D.str)).bind fun ss => if ss.length ≤ 4000 then some (D.int (unlike ss).length) else none) = _
  rw [strsOf_map]
  show (if ss.length ≤ 4000 then some (D.int (unlike ss).length) else none) = _
  rw [if_pos hl, unlike_nodup h]
theorem len_names {ss : List Str} : gLen [namesD ss] = some (.int ss.length) := by unfold namesD; simp
theorem iLoc_names {ss : List Str} : iLoc (namesD ss) = some (ss.map D.str) := id rfl
structure AreNames (ss : List Str) (top : Nat) : Prop where
  lo : 1 ≤ ss.length
  hi : ss.length ≤ top
  nd : ss.Nodup
  nm : ∀ s ∈ ss, IsName s
theorem are_names_ok {ss : List Str} {top : Nat} (h : AreNames ss top) (ht : top ≤ 4000) : m_are_names [namesD ss, .int top] = .ok (.bl true) := by
  have h1 := h.lo
  have h2 := h.hi
  rw [m_are_names]
  refine call_rt ?_
  rw [b_are_names]
  simp only [List.map_cons, List.map_nil, List.length_cons, List.length_nil, List.cons_append, List.nil_append, List.replicate, Nat.zero_add, Nat.reduceAdd, Nat.reduceSub, List.set_cons_zero, List.set_cons_succ]
  rw [sSeq_eq, show sIf (tOrM (tNotM (mT (m1 (gIsi "list") (mVar 0)))) (tNotM (mT (mChain gLe gLe (mC (.int 1)) (mL gLen (mA1 (mVar 0) (mA0))) (mVar 1))))) (sRet (mC (.bl false))) (sNil) [some (namesD ss), some (.int top), none] = .nx [some (namesD ss), some (.int top), none] from by
    simp [show gIsi "list" (namesD ss) = some (.bl true) from isi_list_list, len_names, show (1 : Int) ≤ ss.length by omega]; omega, Out.nx_bind, sSeq_eq]
  obtain ⟨ρ', e, x2, rfl⟩ := for_lN (j := 2) (m := iAny (mVar 0)) (b := sIf (tNotM (mT (mArgs m_is_name (mA1 (mVar 2) (mA0))))) (sRet (mC (.bl false))) (sNil)) (ρ := [some (namesD ss), some (.int top), none])
    (fun k ρ => ∃ x2, ρ = [some (namesD ss), some (.int top), x2]) (ss.map D.str) (by simp [iLoc_names]) ⟨_, rfl⟩ (by
      rintro k d ρ hd ⟨x1, rfl⟩
      obtain ⟨c, hc, rfl⟩ := List.mem_map.mp (List.mem_of_getElem? hd)
      exact ⟨_, by simp [is_name_ok (h.nm c hc)]; rfl, _, rfl⟩)
  rw [e]
  simp [lenset_names h.nd (by omega), len_names]
def sgn (z : Int) : Str := txt [97 + z.toNat]
theorem ix_abc {z : Int} (h : 0 ≤ z) (h2 : z < 26) : gIx (.str "abcdefghijklmnopqrstuvwxyz") (.int z) = some (.str (sgn z)) := by
  obtain ⟨m, rfl⟩ := Int.eq_ofNat_of_zero_le h
  show (if ("abcdefghijklmnopqrstuvwxyz" : Str).length ≤ sizeLine then (atI ("abcdefghijklmnopqrstuvwxyz" : Str).cps.toList ((m : Nat) : Int)).map fun c => D.str ⟨#[c]⟩ else none) = _
  rw [abc_eq]
  rw [if_pos (by decide), show (txt ((List.range 26).map fun k => 97 + k)).cps.toList = (List.range 26).map fun k => 97 + k by simp [txt], atI_nat (by simp; omega), List.getElem?_map, List.getElem?_range (by omega)]
  rfl
theorem mul_str {s : Str} {k : Int} (h0 : 0 ≤ k) (hk : k < 100) (hs : s.length ≤ 100) : gMul (.str s) (.int k) = some (.str (strRep s k.toNat)) := by
  refine if_pos ⟨by omega, by omega, ?_⟩
  have : s.length * k.toNat ≤ 100 * 100 := Nat.mul_le_mul hs (by omega)
  exact Nat.le_trans this (by decide)
theorem add_str {s t : Str} (h : s.length + t.length ≤ 10000) : gAdd (.str s) (.str t) = some (.str (s ++ t)) := if_pos (Nat.le_trans h (by decide))
theorem str_append_length {s t : Str} : (s ++ t).length = s.length + t.length := by show (s.cps ++ t.cps).size = _; rw [Array.size_append]; rfl
theorem str_append_list {s t : Str} : (s ++ t).cps.toList = s.cps.toList ++ t.cps.toList := by show (s.cps ++ t.cps).toList = _; simp
theorem sgn_length {z : Int} : (sgn z).length = 1 := rfl
theorem sgn_list {z : Int} : (sgn z).cps.toList = [97 + z.toNat] := rfl
def nmA (c : Int) (k : Nat) : Str := strRep (sgn (c / 3 % 26)) (k + 1)
def nmB (c : Int) (k : Nat) : Str := strRep (sgn (c / 468 % 26)) (c / 5 % 4).toNat ++ sgn ((c / 3 + k * (1 + 2 * (c / 78 % 6))) % 26) ++ strRep (sgn (c / 468 % 26)) (c / 7 % 4).toNat
def nms (c : Int) (k : Nat) : Str := if c % 3 = 0 then nmA c k else nmB c k
theorem rep_mem {z : Int} {k x : Nat} (h : x ∈ (strRep (sgn z) k).cps.toList) : x = 97 + z.toNat := by
  rw [strRep_list, sgn_list] at h
  obtain ⟨l, hl, hx⟩ := List.mem_flatten.mp h
  rw [List.eq_of_mem_replicate hl] at hx
  exact List.mem_singleton.mp hx
theorem nms_name (c : Int) {k : Nat} (hk : k < 8) : IsName (nms c k) := by
  have a1 := Int.emod_nonneg (c / 3) (show (26 : Int) ≠ 0 by decide)
  have a2 := Int.emod_lt_of_pos (c / 3) (show (0 : Int) < 26 by decide)
  have b1 := Int.emod_nonneg (c / 468) (show (26 : Int) ≠ 0 by decide)
  have b2 := Int.emod_lt_of_pos (c / 468) (show (0 : Int) < 26 by decide)
  have c1 := Int.emod_nonneg (c / 3 + k * (1 + 2 * (c / 78 % 6))) (show (26 : Int) ≠ 0 by decide)
  have c2 := Int.emod_lt_of_pos (c / 3 + k * (1 + 2 * (c / 78 % 6))) (show (0 : Int) < 26 by decide)
  unfold nms
  split
  · unfold nmA
    have : (strRep (sgn (c / 3 % 26)) (k + 1)).length = k + 1 := by rw [strRep_length, sgn_length]; omega
    exact ⟨by omega, by omega, fun x hx => by have := rep_mem hx; omega⟩
  · unfold nmB
    refine ⟨?_, ?_, fun x hx => ?_⟩
    · rw [str_append_length, str_append_length, sgn_length]; omega
    · rw [str_append_length, str_append_length, sgn_length, strRep_length, strRep_length, sgn_length]; omega
    · rw [str_append_list, str_append_list, sgn_list] at hx
      rcases List.mem_append.mp hx with hx | hx
      · rcases List.mem_append.mp hx with hx | hx
        · have := rep_mem hx; omega
        · have := List.mem_singleton.mp hx; omega
      · have := rep_mem hx; omega
theorem nms_inj (c : Int) {k j : Nat} (hk : k < 8) (hj : j < 8) (h : nms c k = nms c j) : k = j := by
  unfold nms at h
  split at h
  · have := congrArg Str.length h
    unfold nmA at this
    rw [strRep_length, strRep_length, sgn_length] at this
    omega
  · have := congrArg (fun s : Str => s.cps.toList) h
    replace this : (nmB c k).cps.toList = (nmB c j).cps.toList := this
    unfold nmB at this
    simp only [str_append_list, List.append_assoc] at this
    have := List.append_cancel_left this
    rw [sgn_list, sgn_list] at this
    have := (List.cons.inj this).1
    have m1 := Int.emod_nonneg (c / 78) (show (6 : Int) ≠ 0 by decide)
    have m2 := Int.emod_lt_of_pos (c / 78) (show (0 : Int) < 6 by decide)
    generalize c / 78 % 6 = m at *
    generalize c / 3 = a at *
    have : m = 0 ∨ m = 1 ∨ m = 2 ∨ m = 3 ∨ m = 4 ∨ m = 5 := by omega
    rcases this with rfl | rfl | rfl | rfl | rfl | rfl <;> omega
def drawn (c : Int) (many : Nat) : List Str := (List.range many).map (nms c)
end TW
-- TWHouse
namespace TW
open PySem PySem.Spec PyProof.Rows L2
theorem for_m {α : Type} {m : Rho → Res (List D)} {b : Rho → Out} {j : Nat} {ρ : Rho} (I : Nat → Rho → Prop) (xs : List α) (f : α → D) (hm : m ρ = .ok (xs.map f)) (h0 : I 0 ρ)
    (st : ∀ i x ρ, xs[i]? = some x → I i ρ → ∃ ρ2, b (ρ.set j (some (f x))) = .nx ρ2 ∧ I (i + 1) ρ2) : ∃ ρ', sFor (tgN j) m b ρ = .nx ρ' ∧ I xs.length ρ' := by
  obtain ⟨ρ', e, h⟩ := for_lN (j := j) (b := b) I (xs.map f) hm h0 (fun i d ρ hd h => by
    rw [List.getElem?_map] at hd
    cases hx : xs[i]? with
    | none => rw [hx] at hd; cases hd
    | some x => rw [hx] at hd; cases hd; exact st i x ρ hx h)
  rw [List.length_map] at h
  exact ⟨ρ', e, h⟩
theorem compL_m {α : Type} {F : D → Res (Option D)} {f g : α → D} : ∀ xs : List α, (∀ x ∈ xs, F (f x) = .ok (some (g x))) → compL F (xs.map f) = .ok (xs.map g)
  | [], _ => rfl
  | x :: xs, h => by
    rw [List.map_cons, List.map_cons, compL, h x List.mem_cons_self, compL_m xs fun y hy => h y (List.mem_cons_of_mem _ hy)]
    rfl
theorem lc_m {α : Type} {ρ : Rho} {vs : List Nat} {v : Nat} {m : Rho → Res (List D)} {me : Rho → Res D} (xs : List α) (f g : α → D) (hm : m ρ = .ok (xs.map f)) (hl : xs.length < 1000000) (h : ∀ x ∈ xs, me ((wipeR ρ vs).set v (some (f x))) = .ok (g x)) :
    mLc vs (tgN v) m tYesM me ρ = .ok (.lst (xs.map g)) := by
  unfold mLc
  rw [hm, Res.bind_ok, if_pos (by rw [List.length_map]; exact b24 hl), compL_m (g := g) xs (fun x hx => by
    show (match some ((wipeR ρ vs).set v (some (f x))) with
      | some ρ' => (tYesM ρ').bind fun k => if k = true then (me ρ').bind fun v => .ok (some v) else .ok none
      | none => .stuck) = _
    dsimp only
    rw [h x hx]; rfl)]
  rfl
structure Hand where
  name : Str
  words : List Str
  worths : List (List Int)
def numsD (l : List Int) : D := .lst (l.map D.int)
def wD (w : List (List Int)) : D := .lst (w.map numsD)
def Hand.d (h : Hand) : D := .tup [.str h.name, namesD h.words, wD h.worths]
def tints (l : List Int) : D := .tup (l.map D.int)
def Hand.m (h : Hand) : D := .tup [.str h.name, .ftup (h.words.map D.str), .tup (h.worths.map tints)]
def handsD (hs : List Hand) : D := .lst (hs.map Hand.d)
def houseD (outs : List Str) (hs : List Hand) : D := .tup [.ftup (outs.map D.str), .tup (hs.map Hand.m)]
structure Hand.Ok (p : Nat) (h : Hand) : Prop where
  name : IsName h.name
  words : AreNames h.words 8
  len : h.worths.length = h.words.length
  row : ∀ r ∈ h.worths, r.length = p
  num : ∀ r ∈ h.worths, ∀ z ∈ r, -T60 < z ∧ z < T60
def ways : List Hand → Nat
  | [] => 1
  | h :: hs => h.words.length * ways hs
structure HandsOk (p : Nat) (hs : List Hand) : Prop where
  lo : 1 ≤ hs.length
  hi : hs.length ≤ 4
  ok : ∀ h ∈ hs, h.Ok p
  many : ways hs ≤ 256
  nd : (hs.map Hand.name).Nodup
theorem nums_len {l : List Int} : gLen [numsD l] = some (.int l.length) := by unfold numsD; simp
theorem wD_len {l : List (List Int)} : gLen [wD l] = some (.int l.length) := by unfold wD; simp
theorem is_worth_ok {z : Int} (h : -T60 < z ∧ z < T60) : m_is_worth [.int z] = .ok (.bl true) := by
  rw [m_is_worth]
  refine call_rt ?_
  rw [b_is_worth]
  simp only [List.map_cons, List.map_nil, List.length_cons, List.length_nil, List.cons_append, List.nil_append, List.replicate, Nat.zero_add, Nat.reduceAdd, Nat.reduceSub, List.set_cons_zero, List.set_cons_succ]
  have h1 : 0 - T60 < z := by have := h.1; omega
  have e1 : gLt (.int (0 - T60)) (.int z) = some (.bl true) := by rw [gLt_int, decide_eq_true h1]
  have e2 : gLt (.int z) (.int T60) = some (.bl true) := by rw [gLt_int, decide_eq_true h.2]
  simp only [sRet_eq, mAnd_eq, m1_eq, mVar_eq, List.getElem?_cons_zero, Res.bind_ok, isi_int_int, isi_int_bool, ofO_some, gNot_bl, Bool.not_false, mChain_eq, m2_eq, mC_eq, pow60, gSub_int, e1, e2, Res.out_ok]
theorem are_worths_ok {w : List (List Int)} {p : Nat} (hr : ∀ r ∈ w, r.length = p) (hn : ∀ r ∈ w, ∀ z ∈ r, -T60 < z ∧ z < T60) : m_are_worths [wD w, .int w.length, .int p] = .ok (.bl true) := by
  rw [m_are_worths]
  refine call_rt ?_
  rw [b_are_worths]
  simp only [List.map_cons, List.map_nil, List.length_cons, List.length_nil, List.cons_append, List.nil_append, List.replicate, Nat.zero_add, Nat.reduceAdd, Nat.reduceSub, List.set_cons_zero, List.set_cons_succ]
  rw [sSeq_eq, show sIf (tOrM (tNotM (mT (m1 (gIsi "list") (mVar 0)))) (mT (m2 gNe (mL gLen (mA1 (mVar 0) (mA0))) (mVar 1)))) (sRet (mC (.bl false))) (sNil) [some (wD w), some (.int w.length), some (.int p), none, none] = .nx _ from by
    simp [show gIsi "list" (wD w) = some (.bl true) from isi_list_list, wD_len]; rfl, Out.nx_bind, sSeq_eq]
  generalize hb : sSeq (sIf _ _ _) (sFor _ _ _) = b
  obtain ⟨ρ', e, x3, x4, rfl⟩ := for_m (j := 3) (m := iAny (mVar 0)) (b := b) (ρ := [some (wD w), some (.int w.length), some (.int p), none, none])
    (fun k ρ => ∃ x3 x4, ρ = [some (wD w), some (.int w.length), some (.int p), x3, x4]) w numsD (by simp [wD]) ⟨_, _, rfl⟩ (by
      rintro k r ρ hd ⟨x3, x4, rfl⟩
      have hw := List.mem_of_getElem? hd
      subst hb
      simp only [List.map_cons, List.map_nil, List.length_cons, List.length_nil, List.cons_append, List.nil_append, List.replicate, Nat.zero_add, Nat.reduceAdd, Nat.reduceSub, List.set_cons_zero, List.set_cons_succ]
      rw [sSeq_eq, show sIf (tOrM (tNotM (mT (m1 (gIsi "list") (mVar 3)))) (mT (m2 gNe (mL gLen (mA1 (mVar 3) (mA0))) (mVar 2)))) (sRet (mC (.bl false))) (sNil) [some (wD w), some (.int w.length), some (.int p), some (numsD r), x4] = .nx _ from by
        simp [show gIsi "list" (numsD r) = some (.bl true) from isi_list_list, nums_len, hr r hw]; rfl, Out.nx_bind]
      obtain ⟨ρ', e, y4, rfl⟩ := for_m (j := 4) (m := iAny (mVar 3)) (b := sIf (tNotM (mT (mArgs m_is_worth (mA1 (mVar 4) (mA0))))) (sRet (mC (.bl false))) (sNil)) (ρ := [some (wD w), some (.int w.length), some (.int p), some (numsD r), x4])
        (fun k ρ => ∃ x4, ρ = [some (wD w), some (.int w.length), some (.int p), some (numsD r), x4]) r D.int (by simp [numsD]) ⟨_, rfl⟩ (by
          rintro k z ρ hd ⟨x4, rfl⟩
          have hz := List.mem_of_getElem? hd
          exact ⟨_, by simp [is_worth_ok (hn r hw z hz)]; rfl, _, rfl⟩)
      exact ⟨_, e, _, _, rfl⟩)
  rw [e]
  simp
theorem is_hand_ok {h : Hand} {p : Nat} (o : h.Ok p) : m_is_hand [h.d, .int p] = .ok (.bl true) := by
  have a := are_names_ok o.words (by decide)
  have b := are_worths_ok o.row o.num
  have l := o.len
  rw [l] at b
  rw [m_is_hand]
  refine call_rt ?_
  rw [b_is_hand]
  simp only [List.map_cons, List.map_nil, List.length_cons, List.length_nil, List.cons_append, List.nil_append, List.replicate, Nat.zero_add, Nat.reduceAdd, Nat.reduceSub, List.set_cons_zero, List.set_cons_succ]
  have i0 : gIx h.d (.int 0) = some (.str h.name) := id rfl
  have i1 : gIx h.d (.int 1) = some (namesD h.words) := id rfl
  have i2 : gIx h.d (.int 2) = some (wD h.worths) := id rfl
  have l3 : gLen [h.d] = some (.int 3) := id rfl
  simp [show gIsi "tuple" h.d = some (.bl true) from isi_tup, i0, i1, i2, l3, is_name_ok o.name, len_names, b, show m_are_names [namesD h.words, .int 8] = .ok (.bl true) from a]
theorem mul_nat {a b : Nat} (ha : a < 1000) (hb : b < 1000) : gMul (.int a) (.int b) = some (.int ((a * b : Nat) : Int)) := by
  rw [gMul_int (nat250 (by omega)) (nat250 (by omega))]; simp
theorem ways_snoc {hs : List Hand} {h : Hand} : ways (hs ++ [h]) = ways hs * h.words.length := by
  induction hs with
  | nil => simp [ways]
  | cons g hs ih => simp only [List.cons_append, ways, ih, Nat.mul_assoc]
theorem ways_pos : ∀ {hs : List Hand}, (∀ h ∈ hs, 1 ≤ h.words.length) → 1 ≤ ways hs
  | [], _ => Nat.le_refl _
  | h :: hs, ho => Nat.mul_pos (ho h List.mem_cons_self) (ways_pos fun g hg => ho g (List.mem_cons_of_mem _ hg))
theorem ways_take {hs : List Hand} (ho : ∀ h ∈ hs, 1 ≤ h.words.length) (k : Nat) : ways (hs.take k) ≤ ways hs := by
  induction hs generalizing k with
  | nil => simp
  | cons h hs ih =>
    cases k with
    | zero => exact ways_pos ho
    | succ k => exact Nat.mul_le_mul_left _ (ih (fun g hg => ho g (List.mem_cons_of_mem _ hg)) k)
end TW
-- TWHands
namespace TW
open PySem PySem.Spec PyProof.Rows L2
theorem mod_bnd (a : Int) {k : Int} (h : 0 < k) : 0 ≤ a % k ∧ a % k < k := ⟨Int.emod_nonneg _ (by omega), Int.emod_lt_of_pos _ h⟩
def sz (ns : List Int) (k : Nat) : Nat := (1 + cel ns 1 / 3 ^ k % 3).toNat
theorem sz_eq (ns : List Int) (k : Nat) : (sz ns k : Int) = 1 + cel ns 1 / 3 ^ k % 3 := by
  have := mod_bnd (cel ns 1 / 3 ^ k) (k := 3) (by decide)
  unfold sz; omega
theorem sz_bnd (ns : List Int) (k : Nat) : 1 ≤ sz ns k ∧ sz ns k ≤ 3 := by
  have := mod_bnd (cel ns 1 / 3 ^ k) (k := 3) (by decide)
  have := sz_eq ns k
  omega
def spotOf (ns : List Int) (p : Nat) : Nat → Nat
  | 0 => 8
  | k + 1 => spotOf ns p k + sz ns k * p
def wor (ns : List Int) (p : Nat) (top : Int) (s t : Nat) : List Int := (List.range p).map fun j => num (cel ns (s + t * p + j)) top
def nh (ns : List Int) : Nat := (1 + cel ns 0 / 4 % 3).toNat
theorem nh_eq (ns : List Int) : (nh ns : Int) = 1 + cel ns 0 / 4 % 3 := by
  have := mod_bnd (cel ns 0 / 4) (k := 3) (by decide)
  unfold nh; omega
theorem nh_bnd (ns : List Int) : 1 ≤ nh ns ∧ nh ns ≤ 3 := by
  have := mod_bnd (cel ns 0 / 4) (k := 3) (by decide)
  have := nh_eq ns
  omega
theorem wor_num {ns : List Int} {p : Nat} {top : Int} {s t : Nat} (h : 10 ^ 18 ≤ top) (h2 : top < T60) : ∀ z ∈ wor ns p top s t, -T60 < z ∧ z < T60 := fun z hz => by
  obtain ⟨j, _, rfl⟩ := List.mem_map.mp hz
  have := num_le (cel ns (s + t * p + j)) top h
  omega
theorem ways_le : ∀ {hs : List Hand}, (∀ h ∈ hs, h.words.length ≤ 3) → ways hs ≤ 3 ^ hs.length
  | [], _ => Nat.le_refl _
  | h :: hs, ho => by
    have a := ho h List.mem_cons_self
    have b := ways_le (hs := hs) fun g hg => ho g (List.mem_cons_of_mem _ hg)
    show h.words.length * ways hs ≤ 3 ^ (hs.length + 1)
    rw [Nat.pow_succ, Nat.mul_comm (3 ^ hs.length)]
    exact Nat.mul_le_mul a b
theorem names_ix {ss : List Str} {k : Nat} {s : Str} (h : ss[k]? = some s) : gIx (namesD ss) (.int k) = some (.str s) := by
  have hk : k < (ss.map D.str).length := by rw [List.length_map]; exact (List.getElem?_eq_some_iff.mp h).1
  show atI (ss.map D.str) (k : Int) = _
  rw [atI_nat hk, List.getElem?_map, h]; rfl
def T57 : Int := 10 ^ 57
theorem pow57 : gPow (.int 10) (.int 57) = some (.int T57) := gPow_10 (k := 57) (by decide)
def pl (ns : List Int) : Nat := (1 + cel ns 0 % 4).toNat
theorem pl_eq (ns : List Int) : (pl ns : Int) = 1 + cel ns 0 % 4 := by
  have := mod_bnd (cel ns 0) (k := 4) (by decide)
  unfold pl; omega
theorem pl_bnd (ns : List Int) : 1 ≤ pl ns ∧ pl ns ≤ 4 := by
  have := mod_bnd (cel ns 0) (k := 4) (by decide)
  have := pl_eq ns
  omega
def crossR (rows : List (List Str)) (words : List Str) : List (List Str) := rows.flatMap fun row => words.map fun w => row ++ [w]
def rowsW (ws : List (List Str)) : List (List Str) := ws.foldl crossR [[]]
def rowT (row : List Str) : D := .tup (row.map D.str)
theorem crossR_len (rows : List (List Str)) (words : List Str) : (crossR rows words).length = rows.length * words.length := by
  unfold crossR
  induction rows with
  | nil => simp
  | cons r rows ih => rw [List.flatMap_cons, List.length_append, ih, List.length_map, List.length_cons, Nat.add_mul, Nat.one_mul]; omega
end TW
-- TWParts
namespace TW
open PySem PySem.Spec PyProof.Rows L2
def pn (c : Int) : Int := (c % 2147483647 * 48271 + 11) % 2147483647
structure Tops (ts : List Int) (T : Nat → Nat) : Prop where
  at' : ∀ j : Nat, j < 4 → gIx (.lst (ts.map D.int)) (.int j) = some (.int (T j))
  lo : ∀ j : Nat, j < 4 → 1 ≤ T j ∧ T j ≤ 8
  way : ∀ j : Nat, j < 4 → T j ^ (j + 1) ≤ 256
end TW
-- TWPool2
namespace TW
open PySem PySem.Spec PyProof.Rows L2
def isNameB (s : Str) : Bool := decide (1 ≤ s.length) && decide (s.length ≤ 8) && s.cps.toList.all fun c => decide (97 ≤ c) && decide (c < 123)
theorem isName_of {s : Str} (h : isNameB s = true) : IsName s := by
  unfold isNameB at h
  simp only [Bool.and_eq_true, decide_eq_true_eq, List.all_eq_true] at h
  exact ⟨h.1.1, h.1.2, fun c hc => h.2 c hc⟩
end TW
-- TWRows
namespace TW
open PySem PySem.Spec PyProof.Rows L2
theorem crossR_snoc {rows : List (List Str)} {r : List Str} {words : List Str} : crossR (rows ++ [r]) words = crossR rows words ++ words.map (fun w => r ++ [w]) := by
  unfold crossR; rw [List.flatMap_append]; simp
theorem rowsW_snoc {ws : List (List Str)} {w : List Str} : rowsW (ws ++ [w]) = crossR (rowsW ws) w := by unfold rowsW; rw [List.foldl_append]; rfl
def wordsOf (hs : List Hand) : List (List Str) := hs.map Hand.words
theorem rowsW_len : ∀ hs : List Hand, (rowsW (wordsOf hs)).length = ways hs := by
  intro hs
  have : ∀ (hs : List Hand) (rows : List (List Str)), ((wordsOf hs).foldl crossR rows).length = rows.length * ways hs := by
    intro hs
    induction hs with
    | nil => intro rows; simp [wordsOf, ways]
    | cons h hs ih =>
      intro rows
      show ((wordsOf hs).foldl crossR (crossR rows h.words)).length = rows.length * (h.words.length * ways hs)
      rw [ih, crossR_len, Nat.mul_assoc]
  have := this hs [[]]
  simpa [rowsW] using this
theorem mem_crossR {rows : List (List Str)} {words : List Str} {x : List Str} : x ∈ crossR rows words ↔ ∃ r ∈ rows, ∃ w ∈ words, x = r ++ [w] := by
  unfold crossR
  rw [List.mem_flatMap]
  constructor
  · rintro ⟨r, hr, hx⟩
    obtain ⟨w, hw, rfl⟩ := List.mem_map.mp hx
    exact ⟨r, hr, w, hw, rfl⟩
  · rintro ⟨r, hr, w, hw, rfl⟩
    exact ⟨r, hr, List.mem_map.mpr ⟨w, hw, rfl⟩⟩
def Row : List (List Str) → List Str → Prop
  | [], r => r = []
  | w :: ws, r => ∃ x r', r = x :: r' ∧ x ∈ w ∧ Row ws r'
theorem row_snoc : ∀ {ws : List (List Str)} {w : List Str} {r : List Str}, Row (ws ++ [w]) r ↔ ∃ r' x, r = r' ++ [x] ∧ Row ws r' ∧ x ∈ w
  | [], w, r => by
    constructor
    · rintro ⟨x, r', rfl, hx, h⟩
      exact ⟨[], x, by rw [show r' = [] from h]; rfl, rfl, hx⟩
    · rintro ⟨r', x, rfl, h, hx⟩
      exact ⟨x, [], by rw [show r' = [] from h]; rfl, hx, rfl⟩
  | v :: ws, w, r => by
    constructor
    · rintro ⟨x, r', rfl, hx, h⟩
      obtain ⟨r2, y, rfl, h2, hy⟩ := row_snoc.mp h
      exact ⟨x :: r2, y, rfl, ⟨x, r2, rfl, hx, h2⟩, hy⟩
    · rintro ⟨r2, y, rfl, ⟨x, r', rfl, hx, h⟩, hy⟩
      exact ⟨x, r' ++ [y], rfl, hx, row_snoc.mpr ⟨r', y, rfl, h, hy⟩⟩
theorem row_iff {ws : List (List Str)} : ∀ {r : List Str}, r ∈ rowsW ws ↔ Row ws r := by
  suffices h : ∀ vs : List (List Str), (∀ r, r ∈ rowsW vs.reverse ↔ Row vs.reverse r) by
    intro r
    have := h ws.reverse r
    rwa [List.reverse_reverse] at this
  intro vs
  induction vs with
  | nil => intro r; simp [rowsW, Row]
  | cons v vs ih =>
    intro r
    rw [List.reverse_cons, rowsW_snoc, mem_crossR, row_snoc]
    constructor
    · rintro ⟨r', h, x, hx, rfl⟩; exact ⟨r', x, rfl, (ih r').mp h, hx⟩
    · rintro ⟨r', x, rfl, h, hx⟩; exact ⟨r', (ih r').mpr h, x, hx, rfl⟩
theorem Row.len : ∀ {ws : List (List Str)} {r : List Str}, Row ws r → r.length = ws.length
  | [], r, h => by rw [show r = [] from h]; rfl
  | w :: ws, r, ⟨x, r', e, _, h⟩ => by rw [e, List.length_cons, List.length_cons, Row.len h]
theorem Row.at : ∀ {ws : List (List Str)} {r : List Str}, Row ws r → ∀ {k : Nat} {w : List Str}, ws[k]? = some w → ∃ x, r[k]? = some x ∧ x ∈ w
  | w :: ws, r, ⟨x, r', e, hx, h⟩, 0, v, hv => by cases hv; exact ⟨x, by rw [e]; rfl, hx⟩
  | w :: ws, r, ⟨x, r', e, hx, h⟩, k + 1, v, hv => by
    obtain ⟨y, hy, hm⟩ := Row.at h (k := k) hv
    exact ⟨y, by rw [e]; exact hy, hm⟩
theorem rows_len_lt {hs : List Hand} {r : List Str} (h : r ∈ rowsW (wordsOf hs)) : r.length = hs.length := by
  rw [(row_iff.mp h).len]; unfold wordsOf; simp
theorem HandsOk.pos {p : Nat} {hs : List Hand} (h : HandsOk p hs) : ∀ g ∈ hs, 1 ≤ g.words.length := fun g hg => (h.ok g hg).words.lo
end TW
-- TWScores
namespace TW
open PySem PySem.Spec PyProof.Rows L2
def wf (h : Hand) (w : Str) (j : Nat) : Int := (h.worths.getD (h.words.idxOf w) []).getD j 0
def nilH : Hand := ⟨Str.empty, [], []⟩
def hat (hs : List Hand) (k : Nat) : Hand := hs.getD k nilH
def wat (row : List Str) (k : Nat) : Str := row.getD k Str.empty
def sc (hs : List Hand) (W C : Nat → Int) (row : List Str) : Nat → Nat → Int
  | 0, j => C j
  | k + 1, j => sc hs W C row k j + W k * wf (hat hs k) (wat row k) j
theorem hat_at {hs : List Hand} {k : Nat} (h : k < hs.length) : hs[k]? = some (hat hs k) := by unfold hat; rw [List.getD_eq_getElem?_getD, List.getElem?_eq_getElem h]; rfl
theorem hat_mem {hs : List Hand} {k : Nat} (h : k < hs.length) : hat hs k ∈ hs := List.mem_of_getElem? (hat_at h)
theorem wat_at {row : List Str} {k : Nat} (h : k < row.length) : row[k]? = some (wat row k) := by unfold wat; rw [List.getD_eq_getElem?_getD, List.getElem?_eq_getElem h]; rfl
def RowOf (hs : List Hand) (row : List Str) : Prop := row.length = hs.length ∧ ∀ k, k < hs.length → wat row k ∈ (hat hs k).words
theorem Row.of {hs : List Hand} {row : List Str} (h : Row (wordsOf hs) row) : RowOf hs row := by
  have hl : row.length = hs.length := by rw [h.len]; unfold wordsOf; simp
  refine ⟨hl, fun k hk => ?_⟩
  obtain ⟨x, e, hx⟩ := h.at (k := k) (w := (hat hs k).words) (by unfold wordsOf; rw [List.getElem?_map, hat_at hk]; rfl)
  rw [wat_at (by omega)] at e
  cases e
  exact hx
theorem rowOf_mem {hs : List Hand} {row : List Str} (h : row ∈ rowsW (wordsOf hs)) : RowOf hs row := (row_iff.mp h).of
section
variable {hs : List Hand} {outs : List Str} {p : Nat} {row : List Str} {W C : Nat → Int}
theorem hands_hand {k : Nat} (hk : k < hs.length) : gIx (handsD hs) (.int k) = some (hat hs k).d := by
  show atI (hs.map Hand.d) (k : Int) = _
  rw [atI_nat (by simpa using hk), List.getElem?_map, hat_at hk]; rfl
theorem Hand.Ok.wor {h : Hand} (o : h.Ok p) {w : Str} (hw : w ∈ h.words) : ∃ r, h.worths[h.words.idxOf w]? = some r ∧ r.length = p ∧ (∀ z ∈ r, -T60 < z ∧ z < T60) ∧ ∀ j, wf h w j = r.getD j 0 := by
  have hi := List.idxOf_lt_length_iff.mpr hw
  have hl : h.words.idxOf w < h.worths.length := by rw [o.len]; exact hi
  refine ⟨h.worths[h.words.idxOf w], List.getElem?_eq_getElem hl, o.row _ (List.getElem_mem _), o.num _ (List.getElem_mem _), fun j => ?_⟩
  unfold wf
  rw [List.getD_eq_getElem?_getD (l := h.worths), List.getElem?_eq_getElem hl]; rfl
end
end TW
-- TWBest
namespace TW
open PySem PySem.Spec PyProof.Rows L2
def best (f : Nat → Int) : Nat → Nat
  | 0 => 0
  | n + 1 => if f (best f n) < f n then n else best f n
section
variable {hs : List Hand} {outs : List Str} {p : Nat} {row : List Str} {W C : Nat → Int}
end
end TW
-- TWTable
namespace TW
open PySem PySem.Spec PyProof.Rows L2
def rkey (r : List Str) : List Key := r.map Sum.inr
theorem rkey_inj {r s : List Str} (h : rkey r = rkey s) : r = s := by
  unfold rkey at h
  exact List.map_inj_right (fun x y e => Sum.inr.inj e) |>.mp h
theorem keysD_row : ∀ r : List Str, keysD (r.map D.str) = some (rkey r)
  | [] => rfl
  | x :: r => by show (keyD (.str x)).bind (fun k => (keysD (r.map D.str)).map fun s => k :: s) = _; rw [keysD_row r]; rfl
def tabD (rows : List (List Str)) (g : List Str → D) : D := .dT (rows.map rkey) (rows.map g)
theorem lookK_map {rows : List (List Str)} {g : List Str → D} {r : List Str} (h : r ∈ rows) : lookK (rows.map rkey) (rows.map g) (rkey r) = some (g r) := by
  induction rows with
  | nil => cases h
  | cons s rows ih =>
    show (if rkey s = rkey r then some (g s) else lookK (rows.map rkey) (rows.map g) (rkey r)) = _
    by_cases e : rkey s = rkey r
    · rw [if_pos e, rkey_inj e]
    · rw [if_neg e]
      rcases List.mem_cons.mp h with rfl | h
      · exact absurd rfl e
      · exact ih h
theorem tab_look {rows : List (List Str)} {g : List Str → D} {r : List Str} (h : r ∈ rows) : lookD (tabD rows g) (rowT r) = some (some (g r)) := by
  show (keysD (r.map D.str)).map (fun k => lookK (rows.map rkey) (rows.map g) k) = _
  rw [keysD_row]
  exact congrArg some (lookK_map h)
theorem tab_ix {rows : List (List Str)} {g : List Str → D} {r : List Str} (h : r ∈ rows) : gIx (tabD rows g) (rowT r) = some (g r) := by
  show (lookD (tabD rows g) (rowT r)).bind id = _
  rw [tab_look h]; rfl
theorem tab_nin {rows : List (List Str)} {g : List Str → D} {r : List Str} (h : r ∈ rows) : gNin (rowT r) (tabD rows g) = some (.bl false) := by
  show ((lookD (tabD rows g) (rowT r)).map fun o => D.bl o.isSome).bind _ = _
  rw [tab_look h]; rfl
theorem putL_new {κ : Type} [DecidableEq κ] {ks : List κ} {vs : List D} {k : κ} {v : D} (h : k ∉ ks) : putL ks vs k v = (ks ++ [k], vs ++ [v]) := by
  unfold putL
  rw [List.idxOf?_eq_none_iff.mpr h]
theorem tab_put {rows : List (List Str)} {g : List Str → D} {r : List Str} (h : r ∉ rows) (hl : rows.length < 1000000) : putD (tabD rows g) (rowT r) (g r) = some (tabD (rows ++ [r]) g) := by
  show (if (rows.map rkey).length < sizeLine then (keysD (r.map D.str)).map fun k => D.dT (putL (rows.map rkey) (rows.map g) k (g r)).1 (putL (rows.map rkey) (rows.map g) k (g r)).2 else none) = _
  rw [if_pos (b24 (by rw [List.length_map]; exact hl)), keysD_row]
  show some (D.dT (putL (rows.map rkey) (rows.map g) (rkey r) (g r)).1 (putL (rows.map rkey) (rows.map g) (rkey r) (g r)).2) = _
  rw [putL_new fun q => by
    obtain ⟨s, hs, e⟩ := List.mem_map.mp q
    rw [rkey_inj e] at hs
    exact h hs]
  unfold tabD
  rw [List.map_append, List.map_append]; rfl
theorem crossR_nodup {words : List Str} (hw : words.Nodup) : ∀ {rows : List (List Str)}, rows.Nodup → (crossR rows words).Nodup
  | [], _ => List.nodup_nil
  | r :: rows, h => by
    obtain ⟨h1, h2⟩ := List.nodup_cons.mp h
    unfold crossR
    rw [List.flatMap_cons]
    refine List.nodup_append.mpr ⟨?_, crossR_nodup hw h2, ?_⟩
    · rw [List.Nodup, List.pairwise_map]
      refine List.Pairwise.imp ?_ hw
      intro x y hne e
      exact hne (List.cons.inj (List.append_cancel_left e)).1
    · intro a ha b hb e
      subst e
      obtain ⟨x, _, rfl⟩ := List.mem_map.mp ha
      obtain ⟨s, hs, y, _, e⟩ := mem_crossR.mp hb
      have : r = s := (List.append_inj' e rfl).1
      exact h1 (this ▸ hs)
theorem rowsW_nodup {hs : List Hand} (h : ∀ g ∈ hs, g.words.Nodup) : (rowsW (wordsOf hs)).Nodup := by
  have : ∀ (hs : List Hand) (rows : List (List Str)), (∀ g ∈ hs, g.words.Nodup) → rows.Nodup → ((wordsOf hs).foldl crossR rows).Nodup := by
    intro hs
    induction hs with
    | nil => intro rows _ h; exact h
    | cons g hs ih =>
      intro rows hg h
      exact ih _ (fun x hx => hg x (List.mem_cons_of_mem _ hx)) (crossR_nodup (hg g List.mem_cons_self) h)
  exact this hs [[]] h (by simp)
theorem HandsOk.wnd {p : Nat} {hs : List Hand} (h : HandsOk p hs) : ∀ g ∈ hs, g.words.Nodup := fun g hg => (h.ok g hg).words.nd
section
variable {hs : List Hand} {outs : List Str} {p : Nat} {W C : Nat → Int}
def deal (p : Nat) (outs : List Str) (hs : List Hand) (W C : Nat → Int) (row : List Str) : Str := wat outs (best (sc hs W C row hs.length) p)
theorem ft_ix {l : List Str} {k : Nat} (h : k < l.length) : gIx (.ftup (l.map D.str)) (.int k) = some (.str (wat l k)) := by
  show atI (l.map D.str) (k : Int) = _
  rw [atI_nat (by simpa using h), List.getElem?_map, wat_at h]; rfl
end
end TW
-- TWLawRing
namespace TW
open PySem PySem.Spec PyProof.Rows L2
end TW
-- TWColumn
namespace TW
open PySem PySem.Spec PyProof.Rows L2
theorem cut_to {α : Type} {l : List α} {k : Nat} (h : k ≤ l.length) : cutD l none (some (k : Int)) = l.take k := by
  unfold cutD
  rw [HT.sIx_none, HT.sIx_nat, List.drop_zero, Nat.sub_zero, Nat.min_eq_left h]
theorem cut_from {α : Type} {l : List α} {k : Nat} : cutD l (some (k : Int)) none = l.drop k := by
  unfold cutD
  rw [HT.sIx_none, HT.sIx_nat]
  by_cases h : k ≤ l.length
  · rw [Nat.min_eq_left h, List.take_of_length_le (by rw [List.length_drop]; omega)]
  · rw [Nat.min_eq_right (by omega), List.drop_eq_nil_of_le (by omega), List.drop_eq_nil_of_le (by omega), List.take_nil]
def ins (k : Nat) (w : Str) (r : List Str) : List Str := r.take k ++ [w] ++ r.drop k
section
variable {hs : List Hand} {outs : List Str} {p k : Nat} {W C : Nat → Int} {r : List Str}
theorem wat_mem {l : List Str} {t : Nat} (ht : t < l.length) : wat l t ∈ l := List.mem_of_getElem? (wat_at ht)
end
end TW
-- TWPlaces
namespace TW
open PySem PySem.Spec PyProof.Rows L2
section
variable {hs : List Hand} {outs : List Str} {p : Nat} {row : List Str} {W : Nat → Int}
end
end TW
-- TWApart
namespace TW
open PySem PySem.Spec PyProof.Rows L2
structure From (n : Nat) (G : Nat → Nat → Int) (s : Nat) (P : Nat → Int) (R : Nat → List Nat) : Prop where
  ne : ∀ x, x < n → R x ≠ []
  hd : ∀ x, x < n → (R x).headD 0 = s
  la : ∀ x, x < n → (R x).getLastD 0 = x
  lt : ∀ x, x < n → ∀ y ∈ R x, y < n
  nd : ∀ x, x < n → (R x).Nodup
  eq : ∀ x, x < n → P x = wt (Tn G) (R x)
  hon : Hon n G P
  z : P s = 0
theorem From.max {n s t : Nat} {G : Nat → Nat → Int} {P Q : Nat → Int} {R : Nat → List Nat} (f : From n G s P R) (h : Hon n G Q) (ht : t < n) : Q t - Q s ≤ P t := by
  have := wt_pot (T := Tn G) (P := Q) (fun a b ha hb => by have := hon_T.mp h a b ha hb; omega) (R t) (f.ne t ht) (f.lt t ht)
  rw [f.la t ht, f.hd t ht, ← f.eq t ht] at this
  exact this
end TW
-- TWWithin
namespace TW
open PySem PySem.Spec PyProof.Rows L2
end TW
-- TWMean
namespace TW
open PySem PySem.Spec PyProof.Rows L2
def sm (S : Nat → Int) (f : Nat → Int) : Nat → Int
  | 0 => 0
  | k + 1 => sm S f k + S k * f k
structure Shares (c : Nat) (S : Nat → Int) : Prop where
  nn : ∀ k, k < c → 0 ≤ S k
  one : ∃ k, k < c ∧ 0 < S k
  sm : ∀ k, k < c → (S k).natAbs < 2 ^ 250
section
variable {c n : Nat} {S : Nat → Int}
end
end TW
-- TWRefuse
namespace TW
open PySem PySem.Spec PyProof.Rows L2
theorem isi_of {d : D} {T : String} {b : Bool} (hj : d.known = true) (e : kitB d.ty T = some b) : gIsi T d = some (.bl b) := by
  have : gIsi T d = (kitB d.ty T).map D.bl := by cases d <;> first | rfl | cases hj
  rw [this, e]; rfl
theorem sFor_L {m : Rho → Res (List D)} {f : D → Rho → Option Rho} {b : Rho → Out} {ds : List D} {ρ : Rho} (h : m ρ = .ok ds) : sFor f m b ρ = forL f b ds ρ := by
  unfold sFor
  rw [h]; rfl
section
variable {c n : Nat} {S : Nat → Int}
end
end TW
-- TWCnd
namespace TW
open PySem PySem.Spec PyProof.Rows L2
def rowG : List Str → D
  | [] => .tup []
  | r => .ftup (r.map D.str)
def rowsG (rs : List (List Str)) : D := .lst (rs.map rowG)
theorem rowG_ne {r : List Str} (h : r ≠ []) : rowG r = .ftup (r.map D.str) := by
  cases r with
  | nil => exact absurd rfl h
  | cons a l => rfl
theorem one_tf {x : D} : gTupDF [x] = some (.ftup [x]) := if_pos (show 1 ≤ sizeLine by decide)
theorem rowG_add {r : List Str} {w : Str} (h : r.length < 1000) : gAddF (rowG r) (.ftup [.str w]) = some (rowG (r ++ [w])) := by
  cases r with
  | nil => exact if_pos (e := none) (show 1 ≤ sizeLine by decide)
  | cons a l =>
    have : gAddF (rowG (a :: l)) (.ftup [.str w]) = some (.ftup (D.str a :: l.map D.str ++ [.str w])) := if_pos (e := none) (show (D.str a :: l.map D.str).length + [D.str w].length ≤ sizeLine from by
      have : (D.str a :: l.map D.str).length + [D.str w].length = l.length + 2 := by simp
      rw [this]
      have : l.length + 2 < 1000000 := by simp only [List.length_cons] at h; omega
      exact b24' this)
    rw [this]
    show _ = some (D.ftup ((a :: (l ++ [w])).map D.str))
    rw [List.map_cons, List.map_append]; rfl
inductive Cnd where
  | says (k : Nat) (w : Str)
  | count (n : Nat) (w : Str)
  | neg (c : Cnd)
  | and (a b : Cnd)
  | or (a b : Cnd)
def Cnd.d : Cnd → D
  | .says k w => .tup [.str "says", .int k, .str w]
  | .count n w => .tup [.str "count", .int n, .str w]
  | .neg c => .tup [.str "not", c.d]
  | .and a b => .tup [.str "and", a.d, b.d]
  | .or a b => .tup [.str "or", a.d, b.d]
def digS (n : Nat) : Str := toString (n : Int)
def Cnd.toks (hs : List Hand) : Cnd → List Str
  | .says k w => ["says", (hat hs k).name, w]
  | .count n w => ["count", digS n, w]
  | .neg c => "not" :: c.toks hs
  | .and a b => "and" :: (a.toks hs ++ b.toks hs)
  | .or a b => "or" :: (a.toks hs ++ b.toks hs)
def Cnd.ev (row : List Str) : Cnd → Bool
  | .says k w => decide (wat row k = w)
  | .count n w => decide (n ≤ row.count w)
  | .neg c => !c.ev row
  | .and a b => a.ev row && b.ev row
  | .or a b => a.ev row || b.ev row
def Cnd.depth : Cnd → Nat
  | .says _ _ => 1
  | .count _ _ => 1
  | .neg c => c.depth + 1
  | .and a b => max a.depth b.depth + 1
  | .or a b => max a.depth b.depth + 1
def Cnd.Ok (hs : List Hand) : Cnd → Prop
  | .says k w => k < hs.length ∧ w ∈ (hat hs k).words
  | .count n w => 1 ≤ n ∧ n ≤ 4 ∧ ∃ h ∈ hs, w ∈ h.words
  | .neg c => c.Ok hs
  | .and a b => a.Ok hs ∧ b.Ok hs
  | .or a b => a.Ok hs ∧ b.Ok hs
theorem Cnd.depth_le {hs : List Hand} : ∀ c : Cnd, c.depth ≤ (c.toks hs).length
  | .says _ _ => by show 1 ≤ 3; decide
  | .count _ _ => by show 1 ≤ 3; decide
  | .neg c => by
    have := Cnd.depth_le (hs := hs) c
    simp only [Cnd.depth, Cnd.toks, List.length_cons]; omega
  | .and a b => by
    have := Cnd.depth_le (hs := hs) a
    have := Cnd.depth_le (hs := hs) b
    simp only [Cnd.depth, Cnd.toks, List.length_cons, List.length_append]; omega
  | .or a b => by
    have := Cnd.depth_le (hs := hs) a
    have := Cnd.depth_le (hs := hs) b
    simp only [Cnd.depth, Cnd.toks, List.length_cons, List.length_append]; omega
theorem m_holds_succ {n : Nat} : m_holds (n + 1) = callM 3 (b_holds (m_holds n)) := id rfl
theorem gCount_ft {r : List Str} {w : Str} : gCount (.ftup (r.map D.str)) (.str w) = some (.int (r.count w : Nat)) := by
  show ((strsOf (r.map D.str)).map fun ss => D.int (ss.count w : Nat)) = _
  rw [strsOf_map]; rfl
theorem ok_says : PyData.strOk "says" = true := by decide +kernel
theorem ok_count : PyData.strOk "count" = true := by decide +kernel
theorem ok_not : PyData.strOk "not" = true := by decide +kernel
theorem ok_and : PyData.strOk "and" = true := by decide +kernel
theorem ok_or : PyData.strOk "or" = true := by decide +kernel
theorem eq_lit {a b : Str} (ha : PyData.strOk a = true) (hb : PyData.strOk b = true) {r : Bool} (h : decide (a = b) = r) : gEq (.str a) (.str b) = some (.bl r) := by rw [gEq_str ha hb, h]
theorem holds_none {n : Nat} {row : D} : m_holds (n + 1) [.non, row] = .ok (.bl true) := by
  rw [m_holds_succ]
  refine call_rt ?_
  rw [b_holds]
  simp only [List.map_cons, List.map_nil, List.length_cons, List.length_nil, List.cons_append, List.nil_append, List.replicate, Nat.zero_add, Nat.reduceAdd, Nat.reduceSub, List.set_cons_zero, List.set_cons_succ]
  simp [show gIsN .non .non = some (.bl true) from id rfl]
theorem isN_tup {l : List D} : gIsN (.tup l) .non = some (.bl false) := id rfl
theorem holds_ok {hs : List Hand} {row : List Str} (hrow : RowOf hs row) (hne : row ≠ []) (hnm : ∀ s ∈ row, IsName s) (hw : ∀ h ∈ hs, ∀ w ∈ h.words, IsName w) : ∀ (n : Nat) (c : Cnd), c.Ok hs → c.depth ≤ n → m_holds n [c.d, rowG row] = .ok (.bl (c.ev row))
  | 0, c, _, h => by cases c <;> simp [Cnd.depth] at h
  | n + 1, .says k w, ok, _ => by
    have rk : gIx (.ftup (row.map D.str)) (.int k) = some (.str (wat row k)) := ft_ix (by rw [hrow.1]; exact ok.1)
    have wk : IsName (wat row k) := hnm _ (wat_mem (by rw [hrow.1]; exact ok.1))
    have ww : IsName w := hw _ (hat_mem ok.1) w ok.2
    have e0 : gIx (.tup [.str "says", .int k, .str w]) (.int 0) = some (.str "says") := id rfl
    have e1 : gIx (.tup [.str "says", .int k, .str w]) (.int 1) = some (.int k) := id rfl
    have e2 : gIx (.tup [.str "says", .int k, .str w]) (.int 2) = some (.str w) := id rfl
    have eq := gEq_str wk.ok ww.ok
    have q0 := eq_lit ok_says ok_says (r := true) (by decide)
    have n0 := isN_tup (l := [.str "says", .int k, .str w])
    rw [m_holds_succ, rowG_ne hne]
    refine call_rt ?_
    show b_holds (m_holds n) ([.tup [.str "says", .int k, .str w], _].map some ++ List.replicate (3 - [D.tup [.str "says", .int k, .str w], .ftup (row.map D.str)].length) none) = _
    rw [b_holds]
    generalize (.tup [.str "says", .int k, .str w] : D) = C at *
    generalize (.ftup (row.map D.str) : D) = R at *
    simp only [List.map_cons, List.map_nil, List.length_cons, List.length_nil, List.cons_append, List.nil_append, List.replicate, Nat.zero_add, Nat.reduceAdd, Nat.reduceSub, List.set_cons_zero, List.set_cons_succ]
    simp [n0, e0, e1, e2, rk, q0, eq]; rfl
  | n + 1, .count m w, ok, _ => by
    have e0 : gIx (.tup [.str "count", .int m, .str w]) (.int 0) = some (.str "count") := id rfl
    have e1 : gIx (.tup [.str "count", .int m, .str w]) (.int 1) = some (.int m) := id rfl
    have e2 : gIx (.tup [.str "count", .int m, .str w]) (.int 2) = some (.str w) := id rfl
    have ct := gCount_ft (r := row) (w := w)
    have q0 := eq_lit ok_count ok_says (r := false) (by decide +kernel)
    have q1 := eq_lit ok_count ok_count (r := true) (by decide)
    have n0 := isN_tup (l := [.str "count", .int m, .str w])
    rw [m_holds_succ, rowG_ne hne]
    refine call_rt ?_
    show b_holds (m_holds n) ([.tup [.str "count", .int m, .str w], _].map some ++ List.replicate (3 - [D.tup [.str "count", .int m, .str w], .ftup (row.map D.str)].length) none) = _
    rw [b_holds]
    generalize (.tup [.str "count", .int m, .str w] : D) = C at *
    generalize (.ftup (row.map D.str) : D) = R at *
    simp only [List.map_cons, List.map_nil, List.length_cons, List.length_nil, List.cons_append, List.nil_append, List.replicate, Nat.zero_add, Nat.reduceAdd, Nat.reduceSub, List.set_cons_zero, List.set_cons_succ]
    simp [n0, e0, e1, e2, ct, q0, q1, Cnd.ev]
  | n + 1, .neg c, ok, h => by
    have ih := holds_ok hrow hne hnm hw n c ok (by simp only [Cnd.depth] at h; omega)
    have e0 : gIx (.tup [.str "not", c.d]) (.int 0) = some (.str "not") := id rfl
    have e1 : gIx (.tup [.str "not", c.d]) (.int 1) = some c.d := id rfl
    have q0 := eq_lit ok_not ok_says (r := false) (by decide +kernel)
    have q1 := eq_lit ok_not ok_count (r := false) (by decide +kernel)
    have q2 := eq_lit ok_not ok_not (r := true) (by decide)
    have n0 := isN_tup (l := [.str "not", c.d])
    rw [m_holds_succ]
    refine call_rt ?_
    show b_holds (m_holds n) ([.tup [.str "not", c.d], _].map some ++ List.replicate (3 - [D.tup [.str "not", c.d], rowG row].length) none) = _
    rw [b_holds]
    generalize (.tup [.str "not", c.d] : D) = C at *
    generalize c.d = cd at *
    generalize rowG row = R at *
    simp only [List.map_cons, List.map_nil, List.length_cons, List.length_nil, List.cons_append, List.nil_append, List.replicate, Nat.zero_add, Nat.reduceAdd, Nat.reduceSub, List.set_cons_zero, List.set_cons_succ]
    simp [n0, e0, e1, q0, q1, q2, ih, Cnd.ev]
  | n + 1, .and a b, ok, h => by
    have ia := holds_ok hrow hne hnm hw n a ok.1 (by simp only [Cnd.depth] at h; omega)
    have ib := holds_ok hrow hne hnm hw n b ok.2 (by simp only [Cnd.depth] at h; omega)
    have e0 : gIx (.tup [.str "and", a.d, b.d]) (.int 0) = some (.str "and") := id rfl
    have e1 : gIx (.tup [.str "and", a.d, b.d]) (.int 1) = some a.d := id rfl
    have e2 : gIx (.tup [.str "and", a.d, b.d]) (.int 2) = some b.d := id rfl
    have q0 := eq_lit ok_and ok_says (r := false) (by decide +kernel)
    have q1 := eq_lit ok_and ok_count (r := false) (by decide +kernel)
    have q2 := eq_lit ok_and ok_not (r := false) (by decide +kernel)
    have q3 := eq_lit ok_and ok_and (r := true) (by decide)
    have n0 := isN_tup (l := [.str "and", a.d, b.d])
    rw [m_holds_succ]
    refine call_rt ?_
    show b_holds (m_holds n) ([.tup [.str "and", a.d, b.d], _].map some ++ List.replicate (3 - [D.tup [.str "and", a.d, b.d], rowG row].length) none) = _
    rw [b_holds]
    generalize (.tup [.str "and", a.d, b.d] : D) = C at *
    generalize a.d = ad at *
    generalize b.d = bd at *
    generalize rowG row = R at *
    simp only [List.map_cons, List.map_nil, List.length_cons, List.length_nil, List.cons_append, List.nil_append, List.replicate, Nat.zero_add, Nat.reduceAdd, Nat.reduceSub, List.set_cons_zero, List.set_cons_succ]
    cases ha : a.ev row <;> rw [ha] at ia <;> simp [n0, e0, e1, e2, q0, q1, q2, q3, ia, ib, Cnd.ev, ha]
  | n + 1, .or a b, ok, h => by
    have ia := holds_ok hrow hne hnm hw n a ok.1 (by simp only [Cnd.depth] at h; omega)
    have ib := holds_ok hrow hne hnm hw n b ok.2 (by simp only [Cnd.depth] at h; omega)
    have e0 : gIx (.tup [.str "or", a.d, b.d]) (.int 0) = some (.str "or") := id rfl
    have e1 : gIx (.tup [.str "or", a.d, b.d]) (.int 1) = some a.d := id rfl
    have e2 : gIx (.tup [.str "or", a.d, b.d]) (.int 2) = some b.d := id rfl
    have q0 := eq_lit ok_or ok_says (r := false) (by decide +kernel)
    have q1 := eq_lit ok_or ok_count (r := false) (by decide +kernel)
    have q2 := eq_lit ok_or ok_not (r := false) (by decide +kernel)
    have q3 := eq_lit ok_or ok_and (r := false) (by decide +kernel)
    have n0 := isN_tup (l := [.str "or", a.d, b.d])
    rw [m_holds_succ]
    refine call_rt ?_
    show b_holds (m_holds n) ([.tup [.str "or", a.d, b.d], _].map some ++ List.replicate (3 - [D.tup [.str "or", a.d, b.d], rowG row].length) none) = _
    rw [b_holds]
    generalize (.tup [.str "or", a.d, b.d] : D) = C at *
    generalize a.d = ad at *
    generalize b.d = bd at *
    generalize rowG row = R at *
    simp only [List.map_cons, List.map_nil, List.length_cons, List.length_nil, List.cons_append, List.nil_append, List.replicate, Nat.zero_add, Nat.reduceAdd, Nat.reduceSub, List.set_cons_zero, List.set_cons_succ]
    cases ha : a.ev row <;> rw [ha] at ia <;> simp [n0, e0, e1, e2, q0, q1, q2, q3, ia, ib, Cnd.ev, ha]
end TW
-- TWClause
namespace TW
open PySem PySem.Spec PyProof.Rows L2
theorem d3w (z k : Int) (h1 : 0 < k) (h2 : k < 100000) : gDiv (.int z) (.int k) = some (.int (z / k)) := gDiv_int h1 (Nat.lt_trans (log2_lt (k := 64) (show k.natAbs < 2 ^ 64 by omega) (by decide)) (by decide))
def Fine (hs : List Hand) (c : Cnd) : Prop := c.Ok hs ∧ (c.toks hs).length ≤ 34
section
variable {hs : List Hand} {rows : List (List Str)} {p : Nat}
structure Rws (hs : List Hand) (rows : List (List Str)) : Prop where
  many : rows.length ≤ 256
  of : ∀ r ∈ rows, RowOf hs r
  ne : ∀ r ∈ rows, r ≠ []
  nm : ∀ r ∈ rows, ∀ s ∈ r, IsName s
theorem rws_of (hh : HandsOk p hs) : Rws hs (rowsW (wordsOf hs)) where
  many := by rw [rowsW_len]; exact hh.many
  of := fun r hr => rowOf_mem hr
  ne := fun r hr e => by
    have := (rowOf_mem hr).1
    have := hh.lo
    rw [e] at *
    simp at *
    omega
  nm := fun r hr s hs' => by
    obtain ⟨k, hk, rfl⟩ := List.mem_iff_getElem.mp hs'
    have ro := rowOf_mem hr
    have hkl : k < hs.length := by rw [← ro.1]; exact hk
    have e : r[k] = wat r k := by
      have := wat_at hk
      rw [List.getElem?_eq_getElem hk] at this
      exact Option.some.inj this
    rw [e]
    exact (hh.ok _ (hat_mem hkl)).words.nm _ (ro.2 k hkl)
def clToks (hs : List Hand) (c : Cnd) (o : Str) : List Str := ("when" : Str) :: (c.toks hs ++ ([("deal" : Str), o] : List Str))
def ctext (hs : List Hand) : Option Cnd → Str → Str
  | some c, o => Txt.join " " (clToks hs c o)
  | none, o => "deal " ++ o
def ccond : Option Cnd → D
  | some c => c.d
  | none => .non
structure Clauses (hs : List Hand) (outs : List Str) (cl : List (Option Cnd × Str)) : Prop where
  split : ∃ (init : List (Cnd × Str)) (o : Str), cl = init.map (fun x : Cnd × Str => (some x.1, x.2)) ++ [(none, o)] ∧ init.length ≤ 18 ∧ o ∈ outs ∧ ∀ x ∈ init, Fine hs x.1 ∧ x.2 ∈ outs
theorem dig_cases {n : Nat} (h1 : 1 ≤ n) (h4 : n ≤ 4) : digS n = "1" ∧ n = 1 ∨ digS n = "2" ∧ n = 2 ∨ digS n = "3" ∧ n = 3 ∨ digS n = "4" ∧ n = 4 := by
  have : n = 1 ∨ n = 2 ∨ n = 3 ∨ n = 4 := by omega
  rcases this with rfl | rfl | rfl | rfl
  · exact .inl ⟨by decide +kernel, rfl⟩
  · exact .inr (.inl ⟨by decide +kernel, rfl⟩)
  · exact .inr (.inr (.inl ⟨by decide +kernel, rfl⟩))
  · exact .inr (.inr (.inr ⟨by decide +kernel, rfl⟩))
def Tok (s : Str) : Prop := 1 ≤ s.length ∧ s.length ≤ 8 ∧ ∀ c ∈ s.cps.toList, 48 ≤ c ∧ c < 123 ∧ c ≠ 59
theorem Tok.of {s : Str} (h : IsName s) : Tok s := ⟨h.lo, h.hi, fun c hc => by have := h.abc c hc; omega⟩
def tokB (s : Str) : Bool := decide (1 ≤ s.length) && decide (s.length ≤ 8) && s.cps.toList.all fun c => decide (48 ≤ c) && decide (c < 123) && decide (c ≠ 59)
theorem tok_of {s : Str} (h : tokB s = true) : Tok s := by
  unfold tokB at h
  simp only [Bool.and_eq_true, decide_eq_true_eq, List.all_eq_true] at h
  exact ⟨h.1.1, h.1.2, fun c hc => ⟨(h.2 c hc).1.1, (h.2 c hc).1.2, (h.2 c hc).2⟩⟩
theorem toks_tok (hh : HandsOk p hs) : ∀ c : Cnd, c.Ok hs → ∀ s ∈ c.toks hs, Tok s
  | .says k w, ok, s, h => by
    have o := hh.ok _ (hat_mem ok.1)
    rcases List.mem_cons.mp h with rfl | h
    · exact tok_of (by decide +kernel)
    · rcases List.mem_cons.mp h with rfl | h
      · exact .of o.name
      · rw [List.mem_singleton.mp h]
        exact .of (o.words.nm _ ok.2)
  | .count n w, ok, s, h => by
    obtain ⟨h1, h4, hd, hm, hw⟩ := ok
    rcases List.mem_cons.mp h with rfl | h
    · exact tok_of (by decide +kernel)
    · rcases List.mem_cons.mp h with rfl | h
      · rcases dig_cases h1 h4 with ⟨e, _⟩ | ⟨e, _⟩ | ⟨e, _⟩ | ⟨e, _⟩ <;> rw [e] <;> exact tok_of (by decide +kernel)
      · rw [List.mem_singleton.mp h]
        exact .of ((hh.ok _ hm).words.nm _ hw)
  | .neg c, ok, s, h => by
    rcases List.mem_cons.mp h with rfl | h
    · exact tok_of (by decide +kernel)
    · exact toks_tok hh c ok s h
  | .and a b, ok, s, h => by
    rcases List.mem_cons.mp h with rfl | h
    · exact tok_of (by decide +kernel)
    · rcases List.mem_append.mp h with h | h
      · exact toks_tok hh a ok.1 s h
      · exact toks_tok hh b ok.2 s h
  | .or a b, ok, s, h => by
    rcases List.mem_cons.mp h with rfl | h
    · exact tok_of (by decide +kernel)
    · rcases List.mem_append.mp h with h | h
      · exact toks_tok hh a ok.1 s h
      · exact toks_tok hh b ok.2 s h
theorem sum_le : ∀ {l : List Str} {m : Nat}, (∀ s ∈ l, s.length ≤ m) → (l.map (·.length)).sum ≤ l.length * m
  | [], _, _ => by simp
  | a :: l, m, h => by
    have := sum_le (l := l) fun s hs => h s (List.mem_cons_of_mem _ hs)
    have := h a List.mem_cons_self
    rw [List.map_cons, List.sum_cons, List.length_cons, Nat.add_mul]
    omega
theorem join_ok {sep : Str} {l : List Str} {m : Nat} (h : ∀ s ∈ l, s.length ≤ m) (hl : l.length < 1000) (hm : m < 10000) (hs : sep.length ≤ 10) : gJoin (.str sep) (namesD l) = some (.str (Txt.join sep l)) := by
  show (strsOf (l.map D.str)).bind (joinO sep) = _
  rw [strsOf_map]
  have a := sum_le h
  have b : l.length * m ≤ 1000 * 10000 := Nat.mul_le_mul (by omega) (by omega)
  have c : l.length * sep.length ≤ 1000 * 10 := Nat.mul_le_mul (by omega) hs
  exact if_pos (e := none) (show (l.map (·.length)).sum + l.length * sep.length ≤ 16777216 by omega)
end
end TW
-- TWLess
namespace TW
open PySem PySem.Spec PyProof.Rows L2
section
variable {hs : List Hand} {outs : List Str} {p : Nat} {row : List Str}
def made (k : Nat) (ws : List Str) (rs : List (List Str)) : List (List Str) := rs.flatMap fun r => ws.map fun w => ins k w r
end
end TW
-- TWMenu
namespace TW
open PySem PySem.Spec PyProof.Rows L2
structure IsPick (p : Nat) (P : Nat → Prop) (f : Nat → Int) (b : Nat) : Prop where
  lt : b < p
  on : P b
  most : ∀ j, j < p → P j → f j ≤ f b ∧ (f j = f b → b ≤ j)
section
variable {hs : List Hand} {outs : List Str} {p k : Nat}
end
end TW
-- TWParse
namespace TW
open PySem PySem.Spec PyProof.Rows L2
section
variable {hs : List Hand} {outs : List Str} {p : Nat}
theorem word_at_ok {L : List Str} {i : Nat} {s : Str} (h : L[i]? = some s) : m_word_at [namesD L, .int i] = .ok (.str s) := by
  have ln := len_names (ss := L)
  have ix := names_ix h
  have hi : ¬ (L.length : Int) ≤ i := by have := (List.getElem?_eq_some_iff.mp h).1; omega
  rw [m_word_at]
  refine call_rt ?_
  rw [b_word_at]
  simp only [List.map_cons, List.map_nil, List.length_cons, List.length_nil, List.cons_append, List.nil_append, List.replicate, Nat.zero_add, Nat.reduceAdd, Nat.reduceSub, List.set_cons_zero, List.set_cons_succ]
  simp [ln, ix, hi]
theorem enum_hands : iSqE (.tup (hs.map Hand.m)) = some ((List.range hs.length).map fun i : Nat => .tup [.int i, (hat hs i).m]) := by
  show some (enumL 0 (hs.map Hand.m)) = _
  congr 1
  refine List.ext_getElem? fun i => ?_
  rw [enumL_get, List.getElem?_map, List.getElem?_map, Nat.zero_add]
  by_cases h : i < hs.length
  · rw [hat_at h, List.getElem?_range h]; rfl
  · rw [List.getElem?_eq_none (by omega), List.getElem?_eq_none (by simpa using h)]; rfl
theorem in_words {l : List Str} {s : Str} : gIn (.str s) (.ftup (l.map D.str)) = some (.bl (decide (s ∈ l))) := by
  show ((strsOf (l.map D.str)).map fun ss => D.bl (ss.any (· == s))) = _
  rw [strsOf_map]
  show some (D.bl _) = _
  congr 2
  by_cases h : s ∈ l
  · rw [decide_eq_true h]
    exact List.any_eq_true.mpr ⟨s, h, beq_self_eq_true s⟩
  · rw [decide_eq_false h]
    refine Bool.eq_false_iff.mpr fun q => ?_
    obtain ⟨y, hy, e⟩ := List.any_eq_true.mp q
    exact h (eq_of_beq e ▸ hy)
theorem saying_ok (hh : HandsOk p hs) {L : List Str} {i k : Nat} {w : Str} (hk : k < hs.length) (hw : w ∈ (hat hs k).words) (h1 : L[i + 1]? = some (hat hs k).name) (h2 : L[i + 2]? = some w) : m_saying [houseD outs hs, namesD L, .int i] = .ok (.tup [(Cnd.says k w).d, .int ((i + 3 : Nat) : Int)]) := by
  have w1 := word_at_ok h1
  have w2 := word_at_ok h2
  have i1 : gIx (houseD outs hs) (.int 1) = some (.tup (hs.map Hand.m)) := id rfl
  have en := enum_hands (hs := hs)
  have m0 : ∀ h : Hand, gIx h.m (.int 0) = some (.str h.name) := fun h => id rfl
  have m1' : ∀ h : Hand, gIx h.m (.int 1) = some (.ftup (h.words.map D.str)) := fun h => id rfl
  have nmk := (hh.ok _ (hat_mem hk)).name
  have eqn : ∀ j, j < hs.length → gEq (.str (hat hs j).name) (.str (hat hs k).name) = some (.bl (decide (j = k))) := fun j hj => by
    rw [gEq_str (hh.ok _ (hat_mem hj)).name.ok nmk.ok]
    congr 2
    by_cases e : j = k
    · subst e; simp
    · rw [decide_eq_false e]
      refine decide_eq_false fun q => e ?_
      have nd := hh.nd
      have pw := List.pairwise_iff_getElem.mp nd
      have gj : (hs.map Hand.name)[j]'(by simpa using hj) = (hat hs j).name := by
        rw [List.getElem_map]
        have := hat_at hj
        rw [List.getElem?_eq_getElem hj] at this
        rw [Option.some.inj this]
      have gk : (hs.map Hand.name)[k]'(by simpa using hk) = (hat hs k).name := by
        rw [List.getElem_map]
        have := hat_at hk
        rw [List.getElem?_eq_getElem hk] at this
        rw [Option.some.inj this]
      rcases Nat.lt_or_gt_of_ne e with lt | lt
      · exact absurd (by rw [gj, gk, q]) (pw j k (by simpa using hj) (by simpa using hk) lt)
      · exact absurd (by rw [gj, gk, q]) (pw k j (by simpa using hk) (by simpa using hj) lt)
  have inw : gIn (.str w) (.ftup ((hat hs k).words.map D.str)) = some (.bl true) := by rw [in_words, decide_eq_true hw]
  have t3 : ∀ a b c : D, gTup [a, b, c] = some (.tup [a, b, c]) := tup3
  have t2' : ∀ a b : D, gTup [a, b] = some (.tup [a, b]) := tup2
  have cast1 : ((i : Int) + 1) = ((i + 1 : Nat) : Int) := by omega
  have cast2 : ((i : Int) + 2) = ((i + 2 : Nat) : Int) := by omega
  rw [m_saying]
  refine call_rt ?_
  rw [b_saying]
  generalize houseD outs hs = H at *
  generalize namesD L = LD at *
  simp only [List.map_cons, List.map_nil, List.length_cons, List.length_nil, List.cons_append, List.nil_append, List.replicate, Nat.zero_add, Nat.reduceAdd, Nat.reduceSub, List.set_cons_zero, List.set_cons_succ]
  rw [seq_set (d := .str (hat hs k).name) (by simp only [mArgs_eq, mA1_eq, mA0_eq, mVar_eq, mC_eq, m2_eq, List.getElem?_cons_zero, List.getElem?_cons_succ, Res.bind_ok, gAdd_int, ofO_some, cast1, w1])]
  simp only [List.map_cons, List.map_nil, List.length_cons, List.length_nil, List.cons_append, List.nil_append, List.replicate, Nat.zero_add, Nat.reduceAdd, Nat.reduceSub, List.set_cons_zero, List.set_cons_succ]
  rw [seq_set (d := .str w) (by simp only [mArgs_eq, mA1_eq, mA0_eq, mVar_eq, mC_eq, m2_eq, List.getElem?_cons_zero, List.getElem?_cons_succ, Res.bind_ok, gAdd_int, ofO_some, cast2, w2])]
  simp only [List.map_cons, List.map_nil, List.length_cons, List.length_nil, List.cons_append, List.nil_append, List.replicate, Nat.zero_add, Nat.reduceAdd, Nat.reduceSub, List.set_cons_zero, List.set_cons_succ]
  rw [sSeq_eq]
  generalize hb : sIf _ _ _ = b
  rw [sFor_L (ds := (List.range hs.length).map fun i : Nat => .tup [.int i, (hat hs i).m]) (by simp [i1, en])]
  obtain ⟨x5, x6, e⟩ : ∃ x5 x6, forL (tgT [5, 6]) b ((List.range k).map fun i : Nat => .tup [.int i, (hat hs i).m]) [some H, some LD, some (.int i), some (.str (hat hs k).name), some (.str w), none, none] = .nx [some H, some LD, some (.int i), some (.str (hat hs k).name), some (.str w), x5, x6] := by
    obtain ⟨ρ', e, x5, x6, rfl⟩ := for_l (f := tgT [5, 6]) (m := fun _ => .ok ((List.range k).map fun i : Nat => .tup [.int i, (hat hs i).m])) (b := b) (ρ := [some H, some LD, some (.int i), some (.str (hat hs k).name), some (.str w), none, none])
      (fun _ ρ => ∃ x5 x6, ρ = [some H, some LD, some (.int i), some (.str (hat hs k).name), some (.str w), x5, x6]) _ rfl ⟨_, _, rfl⟩ (by
        rintro j d ρ hd ⟨x5, x6, rfl⟩
        subst hb
        have hj : j < k := by
          have := (List.getElem?_eq_some_iff.mp hd).1
          simpa using this
        rw [List.getElem?_map, List.getElem?_range hj] at hd
        cases hd
        have eq := eqn j (by omega)
        rw [decide_eq_false (show ¬ j = k by omega)] at eq
        exact ⟨[some H, some LD, some (.int i), some (.str (hat hs k).name), some (.str w), some (.int j), some (hat hs j).m], [some H, some LD, some (.int i), some (.str (hat hs k).name), some (.str w), some (.int j), some (hat hs j).m], rfl, by simp [m0, eq], _, _, rfl⟩)
    rw [sFor_L rfl] at e
    exact ⟨x5, x6, e⟩
  have sp : (List.range hs.length).map (fun i : Nat => D.tup [.int i, (hat hs i).m]) = (List.range k).map (fun i : Nat => D.tup [.int i, (hat hs i).m]) ++ D.tup [.int k, (hat hs k).m] :: ((List.range hs.length).drop (k + 1)).map fun i : Nat => D.tup [.int i, (hat hs i).m] := by
    have : List.range hs.length = List.range k ++ k :: (List.range hs.length).drop (k + 1) := by
      have h1 := List.take_append_drop k (List.range hs.length)
      rw [List.take_range, Nat.min_eq_left (by omega)] at h1
      have h2 : (List.range hs.length).drop k = k :: (List.range hs.length).drop (k + 1) := by
        rw [List.drop_eq_getElem_cons (by simpa using hk), List.getElem_range]
      rw [h2] at h1
      exact h1.symm
    conv => lhs; rw [this]
    rw [List.map_append, List.map_cons]
  rw [sp]
  have fa : ∀ (A B : List D) (ρ ρ' : Rho), forL (tgT [5, 6]) b A ρ = .nx ρ' → forL (tgT [5, 6]) b (A ++ B) ρ = forL (tgT [5, 6]) b B ρ' := by
    intro A
    induction A with
    | nil => intro B ρ ρ' h; cases h; rfl
    | cons d A ih =>
      intro B ρ ρ' h
      have u : ∀ (l : List D), forL (tgT [5, 6]) b (d :: l) ρ = match tgT [5, 6] d ρ with | some ρ' => (b ρ').bind (forL (tgT [5, 6]) b l) | none => .stuck := fun l => id rfl
      rw [List.cons_append, u]
      rw [u] at h
      cases e : tgT [5, 6] d ρ with
      | none => rw [e] at h; cases h
      | some ρ1 =>
        rw [e] at h
        dsimp only at h ⊢
        cases e2 : b ρ1 with
        | nx ρ2 =>
          rw [e2, Out.nx_bind] at h
          rw [Out.nx_bind]
          exact ih B ρ2 ρ' h
        | _ => rw [e2] at h; cases h
  rw [fa _ _ _ _ e]
  have u : ∀ (l : List D), forL (tgT [5, 6]) b (.tup [.int k, (hat hs k).m] :: l) [some H, some LD, some (.int i), some (.str (hat hs k).name), some (.str w), x5, x6] = (b [some H, some LD, some (.int i), some (.str (hat hs k).name), some (.str w), some (.int k), some (hat hs k).m]).bind (forL (tgT [5, 6]) b l) := fun l => id rfl
  rw [u, ← hb]
  have eq := eqn k hk
  rw [decide_eq_true rfl] at eq
  simp [m0, m1', eq, inw, t3, t2', Cnd.d]
theorem counting_ok (hh : HandsOk p hs) {L : List Str} {i n : Nat} {w : Str} (n1 : 1 ≤ n) (n4 : n ≤ 4) (hw : ∃ h ∈ hs, w ∈ h.words) (h1 : L[i + 1]? = some (digS n)) (h2 : L[i + 2]? = some w) : m_counting [houseD outs hs, namesD L, .int i] = .ok (.tup [(Cnd.count n w).d, .int ((i + 3 : Nat) : Int)]) := by
  have w1 := word_at_ok h1
  have w2 := word_at_ok h2
  have i1 : gIx (houseD outs hs) (.int 1) = some (.tup (hs.map Hand.m)) := id rfl
  have m1' : ∀ h : Hand, gIx h.m (.int 1) = some (.ftup (h.words.map D.str)) := fun h => id rfl
  have four : gLst [.str "1", .str "2", .str "3", .str "4"] = some (namesD ["1", "2", "3", "4"]) := gLst_eq (show 4 ≤ sizeLine by decide)
  have nin : gNin (.str (digS n)) (namesD ["1", "2", "3", "4"]) = some (.bl false) := by
    have pl2 : ∀ s : Str, PyData.strOk s = true → ([PyData.str "1", PyData.str "2", PyData.str "3", PyData.str "4"].any fun z => PyData.eqv z (.str s)) = true → gNin (.str s) (namesD ["1", "2", "3", "4"]) = some (.bl false) := fun s h1 h2 => by
      show (gIn (.str s) (.lst [.str "1", .str "2", .str "3", .str "4"])).bind _ = _
      have e1 : gIn (.str s) (.lst [.str "1", .str "2", .str "3", .str "4"]) = some (.bl ([PyData.str "1", PyData.str "2", PyData.str "3", PyData.str "4"].any fun z => PyData.eqv z (.str s))) := by
        show (if SeqAt.shaped (.str s) = true ∧ SeqAt.shaped (.list [.str "1", .str "2", .str "3", .str "4"]) = true then some (D.bl ([PyData.str "1", PyData.str "2", PyData.str "3", PyData.str "4"].any fun z => PyData.eqv z (.str s))) else none) = _
        rw [if_pos ⟨Bool.and_eq_true_iff.mpr ⟨h1, decide_eq_true (by simp [PyData.depth])⟩, by decide +kernel⟩]
      rw [e1, h2]; rfl
    rcases dig_cases n1 n4 with ⟨e, _⟩ | ⟨e, _⟩ | ⟨e, _⟩ | ⟨e, _⟩ <;> rw [e] <;> exact pl2 _ (by decide +kernel) (by decide +kernel)
  have gi : gIntS [.str (digS n)] = some (.int n) := by
    have key : ∀ s : Str, ∀ m : Int, s.length ≤ 640 → PySem.intText? s = some m → gIntS [.str s] = some (.int m) := fun s m h1 h2 => by
      show (if s.length ≤ 640 then (PySem.intText? s).map D.int else none) = _
      rw [if_pos h1, h2]; rfl
    rcases dig_cases n1 n4 with ⟨e, e2⟩ | ⟨e, e2⟩ | ⟨e, e2⟩ | ⟨e, e2⟩ <;> rw [e, e2] <;> exact key _ _ (by decide +kernel) (by decide +kernel)
  have t3 : ∀ a b c : D, gTup [a, b, c] = some (.tup [a, b, c]) := tup3
  have t2' : ∀ a b : D, gTup [a, b] = some (.tup [a, b]) := tup2
  have cast1 : ((i : Int) + 1) = ((i + 1 : Nat) : Int) := by omega
  have cast2 : ((i : Int) + 2) = ((i + 2 : Nat) : Int) := by omega
  rw [m_counting]
  refine call_rt ?_
  rw [b_counting]
  generalize houseD outs hs = H at *
  generalize namesD L = LD at *
  generalize namesD ["1", "2", "3", "4"] = FD at *
  generalize digS n = dg at *
  simp only [List.map_cons, List.map_nil, List.length_cons, List.length_nil, List.cons_append, List.nil_append, List.replicate, Nat.zero_add, Nat.reduceAdd, Nat.reduceSub, List.set_cons_zero, List.set_cons_succ]
  rw [seq_set (d := .str dg) (by simp only [mArgs_eq, mA1_eq, mA0_eq, mVar_eq, mC_eq, m2_eq, List.getElem?_cons_zero, List.getElem?_cons_succ, Res.bind_ok, gAdd_int, ofO_some, cast1, w1])]
  simp only [List.map_cons, List.map_nil, List.length_cons, List.length_nil, List.cons_append, List.nil_append, List.replicate, Nat.zero_add, Nat.reduceAdd, Nat.reduceSub, List.set_cons_zero, List.set_cons_succ]
  rw [seq_set (d := .str w) (by simp only [mArgs_eq, mA1_eq, mA0_eq, mVar_eq, mC_eq, m2_eq, List.getElem?_cons_zero, List.getElem?_cons_succ, Res.bind_ok, gAdd_int, ofO_some, cast2, w2])]
  simp only [List.map_cons, List.map_nil, List.length_cons, List.length_nil, List.cons_append, List.nil_append, List.replicate, Nat.zero_add, Nat.reduceAdd, Nat.reduceSub, List.set_cons_zero, List.set_cons_succ]
  rw [sSeq_eq, show sIf (mT (m2 gNin (mVar 3) (mL gLst (mA1 (mC (.str "1")) (mA1 (mC (.str "2")) (mA1 (mC (.str "3")) (mA1 (mC (.str "4")) (mA0)))))))) (sDead) (sNil) [some H, some LD, some (.int i), some (.str dg), some (.str w), none] = .nx [some H, some LD, some (.int i), some (.str dg), some (.str w), none] from by simp [four, nin], Out.nx_bind, sSeq_eq]
  generalize hb : sIf _ _ _ = b
  have itr : iLoc (.tup (hs.map Hand.m)) = some (hs.map Hand.m) := id rfl
  rw [sFor_L (ds := hs.map Hand.m) (by simp [i1, itr])]
  have main : ∀ (l : List Hand), (∃ h ∈ l, w ∈ h.words) → ∀ x5 : Option D, forL (tgN 5) b (l.map Hand.m) [some H, some LD, some (.int i), some (.str dg), some (.str w), x5] = .rt (.tup [(Cnd.count n w).d, .int ((i + 3 : Nat) : Int)]) := by
    intro l
    induction l with
    | nil => rintro ⟨h, hm, _⟩; cases hm
    | cons g l ih =>
      rintro ⟨h, hm, hw⟩ x5
      have u : forL (tgN 5) b ((g :: l).map Hand.m) [some H, some LD, some (.int i), some (.str dg), some (.str w), x5] = (b [some H, some LD, some (.int i), some (.str dg), some (.str w), some g.m]).bind (forL (tgN 5) b (l.map Hand.m)) := id rfl
      rw [u]
      by_cases q : w ∈ g.words
      · have inw : gIn (.str w) (.ftup (g.words.map D.str)) = some (.bl true) := by rw [in_words, decide_eq_true q]
        rw [← hb]
        simp [m1', inw, gi, t3, t2', Cnd.d]
      · have inw : gIn (.str w) (.ftup (g.words.map D.str)) = some (.bl false) := by rw [in_words, decide_eq_false q]
        have e : b [some H, some LD, some (.int i), some (.str dg), some (.str w), some g.m] = .nx [some H, some LD, some (.int i), some (.str dg), some (.str w), some g.m] := by
          rw [← hb]
          simp [m1', inw]
        rw [e, Out.nx_bind]
        refine ih ?_ _
        rcases List.mem_cons.mp hm with rfl | hm
        · exact absurd hw q
        · exact ⟨h, hm, hw⟩
  rw [main hs hw]
  rfl
end
end TW
-- TWRead
namespace TW
open PySem PySem.Spec PyProof.Rows L2
section
variable {hs : List Hand} {outs : List Str} {p : Nat}
theorem m_condition_at_succ {n : Nat} : m_condition_at (n + 1) = callM 7 (b_condition_at (m_condition_at n)) := id rfl
theorem condition_at_ok (hh : HandsOk p hs) {L : List Str} : ∀ (n : Nat) (c : Cnd), c.Ok hs → c.depth ≤ n → ∀ i : Nat, (∀ j s, (c.toks hs)[j]? = some s → L[i + j]? = some s) → m_condition_at n [houseD outs hs, namesD L, .int i] = .ok (.tup [c.d, .int ((i + (c.toks hs).length : Nat) : Int)]) := by
  have t3 : ∀ a b c : D, gTup [a, b, c] = some (.tup [a, b, c]) := tup3
  have t2' : ∀ a b : D, gTup [a, b] = some (.tup [a, b]) := tup2
  intro n
  induction n with
  | zero => intro c _ hd; cases c <;> simp [Cnd.depth] at hd
  | succ n ih =>
    intro c ok hd i hL
    have cast1 : ((i : Int) + 1) = ((i + 1 : Nat) : Int) := by omega
    rw [m_condition_at_succ]
    refine call_rt ?_
    rw [b_condition_at]
    cases c with
    | says k w =>
      have h0 := hL 0 "says" rfl
      have h1 := hL 1 (hat hs k).name rfl
      have h2 := hL 2 w rfl
      rw [Nat.add_zero] at h0
      have w0 := word_at_ok h0
      have sy := saying_ok (outs := outs) hh ok.1 ok.2 h1 h2
      have q1 := eq_lit ok_says ok_says (r := true) (by decide)
      show _ = Out.rt (.tup [(Cnd.says k w).d, .int ((i + 3 : Nat) : Int)])
      generalize houseD outs hs = H at *
      generalize namesD L = LD at *
      generalize (Cnd.says k w).d = CD at *
      simp only [List.map_cons, List.map_nil, List.length_cons, List.length_nil, List.cons_append, List.nil_append, List.replicate, Nat.zero_add, Nat.reduceAdd, Nat.reduceSub, List.set_cons_zero, List.set_cons_succ]
      rw [seq_set (d := .str "says") (by simp [w0])]
      simp only [List.map_cons, List.map_nil, List.length_cons, List.length_nil, List.cons_append, List.nil_append, List.replicate, Nat.zero_add, Nat.reduceAdd, Nat.reduceSub, List.set_cons_zero, List.set_cons_succ]
      simp [q1, sy]
    | count k w =>
      have h0 := hL 0 "count" rfl
      have h1 := hL 1 (digS k) rfl
      have h2 := hL 2 w rfl
      rw [Nat.add_zero] at h0
      have w0 := word_at_ok h0
      have sy := counting_ok (outs := outs) hh ok.1 ok.2.1 (by obtain ⟨h, hm, hw⟩ := ok.2.2; exact ⟨h, hm, hw⟩) h1 h2
      have q1 := eq_lit ok_count ok_says (r := false) (by decide +kernel)
      have q2 := eq_lit ok_count ok_count (r := true) (by decide)
      show _ = Out.rt (.tup [(Cnd.count k w).d, .int ((i + 3 : Nat) : Int)])
      generalize houseD outs hs = H at *
      generalize namesD L = LD at *
      generalize (Cnd.count k w).d = CD at *
      simp only [List.map_cons, List.map_nil, List.length_cons, List.length_nil, List.cons_append, List.nil_append, List.replicate, Nat.zero_add, Nat.reduceAdd, Nat.reduceSub, List.set_cons_zero, List.set_cons_succ]
      rw [seq_set (d := .str "count") (by simp [w0])]
      simp only [List.map_cons, List.map_nil, List.length_cons, List.length_nil, List.cons_append, List.nil_append, List.replicate, Nat.zero_add, Nat.reduceAdd, Nat.reduceSub, List.set_cons_zero, List.set_cons_succ]
      simp [q1, q2, sy]
    | neg a =>
      have h0 := hL 0 "not" rfl
      rw [Nat.add_zero] at h0
      have w0 := word_at_ok h0
      have r1 := ih a ok (by simp only [Cnd.depth] at hd; omega) (i + 1) (fun j s e => by
        have := hL (j + 1) s (by simpa [Cnd.toks] using e)
        rw [← this]; congr 1; omega)
      have q1 := eq_lit ok_not ok_says (r := false) (by decide +kernel)
      have q2 := eq_lit ok_not ok_count (r := false) (by decide +kernel)
      have q3 := eq_lit ok_not ok_not (r := true) (by decide)
      have el : i + 1 + (a.toks hs).length = i + ((Cnd.neg a).toks hs).length := by simp only [Cnd.toks, List.length_cons]; omega
      rw [el] at r1
      show _ = Out.rt (.tup [.tup [.str "not", a.d], _])
      generalize houseD outs hs = H at *
      generalize namesD L = LD at *
      generalize a.d = AD at *
      generalize (i + ((Cnd.neg a).toks hs).length) = e at *
      simp only [List.map_cons, List.map_nil, List.length_cons, List.length_nil, List.cons_append, List.nil_append, List.replicate, Nat.zero_add, Nat.reduceAdd, Nat.reduceSub, List.set_cons_zero, List.set_cons_succ]
      rw [seq_set (d := .str "not") (by simp [w0])]
      simp only [List.map_cons, List.map_nil, List.length_cons, List.length_nil, List.cons_append, List.nil_append, List.replicate, Nat.zero_add, Nat.reduceAdd, Nat.reduceSub, List.set_cons_zero, List.set_cons_succ]
      simp [q1, q2, q3]
      simp only [cast1, r1]
      simp [t2']
    | and a b =>
      have h0 := hL 0 "and" rfl
      rw [Nat.add_zero] at h0
      have w0 := word_at_ok h0
      have dd : a.depth ≤ n ∧ b.depth ≤ n := by simp only [Cnd.depth] at hd; omega
      have r1 := ih a ok.1 dd.1 (i + 1) (fun j s e => by
        have hj := (List.getElem?_eq_some_iff.mp e).1
        have := hL (j + 1) s (by show ((a.toks hs ++ b.toks hs))[j]? = _; rw [List.getElem?_append_left hj]; exact e)
        rw [← this]; congr 1; omega)
      have r2 := ih b ok.2 dd.2 (i + 1 + (a.toks hs).length) (fun j s e => by
        have := hL ((a.toks hs).length + j + 1) s (by show ((a.toks hs ++ b.toks hs))[(a.toks hs).length + j]? = _; rw [List.getElem?_append_right (by omega), Nat.add_sub_cancel_left]; exact e)
        rw [← this]; congr 1; omega)
      have q1 := eq_lit ok_and ok_says (r := false) (by decide +kernel)
      have q2 := eq_lit ok_and ok_count (r := false) (by decide +kernel)
      have q3 := eq_lit ok_and ok_not (r := false) (by decide +kernel)
      have q4 := eq_lit ok_and ok_and (r := true) (by decide)
      have el : i + 1 + (a.toks hs).length + (b.toks hs).length = i + ((Cnd.and a b).toks hs).length := by simp only [Cnd.toks, List.length_cons, List.length_append]; omega
      rw [el] at r2
      show _ = Out.rt (.tup [.tup [.str "and", a.d, b.d], _])
      generalize houseD outs hs = H at *
      generalize namesD L = LD at *
      generalize a.d = AD at *
      generalize b.d = BD at *
      generalize (i + ((Cnd.and a b).toks hs).length) = e at *
      generalize (i + 1 + (a.toks hs).length) = e1 at *
      simp only [List.map_cons, List.map_nil, List.length_cons, List.length_nil, List.cons_append, List.nil_append, List.replicate, Nat.zero_add, Nat.reduceAdd, Nat.reduceSub, List.set_cons_zero, List.set_cons_succ]
      rw [seq_set (d := .str "and") (by simp [w0])]
      simp only [List.map_cons, List.map_nil, List.length_cons, List.length_nil, List.cons_append, List.nil_append, List.replicate, Nat.zero_add, Nat.reduceAdd, Nat.reduceSub, List.set_cons_zero, List.set_cons_succ]
      simp [q1, q2, q3, q4]
      simp only [cast1, r1]
      simp [t3, r2, t2']
    | or a b =>
      have h0 := hL 0 "or" rfl
      rw [Nat.add_zero] at h0
      have w0 := word_at_ok h0
      have dd : a.depth ≤ n ∧ b.depth ≤ n := by simp only [Cnd.depth] at hd; omega
      have r1 := ih a ok.1 dd.1 (i + 1) (fun j s e => by
        have hj := (List.getElem?_eq_some_iff.mp e).1
        have := hL (j + 1) s (by show ((a.toks hs ++ b.toks hs))[j]? = _; rw [List.getElem?_append_left hj]; exact e)
        rw [← this]; congr 1; omega)
      have r2 := ih b ok.2 dd.2 (i + 1 + (a.toks hs).length) (fun j s e => by
        have := hL ((a.toks hs).length + j + 1) s (by show ((a.toks hs ++ b.toks hs))[(a.toks hs).length + j]? = _; rw [List.getElem?_append_right (by omega), Nat.add_sub_cancel_left]; exact e)
        rw [← this]; congr 1; omega)
      have q1 := eq_lit ok_or ok_says (r := false) (by decide +kernel)
      have q2 := eq_lit ok_or ok_count (r := false) (by decide +kernel)
      have q3 := eq_lit ok_or ok_not (r := false) (by decide +kernel)
      have q4 := eq_lit ok_or ok_and (r := false) (by decide +kernel)
      have q5 := eq_lit ok_or ok_or (r := true) (by decide)
      have el : i + 1 + (a.toks hs).length + (b.toks hs).length = i + ((Cnd.or a b).toks hs).length := by simp only [Cnd.toks, List.length_cons, List.length_append]; omega
      rw [el] at r2
      show _ = Out.rt (.tup [.tup [.str "or", a.d, b.d], _])
      generalize houseD outs hs = H at *
      generalize namesD L = LD at *
      generalize a.d = AD at *
      generalize b.d = BD at *
      generalize (i + ((Cnd.or a b).toks hs).length) = e at *
      generalize (i + 1 + (a.toks hs).length) = e1 at *
      simp only [List.map_cons, List.map_nil, List.length_cons, List.length_nil, List.cons_append, List.nil_append, List.replicate, Nat.zero_add, Nat.reduceAdd, Nat.reduceSub, List.set_cons_zero, List.set_cons_succ]
      rw [seq_set (d := .str "or") (by simp [w0])]
      simp only [List.map_cons, List.map_nil, List.length_cons, List.length_nil, List.cons_append, List.nil_append, List.replicate, Nat.zero_add, Nat.reduceAdd, Nat.reduceSub, List.set_cons_zero, List.set_cons_succ]
      simp [q1, q2, q3, q4, q5]
      simp only [cast1, r1]
      simp [t3, r2, t2']
theorem join_len (y : Str) : ∀ l : List Str, (Txt.join y l).length ≤ (l.map (·.length)).sum + l.length * y.length := by
  intro l
  rw [TL.join_eq, TL.len_tl, TL.tl_join]
  induction l with
  | nil => simp [TL.joinL]
  | cons a l ih =>
    cases l with
    | nil => simp [TL.joinL, TL.len_tl]
    | cons b l =>
      show (TL.tl a ++ (TL.tl y ++ TL.joinL (TL.tl y) ((b :: l).map TL.tl))).length ≤ (a.length + ((b :: l).map (·.length)).sum) + ((b :: l).length + 1) * y.length
      rw [List.length_append, List.length_append, Nat.add_mul]
      have h1 := TL.len_tl a
      have h2 := TL.len_tl y
      omega
theorem mem_joinL {S : List Nat} {x : Nat} : ∀ {l : List (List Nat)}, x ∈ TL.joinL S l → x ∈ S ∨ ∃ p ∈ l, x ∈ p
  | [], h => by simp [TL.joinL] at h
  | [p], h => .inr ⟨p, List.mem_cons_self, h⟩
  | p :: q :: r, h => by
    have h : x ∈ p ++ (S ++ TL.joinL S (q :: r)) := h
    rcases List.mem_append.mp h with h | h
    · exact .inr ⟨p, List.mem_cons_self, h⟩
    · rcases List.mem_append.mp h with h | h
      · exact .inl h
      · rcases mem_joinL h with h | ⟨z, hz, h⟩
        · exact .inl h
        · exact .inr ⟨z, List.mem_cons_of_mem _ hz, h⟩
theorem split_toks {l : List Str} (hl : l ≠ []) (hn : l.length < 1000) (h : ∀ s ∈ l, Tok s) : gSplit (.str (Txt.join " " l)) (.str " ") = some (namesD l) := by
  have a := sum_le (m := 8) fun s hs => (h s hs).2.1
  have b := join_len " " l
  rw [show (" " : Str).length = 1 by decide +kernel] at b
  have c : Txt.split (Txt.join " " l) " " = l := TL.split_join (s := 32) (S := []) (by decide +kernel) (by decide +kernel) hl fun p hp q => by
    have := (h p hp).2.2 32 q
    omega
  have e : gSplit (.str (Txt.join " " l)) (.str " ") = some (.lst ((Txt.split (Txt.join " " l) " ").map .str)) := if_pos (e := none) ⟨by decide +kernel, by
    show (Txt.join " " l).length + 2 ≤ 16777216
    omega⟩
  rw [e, c]; rfl
theorem deal_join {o : Str} : ("deal " ++ o : Str) = Txt.join " " [("deal" : Str), o] := by
  refine TL.ext_tl ?_
  rw [TL.join_eq, TL.tl_join, TL.tl_append]
  show TL.tl "deal " ++ TL.tl o = TL.tl "deal" ++ (TL.tl " " ++ TL.tl o)
  rw [← List.append_assoc]
  congr 1
theorem ok_when : PyData.strOk "when" = true := by decide +kernel
theorem ok_deal : PyData.strOk "deal" = true := by decide +kernel
theorem tok_when : Tok "when" := tok_of (by decide +kernel)
theorem tok_deal : Tok "deal" := tok_of (by decide +kernel)
theorem ne_lit {a b : Str} (ha : PyData.strOk a = true) (hb : PyData.strOk b = true) {r : Bool} (h : decide (a = b) = r) : gNe (.str a) (.str b) = some (.bl (!r)) := by rw [gNe_str ha hb, h]
def ruleD (x : Option Cnd × Str) : D := .tup [ccond x.1, .str x.2]
theorem nin_words {l : List Str} {s : Str} (h : s ∈ l) : gNin (.str s) (.ftup (l.map D.str)) = some (.bl false) := by
  show (gIn (.str s) (.ftup (l.map D.str))).bind _ = _
  rw [in_words, decide_eq_true h]; rfl
theorem clause_some (hh : HandsOk p hs) (ao : AreNames outs 8) {c : Cnd} {o : Str} (fc : Fine hs c) (ho : o ∈ outs) : m_clause_of [houseD outs hs, .str (ctext hs (some c) o), .bl false] = .ok (ruleD (some c, o)) := by
  have tk : ∀ s ∈ clToks hs c o, Tok s := fun s h => by
    rcases List.mem_cons.mp h with rfl | h
    · exact tok_when
    · rcases List.mem_append.mp h with h | h
      · exact toks_tok hh c fc.1 s h
      · rcases List.mem_cons.mp h with rfl | h
        · exact tok_deal
        · rw [List.mem_singleton.mp h]; exact .of (ao.nm _ ho)
  have ll : (clToks hs c o).length = (c.toks hs).length + 3 := by unfold clToks; simp
  have f2 := fc.2
  have sp := split_toks (l := clToks hs c o) (by unfold clToks; simp) (by omega) tk
  have ln := len_names (ss := clToks hs c o)
  have x0 : gIx (namesD (clToks hs c o)) (.int 0) = some (.str "when") := names_ix (k := 0) rfl
  have xm : (clToks hs c o)[(c.toks hs).length + 1]? = some "deal" := by
    show (c.toks hs ++ ([("deal" : Str), o] : List Str))[(c.toks hs).length]? = _
    rw [List.getElem?_append_right (by omega), Nat.sub_self]; rfl
  have xo : (clToks hs c o)[(c.toks hs).length + 2]? = some o := by
    show (c.toks hs ++ ([("deal" : Str), o] : List Str))[(c.toks hs).length + 1]? = _
    rw [List.getElem?_append_right (by omega), Nat.add_sub_cancel_left]; rfl
  have ixm := names_ix xm
  have ixo := names_ix xo
  have dp := Cnd.depth_le (hs := hs) c
  have ca := condition_at_ok (outs := outs) hh (L := clToks hs c o) 60 c fc.1 (by omega) 1 (fun j s e => by
    have hj := (List.getElem?_eq_some_iff.mp e).1
    rw [Nat.add_comm]
    show (c.toks hs ++ ([("deal" : Str), o] : List Str))[j]? = _
    rw [List.getElem?_append_left hj]; exact e)
  have h0 : gIx (houseD outs hs) (.int 0) = some (.ftup (outs.map D.str)) := id rfl
  have nn := nin_words ho
  have qw := ne_lit ok_when ok_when (r := true) (by decide)
  have qd := ne_lit ok_deal ok_deal (r := true) (by decide)
  have t2' : ∀ a b : D, gTup [a, b] = some (.tup [a, b]) := tup2
  rw [m_clause_of]
  refine call_rt ?_
  rw [b_clause_of]
  show _ = Out.rt (.tup [c.d, .str o])
  rw [show ctext hs (some c) o = Txt.join " " (clToks hs c o) from rfl]
  generalize houseD outs hs = H at *
  generalize Txt.join " " (clToks hs c o) = TX at *
  generalize hLD : namesD (clToks hs c o) = LD at *
  generalize c.d = CD at *
  generalize (D.ftup (outs.map D.str)) = OD at *
  rw [ll] at ln
  generalize (c.toks hs).length = n at *
  have cs1 : ((1 + n : Nat) : Int) = ((n + 1 : Nat) : Int) := by omega
  have cs2 : ((n + 1 : Nat) : Int) + 1 = ((n + 2 : Nat) : Int) := by omega
  have cs3 : ((n + 1 : Nat) : Int) + 2 = ((n + 3 : Nat) : Int) := by omega
  rw [cs1] at ca
  have l40 : ¬ (40 : Int) < ((n + 3 : Nat) : Int) := by omega
  simp only [List.map_cons, List.map_nil, List.length_cons, List.length_nil, List.cons_append, List.nil_append, List.replicate, Nat.zero_add, Nat.reduceAdd, Nat.reduceSub, List.set_cons_zero, List.set_cons_succ]
  rw [seq_set (d := LD) (by simp [sp])]
  simp only [List.map_cons, List.map_nil, List.length_cons, List.length_nil, List.cons_append, List.nil_append, List.replicate, Nat.zero_add, Nat.reduceAdd, Nat.reduceSub, List.set_cons_zero, List.set_cons_succ]
  rw [sSeq_eq, show sIf (mT (m2 gGt (mL gLen (mA1 (mVar 3) (mA0))) (mC (.int 40)))) (sDead) (sNil) [some H, some (.str TX), some (.bl false), some LD, none, none] = .nx [some H, some (.str TX), some (.bl false), some LD, none, none] from by simp only [sIf_eq, mT_eq, m2_eq, mL_eq, mA1_eq, mA0_eq, mVar_eq, mC_eq, List.getElem?_cons_zero, List.getElem?_cons_succ, Res.bind_ok, ln, ofO_some, gGt_int, decide_eq_false l40, ofB_eq, Res.out_ok, if_neg (show ¬ (false = true) by decide), sNil_eq], Out.nx_bind]
  rw [seq_set (d := .non) (by simp)]
  simp only [List.map_cons, List.map_nil, List.length_cons, List.length_nil, List.cons_append, List.nil_append, List.replicate, Nat.zero_add, Nat.reduceAdd, Nat.reduceSub, List.set_cons_zero, List.set_cons_succ]
  rw [seq_set (d := .int 0) (by simp)]
  simp only [List.map_cons, List.map_nil, List.length_cons, List.length_nil, List.cons_append, List.nil_append, List.replicate, Nat.zero_add, Nat.reduceAdd, Nat.reduceSub, List.set_cons_zero, List.set_cons_succ]
  rw [sSeq_eq, sIf_eq, show (tNotM (mT (mVar 2))) [some H, some (.str TX), some (.bl false), some LD, some .non, some (.int 0)] = .ok true from by simp, Res.out_ok, if_pos rfl, sSeq_eq,
    show sIf (mT (m2 gNe (m2 gIx (mVar 3) (mC (.int 0))) (mC (.str "when")))) (sDead) (sNil) [some H, some (.str TX), some (.bl false), some LD, some .non, some (.int 0)] = .nx [some H, some (.str TX), some (.bl false), some LD, some .non, some (.int 0)] from by simp [x0, qw], Out.nx_bind,
    show sAsg (tgT [4, 5]) (mArgs (m_condition_at 60) (mA1 (mVar 0) (mA1 (mVar 3) (mA1 (mC (.int 1)) (mA0))))) [some H, some (.str TX), some (.bl false), some LD, some .non, some (.int 0)] = .nx [some H, some (.str TX), some (.bl false), some LD, some CD, some (.int ((n + 1 : Nat) : Int))] from by
      have ca' : m_condition_at 60 [H, LD, .int 1] = .ok (.tup [CD, .int ((n + 1 : Nat) : Int)]) := ca
      generalize ((n + 1 : Nat) : Int) = zz at *
      simp [ca'], Out.nx_bind]
  generalize hz : ((n + 1 : Nat) : Int) = z at *
  generalize hz2 : ((n + 2 : Nat) : Int) = z2 at *
  generalize hz3 : ((n + 3 : Nat) : Int) = z3 at *
  simp [ln, cs2, cs3, ixm, qd, ixo, h0, nn, t2']
theorem clause_none {o : Str} (ao : AreNames outs 8) (ho : o ∈ outs) : m_clause_of [houseD outs hs, .str (ctext hs none o), .bl true] = .ok (ruleD (none, o)) := by
  have tk : ∀ s ∈ [("deal" : Str), o], Tok s := fun s h => by
    rcases List.mem_cons.mp h with rfl | h
    · exact tok_deal
    · rw [List.mem_singleton.mp h]; exact .of (ao.nm _ ho)
  have sp := split_toks (l := [("deal" : Str), o]) (by simp) (by simp) tk
  have ln : gLen [namesD [("deal" : Str), o]] = some (.int 2) := len_names
  have x0 : gIx (namesD [("deal" : Str), o]) (.int 0) = some (.str "deal") := names_ix (k := 0) rfl
  have x1 : gIx (namesD [("deal" : Str), o]) (.int 1) = some (.str o) := names_ix (k := 1) rfl
  have h0 : gIx (houseD outs hs) (.int 0) = some (.ftup (outs.map D.str)) := id rfl
  have nn := nin_words ho
  have qd := ne_lit ok_deal ok_deal (r := true) (by decide)
  have t2' : ∀ a b : D, gTup [a, b] = some (.tup [a, b]) := tup2
  rw [m_clause_of]
  refine call_rt ?_
  rw [b_clause_of]
  show _ = Out.rt (.tup [.non, .str o])
  rw [show ctext hs none o = Txt.join " " [("deal" : Str), o] from deal_join]
  generalize houseD outs hs = H at *
  generalize Txt.join " " [("deal" : Str), o] = TX at *
  generalize hLD : namesD [("deal" : Str), o] = LD at *
  generalize (D.ftup (outs.map D.str)) = OD at *
  simp only [List.map_cons, List.map_nil, List.length_cons, List.length_nil, List.cons_append, List.nil_append, List.replicate, Nat.zero_add, Nat.reduceAdd, Nat.reduceSub, List.set_cons_zero, List.set_cons_succ]
  rw [seq_set (d := LD) (by simp [sp])]
  simp only [List.map_cons, List.map_nil, List.length_cons, List.length_nil, List.cons_append, List.nil_append, List.replicate, Nat.zero_add, Nat.reduceAdd, Nat.reduceSub, List.set_cons_zero, List.set_cons_succ]
  simp [ln, x0, x1, qd, h0, nn, t2']
def cltext (hs : List Hand) (x : Option Cnd × Str) : Str := ctext hs x.1 x.2
theorem toks_of (hh : HandsOk p hs) (ao : AreNames outs 8) {cl : List (Option Cnd × Str)} (hc : Clauses hs outs cl) : ∀ x ∈ cl, ∃ l : List Str, cltext hs x = Txt.join " " l ∧ l.length ≤ 40 ∧ ∀ s ∈ l, Tok s := fun x hx => by
  obtain ⟨init, o, ecl, il, om, fine⟩ := hc.split
  rw [ecl] at hx
  rcases List.mem_append.mp hx with h | h
  · obtain ⟨⟨c, o'⟩, hm, rfl⟩ := List.mem_map.mp h
    obtain ⟨fc, ho⟩ := fine _ hm
    refine ⟨clToks hs c o', rfl, by unfold clToks; have := fc.2; simp only [List.length_cons, List.length_append, List.length_nil]; dsimp only at this; omega, fun s h => ?_⟩
    rcases List.mem_cons.mp h with rfl | h
    · exact tok_when
    · rcases List.mem_append.mp h with h | h
      · exact toks_tok hh c fc.1 s h
      · rcases List.mem_cons.mp h with rfl | h
        · exact tok_deal
        · rw [List.mem_singleton.mp h]; exact .of (ao.nm _ ho)
  · rw [List.mem_singleton.mp h]
    refine ⟨[("deal" : Str), o], deal_join, by simp, fun s h => ?_⟩
    rcases List.mem_cons.mp h with rfl | h
    · exact tok_deal
    · rw [List.mem_singleton.mp h]; exact .of (ao.nm _ om)
theorem text_short {x : Str} {l : List Str} (e : x = Txt.join " " l) (h1 : l.length ≤ 40) (h2 : ∀ s ∈ l, Tok s) : x.length ≤ 400 := by
  have a := sum_le (m := 8) fun s hs => (h2 s hs).2.1
  have b := join_len " " l
  rw [show (" " : Str).length = 1 by decide +kernel] at b
  rw [e]; omega
theorem text_free {x : Str} {l : List Str} (e : x = Txt.join " " l) (h2 : ∀ s ∈ l, Tok s) : 59 ∉ TL.tl x := by
  intro q
  rw [e, TL.join_eq, TL.tl_join] at q
  rcases mem_joinL q with q | ⟨z, hz, q⟩
  · revert q; decide +kernel
  · obtain ⟨s, hs, rfl⟩ := List.mem_map.mp hz
    exact ((h2 s hs).2.2 59 q).2.2 rfl
theorem texts_join (hh : HandsOk p hs) (ao : AreNames outs 8) {cl : List (Option Cnd × Str)} (hc : Clauses hs outs cl) : gJoin (.str "; ") (namesD (cl.map (cltext hs))) = some (.str (Txt.join "; " (cl.map (cltext hs)))) ∧ gSplit (.str (Txt.join "; " (cl.map (cltext hs)))) (.str "; ") = some (namesD (cl.map (cltext hs))) := by
  have tk := toks_of hh ao hc
  obtain ⟨init, o, ecl, il, om, fine⟩ := hc.split
  have ln : (cl.map (cltext hs)).length ≤ 19 := by rw [ecl]; simp; omega
  have ne : cl.map (cltext hs) ≠ [] := by rw [ecl]; simp
  have sh : ∀ s ∈ cl.map (cltext hs), s.length ≤ 400 := fun s h => by
    obtain ⟨x, hx, rfl⟩ := List.mem_map.mp h
    obtain ⟨l, e, h1, h2⟩ := tk x hx
    exact text_short e h1 h2
  have fr : ∀ s ∈ cl.map (cltext hs), 59 ∉ TL.tl s := fun s h => by
    obtain ⟨x, hx, rfl⟩ := List.mem_map.mp h
    obtain ⟨l, e, h1, h2⟩ := tk x hx
    exact text_free e h2
  generalize cl.map (cltext hs) = T at *
  refine ⟨join_ok sh (by omega) (by decide) (by decide +kernel), ?_⟩
  have a := sum_le sh
  have b := join_len "; " T
  rw [show ("; " : Str).length = 2 by decide +kernel] at b
  have c : Txt.split (Txt.join "; " T) "; " = T := TL.split_join (s := 59) (S := [32]) (by decide +kernel) (by decide +kernel) ne fr
  have e : gSplit (.str (Txt.join "; " T)) (.str "; ") = some (.lst ((Txt.split (Txt.join "; " T) "; ").map .str)) := if_pos (e := none) ⟨by decide +kernel, by
    show (Txt.join "; " T).length + 2 ≤ 16777216
    omega⟩
  rw [e, c]; rfl
def rulesD (cl : List (Option Cnd × Str)) : D := .lst (cl.map ruleD)
theorem read_rule_ok (hh : HandsOk p hs) (ao : AreNames outs 8) {cl : List (Option Cnd × Str)} (hc : Clauses hs outs cl) : m_read_rule [houseD outs hs, .str (Txt.join "; " (cl.map (cltext hs)))] = .ok (rulesD cl) := by
  obtain ⟨_, sp⟩ := texts_join hh ao hc
  obtain ⟨init, o, ecl, il, om, fine⟩ := hc.split
  have ln := len_names (ss := cl.map (cltext hs))
  have lcl : cl.length = init.length + 1 := by rw [ecl]; simp
  rw [List.length_map] at ln
  have one : ∀ (i : Nat) x, cl[i]? = some x → m_clause_of [houseD outs hs, .str (cltext hs x), .bl (decide ((i : Int) = (cl.length : Int) - 1))] = .ok (ruleD x) := fun i x hx => by
    have hi := (List.getElem?_eq_some_iff.mp hx).1
    rw [ecl] at hx
    by_cases h : i < init.length
    · rw [List.getElem?_append_left (by simpa using h), List.getElem?_map] at hx
      obtain ⟨⟨c, o'⟩, hm, rfl⟩ := Option.map_eq_some_iff.mp hx
      obtain ⟨fc, ho⟩ := fine _ (List.mem_of_getElem? hm)
      rw [decide_eq_false (by omega)]
      exact clause_some hh ao fc ho
    · have e : i = init.length := by omega
      rw [List.getElem?_append_right (by simpa using (by omega : init.length ≤ i)), List.length_map, e, Nat.sub_self] at hx
      cases hx
      rw [decide_eq_true (by omega)]
      exact clause_none ao om
  rw [m_read_rule]
  refine call_rt ?_
  rw [b_read_rule]
  have hT : ∀ (i : Nat) x, cl[i]? = some x → ((cl.map (cltext hs)).map D.str)[i]? = some (.str (cltext hs x)) := fun i x hx => by
    rw [List.getElem?_map, List.getElem?_map, hx]; rfl
  have lT : ((cl.map (cltext hs)).map D.str).length = cl.length := by simp
  have en : iSqE (namesD (cl.map (cltext hs))) = some (enumL 0 ((cl.map (cltext hs)).map D.str)) := id rfl
  have iss : gIsi "str" (.str (Txt.join "; " (cl.map (cltext hs)))) = some (.bl true) := isi_str
  generalize houseD outs hs = H at *
  generalize hTD : (cl.map (cltext hs)).map D.str = TD at *
  generalize namesD (cl.map (cltext hs)) = LD at *
  generalize Txt.join "; " (cl.map (cltext hs)) = TX at *
  have l20 : ¬ (20 : Int) < (cl.length : Int) := by omega
  simp only [List.map_cons, List.map_nil, List.length_cons, List.length_nil, List.cons_append, List.nil_append, List.replicate, Nat.zero_add, Nat.reduceAdd, Nat.reduceSub, List.set_cons_zero, List.set_cons_succ]
  rw [sSeq_eq, show sIf (tNotM (mT (m1 (gIsi "str") (mVar 1)))) (sDead) (sNil) [some H, some (.str TX), none, none, none] = .nx [some H, some (.str TX), none, none, none] from by simp [iss], Out.nx_bind]
  rw [seq_set (d := LD) (by simp [sp])]
  simp only [List.map_cons, List.map_nil, List.length_cons, List.length_nil, List.cons_append, List.nil_append, List.replicate, Nat.zero_add, Nat.reduceAdd, Nat.reduceSub, List.set_cons_zero, List.set_cons_succ]
  rw [sSeq_eq, show sIf (mT (m2 gGt (mL gLen (mA1 (mVar 2) (mA0))) (mC (.int 20)))) (sDead) (sNil) [some H, some (.str TX), some LD, none, none] = .nx [some H, some (.str TX), some LD, none, none] from by simp [ln, l20], Out.nx_bind]
  have lc : mLc [3, 4] (tgT [3, 4]) (iEnumM (mVar 2)) (tYesM) (mArgs m_clause_of (mA1 (mVar 0) (mA1 (mVar 4) (mA1 (m2 gEq (mVar 3) (m2 gSub (mL gLen (mA1 (mVar 2) (mA0))) (mC (.int 1)))) (mA0))))) [some H, some (.str TX), some LD, none, none] = .ok (rulesD cl) := by
    have g : ∃ g : D → D, ∀ (i : Nat) x d, cl[i]? = some x → g (.tup [.int (i : Nat), d]) = ruleD x := ⟨fun d => match d with | .tup [.int z, _] => (cl[z.toNat]?.map ruleD).getD .non | d => d, fun i x d h => by
      show (cl[((i : Nat) : Int).toNat]?.map ruleD).getD .non = _
      rw [Int.toNat_natCast, h]; rfl⟩
    obtain ⟨g, hg⟩ := g
    rw [lc_l (enumL 0 TD) g (by simp [en]) (by
      have : (enumL 0 TD).length = cl.length := by rw [enumL_len, lT]
      rw [this]; exact b24 (by omega)) (fun d hd => by
      obtain ⟨i, hi⟩ := List.mem_iff_getElem?.mp hd
      rw [enumL_get] at hi
      obtain ⟨t, ht, rfl⟩ := Option.map_eq_some_iff.mp hi
      have hil : i < cl.length := by have := (List.getElem?_eq_some_iff.mp ht).1; omega
      obtain ⟨x, hx⟩ : ∃ x, cl[i]? = some x := ⟨_, List.getElem?_eq_getElem hil⟩
      rw [hT i x hx] at ht
      cases ht
      have o1 := one i x hx
      rw [Nat.zero_add, hg i x _ hx]
      generalize cltext hs x = tx at *
      generalize ruleD x = rx at *
      exact ⟨[some H, some (.str TX), some LD, some (.int (i : Nat)), some (.str tx)], id rfl, by simp [ln, o1]⟩)]
    unfold rulesD
    congr 2
    refine List.ext_getElem? fun i => ?_
    rw [List.getElem?_map, enumL_get, List.getElem?_map]
    by_cases hil : i < cl.length
    · obtain ⟨x, hx⟩ : ∃ x, cl[i]? = some x := ⟨_, List.getElem?_eq_getElem hil⟩
      rw [hT i x hx, hx, Nat.zero_add]
      show some (g _) = some _
      rw [hg i x _ hx]
    · rw [List.getElem?_eq_none (by omega), List.getElem?_eq_none (by omega)]; rfl
  rw [sRet_eq, lc]; rfl
end
end TW
-- TWShown
namespace TW
open PySem PySem.Spec PyProof.Rows L2
theorem toks_ne {hs : List Hand} (c : Cnd) : c.toks hs ≠ [] := by cases c <;> simp [Cnd.toks]
section
variable {hs : List Hand} {outs : List Str} {p : Nat}
end
end TW
-- TWHouse3
namespace TW
open PySem PySem.Spec PyProof.Rows L2
def Hand.t (h : Hand) : D := .tup [.str h.name, .tup (h.words.map D.str), .tup (h.worths.map tints)]
def houseT (outs : List Str) (hs : List Hand) : D := .tup [.tup (outs.map D.str), .tup (hs.map Hand.t)]
theorem house3_ok {outs : List Str} {hs : List Hand} (ho : AreNames outs 8) (hh : HandsOk outs.length hs) : m_house_of_v3 [namesD outs, handsD hs] = .ok (houseT outs hs) := by
  have a := are_names_ok ho (by decide)
  have hlo := hh.lo
  have hhi := hh.hi
  have wpos : ∀ h ∈ hs, 1 ≤ h.words.length := fun h hm => (hh.ok h hm).words.lo
  rw [m_house_of_v3]
  refine call_rt ?_
  rw [b_house_of_v3]
  simp only [List.map_cons, List.map_nil, List.length_cons, List.length_nil, List.cons_append, List.nil_append, List.replicate, Nat.zero_add, Nat.reduceAdd, Nat.reduceSub, List.set_cons_zero, List.set_cons_succ]
  have ln : gLen [handsD hs] = some (.int hs.length) := by unfold handsD; simp
  rw [sSeq_eq, show sIf (tNotM (mT (mArgs m_are_names (mA1 (mVar 0) (mA1 (mC (.int 8)) (mA0)))))) (sDead) (sNil) [some (namesD outs), some (handsD hs), none, none, none, none] = .nx _ from by
    simp [show m_are_names [namesD outs, .int 8] = .ok (.bl true) from a]; rfl, Out.nx_bind]
  rw [sSeq_eq, show sIf (tOrM (tNotM (mT (m1 (gIsi "list") (mVar 1)))) (tNotM (mT (mChain gLe gLe (mC (.int 1)) (mL gLen (mA1 (mVar 1) (mA0))) (mC (.int 4)))))) (sDead) (sNil) [some (namesD outs), some (handsD hs), none, none, none, none] = .nx [some (namesD outs), some (handsD hs), none, none, none, none] from by
    simp [show gIsi "list" (handsD hs) = some (.bl true) from isi_list_list, ln, show (1 : Int) ≤ hs.length by omega]; omega, Out.nx_bind]
  rw [seq_set (d := .int 1) (by simp), seq_set (d := .lst []) (by simp [nil_l])]
  simp only [List.map_cons, List.map_nil, List.length_cons, List.length_nil, List.cons_append, List.nil_append, List.replicate, Nat.zero_add, Nat.reduceAdd, Nat.reduceSub, List.set_cons_zero, List.set_cons_succ]
  rw [sSeq_eq]
  generalize hb : sSeq (sIf _ sDead _) _ = b
  obtain ⟨ρ', e, x4, x5, rfl⟩ := for_m (j := 4) (m := iAny (mVar 1)) (b := b) (ρ := [some (namesD outs), some (handsD hs), some (.int 1), some (.lst []), none, none])
    (fun k ρ => ∃ x4 x5, ρ = [some (namesD outs), some (handsD hs), some (.int (ways (hs.take k))), some (.lst ((hs.take k).map Hand.t)), x4, x5]) hs Hand.d (by simp [handsD]) ⟨_, _, rfl⟩ (by
      rintro k h ρ hd ⟨x4, x5, rfl⟩
      have hm := List.mem_of_getElem? hd
      have o := hh.ok h hm
      have hk : k < hs.length := (List.getElem?_eq_some_iff.mp hd).1
      subst hb
      simp only [List.map_cons, List.map_nil, List.length_cons, List.length_nil, List.cons_append, List.nil_append, List.replicate, Nat.zero_add, Nat.reduceAdd, Nat.reduceSub, List.set_cons_zero, List.set_cons_succ]
      have t1 : hs.take (k + 1) = hs.take k ++ [h] := by rw [List.take_add_one, hd]; rfl
      have t2 : (hs.take (k + 1)).map Hand.t = (hs.take k).map Hand.t ++ [h.t] := by rw [t1, List.map_append]; rfl
      have hM1 : ((hs.take k).map Hand.t).length < 1000000 := by rw [List.length_map, List.length_take]; omega
      generalize (hs.take k).map Hand.t = M at *
      have i0 : gIx h.d (.int 0) = some (.str h.name) := id rfl
      have i1 : gIx h.d (.int 1) = some (namesD h.words) := id rfl
      have i2 : gIx h.d (.int 2) = some (wD h.worths) := id rfl
      rw [sSeq_eq, show sIf (tNotM (mT (mArgs m_is_hand (mA1 (mVar 4) (mA1 (mL gLen (mA1 (mVar 0) (mA0))) (mA0)))))) (sDead) (sNil) [some (namesD outs), some (handsD hs), some (.int (ways (hs.take k))), some (.lst M), some h.d, x5] = .nx _ from by
        simp [len_names, is_hand_ok o]; rfl, Out.nx_bind]
      have w1 := ways_take wpos k
      have w2 := hh.many
      have w3 := o.words.hi
      rw [seq_set (d := .int (ways (hs.take (k + 1)))) (by
        rw [t1, ways_snoc]
        simp [i1, len_names]
        rw [mul_nat (by omega) (by omega)]; simp)]
      simp only [List.map_cons, List.map_nil, List.length_cons, List.length_nil, List.cons_append, List.nil_append, List.replicate, Nat.zero_add, Nat.reduceAdd, Nat.reduceSub, List.set_cons_zero, List.set_cons_succ]
      have lc : mLc [5] (tgN 5) (iAny (m2 gIx (mVar 4) (mC (.int 2)))) (tYesM) (mL gTuple (mA1 (mVar 5) (mA0))) [some (namesD outs), some (handsD hs), some (.int (ways (hs.take (k + 1)))), some (.lst M), some h.d, x5] = .ok (.lst (h.worths.map tints)) := by
        refine lc_m h.worths numsD tints (by simp [i2, wD]) ?_ (fun x hx => by simp [wipeR, numsD, tints])
        have := o.len; omega
      have ap : nApp h.t (.lst M) = some (.lst (M ++ [h.t])) := by
        rw [nApp_lst (b24 hM1)]
      have tp : gTup [.str h.name, .tup (h.words.map D.str), .tup (h.worths.map tints)] = some h.t := tup3 _ _ _
      rw [t2]
      refine ⟨[some (namesD outs), some (handsD hs), some (.int (ways (hs.take (k + 1)))), some (.lst (M ++ [h.t])), some h.d, x5], ?_, _, _, rfl⟩
      simp [lc, i0, i1, show gTuple [namesD h.words] = some (.tup (h.words.map D.str)) from id rfl, tp, ap])
  rw [e, Out.nx_bind]
  rw [List.take_length]
  have lcn : ∀ x4 x5, mLc [4] (tgN 4) (iAny (mVar 3)) (tYesM) (m2 gIx (mVar 4) (mC (.int 0))) [some (namesD outs), some (handsD hs), some (.int (ways hs)), some (.lst (hs.map Hand.t)), x4, x5] = .ok (namesD (hs.map Hand.name)) := fun x4 x5 => by
    rw [lc_m hs Hand.t (fun h => .str h.name) (by simp) (by omega) (fun x hx => by simp [wipeR, show gIx x.t (.int 0) = some (.str x.name) from id rfl])]
    unfold namesD; rw [List.map_map]; rfl
  have w2 := hh.many
  rw [sSeq_eq, show ∀ x4 x5, sIf (tOrM (mT (m2 gGt (mVar 2) (mC (.int 256)))) (mT (m2 gNe (m1 gLenSetT (mLc [4] (tgN 4) (iAny (mVar 3)) (tYesM) (m2 gIx (mVar 4) (mC (.int 0))))) (mL gLen (mA1 (mVar 3) (mA0)))))) (sDead) (sNil) [some (namesD outs), some (handsD hs), some (.int (ways hs)), some (.lst (hs.map Hand.t)), x4, x5] = .nx [some (namesD outs), some (handsD hs), some (.int (ways hs)), some (.lst (hs.map Hand.t)), x4, x5] from fun x4 x5 => by
    have : ¬ (256 : Int) < (ways hs : Int) := by omega
    simp [lcn, lenset_names hh.nd (by simp; omega), this], Out.nx_bind]
  simp [show gTuple [namesD outs] = some (.tup (outs.map D.str)) from id rfl, tup2]
  rfl
end TW
-- TWReadT
namespace TWT
open PySem PySem.Spec PyProof.Rows L2 TW
section
variable {hs : List Hand} {outs : List Str} {p : Nat}
theorem enum_hands : iSqE (.tup (hs.map Hand.t)) = some ((List.range hs.length).map fun i : Nat => .tup [.int i, (hat hs i).t]) := by
  show some (enumL 0 (hs.map Hand.t)) = _
  congr 1
  refine List.ext_getElem? fun i => ?_
  rw [enumL_get, List.getElem?_map, List.getElem?_map, Nat.zero_add]
  by_cases h : i < hs.length
  · rw [hat_at h, List.getElem?_range h]; rfl
  · rw [List.getElem?_eq_none (by omega), List.getElem?_eq_none (by simpa using h)]; rfl
theorem in_words {l : List Str} {s : Str} : gIn (.str s) (.tup (l.map D.str)) = some (.bl (decide (s ∈ l))) := by
  show ((strsOf (l.map D.str)).map fun ss => D.bl (ss.any (· == s))) = _
  rw [strsOf_map]
  show some (D.bl _) = _
  congr 2
  by_cases h : s ∈ l
  · rw [decide_eq_true h]
    exact List.any_eq_true.mpr ⟨s, h, beq_self_eq_true s⟩
  · rw [decide_eq_false h]
    refine Bool.eq_false_iff.mpr fun q => ?_
    obtain ⟨y, hy, e⟩ := List.any_eq_true.mp q
    exact h (eq_of_beq e ▸ hy)
theorem saying_ok (hh : HandsOk p hs) {L : List Str} {i k : Nat} {w : Str} (hk : k < hs.length) (hw : w ∈ (hat hs k).words) (h1 : L[i + 1]? = some (hat hs k).name) (h2 : L[i + 2]? = some w) : m_saying [houseT outs hs, namesD L, .int i] = .ok (.tup [(Cnd.says k w).d, .int ((i + 3 : Nat) : Int)]) := by
  have w1 := word_at_ok h1
  have w2 := word_at_ok h2
  have i1 : gIx (houseT outs hs) (.int 1) = some (.tup (hs.map Hand.t)) := id rfl
  have en := enum_hands (hs := hs)
  have m0 : ∀ h : Hand, gIx h.t (.int 0) = some (.str h.name) := fun h => id rfl
  have m1' : ∀ h : Hand, gIx h.t (.int 1) = some (.tup (h.words.map D.str)) := fun h => id rfl
  have nmk := (hh.ok _ (hat_mem hk)).name
  have eqn : ∀ j, j < hs.length → gEq (.str (hat hs j).name) (.str (hat hs k).name) = some (.bl (decide (j = k))) := fun j hj => by
    rw [gEq_str (hh.ok _ (hat_mem hj)).name.ok nmk.ok]
    congr 2
    by_cases e : j = k
    · subst e; simp
    · rw [decide_eq_false e]
      refine decide_eq_false fun q => e ?_
      have nd := hh.nd
      have pw := List.pairwise_iff_getElem.mp nd
      have gj : (hs.map Hand.name)[j]'(by simpa using hj) = (hat hs j).name := by
        rw [List.getElem_map]
        have := hat_at hj
        rw [List.getElem?_eq_getElem hj] at this
        rw [Option.some.inj this]
      have gk : (hs.map Hand.name)[k]'(by simpa using hk) = (hat hs k).name := by
        rw [List.getElem_map]
        have := hat_at hk
        rw [List.getElem?_eq_getElem hk] at this
        rw [Option.some.inj this]
      rcases Nat.lt_or_gt_of_ne e with lt | lt
      · exact absurd (by rw [gj, gk, q]) (pw j k (by simpa using hj) (by simpa using hk) lt)
      · exact absurd (by rw [gj, gk, q]) (pw k j (by simpa using hk) (by simpa using hj) lt)
  have inw : gIn (.str w) (.tup ((hat hs k).words.map D.str)) = some (.bl true) := by rw [in_words, decide_eq_true hw]
  have t3 : ∀ a b c : D, gTup [a, b, c] = some (.tup [a, b, c]) := tup3
  have t2' : ∀ a b : D, gTup [a, b] = some (.tup [a, b]) := tup2
  have cast1 : ((i : Int) + 1) = ((i + 1 : Nat) : Int) := by omega
  have cast2 : ((i : Int) + 2) = ((i + 2 : Nat) : Int) := by omega
  rw [m_saying]
  refine call_rt ?_
  rw [b_saying]
  generalize houseT outs hs = H at *
  generalize namesD L = LD at *
  simp only [List.map_cons, List.map_nil, List.length_cons, List.length_nil, List.cons_append, List.nil_append, List.replicate, Nat.zero_add, Nat.reduceAdd, Nat.reduceSub, List.set_cons_zero, List.set_cons_succ]
  rw [seq_set (d := .str (hat hs k).name) (by simp only [mArgs_eq, mA1_eq, mA0_eq, mVar_eq, mC_eq, m2_eq, List.getElem?_cons_zero, List.getElem?_cons_succ, Res.bind_ok, gAdd_int, ofO_some, cast1, w1])]
  simp only [List.map_cons, List.map_nil, List.length_cons, List.length_nil, List.cons_append, List.nil_append, List.replicate, Nat.zero_add, Nat.reduceAdd, Nat.reduceSub, List.set_cons_zero, List.set_cons_succ]
  rw [seq_set (d := .str w) (by simp only [mArgs_eq, mA1_eq, mA0_eq, mVar_eq, mC_eq, m2_eq, List.getElem?_cons_zero, List.getElem?_cons_succ, Res.bind_ok, gAdd_int, ofO_some, cast2, w2])]
  simp only [List.map_cons, List.map_nil, List.length_cons, List.length_nil, List.cons_append, List.nil_append, List.replicate, Nat.zero_add, Nat.reduceAdd, Nat.reduceSub, List.set_cons_zero, List.set_cons_succ]
  rw [sSeq_eq]
  generalize hb : sIf _ _ _ = b
  rw [sFor_L (ds := (List.range hs.length).map fun i : Nat => .tup [.int i, (hat hs i).t]) (by simp [i1, en])]
  obtain ⟨x5, x6, e⟩ : ∃ x5 x6, forL (tgT [5, 6]) b ((List.range k).map fun i : Nat => .tup [.int i, (hat hs i).t]) [some H, some LD, some (.int i), some (.str (hat hs k).name), some (.str w), none, none] = .nx [some H, some LD, some (.int i), some (.str (hat hs k).name), some (.str w), x5, x6] := by
    obtain ⟨ρ', e, x5, x6, rfl⟩ := for_l (f := tgT [5, 6]) (m := fun _ => .ok ((List.range k).map fun i : Nat => .tup [.int i, (hat hs i).t])) (b := b) (ρ := [some H, some LD, some (.int i), some (.str (hat hs k).name), some (.str w), none, none])
      (fun _ ρ => ∃ x5 x6, ρ = [some H, some LD, some (.int i), some (.str (hat hs k).name), some (.str w), x5, x6]) _ rfl ⟨_, _, rfl⟩ (by
        rintro j d ρ hd ⟨x5, x6, rfl⟩
        subst hb
        have hj : j < k := by
          have := (List.getElem?_eq_some_iff.mp hd).1
          simpa using this
        rw [List.getElem?_map, List.getElem?_range hj] at hd
        cases hd
        have eq := eqn j (by omega)
        rw [decide_eq_false (show ¬ j = k by omega)] at eq
        exact ⟨[some H, some LD, some (.int i), some (.str (hat hs k).name), some (.str w), some (.int j), some (hat hs j).t], [some H, some LD, some (.int i), some (.str (hat hs k).name), some (.str w), some (.int j), some (hat hs j).t], rfl, by simp [m0, eq], _, _, rfl⟩)
    rw [sFor_L rfl] at e
    exact ⟨x5, x6, e⟩
  have sp : (List.range hs.length).map (fun i : Nat => D.tup [.int i, (hat hs i).t]) = (List.range k).map (fun i : Nat => D.tup [.int i, (hat hs i).t]) ++ D.tup [.int k, (hat hs k).t] :: ((List.range hs.length).drop (k + 1)).map fun i : Nat => D.tup [.int i, (hat hs i).t] := by
    have : List.range hs.length = List.range k ++ k :: (List.range hs.length).drop (k + 1) := by
      have h1 := List.take_append_drop k (List.range hs.length)
      rw [List.take_range, Nat.min_eq_left (by omega)] at h1
      have h2 : (List.range hs.length).drop k = k :: (List.range hs.length).drop (k + 1) := by
        rw [List.drop_eq_getElem_cons (by simpa using hk), List.getElem_range]
      rw [h2] at h1
      exact h1.symm
    conv => lhs; rw [this]
    rw [List.map_append, List.map_cons]
  rw [sp]
  have fa : ∀ (A B : List D) (ρ ρ' : Rho), forL (tgT [5, 6]) b A ρ = .nx ρ' → forL (tgT [5, 6]) b (A ++ B) ρ = forL (tgT [5, 6]) b B ρ' := by
    intro A
    induction A with
    | nil => intro B ρ ρ' h; cases h; rfl
    | cons d A ih =>
      intro B ρ ρ' h
      have u : ∀ (l : List D), forL (tgT [5, 6]) b (d :: l) ρ = match tgT [5, 6] d ρ with | some ρ' => (b ρ').bind (forL (tgT [5, 6]) b l) | none => .stuck := fun l => id rfl
      rw [List.cons_append, u]
      rw [u] at h
      cases e : tgT [5, 6] d ρ with
      | none => rw [e] at h; cases h
      | some ρ1 =>
        rw [e] at h
        dsimp only at h ⊢
        cases e2 : b ρ1 with
        | nx ρ2 =>
          rw [e2, Out.nx_bind] at h
          rw [Out.nx_bind]
          exact ih B ρ2 ρ' h
        | _ => rw [e2] at h; cases h
  rw [fa _ _ _ _ e]
  have u : ∀ (l : List D), forL (tgT [5, 6]) b (.tup [.int k, (hat hs k).t] :: l) [some H, some LD, some (.int i), some (.str (hat hs k).name), some (.str w), x5, x6] = (b [some H, some LD, some (.int i), some (.str (hat hs k).name), some (.str w), some (.int k), some (hat hs k).t]).bind (forL (tgT [5, 6]) b l) := fun l => id rfl
  rw [u, ← hb]
  have eq := eqn k hk
  rw [decide_eq_true rfl] at eq
  simp [m0, m1', eq, inw, t3, t2', Cnd.d]
theorem counting_ok (hh : HandsOk p hs) {L : List Str} {i n : Nat} {w : Str} (n1 : 1 ≤ n) (n4 : n ≤ 4) (hw : ∃ h ∈ hs, w ∈ h.words) (h1 : L[i + 1]? = some (digS n)) (h2 : L[i + 2]? = some w) : m_counting [houseT outs hs, namesD L, .int i] = .ok (.tup [(Cnd.count n w).d, .int ((i + 3 : Nat) : Int)]) := by
  have w1 := word_at_ok h1
  have w2 := word_at_ok h2
  have i1 : gIx (houseT outs hs) (.int 1) = some (.tup (hs.map Hand.t)) := id rfl
  have m1' : ∀ h : Hand, gIx h.t (.int 1) = some (.tup (h.words.map D.str)) := fun h => id rfl
  have four : gLst [.str "1", .str "2", .str "3", .str "4"] = some (namesD ["1", "2", "3", "4"]) := gLst_eq (show 4 ≤ sizeLine by decide)
  have nin : gNin (.str (digS n)) (namesD ["1", "2", "3", "4"]) = some (.bl false) := by
    have pl2 : ∀ s : Str, PyData.strOk s = true → ([PyData.str "1", PyData.str "2", PyData.str "3", PyData.str "4"].any fun z => PyData.eqv z (.str s)) = true → gNin (.str s) (namesD ["1", "2", "3", "4"]) = some (.bl false) := fun s h1 h2 => by
      show (gIn (.str s) (.lst [.str "1", .str "2", .str "3", .str "4"])).bind _ = _
      have e1 : gIn (.str s) (.lst [.str "1", .str "2", .str "3", .str "4"]) = some (.bl ([PyData.str "1", PyData.str "2", PyData.str "3", PyData.str "4"].any fun z => PyData.eqv z (.str s))) := by
        show (if SeqAt.shaped (.str s) = true ∧ SeqAt.shaped (.list [.str "1", .str "2", .str "3", .str "4"]) = true then some (D.bl ([PyData.str "1", PyData.str "2", PyData.str "3", PyData.str "4"].any fun z => PyData.eqv z (.str s))) else none) = _
        rw [if_pos ⟨Bool.and_eq_true_iff.mpr ⟨h1, decide_eq_true (by simp [PyData.depth])⟩, by decide +kernel⟩]
      rw [e1, h2]; rfl
    rcases dig_cases n1 n4 with ⟨e, _⟩ | ⟨e, _⟩ | ⟨e, _⟩ | ⟨e, _⟩ <;> rw [e] <;> exact pl2 _ (by decide +kernel) (by decide +kernel)
  have gi : gIntS [.str (digS n)] = some (.int n) := by
    have key : ∀ s : Str, ∀ m : Int, s.length ≤ 640 → PySem.intText? s = some m → gIntS [.str s] = some (.int m) := fun s m h1 h2 => by
      show (if s.length ≤ 640 then (PySem.intText? s).map D.int else none) = _
      rw [if_pos h1, h2]; rfl
    rcases dig_cases n1 n4 with ⟨e, e2⟩ | ⟨e, e2⟩ | ⟨e, e2⟩ | ⟨e, e2⟩ <;> rw [e, e2] <;> exact key _ _ (by decide +kernel) (by decide +kernel)
  have t3 : ∀ a b c : D, gTup [a, b, c] = some (.tup [a, b, c]) := tup3
  have t2' : ∀ a b : D, gTup [a, b] = some (.tup [a, b]) := tup2
  have cast1 : ((i : Int) + 1) = ((i + 1 : Nat) : Int) := by omega
  have cast2 : ((i : Int) + 2) = ((i + 2 : Nat) : Int) := by omega
  rw [m_counting]
  refine call_rt ?_
  rw [b_counting]
  generalize houseT outs hs = H at *
  generalize namesD L = LD at *
  generalize namesD ["1", "2", "3", "4"] = FD at *
  generalize digS n = dg at *
  simp only [List.map_cons, List.map_nil, List.length_cons, List.length_nil, List.cons_append, List.nil_append, List.replicate, Nat.zero_add, Nat.reduceAdd, Nat.reduceSub, List.set_cons_zero, List.set_cons_succ]
  rw [seq_set (d := .str dg) (by simp only [mArgs_eq, mA1_eq, mA0_eq, mVar_eq, mC_eq, m2_eq, List.getElem?_cons_zero, List.getElem?_cons_succ, Res.bind_ok, gAdd_int, ofO_some, cast1, w1])]
  simp only [List.map_cons, List.map_nil, List.length_cons, List.length_nil, List.cons_append, List.nil_append, List.replicate, Nat.zero_add, Nat.reduceAdd, Nat.reduceSub, List.set_cons_zero, List.set_cons_succ]
  rw [seq_set (d := .str w) (by simp only [mArgs_eq, mA1_eq, mA0_eq, mVar_eq, mC_eq, m2_eq, List.getElem?_cons_zero, List.getElem?_cons_succ, Res.bind_ok, gAdd_int, ofO_some, cast2, w2])]
  simp only [List.map_cons, List.map_nil, List.length_cons, List.length_nil, List.cons_append, List.nil_append, List.replicate, Nat.zero_add, Nat.reduceAdd, Nat.reduceSub, List.set_cons_zero, List.set_cons_succ]
  rw [sSeq_eq, show sIf (mT (m2 gNin (mVar 3) (mL gLst (mA1 (mC (.str "1")) (mA1 (mC (.str "2")) (mA1 (mC (.str "3")) (mA1 (mC (.str "4")) (mA0)))))))) (sDead) (sNil) [some H, some LD, some (.int i), some (.str dg), some (.str w), none] = .nx [some H, some LD, some (.int i), some (.str dg), some (.str w), none] from by simp [four, nin], Out.nx_bind, sSeq_eq]
  generalize hb : sIf _ _ _ = b
  have itr : iLoc (.tup (hs.map Hand.t)) = some (hs.map Hand.t) := id rfl
  rw [sFor_L (ds := hs.map Hand.t) (by simp [i1, itr])]
  have main : ∀ (l : List Hand), (∃ h ∈ l, w ∈ h.words) → ∀ x5 : Option D, forL (tgN 5) b (l.map Hand.t) [some H, some LD, some (.int i), some (.str dg), some (.str w), x5] = .rt (.tup [(Cnd.count n w).d, .int ((i + 3 : Nat) : Int)]) := by
    intro l
    induction l with
    | nil => rintro ⟨h, hm, _⟩; cases hm
    | cons g l ih =>
      rintro ⟨h, hm, hw⟩ x5
      have u : forL (tgN 5) b ((g :: l).map Hand.t) [some H, some LD, some (.int i), some (.str dg), some (.str w), x5] = (b [some H, some LD, some (.int i), some (.str dg), some (.str w), some g.t]).bind (forL (tgN 5) b (l.map Hand.t)) := id rfl
      rw [u]
      by_cases q : w ∈ g.words
      · have inw : gIn (.str w) (.tup (g.words.map D.str)) = some (.bl true) := by rw [in_words, decide_eq_true q]
        rw [← hb]
        simp [m1', inw, gi, t3, t2', Cnd.d]
      · have inw : gIn (.str w) (.tup (g.words.map D.str)) = some (.bl false) := by rw [in_words, decide_eq_false q]
        have e : b [some H, some LD, some (.int i), some (.str dg), some (.str w), some g.t] = .nx [some H, some LD, some (.int i), some (.str dg), some (.str w), some g.t] := by
          rw [← hb]
          simp [m1', inw]
        rw [e, Out.nx_bind]
        refine ih ?_ _
        rcases List.mem_cons.mp hm with rfl | hm
        · exact absurd hw q
        · exact ⟨h, hm, hw⟩
  rw [main hs hw]
  rfl
theorem condition_at_ok (hh : HandsOk p hs) {L : List Str} : ∀ (n : Nat) (c : Cnd), c.Ok hs → c.depth ≤ n → ∀ i : Nat, (∀ j s, (c.toks hs)[j]? = some s → L[i + j]? = some s) → m_condition_at n [houseT outs hs, namesD L, .int i] = .ok (.tup [c.d, .int ((i + (c.toks hs).length : Nat) : Int)]) := by
  have t3 : ∀ a b c : D, gTup [a, b, c] = some (.tup [a, b, c]) := tup3
  have t2' : ∀ a b : D, gTup [a, b] = some (.tup [a, b]) := tup2
  intro n
  induction n with
  | zero => intro c _ hd; cases c <;> simp [Cnd.depth] at hd
  | succ n ih =>
    intro c ok hd i hL
    have cast1 : ((i : Int) + 1) = ((i + 1 : Nat) : Int) := by omega
    rw [m_condition_at_succ]
    refine call_rt ?_
    rw [b_condition_at]
    cases c with
    | says k w =>
      have h0 := hL 0 "says" rfl
      have h1 := hL 1 (hat hs k).name rfl
      have h2 := hL 2 w rfl
      rw [Nat.add_zero] at h0
      have w0 := word_at_ok h0
      have sy := saying_ok (outs := outs) hh ok.1 ok.2 h1 h2
      have q1 := eq_lit ok_says ok_says (r := true) (by decide)
      show _ = Out.rt (.tup [(Cnd.says k w).d, .int ((i + 3 : Nat) : Int)])
      generalize houseT outs hs = H at *
      generalize namesD L = LD at *
      generalize (Cnd.says k w).d = CD at *
      simp only [List.map_cons, List.map_nil, List.length_cons, List.length_nil, List.cons_append, List.nil_append, List.replicate, Nat.zero_add, Nat.reduceAdd, Nat.reduceSub, List.set_cons_zero, List.set_cons_succ]
      rw [seq_set (d := .str "says") (by simp [w0])]
      simp only [List.map_cons, List.map_nil, List.length_cons, List.length_nil, List.cons_append, List.nil_append, List.replicate, Nat.zero_add, Nat.reduceAdd, Nat.reduceSub, List.set_cons_zero, List.set_cons_succ]
      simp [q1, sy]
    | count k w =>
      have h0 := hL 0 "count" rfl
      have h1 := hL 1 (digS k) rfl
      have h2 := hL 2 w rfl
      rw [Nat.add_zero] at h0
      have w0 := word_at_ok h0
      have sy := counting_ok (outs := outs) hh ok.1 ok.2.1 (by obtain ⟨h, hm, hw⟩ := ok.2.2; exact ⟨h, hm, hw⟩) h1 h2
      have q1 := eq_lit ok_count ok_says (r := false) (by decide +kernel)
      have q2 := eq_lit ok_count ok_count (r := true) (by decide)
      show _ = Out.rt (.tup [(Cnd.count k w).d, .int ((i + 3 : Nat) : Int)])
      generalize houseT outs hs = H at *
      generalize namesD L = LD at *
      generalize (Cnd.count k w).d = CD at *
      simp only [List.map_cons, List.map_nil, List.length_cons, List.length_nil, List.cons_append, List.nil_append, List.replicate, Nat.zero_add, Nat.reduceAdd, Nat.reduceSub, List.set_cons_zero, List.set_cons_succ]
      rw [seq_set (d := .str "count") (by simp [w0])]
      simp only [List.map_cons, List.map_nil, List.length_cons, List.length_nil, List.cons_append, List.nil_append, List.replicate, Nat.zero_add, Nat.reduceAdd, Nat.reduceSub, List.set_cons_zero, List.set_cons_succ]
      simp [q1, q2, sy]
    | neg a =>
      have h0 := hL 0 "not" rfl
      rw [Nat.add_zero] at h0
      have w0 := word_at_ok h0
      have r1 := ih a ok (by simp only [Cnd.depth] at hd; omega) (i + 1) (fun j s e => by
        have := hL (j + 1) s (by simpa [Cnd.toks] using e)
        rw [← this]; congr 1; omega)
      have q1 := eq_lit ok_not ok_says (r := false) (by decide +kernel)
      have q2 := eq_lit ok_not ok_count (r := false) (by decide +kernel)
      have q3 := eq_lit ok_not ok_not (r := true) (by decide)
      have el : i + 1 + (a.toks hs).length = i + ((Cnd.neg a).toks hs).length := by simp only [Cnd.toks, List.length_cons]; omega
      rw [el] at r1
      show _ = Out.rt (.tup [.tup [.str "not", a.d], _])
      generalize houseT outs hs = H at *
      generalize namesD L = LD at *
      generalize a.d = AD at *
      generalize (i + ((Cnd.neg a).toks hs).length) = e at *
      simp only [List.map_cons, List.map_nil, List.length_cons, List.length_nil, List.cons_append, List.nil_append, List.replicate, Nat.zero_add, Nat.reduceAdd, Nat.reduceSub, List.set_cons_zero, List.set_cons_succ]
      rw [seq_set (d := .str "not") (by simp [w0])]
      simp only [List.map_cons, List.map_nil, List.length_cons, List.length_nil, List.cons_append, List.nil_append, List.replicate, Nat.zero_add, Nat.reduceAdd, Nat.reduceSub, List.set_cons_zero, List.set_cons_succ]
      simp [q1, q2, q3]
      simp only [cast1, r1]
      simp [t2']
    | and a b =>
      have h0 := hL 0 "and" rfl
      rw [Nat.add_zero] at h0
      have w0 := word_at_ok h0
      have dd : a.depth ≤ n ∧ b.depth ≤ n := by simp only [Cnd.depth] at hd; omega
      have r1 := ih a ok.1 dd.1 (i + 1) (fun j s e => by
        have hj := (List.getElem?_eq_some_iff.mp e).1
        have := hL (j + 1) s (by show ((a.toks hs ++ b.toks hs))[j]? = _; rw [List.getElem?_append_left hj]; exact e)
        rw [← this]; congr 1; omega)
      have r2 := ih b ok.2 dd.2 (i + 1 + (a.toks hs).length) (fun j s e => by
        have := hL ((a.toks hs).length + j + 1) s (by show ((a.toks hs ++ b.toks hs))[(a.toks hs).length + j]? = _; rw [List.getElem?_append_right (by omega), Nat.add_sub_cancel_left]; exact e)
        rw [← this]; congr 1; omega)
      have q1 := eq_lit ok_and ok_says (r := false) (by decide +kernel)
      have q2 := eq_lit ok_and ok_count (r := false) (by decide +kernel)
      have q3 := eq_lit ok_and ok_not (r := false) (by decide +kernel)
      have q4 := eq_lit ok_and ok_and (r := true) (by decide)
      have el : i + 1 + (a.toks hs).length + (b.toks hs).length = i + ((Cnd.and a b).toks hs).length := by simp only [Cnd.toks, List.length_cons, List.length_append]; omega
      rw [el] at r2
      show _ = Out.rt (.tup [.tup [.str "and", a.d, b.d], _])
      generalize houseT outs hs = H at *
      generalize namesD L = LD at *
      generalize a.d = AD at *
      generalize b.d = BD at *
      generalize (i + ((Cnd.and a b).toks hs).length) = e at *
      generalize (i + 1 + (a.toks hs).length) = e1 at *
      simp only [List.map_cons, List.map_nil, List.length_cons, List.length_nil, List.cons_append, List.nil_append, List.replicate, Nat.zero_add, Nat.reduceAdd, Nat.reduceSub, List.set_cons_zero, List.set_cons_succ]
      rw [seq_set (d := .str "and") (by simp [w0])]
      simp only [List.map_cons, List.map_nil, List.length_cons, List.length_nil, List.cons_append, List.nil_append, List.replicate, Nat.zero_add, Nat.reduceAdd, Nat.reduceSub, List.set_cons_zero, List.set_cons_succ]
      simp [q1, q2, q3, q4]
      simp only [cast1, r1]
      simp [t3, r2, t2']
    | or a b =>
      have h0 := hL 0 "or" rfl
      rw [Nat.add_zero] at h0
      have w0 := word_at_ok h0
      have dd : a.depth ≤ n ∧ b.depth ≤ n := by simp only [Cnd.depth] at hd; omega
      have r1 := ih a ok.1 dd.1 (i + 1) (fun j s e => by
        have hj := (List.getElem?_eq_some_iff.mp e).1
        have := hL (j + 1) s (by show ((a.toks hs ++ b.toks hs))[j]? = _; rw [List.getElem?_append_left hj]; exact e)
        rw [← this]; congr 1; omega)
      have r2 := ih b ok.2 dd.2 (i + 1 + (a.toks hs).length) (fun j s e => by
        have := hL ((a.toks hs).length + j + 1) s (by show ((a.toks hs ++ b.toks hs))[(a.toks hs).length + j]? = _; rw [List.getElem?_append_right (by omega), Nat.add_sub_cancel_left]; exact e)
        rw [← this]; congr 1; omega)
      have q1 := eq_lit ok_or ok_says (r := false) (by decide +kernel)
      have q2 := eq_lit ok_or ok_count (r := false) (by decide +kernel)
      have q3 := eq_lit ok_or ok_not (r := false) (by decide +kernel)
      have q4 := eq_lit ok_or ok_and (r := false) (by decide +kernel)
      have q5 := eq_lit ok_or ok_or (r := true) (by decide)
      have el : i + 1 + (a.toks hs).length + (b.toks hs).length = i + ((Cnd.or a b).toks hs).length := by simp only [Cnd.toks, List.length_cons, List.length_append]; omega
      rw [el] at r2
      show _ = Out.rt (.tup [.tup [.str "or", a.d, b.d], _])
      generalize houseT outs hs = H at *
      generalize namesD L = LD at *
      generalize a.d = AD at *
      generalize b.d = BD at *
      generalize (i + ((Cnd.or a b).toks hs).length) = e at *
      generalize (i + 1 + (a.toks hs).length) = e1 at *
      simp only [List.map_cons, List.map_nil, List.length_cons, List.length_nil, List.cons_append, List.nil_append, List.replicate, Nat.zero_add, Nat.reduceAdd, Nat.reduceSub, List.set_cons_zero, List.set_cons_succ]
      rw [seq_set (d := .str "or") (by simp [w0])]
      simp only [List.map_cons, List.map_nil, List.length_cons, List.length_nil, List.cons_append, List.nil_append, List.replicate, Nat.zero_add, Nat.reduceAdd, Nat.reduceSub, List.set_cons_zero, List.set_cons_succ]
      simp [q1, q2, q3, q4, q5]
      simp only [cast1, r1]
      simp [t3, r2, t2']
theorem nin_words {l : List Str} {s : Str} (h : s ∈ l) : gNin (.str s) (.tup (l.map D.str)) = some (.bl false) := by
  show (gIn (.str s) (.tup (l.map D.str))).bind _ = _
  rw [in_words, decide_eq_true h]; rfl
theorem clause_some (hh : HandsOk p hs) (ao : AreNames outs 8) {c : Cnd} {o : Str} (fc : Fine hs c) (ho : o ∈ outs) : m_clause_of [houseT outs hs, .str (ctext hs (some c) o), .bl false] = .ok (ruleD (some c, o)) := by
  have tk : ∀ s ∈ clToks hs c o, Tok s := fun s h => by
    rcases List.mem_cons.mp h with rfl | h
    · exact tok_when
    · rcases List.mem_append.mp h with h | h
      · exact toks_tok hh c fc.1 s h
      · rcases List.mem_cons.mp h with rfl | h
        · exact tok_deal
        · rw [List.mem_singleton.mp h]; exact .of (ao.nm _ ho)
  have ll : (clToks hs c o).length = (c.toks hs).length + 3 := by unfold clToks; simp
  have f2 := fc.2
  have sp := split_toks (l := clToks hs c o) (by unfold clToks; simp) (by omega) tk
  have ln := len_names (ss := clToks hs c o)
  have x0 : gIx (namesD (clToks hs c o)) (.int 0) = some (.str "when") := names_ix (k := 0) rfl
  have xm : (clToks hs c o)[(c.toks hs).length + 1]? = some "deal" := by
    show (c.toks hs ++ ([("deal" : Str), o] : List Str))[(c.toks hs).length]? = _
    rw [List.getElem?_append_right (by omega), Nat.sub_self]; rfl
  have xo : (clToks hs c o)[(c.toks hs).length + 2]? = some o := by
    show (c.toks hs ++ ([("deal" : Str), o] : List Str))[(c.toks hs).length + 1]? = _
    rw [List.getElem?_append_right (by omega), Nat.add_sub_cancel_left]; rfl
  have ixm := names_ix xm
  have ixo := names_ix xo
  have dp := Cnd.depth_le (hs := hs) c
  have ca := condition_at_ok (outs := outs) hh (L := clToks hs c o) 60 c fc.1 (by omega) 1 (fun j s e => by
    have hj := (List.getElem?_eq_some_iff.mp e).1
    rw [Nat.add_comm]
    show (c.toks hs ++ ([("deal" : Str), o] : List Str))[j]? = _
    rw [List.getElem?_append_left hj]; exact e)
  have h0 : gIx (houseT outs hs) (.int 0) = some (.tup (outs.map D.str)) := id rfl
  have nn := nin_words ho
  have qw := ne_lit ok_when ok_when (r := true) (by decide)
  have qd := ne_lit ok_deal ok_deal (r := true) (by decide)
  have t2' : ∀ a b : D, gTup [a, b] = some (.tup [a, b]) := tup2
  rw [m_clause_of]
  refine call_rt ?_
  rw [b_clause_of]
  show _ = Out.rt (.tup [c.d, .str o])
  rw [show ctext hs (some c) o = Txt.join " " (clToks hs c o) from rfl]
  generalize houseT outs hs = H at *
  generalize Txt.join " " (clToks hs c o) = TX at *
  generalize hLD : namesD (clToks hs c o) = LD at *
  generalize c.d = CD at *
  generalize (D.tup (outs.map D.str)) = OD at *
  rw [ll] at ln
  generalize (c.toks hs).length = n at *
  have cs1 : ((1 + n : Nat) : Int) = ((n + 1 : Nat) : Int) := by omega
  have cs2 : ((n + 1 : Nat) : Int) + 1 = ((n + 2 : Nat) : Int) := by omega
  have cs3 : ((n + 1 : Nat) : Int) + 2 = ((n + 3 : Nat) : Int) := by omega
  rw [cs1] at ca
  have l40 : ¬ (40 : Int) < ((n + 3 : Nat) : Int) := by omega
  simp only [List.map_cons, List.map_nil, List.length_cons, List.length_nil, List.cons_append, List.nil_append, List.replicate, Nat.zero_add, Nat.reduceAdd, Nat.reduceSub, List.set_cons_zero, List.set_cons_succ]
  rw [seq_set (d := LD) (by simp [sp])]
  simp only [List.map_cons, List.map_nil, List.length_cons, List.length_nil, List.cons_append, List.nil_append, List.replicate, Nat.zero_add, Nat.reduceAdd, Nat.reduceSub, List.set_cons_zero, List.set_cons_succ]
  rw [sSeq_eq, show sIf (mT (m2 gGt (mL gLen (mA1 (mVar 3) (mA0))) (mC (.int 40)))) (sDead) (sNil) [some H, some (.str TX), some (.bl false), some LD, none, none] = .nx [some H, some (.str TX), some (.bl false), some LD, none, none] from by simp only [sIf_eq, mT_eq, m2_eq, mL_eq, mA1_eq, mA0_eq, mVar_eq, mC_eq, List.getElem?_cons_zero, List.getElem?_cons_succ, Res.bind_ok, ln, ofO_some, gGt_int, decide_eq_false l40, ofB_eq, Res.out_ok, if_neg (show ¬ (false = true) by decide), sNil_eq], Out.nx_bind]
  rw [seq_set (d := .non) (by simp)]
  simp only [List.map_cons, List.map_nil, List.length_cons, List.length_nil, List.cons_append, List.nil_append, List.replicate, Nat.zero_add, Nat.reduceAdd, Nat.reduceSub, List.set_cons_zero, List.set_cons_succ]
  rw [seq_set (d := .int 0) (by simp)]
  simp only [List.map_cons, List.map_nil, List.length_cons, List.length_nil, List.cons_append, List.nil_append, List.replicate, Nat.zero_add, Nat.reduceAdd, Nat.reduceSub, List.set_cons_zero, List.set_cons_succ]
  rw [sSeq_eq, sIf_eq, show (tNotM (mT (mVar 2))) [some H, some (.str TX), some (.bl false), some LD, some .non, some (.int 0)] = .ok true from by simp, Res.out_ok, if_pos rfl, sSeq_eq,
    show sIf (mT (m2 gNe (m2 gIx (mVar 3) (mC (.int 0))) (mC (.str "when")))) (sDead) (sNil) [some H, some (.str TX), some (.bl false), some LD, some .non, some (.int 0)] = .nx [some H, some (.str TX), some (.bl false), some LD, some .non, some (.int 0)] from by simp [x0, qw], Out.nx_bind,
    show sAsg (tgT [4, 5]) (mArgs (m_condition_at 60) (mA1 (mVar 0) (mA1 (mVar 3) (mA1 (mC (.int 1)) (mA0))))) [some H, some (.str TX), some (.bl false), some LD, some .non, some (.int 0)] = .nx [some H, some (.str TX), some (.bl false), some LD, some CD, some (.int ((n + 1 : Nat) : Int))] from by
      have ca' : m_condition_at 60 [H, LD, .int 1] = .ok (.tup [CD, .int ((n + 1 : Nat) : Int)]) := ca
      generalize ((n + 1 : Nat) : Int) = zz at *
      simp [ca'], Out.nx_bind]
  generalize hz : ((n + 1 : Nat) : Int) = z at *
  generalize hz2 : ((n + 2 : Nat) : Int) = z2 at *
  generalize hz3 : ((n + 3 : Nat) : Int) = z3 at *
  simp [ln, cs2, cs3, ixm, qd, ixo, h0, nn, t2']
theorem clause_none {o : Str} (ao : AreNames outs 8) (ho : o ∈ outs) : m_clause_of [houseT outs hs, .str (ctext hs none o), .bl true] = .ok (ruleD (none, o)) := by
  have tk : ∀ s ∈ [("deal" : Str), o], Tok s := fun s h => by
    rcases List.mem_cons.mp h with rfl | h
    · exact tok_deal
    · rw [List.mem_singleton.mp h]; exact .of (ao.nm _ ho)
  have sp := split_toks (l := [("deal" : Str), o]) (by simp) (by simp) tk
  have ln : gLen [namesD [("deal" : Str), o]] = some (.int 2) := len_names
  have x0 : gIx (namesD [("deal" : Str), o]) (.int 0) = some (.str "deal") := names_ix (k := 0) rfl
  have x1 : gIx (namesD [("deal" : Str), o]) (.int 1) = some (.str o) := names_ix (k := 1) rfl
  have h0 : gIx (houseT outs hs) (.int 0) = some (.tup (outs.map D.str)) := id rfl
  have nn := nin_words ho
  have qd := ne_lit ok_deal ok_deal (r := true) (by decide)
  have t2' : ∀ a b : D, gTup [a, b] = some (.tup [a, b]) := tup2
  rw [m_clause_of]
  refine call_rt ?_
  rw [b_clause_of]
  show _ = Out.rt (.tup [.non, .str o])
  rw [show ctext hs none o = Txt.join " " [("deal" : Str), o] from deal_join]
  generalize houseT outs hs = H at *
  generalize Txt.join " " [("deal" : Str), o] = TX at *
  generalize hLD : namesD [("deal" : Str), o] = LD at *
  generalize (D.tup (outs.map D.str)) = OD at *
  simp only [List.map_cons, List.map_nil, List.length_cons, List.length_nil, List.cons_append, List.nil_append, List.replicate, Nat.zero_add, Nat.reduceAdd, Nat.reduceSub, List.set_cons_zero, List.set_cons_succ]
  rw [seq_set (d := LD) (by simp [sp])]
  simp only [List.map_cons, List.map_nil, List.length_cons, List.length_nil, List.cons_append, List.nil_append, List.replicate, Nat.zero_add, Nat.reduceAdd, Nat.reduceSub, List.set_cons_zero, List.set_cons_succ]
  simp [ln, x0, x1, qd, h0, nn, t2']
theorem read_rule_ok (hh : HandsOk p hs) (ao : AreNames outs 8) {cl : List (Option Cnd × Str)} (hc : Clauses hs outs cl) : m_read_rule [houseT outs hs, .str (Txt.join "; " (cl.map (cltext hs)))] = .ok (rulesD cl) := by
  obtain ⟨_, sp⟩ := texts_join hh ao hc
  obtain ⟨init, o, ecl, il, om, fine⟩ := hc.split
  have ln := len_names (ss := cl.map (cltext hs))
  have lcl : cl.length = init.length + 1 := by rw [ecl]; simp
  rw [List.length_map] at ln
  have one : ∀ (i : Nat) x, cl[i]? = some x → m_clause_of [houseT outs hs, .str (cltext hs x), .bl (decide ((i : Int) = (cl.length : Int) - 1))] = .ok (ruleD x) := fun i x hx => by
    have hi := (List.getElem?_eq_some_iff.mp hx).1
    rw [ecl] at hx
    by_cases h : i < init.length
    · rw [List.getElem?_append_left (by simpa using h), List.getElem?_map] at hx
      obtain ⟨⟨c, o'⟩, hm, rfl⟩ := Option.map_eq_some_iff.mp hx
      obtain ⟨fc, ho⟩ := fine _ (List.mem_of_getElem? hm)
      rw [decide_eq_false (by omega)]
      exact clause_some hh ao fc ho
    · have e : i = init.length := by omega
      rw [List.getElem?_append_right (by simpa using (by omega : init.length ≤ i)), List.length_map, e, Nat.sub_self] at hx
      cases hx
      rw [decide_eq_true (by omega)]
      exact clause_none ao om
  rw [m_read_rule]
  refine call_rt ?_
  rw [b_read_rule]
  have hT : ∀ (i : Nat) x, cl[i]? = some x → ((cl.map (cltext hs)).map D.str)[i]? = some (.str (cltext hs x)) := fun i x hx => by
    rw [List.getElem?_map, List.getElem?_map, hx]; rfl
  have lT : ((cl.map (cltext hs)).map D.str).length = cl.length := by simp
  have en : iSqE (namesD (cl.map (cltext hs))) = some (enumL 0 ((cl.map (cltext hs)).map D.str)) := id rfl
  have iss : gIsi "str" (.str (Txt.join "; " (cl.map (cltext hs)))) = some (.bl true) := isi_str
  generalize houseT outs hs = H at *
  generalize hTD : (cl.map (cltext hs)).map D.str = TD at *
  generalize namesD (cl.map (cltext hs)) = LD at *
  generalize Txt.join "; " (cl.map (cltext hs)) = TX at *
  have l20 : ¬ (20 : Int) < (cl.length : Int) := by omega
  simp only [List.map_cons, List.map_nil, List.length_cons, List.length_nil, List.cons_append, List.nil_append, List.replicate, Nat.zero_add, Nat.reduceAdd, Nat.reduceSub, List.set_cons_zero, List.set_cons_succ]
  rw [sSeq_eq, show sIf (tNotM (mT (m1 (gIsi "str") (mVar 1)))) (sDead) (sNil) [some H, some (.str TX), none, none, none] = .nx [some H, some (.str TX), none, none, none] from by simp [iss], Out.nx_bind]
  rw [seq_set (d := LD) (by simp [sp])]
  simp only [List.map_cons, List.map_nil, List.length_cons, List.length_nil, List.cons_append, List.nil_append, List.replicate, Nat.zero_add, Nat.reduceAdd, Nat.reduceSub, List.set_cons_zero, List.set_cons_succ]
  rw [sSeq_eq, show sIf (mT (m2 gGt (mL gLen (mA1 (mVar 2) (mA0))) (mC (.int 20)))) (sDead) (sNil) [some H, some (.str TX), some LD, none, none] = .nx [some H, some (.str TX), some LD, none, none] from by simp [ln, l20], Out.nx_bind]
  have lc : mLc [3, 4] (tgT [3, 4]) (iEnumM (mVar 2)) (tYesM) (mArgs m_clause_of (mA1 (mVar 0) (mA1 (mVar 4) (mA1 (m2 gEq (mVar 3) (m2 gSub (mL gLen (mA1 (mVar 2) (mA0))) (mC (.int 1)))) (mA0))))) [some H, some (.str TX), some LD, none, none] = .ok (rulesD cl) := by
    have g : ∃ g : D → D, ∀ (i : Nat) x d, cl[i]? = some x → g (.tup [.int (i : Nat), d]) = ruleD x := ⟨fun d => match d with | .tup [.int z, _] => (cl[z.toNat]?.map ruleD).getD .non | d => d, fun i x d h => by
      show (cl[((i : Nat) : Int).toNat]?.map ruleD).getD .non = _
      rw [Int.toNat_natCast, h]; rfl⟩
    obtain ⟨g, hg⟩ := g
    rw [lc_l (enumL 0 TD) g (by simp [en]) (by
      have : (enumL 0 TD).length = cl.length := by rw [enumL_len, lT]
      rw [this]; exact b24 (by omega)) (fun d hd => by
      obtain ⟨i, hi⟩ := List.mem_iff_getElem?.mp hd
      rw [enumL_get] at hi
      obtain ⟨t, ht, rfl⟩ := Option.map_eq_some_iff.mp hi
      have hil : i < cl.length := by have := (List.getElem?_eq_some_iff.mp ht).1; omega
      obtain ⟨x, hx⟩ : ∃ x, cl[i]? = some x := ⟨_, List.getElem?_eq_getElem hil⟩
      rw [hT i x hx] at ht
      cases ht
      have o1 := one i x hx
      rw [Nat.zero_add, hg i x _ hx]
      generalize cltext hs x = tx at *
      generalize ruleD x = rx at *
      exact ⟨[some H, some (.str TX), some LD, some (.int (i : Nat)), some (.str tx)], id rfl, by simp [ln, o1]⟩)]
    unfold rulesD
    congr 2
    refine List.ext_getElem? fun i => ?_
    rw [List.getElem?_map, enumL_get, List.getElem?_map]
    by_cases hil : i < cl.length
    · obtain ⟨x, hx⟩ : ∃ x, cl[i]? = some x := ⟨_, List.getElem?_eq_getElem hil⟩
      rw [hT i x hx, hx, Nat.zero_add]
      show some (g _) = some _
      rw [hg i x _ hx]
    · rw [List.getElem?_eq_none (by omega), List.getElem?_eq_none (by omega)]; rfl
  rw [sRet_eq, lc]; rfl
end
end TWT
-- TWBound
namespace TW
open PySem PySem.Spec PyProof.Rows L2
section
variable {hs : List Hand} {outs : List Str} {p : Nat}
end
end TW
-- TWEat
namespace TW
open PySem PySem.Spec PyProof.Rows L2
def sayB (hs : List Hand) (nm wd : Str) : Bool := hs.any fun h => decide (h.name = nm) && decide (wd ∈ h.words)
def hasB (hs : List Hand) (wd : Str) : Bool := hs.any fun h => decide (wd ∈ h.words)
def figs : List Str := ["1", "2", "3", "4"]
def figB (s : Str) : Bool := decide (s ∈ figs)
def eat (hs : List Hand) (l : List Str) (w : Nat) : Option (List Str) :=
  match w with
  | 0 => some l
  | w + 1 => match l with
    | [] => none
    | x :: r =>
      if x = "says" then (if sayB hs (r.getD 0 "") (r.getD 1 "") = true then eat hs (r.drop 2) w else none)
      else if x = "count" then (if (figB (r.getD 0 "") && hasB hs (r.getD 1 "")) = true then eat hs (r.drop 2) w else none)
      else if x = "not" then eat hs r (w + 1)
      else if x = "and" ∨ x = "or" then eat hs r (w + 2)
      else none
termination_by l.length
decreasing_by all_goals simp_wf <;> omega
section
variable {hs : List Hand}
end
end TW
-- TWEat2
namespace TW
open PySem PySem.Spec PyProof.Rows L2
section
variable {hs : List Hand} {outs : List Str} {p : Nat}
theorem fa {f : D → Rho → Option Rho} {b : Rho → Out} : ∀ (A B : List D) (ρ ρ' : Rho), forL f b A ρ = .nx ρ' → forL f b (A ++ B) ρ = forL f b B ρ' := by
  intro A
  induction A with
  | nil => intro B ρ ρ' h; cases h; rfl
  | cons d A ih =>
    intro B ρ ρ' h
    have u : ∀ (l : List D), forL f b (d :: l) ρ = match f d ρ with | some ρ' => (b ρ').bind (forL f b l) | none => .stuck := fun l => id rfl
    rw [List.cons_append, u]
    rw [u] at h
    cases e : f d ρ with
    | none => rw [e] at h; cases h
    | some ρ1 =>
      rw [e] at h
      dsimp only at h ⊢
      cases e2 : b ρ1 with
      | nx ρ2 =>
        rw [e2, Out.nx_bind] at h
        rw [Out.nx_bind]
        exact ih B ρ2 ρ' h
      | _ => rw [e2] at h; cases h
end
end TW
-- TWEat3
namespace TW
open PySem PySem.Spec PyProof.Rows L2
def tailW (hs : List Hand) (last : Bool) (W : List Str) : Option (List Str) := if last = true then some W else if W.getD 0 "" = "when" then eat hs (W.drop 1) 1 else none
def goodW (hs : List Hand) (outs : List Str) (last : Bool) (W : List Str) : Prop := W.length ≤ 40 ∧ ∃ o ∈ outs, tailW hs last W = some [("deal" : Str), o]
section
variable {hs : List Hand} {outs : List Str} {p : Nat}
end
end TW
-- TWEat4
namespace TW
open PySem PySem.Spec PyProof.Rows L2
section
variable {hs : List Hand} {outs : List Str} {p : Nat}
end
end TW
-- TWBad
namespace TW
open PySem PySem.Spec PyProof.Rows L2
def NmOk (d : D) : Prop := (∃ s, d = .str s ∧ s.length ≤ 1000) ∨ gIsi "str" d = some (.bl false)
theorem NmOk.of {s : Str} (h : IsName s) : NmOk (.str s) := .inl ⟨s, rfl, by have := h.hi; omega⟩
section
variable {p : Nat}
end
section
variable {o h : D}
end
end TW
-- TWEat5
namespace TW
open PySem PySem.Spec PyProof.Rows L2
instance {hs : List Hand} {outs : List Str} {last : Bool} {W : List Str} : Decidable (goodW hs outs last W) := by unfold goodW; exact inferInstance
section
variable {hs : List Hand} {outs : List Str} {p : Nat}
end
end TW
-- TWEat6
namespace TW
open PySem PySem.Spec PyProof.Rows L2
section
variable {hs : List Hand} {outs : List Str} {p : Nat}
structure Ruled (hs : List Hand) (outs : List Str) (T : Str) (cl : List (Option Cnd × Str)) : Prop where
  txt : cl.map (cltext hs) = Txt.split T "; "
  len : cl.length ≤ 20
  ok : ∀ x ∈ cl, x.2 ∈ outs ∧ ∀ c : Cnd, x.1 = some c → c.Ok hs ∧ (c.toks hs).length ≤ 37
end
end TW
-- TWSpoil
namespace TW
open PySem PySem.Spec PyProof.Rows L2
theorem if_skip {t : Rho → Res Bool} {a R : Rho → Out} {ρ : Rho} (h : t ρ = .ok false) : sSeq (sIf t a sNil) R ρ = R ρ := by rw [sSeq_eq, sIf_eq, h]; rfl
theorem if_take {t : Rho → Res Bool} {a R : Rho → Out} {ρ : Rho} (h : t ρ = .ok true) : sSeq (sIf t a sNil) R ρ = sSeq a R ρ := by rw [sSeq_eq, sIf_eq, h]; rfl
theorem gsl_str {s : Str} {lo hi : Option Int} (h : s.length ≤ 1000000) : gSl (.str s) lo hi = some (.str (cutS s lo hi)) := if_pos (Nat.le_trans h (by decide))
theorem cutD_map {α β : Type} {f : α → β} {l : List α} {lo hi : Option Int} : cutD (l.map f) lo hi = (cutD l lo hi).map f := by
  unfold cutD
  rw [List.length_map, List.map_take, List.map_drop]
theorem gsl_names {l : List Str} {lo hi : Option Int} : gSl (namesD l) lo hi = some (namesD (cutD l lo hi)) := by
  show some (D.lst (cutD (l.map D.str) lo hi)) = _
  rw [cutD_map]; rfl
end TW
-- TWSaid
namespace TW
open PySem PySem.Spec PyProof.Rows L2
theorem free3 {c : Nat} {p q : List Nat} (hc : c ∉ p) (h2 : c ≠ 32) (hq : q = [] ∨ ∃ r, q = 32 :: r) : ∀ i, i < p.length → TL.pre [32, c, 32] ((p ++ q).drop i) = false := fun i hi => by
  cases hp : TL.pre [32, c, 32] ((p ++ q).drop i) with
  | false => rfl
  | true =>
    have e : ((p ++ q).drop i).take 3 = [32, c, 32] := eq_of_beq hp
    have e1 := congrArg (fun l : List Nat => l[1]?) e
    rw [List.getElem?_take, if_pos (by decide), List.getElem?_drop] at e1
    have e1 : (p ++ q)[i + 1]? = some c := e1
    by_cases h : i + 1 < p.length
    · rw [List.getElem?_append_left h, List.getElem?_eq_getElem h] at e1
      exact absurd (Option.some.inj e1 ▸ List.getElem_mem h) hc
    · rw [List.getElem?_append_right (by omega), show i + 1 - p.length = 0 by omega] at e1
      rcases hq with rfl | ⟨r, rfl⟩
      · cases e1
      · exact absurd (Option.some.inj e1).symm h2
theorem spl_join3 {c : Nat} (h2 : c ≠ 32) : ∀ {parts : List (List Nat)}, parts ≠ [] → (∀ p ∈ parts, c ∉ p) → TL.spl [32, c, 32] 0 [] (TL.joinL [32, c, 32] parts) = parts
  | [], h, _ => absurd rfl h
  | [p], _, hp => by
    show TL.spl [32, c, 32] 0 [] p = [p]
    have := TL.spl_last (S := [32, c, 32]) (p := p) (acc := []) fun i hi => by
      have := free3 (q := []) (hp p (List.mem_singleton.mpr rfl)) h2 (.inl rfl) i hi
      rwa [List.append_nil] at this
    rw [this, List.nil_append]
  | p :: q :: r, _, hp => by
    show TL.spl [32, c, 32] 0 [] (p ++ ([32, c, 32] ++ TL.joinL [32, c, 32] (q :: r))) = p :: q :: r
    rw [TL.spl_part (by simp) fun i hi => free3 (hp p List.mem_cons_self) h2 (.inr ⟨_, rfl⟩) i hi, List.nil_append, spl_join3 h2 (by simp) fun z hz => hp z (List.mem_cons_of_mem _ hz)]
theorem split_join3 {y : Str} {c : Nat} (ey : TL.tl y = [32, c, 32]) (h2 : c ≠ 32) (hk : y.cps.all (· < 256) = true) {parts : List Str} (hne : parts ≠ []) (hp : ∀ p ∈ parts, c ∉ TL.tl p) : Txt.split (Txt.join y parts) y = parts := by
  refine TL.map_tl_inj ?_
  rw [TL.split_spl _ y (by rw [ey]; simp) (TL.kind_ok hk), TL.join_eq, TL.tl_join, ey]
  refine spl_join3 h2 (fun e => hne (List.map_eq_nil_iff.mp e)) fun p h => ?_
  obtain ⟨z, hz, rfl⟩ := List.mem_map.mp h
  exact hp z hz
theorem gSplit_of {a b : Str} {l : List Str} (hb : (b.length == 0) = false) (ha : a.length ≤ 1000000) (e : Txt.split a b = l) : gSplit (.str a) (.str b) = some (namesD l) := by
  have e1 : gSplit (.str a) (.str b) = some (.lst ((Txt.split a b).map .str)) := if_pos (e := none) ⟨hb, by show a.length + 2 ≤ 16777216; omega⟩
  rw [e1, e]; rfl
theorem gPart_of {a b c : Str} {s : Nat} {S : List Nat} (ey : TL.tl b = s :: S) (h : s ∉ TL.tl a) (hl : (a ++ b ++ c).length ≤ 1000000) (hb : (b.length == 0) = false) : gPart (.str (a ++ b ++ c)) (.str b) = some (.tup [.str a, .str b, .str c]) := by
  have e1 : gPart (.str (a ++ b ++ c)) (.str b) = some (.tup [.str (Txt.partition (a ++ b ++ c) b).1, .str (Txt.partition (a ++ b ++ c) b).2.1, .str (Txt.partition (a ++ b ++ c) b).2.2]) := if_pos (e := none) ⟨hb, by show (a ++ b ++ c).length ≤ 16777216; omega⟩
  rw [e1, TL.partition_app ey h]
theorem tl_sp : TL.tl (" " : Str) = [32] := by decide +kernel
theorem tl_sl : TL.tl (" / " : Str) = [32, 47, 32] := by decide +kernel
theorem tl_eq : TL.tl (" = " : Str) = [32, 61, 32] := by decide +kernel
theorem join_cons2 (y a b : Str) (l : List Str) : Txt.join y (a :: b :: l) = a ++ y ++ Txt.join y (b :: l) := by
  rw [TL.join_eq, TL.join_eq]; rfl
theorem join_one' (y a : Str) : Txt.join y [a] = a := by rw [TL.join_eq]; rfl
theorem joinL_snoc (S : List Nat) (b : List Nat) : ∀ {l : List (List Nat)}, l ≠ [] → TL.joinL S (l ++ [b]) = TL.joinL S l ++ (S ++ b)
  | [], h => absurd rfl h
  | [a], _ => rfl
  | a :: c :: l, _ => by
    show a ++ (S ++ TL.joinL S (c :: l ++ [b])) = a ++ (S ++ TL.joinL S (c :: l)) ++ (S ++ b)
    rw [joinL_snoc S b (by simp)]
    simp only [List.append_assoc]
theorem join_snoc (y b : Str) {l : List Str} (h : l ≠ []) : Txt.join y (l ++ [b]) = Txt.join y l ++ y ++ b := by
  refine TL.ext_tl ?_
  rw [TL.join_eq, TL.join_eq, TL.tl_append, TL.tl_append, TL.tl_join, TL.tl_join, List.map_append, List.map_cons, List.map_nil, joinL_snoc _ _ (fun e => h (List.map_eq_nil_iff.mp e)), List.append_assoc]
def numS (z : Int) : Str := Str.ofString (toString z)
theorem tl_neg (n : Nat) : TL.tl (numS (Int.negSucc n)) = 45 :: TL.numL (n + 1) := by
  have e : toString (Int.negSucc n) = "-" ++ toString (n + 1) := rfl
  have e2 : toString ((n + 1 : Nat) : Int) = toString (n + 1) := rfl
  unfold numS
  rw [TL.tl_ofString, e, ← e2, String.toList_append, List.map_append, ← TL.tl_ofString (toString ((n + 1 : Nat) : Int)), TL.tl_num]
  rfl
theorem tl_nat (n : Nat) : TL.tl (numS (n : Int)) = TL.numL n := TL.tl_num n
theorem numL_head : ∀ (n : Nat), ∃ c r, TL.numL n = c :: r ∧ (c = 48 → n = 0) := by
  intro n
  induction n using Nat.strongRecOn with
  | _ n ih =>
    by_cases h : n < 10
    · exact ⟨48 + n, [], TL.numL_lt h, fun e => by omega⟩
    · obtain ⟨c, r, e, hc⟩ := ih (n / 10) (by omega)
      exact ⟨c, r ++ [48 + n % 10], by rw [TL.numL_step (by omega), e]; rfl, fun z => absurd (hc z) (by omega)⟩
theorem numL_zero : TL.numL 0 = [48] := TL.numL_lt (by decide)
theorem num_cases (z : Int) (hz : -T60 < z ∧ z < T60) : ∃ (n : Nat), (TL.numL n).length ≤ 60 ∧ ((z = n ∧ TL.tl (numS z) = TL.numL n) ∨ (1 ≤ n ∧ z = -(n : Int) ∧ TL.tl (numS z) = 45 :: TL.numL n)) := by
  have T : T60 = ((10 ^ 60 : Nat) : Int) := by decide
  rw [T] at hz
  cases z with
  | ofNat n => exact ⟨n, TL.numL_len (by decide) (by have : (n : Int) < ((10 ^ 60 : Nat) : Int) := hz.2; omega), .inl ⟨rfl, tl_nat n⟩⟩
  | negSucc n => exact ⟨n + 1, TL.numL_len (by decide) (by have := hz.1; omega), .inr ⟨by omega, by omega, tl_neg n⟩⟩
theorem num_signs {z : Int} (hz : -T60 < z ∧ z < T60) : ∀ c ∈ TL.tl (numS z), c = 45 ∨ (48 ≤ c ∧ c ≤ 57) := fun c hc => by
  obtain ⟨n, _, ⟨_, e⟩ | ⟨_, _, e⟩⟩ := num_cases z hz
  · rw [e] at hc; exact .inr (TL.numL_digits n c hc)
  · rw [e] at hc
    rcases List.mem_cons.mp hc with h | h
    · exact .inl h
    · exact .inr (TL.numL_digits n c h)
theorem num_len {z : Int} (hz : -T60 < z ∧ z < T60) : 1 ≤ (numS z).length ∧ (numS z).length ≤ 61 := by
  obtain ⟨n, hn, ⟨_, e⟩ | ⟨_, _, e⟩⟩ := num_cases z hz
  · have := List.length_pos_iff.mpr (TL.numL_ne n)
    rw [TL.len_tl, e]; omega
  · rw [TL.len_tl, e, List.length_cons]; omega
theorem int_numS {z : Int} (hz : -T60 < z ∧ z < T60) : gIntS [.str (numS z)] = some (.int z) := by
  have hl := num_len hz
  have e : gIntS [.str (numS z)] = (PySem.intText? (numS z)).map .int := if_pos (by omega)
  rw [e]
  obtain ⟨n, hn, ⟨rfl, et⟩ | ⟨h1, rfl, et⟩⟩ := num_cases z hz
  · rw [show PySem.intText? (numS n) = some (n : Int) from TL.int_num (by omega)]; rfl
  · have := intText_neg (x := numS (-(n : Int))) et (TL.numL_digits n) (TL.numL_ne n) (by omega)
    rw [this, TL.numL_val]; rfl
theorem str_numS {z : Int} (hz : -T60 < z ∧ z < T60) : gStr [.int z] = some (.str (numS z)) := by
  have : z.natAbs < 2 ^ 250 := by
    have : T60 = ((10 ^ 60 : Nat) : Int) := by decide
    have h3 : (10 ^ 60 : Nat) < 2 ^ 250 := by decide
    omega
  have l : z.natAbs.log2 < 1920 := Nat.lt_trans (log2_lt this (by decide)) (by decide)
  exact if_pos l
theorem strOk_num {z : Int} (hz : -T60 < z ∧ z < T60) : PyData.strOk (numS z) = true := by
  unfold PyData.strOk
  rw [Array.all_eq_true']
  intro c hc
  have := num_signs hz c (Array.mem_toList_iff.mpr hc)
  simp; omega
theorem nin_fig {c : Nat} (h : 48 ≤ c ∧ c ≤ 57) : gNin (.str ⟨#[c]⟩) (.str "0123456789") = some (.bl false) := by
  have : decide (c ∈ ("0123456789" : Str).cps.toList) = true := by
    have : ("0123456789" : Str).cps.toList = [48, 49, 50, 51, 52, 53, 54, 55, 56, 57] := by decide +kernel
    rw [this]
    refine decide_eq_true ?_
    simp; omega
  show (some (D.bl (decide (c ∈ ("0123456789" : Str).cps.toList)))).bind _ = _
  rw [this]; rfl
theorem tl_cut (s : Str) (lo hi : Option Int) : TL.tl (cutS s lo hi) = cutD (TL.tl s) lo hi := by
  unfold cutS cutD
  rw [← TL.len_tl]
theorem number_in_ok {z : Int} (hz : -T60 < z ∧ z < T60) : m_number_in [.str (numS z)] = .ok (.int z) := by
  have hl := num_len hz
  have i1 := int_numS hz
  have sg := num_signs hz
  have ok1 := strOk_num hz
  have sl : ∀ lo hi, gSl (.str (numS z)) lo hi = some (.str (cutS (numS z) lo hi)) := fun lo hi => gsl_str (by omega)
  have c1 : TL.tl (cutS (numS z) none (some 1)) = (TL.tl (numS z)).take 1 := by rw [tl_cut]; exact cut_to (k := 1) (by rw [← TL.len_tl]; omega)
  have c2 : TL.tl (cutS (numS z) (some 1) none) = (TL.tl (numS z)).drop 1 := by rw [tl_cut]; exact cut_from (k := 1)
  have okm : PyData.strOk "-" = true := by decide +kernel
  have ok0 : PyData.strOk "0" = true := by decide +kernel
  have tm : TL.tl ("-" : Str) = [45] := by decide +kernel
  have t0 : TL.tl ("0" : Str) = [48] := by decide +kernel
  have okc : PyData.strOk (cutS (numS z) none (some 1)) = true := by
    unfold PyData.strOk
    rw [Array.all_eq_true']
    intro c hc
    have h : c ∈ TL.tl (cutS (numS z) none (some 1)) := Array.mem_toList_iff.mpr hc
    rw [c1] at h
    have := sg c (List.mem_of_mem_take h)
    simp; omega
  obtain ⟨n, hn, hcase⟩ := num_cases z hz
  obtain ⟨c, r, ec, hc0⟩ := numL_head n
  have dg := TL.numL_digits n
  have cd : 48 ≤ c ∧ c ≤ 57 := dg c (by rw [ec]; exact List.mem_cons_self)
  -- the figures
  obtain ⟨fg, efg, m1e, hne⟩ : ∃ fg : Str, TL.tl fg = TL.numL n ∧ (sIf (mT (m2 gEq (mSl (mVar 0) (oNo) (oYes (mC (.int 1)))) (mC (.str "-")))) (sSet 1 (mSl (mVar 0) (oYes (mC (.int 1))) (oNo))) (sNil) [some (.str (numS z)), some (.str (numS z)), none] = .nx [some (.str (numS z)), some (.str fg), none]) ∧ (c = 48 → gNe (.str (numS z)) (.str "0") = some (.bl false)) := by
    rcases hcase with ⟨rfl, et⟩ | ⟨h1, rfl, et⟩
    · refine ⟨numS n, et, ?_, fun h => ?_⟩
      · have : decide (cutS (numS n) none (some 1) = "-") = false := decide_eq_false fun q => by
          have := congrArg TL.tl q
          rw [c1, et, ec, tm] at this
          have := (List.cons.inj this).1
          omega
        have e := gEq_str okc okm
        rw [this] at e
        simp [sl, e]
      · have n0 := hc0 h
        subst n0
        have : numS ((0 : Nat) : Int) = "0" := TL.ext_tl (by rw [et, t0, numL_zero])
        have e := gNe_str ok1 ok0
        rw [decide_eq_true this] at e
        exact e
    · refine ⟨cutS (numS (-(n : Int))) (some 1) none, by rw [c2, et]; rfl, ?_, fun h => absurd (hc0 h) (by omega)⟩
      have : decide (cutS (numS (-(n : Int))) none (some 1) = "-") = true := decide_eq_true (TL.ext_tl (by rw [c1, et, tm]; rfl))
      have e := gEq_str okc okm
      rw [this] at e
      simp [sl, e]
  have fl : fg.length ≤ 60 := by rw [TL.len_tl, efg]; exact hn
  have fl1 : 1 ≤ fg.length := by rw [TL.len_tl, efg, ec]; simp
  have lf : gLen [.str fg] = some (.int fg.length) := gLen_str (by omega)
  have ix0 : gIx (.str fg) (.int 0) = some (.str ⟨#[c]⟩) := by
    show (if fg.length ≤ sizeLine then (atI fg.cps.toList (0 : Int)).map fun c => D.str ⟨#[c]⟩ else none) = _
    rw [if_pos (Nat.le_trans fl (by decide)), show fg.cps.toList = c :: r from efg.trans ec, show (0 : Int) = ((0 : Nat) : Int) from rfl, TW.atI_nat (by simp)]
    rfl
  have okc1 : PyData.strOk ⟨#[c]⟩ = true := by
    unfold PyData.strOk
    rw [Array.all_eq_true']
    intro x hx
    have : x = c := by simpa using hx
    simp; omega
  have eq0 : gEq (.str ⟨#[c]⟩) (.str "0") = some (.bl (decide (c = 48))) := by
    rw [gEq_str okc1 ok0]
    congr 2
    refine decide_eq_decide.mpr ⟨fun q => ?_, fun q => TL.ext_tl (by rw [t0, q])⟩
    have := congrArg TL.tl q
    rw [t0] at this
    exact (List.cons.inj this).1
  have it : iLoc (.str fg) = some (fg.cps.toList.map fun c => .str ⟨#[c]⟩) := iLoc_str
  rw [m_number_in]
  refine call_rt ?_
  rw [b_number_in]
  simp only [List.map_cons, List.map_nil, List.length_cons, List.length_nil, List.cons_append, List.nil_append, List.replicate, Nat.zero_add, Nat.reduceAdd, Nat.reduceSub, List.set_cons_zero, List.set_cons_succ]
  rw [seq_set (d := .str (numS z)) (by simp)]
  simp only [List.map_cons, List.map_nil, List.length_cons, List.length_nil, List.cons_append, List.nil_append, List.replicate, Nat.zero_add, Nat.reduceAdd, Nat.reduceSub, List.set_cons_zero, List.set_cons_succ]
  rw [sSeq_eq, m1e, Out.nx_bind]
  rw [sSeq_eq, show sIf (tOrM (tNotM (mT (mChain gLe gLe (mC (.int 1)) (mL gLen (mA1 (mVar 1) (mA0))) (mC (.int 60))))) (tAndM (mT (m2 gEq (m2 gIx (mVar 1) (mC (.int 0))) (mC (.str "0")))) (mT (m2 gNe (mVar 0) (mC (.str "0")))))) (sRet (mC .non)) (sNil) [some (.str (numS z)), some (.str fg), none] = .nx [some (.str (numS z)), some (.str fg), none] from by
    have q1 : gLe (.int 1) (.int fg.length) = some (.bl true) := by rw [gLe_int, decide_eq_true (by omega)]
    have q2 : gLe (.int fg.length) (.int 60) = some (.bl true) := by rw [gLe_int, decide_eq_true (by omega)]
    by_cases h : c = 48
    · rw [decide_eq_true h] at eq0
      have h3 := hne h
      simp [mChain_eq, lf, q1, q2, ix0, eq0, h3]
    · rw [decide_eq_false h] at eq0
      simp [mChain_eq, lf, q1, q2, ix0, eq0], Out.nx_bind]
  rw [sSeq_eq]
  obtain ⟨ρ', e, x2, rfl⟩ := for_lN (j := 2) (m := iAny (mVar 1)) (b := sIf (mT (m2 gNin (mVar 2) (mC (.str "0123456789")))) (sRet (mC .non)) (sNil)) (ρ := [some (.str (numS z)), some (.str fg), none])
    (fun k ρ => ∃ x2, ρ = [some (.str (numS z)), some (.str fg), x2]) (fg.cps.toList.map fun c => .str ⟨#[c]⟩) (by simp [it]) ⟨_, rfl⟩ (by
      rintro k d ρ hd ⟨x1, rfl⟩
      obtain ⟨x, hx, rfl⟩ := List.mem_map.mp (List.mem_of_getElem? hd)
      have hx : x ∈ TL.numL n := by rw [← efg]; exact hx
      exact ⟨_, by simp [nin_fig (dg x hx)]; rfl, _, rfl⟩)
  rw [e, Out.nx_bind]
  simp [i1]
end TW
-- TWSaid2
namespace TW
open PySem PySem.Spec PyProof.Rows L2
def W13 : List Str := ["deal", "rule", "best", "house", "pays", "verdict", "menu", "ok", "ring", "when", "says", "count", "not"]
def W13b : List Str := ["and", "or", "payable", "a", "b", "c", "aa", "ab", "ba", "d", "e", "f", "g"]
def W26 : List Str := W13 ++ W13b
theorem w26_names : ∀ s ∈ W26, isNameB s = true := by decide +kernel
theorem w26_nodup : W26.Nodup := by decide +kernel
def nms2 (c : Int) (k : Nat) : Str := if c % 12 = 5 then W26.getD ((c / 12 + k) % 26).toNat Str.empty else nms c k
theorem names_ix2 {ss : List Str} {k : Nat} {s : Str} (h : ss[k]? = some s) : gIx (namesD ss) (.int (k : Nat)) = some (.str s) := names_ix h
theorem w26_at {m : Nat} (hm : m < 26) : W26[m]? = some (W26.getD m Str.empty) := by
  have hm : m < W26.length := hm
  rw [List.getD_eq_getElem?_getD, List.getElem?_eq_getElem hm]; rfl
theorem nms2_name (c : Int) {k : Nat} (hk : k < 8) : IsName (nms2 c k) := by
  unfold nms2
  split
  · have e1 := Int.emod_nonneg (c / 12 + k) (show (26 : Int) ≠ 0 by decide)
    have e2 := Int.emod_lt_of_pos (c / 12 + k) (show (0 : Int) < 26 by decide)
    exact isName_of (w26_names _ (List.mem_of_getElem? (w26_at (by omega))))
  · exact nms_name c hk
theorem nms2_inj (c : Int) {k j : Nat} (hk : k < 8) (hj : j < 8) (h : nms2 c k = nms2 c j) : k = j := by
  unfold nms2 at h
  split at h
  · have e1 := Int.emod_nonneg (c / 12 + k) (show (26 : Int) ≠ 0 by decide)
    have e2 := Int.emod_lt_of_pos (c / 12 + k) (show (0 : Int) < 26 by decide)
    have e3 := Int.emod_nonneg (c / 12 + j) (show (26 : Int) ≠ 0 by decide)
    have e4 := Int.emod_lt_of_pos (c / 12 + j) (show (0 : Int) < 26 by decide)
    have l : W26.length = 26 := rfl
    have a1 := w26_at (m := ((c / 12 + k) % 26).toNat) (by omega)
    have a2 := w26_at (m := ((c / 12 + j) % 26).toNat) (by omega)
    rw [h] at a1
    obtain ⟨h1, g1⟩ := List.getElem?_eq_some_iff.mp a1
    obtain ⟨h2, g2⟩ := List.getElem?_eq_some_iff.mp a2
    have i1 := w26_nodup.idxOf_getElem _ h1
    have i2 := w26_nodup.idxOf_getElem _ h2
    rw [g1] at i1
    rw [g2] at i2
    rw [i1] at i2
    omega
  · exact nms_inj c hk hj h
def drawn2 (c : Int) (many : Nat) : List Str := (List.range many).map (nms2 c)
theorem drawn2_ok (c : Int) {many : Nat} (h0 : 1 ≤ many) (h : many ≤ 8) : AreNames (drawn2 c many) 8 where
  lo := by unfold drawn2; simpa using h0
  hi := by unfold drawn2; simpa using h
  nd := by
    unfold drawn2
    rw [List.Nodup, List.pairwise_map]
    refine List.Pairwise.imp_of_mem ?_ (List.nodup_range (n := many))
    intro x y hx hy hne e
    have := List.mem_range.mp hx
    have := List.mem_range.mp hy
    exact hne (nms2_inj c (by omega) (by omega) e)
  nm := fun s hs => by
    obtain ⟨k, hk, rfl⟩ := List.mem_map.mp hs
    exact nms2_name c (by have := List.mem_range.mp hk; omega)
theorem law_names2_ok (c : Int) {many : Nat} (h : many ≤ 8) : m__law_names_v2 [.int c, .int many] = .ok (namesD (drawn2 c many)) := by
  have a1 := Int.emod_nonneg (c / 3) (show (26 : Int) ≠ 0 by decide)
  have a2 := Int.emod_lt_of_pos (c / 3) (show (0 : Int) < 26 by decide)
  have b1 := Int.emod_nonneg (c / 468) (show (26 : Int) ≠ 0 by decide)
  have b2 := Int.emod_lt_of_pos (c / 468) (show (0 : Int) < 26 by decide)
  have d3 : ∀ z : Int, gDiv (.int z) (.int 3) = some (.int (z / 3)) := fun z => gDiv_int (by decide) (by decide)
  have d468 : ∀ z : Int, gDiv (.int z) (.int 468) = some (.int (z / 468)) := fun z => gDiv_int (by decide) (by decide)
  have d78 : ∀ z : Int, gDiv (.int z) (.int 78) = some (.int (z / 78)) := fun z => gDiv_int (by decide) (by decide)
  have d5 : ∀ z : Int, gDiv (.int z) (.int 5) = some (.int (z / 5)) := fun z => gDiv_int (by decide) (by decide)
  have d7 : ∀ z : Int, gDiv (.int z) (.int 7) = some (.int (z / 7)) := fun z => gDiv_int (by decide) (by decide)
  rw [m__law_names_v2]
  refine call_rt ?_
  rw [b__law_names_v2]
  have l1 : TW.gLst [.str "deal", .str "rule", .str "best", .str "house", .str "pays", .str "verdict", .str "menu", .str "ok", .str "ring", .str "when", .str "says", .str "count", .str "not"] = some (namesD W13) := gLst_eq (show 13 ≤ sizeLine by decide)
  have l2 : TW.gLst [.str "and", .str "or", .str "payable", .str "a", .str "b", .str "c", .str "aa", .str "ab", .str "ba", .str "d", .str "e", .str "f", .str "g"] = some (namesD W13b) := gLst_eq (show 13 ≤ sizeLine by decide)
  have ad : gAdd (namesD W13) (namesD W13b) = some (namesD W26) := by
    unfold namesD
    rw [gAdd_lst (b24' (by decide))]; rfl
  have d12 : gDiv (.int c) (.int 12) = some (.int (c / 12)) := gDiv_int (by decide) (by decide)
  rw [seq_set (d := .str "abcdefghijklmnopqrstuvwxyz") (by simp)]
  simp only [List.map_cons, List.map_nil, List.length_cons, List.length_nil, List.cons_append, List.nil_append, List.replicate, Nat.zero_add, Nat.reduceAdd, Nat.reduceSub, List.set_cons_zero, List.set_cons_succ]
  rw [seq_set (d := namesD W13) (by simp [l1])]
  simp only [List.map_cons, List.map_nil, List.length_cons, List.length_nil, List.cons_append, List.nil_append, List.replicate, Nat.zero_add, Nat.reduceAdd, Nat.reduceSub, List.set_cons_zero, List.set_cons_succ]
  rw [seq_set (d := namesD W26) (by simp [l2, ad])]
  simp only [List.map_cons, List.map_nil, List.length_cons, List.length_nil, List.cons_append, List.nil_append, List.replicate, Nat.zero_add, Nat.reduceAdd, Nat.reduceSub, List.set_cons_zero, List.set_cons_succ]
  have w26 : ∀ z : Int, 0 ≤ z → z < 26 → gIx (namesD W26) (.int z) = some (.str (W26.getD z.toNat Str.empty)) := fun z h0 h1 => by
    obtain ⟨m, rfl⟩ := Int.eq_ofNat_of_zero_le h0
    exact names_ix2 (w26_at (by omega))
  by_cases h5 : c % 12 = 5
  · have e : mLc [6] (tgN 6) (iR1 (mVar 1)) (tYesM) (m2 gIx (mVar 3) (m2 gMod (m2 gAdd (m2 gDiv (mVar 0) (mC (.int 12))) (mVar 6)) (mC (.int 26)))) [some (.int c), some (.int many), some (.str "abcdefghijklmnopqrstuvwxyz"), some (namesD W26), none, none, none, none, none] = .ok (namesD (drawn2 c many)) := by
      rw [lc_r (j := 6) many (fun k => .str (nms2 c k)) (by simp) (by omega) (fun k hk => by
        have e1 := Int.emod_nonneg (c / 12 + k) (show (26 : Int) ≠ 0 by decide)
        have e2 := Int.emod_lt_of_pos (c / 12 + k) (show (0 : Int) < 26 by decide)
        have ix := w26 _ e1 e2
        have m26 : gMod (.int (c / 12 + k)) (.int 26) = some (.int ((c / 12 + k) % 26)) := gMod_int (by decide)
        generalize namesD W26 = WD at *
        simp [wipeR, d12, m26, ix]
        unfold nms2
        rw [if_pos h5, List.getD_eq_getElem?_getD])]
      unfold namesD drawn2
      rw [List.map_map]; rfl
    generalize namesD W26 = WD at *
    simp [h5, e]
  rw [sSeq_eq, show sIf (mT (m2 gEq (m2 gMod (mVar 0) (mC (.int 12))) (mC (.int 5)))) (sRet (mLc [6] (tgN 6) (iR1 (mVar 1)) (tYesM) (m2 gIx (mVar 3) (m2 gMod (m2 gAdd (m2 gDiv (mVar 0) (mC (.int 12))) (mVar 6)) (mC (.int 26)))))) (sNil) [some (.int c), some (.int many), some (.str "abcdefghijklmnopqrstuvwxyz"), some (namesD W26), none, none, none, none, none] = .nx [some (.int c), some (.int many), some (.str "abcdefghijklmnopqrstuvwxyz"), some (namesD W26), none, none, none, none, none] from by
    generalize namesD W26 = WD at *
    simp [h5], Out.nx_bind]
  generalize namesD W26 = WD at *
  have n2 : ∀ k, nms2 c k = nms c k := fun k => if_neg h5
  by_cases h3 : c % 3 = 0
  · have e : mLc [6] (tgN 6) (iR1 (mVar 1)) (tYesM) (m2 gMul (m2 gIx (mVar 2) (m2 gMod (m2 gDiv (mVar 0) (mC (.int 3))) (mC (.int 26)))) (m2 gAdd (mVar 6) (mC (.int 1)))) [some (.int c), some (.int many), some (.str "abcdefghijklmnopqrstuvwxyz"), some WD, none, none, none, none, none] = .ok (namesD (drawn2 c many)) := by
      rw [lc_r (j := 6) many (fun k => .str (nms2 c k)) (by simp) (by omega) (fun k hk => by
        simp [wipeR, d3, ix_abc a1 a2, mul_str (s := sgn (c / 3 % 26)) (k := (k : Int) + 1) (by omega) (by omega) (by rw [sgn_length]; decide)]
        rw [n2]
        unfold nms
        rw [if_pos h3]; rfl)]
      unfold namesD drawn2
      rw [List.map_map]; rfl
    simp [h3, e]
  · rw [sSeq_eq, show sIf (mT (m2 gEq (m2 gMod (mVar 0) (mC (.int 3))) (mC (.int 0)))) (sRet (mLc [6] (tgN 6) (iR1 (mVar 1)) (tYesM) (m2 gMul (m2 gIx (mVar 2) (m2 gMod (m2 gDiv (mVar 0) (mC (.int 3))) (mC (.int 26)))) (m2 gAdd (mVar 6) (mC (.int 1)))))) (sNil) [some (.int c), some (.int many), some (.str "abcdefghijklmnopqrstuvwxyz"), some WD, none, none, none, none, none] = .nx _ from by simp [h3]; rfl, Out.nx_bind]
    rw [seq_set (d := .str (sgn (c / 468 % 26))) (by simp [d468, ix_abc b1 b2]), seq_set (d := .lst []) (by simp [nil_l])]
    simp only [List.set_cons_zero, List.set_cons_succ]
    generalize hb : sSeq (sSet 7 _) _ = b
    rw [sSeq_eq]
    obtain ⟨ρ', e, x6, x7, x8, rfl⟩ := for_r (j := 6) (mi := mVar 1) (b := b) (ρ := [some (.int c), some (.int many), some (.str "abcdefghijklmnopqrstuvwxyz"), some WD, some (.str (sgn (c / 468 % 26))), some (.lst []), none, none, none])
      (fun k ρ => ∃ x6 x7 x8, ρ = [some (.int c), some (.int many), some (.str "abcdefghijklmnopqrstuvwxyz"), some WD, some (.str (sgn (c / 468 % 26))), some (namesD (drawn2 c k)), x6, x7, x8]) many (by simp) (by omega) ⟨_, _, _, rfl⟩ (by
        rintro k ρ hk ⟨x6, x7, x8, rfl⟩
        subst hb
        have m1 := Int.emod_nonneg (c / 78) (show (6 : Int) ≠ 0 by decide)
        have m2 := Int.emod_lt_of_pos (c / 78) (show (0 : Int) < 6 by decide)
        have c1 := Int.emod_nonneg (c / 3 + k * (1 + 2 * (c / 78 % 6))) (show (26 : Int) ≠ 0 by decide)
        have c2 := Int.emod_lt_of_pos (c / 3 + k * (1 + 2 * (c / 78 % 6))) (show (0 : Int) < 26 by decide)
        have g1 : gMul (.int 2) (.int (c / 78 % 6)) = some (.int (2 * (c / 78 % 6))) := gMul_int (nat250 (by decide)) (nat250 (by omega))
        have g2 : gMul (.int k) (.int (1 + 2 * (c / 78 % 6))) = some (.int (k * (1 + 2 * (c / 78 % 6)))) := gMul_int (nat250 (by omega)) (nat250 (by omega))
        simp only [List.set_cons_zero, List.set_cons_succ]
        rw [seq_set (d := .str (sgn ((c / 3 + k * (1 + 2 * (c / 78 % 6))) % 26))) (by simp [d3, d78, g1, g2, ix_abc c1 c2])]
        rw [seq_set (d := .str (strRep (sgn (c / 468 % 26)) (c / 5 % 4).toNat)) (by simp [d5, mul_str (s := sgn (c / 468 % 26)) (k := c / 5 % 4) (by omega) (by omega) (by rw [sgn_length]; decide)])]
        simp only [List.set_cons_zero, List.set_cons_succ]
        have l1 : (strRep (sgn (c / 468 % 26)) (c / 5 % 4).toNat).length ≤ 3 := by rw [strRep_length, sgn_length]; omega
        have l2 : (strRep (sgn (c / 468 % 26)) (c / 7 % 4).toNat).length ≤ 3 := by rw [strRep_length, sgn_length]; omega
        have e1 : gAdd (.str (strRep (sgn (c / 468 % 26)) (c / 5 % 4).toNat)) (.str (sgn ((c / 3 + k * (1 + 2 * (c / 78 % 6))) % 26))) = some (.str _) := add_str (by rw [sgn_length]; omega)
        have e2 : gAdd (.str (strRep (sgn (c / 468 % 26)) (c / 5 % 4).toNat ++ sgn ((c / 3 + k * (1 + 2 * (c / 78 % 6))) % 26))) (.str (strRep (sgn (c / 468 % 26)) (c / 7 % 4).toNat)) = some (.str (nms2 c k)) := by
          rw [add_str (by rw [str_append_length, sgn_length]; omega)]
          rw [n2]
          unfold nms
          rw [if_neg h3]; rfl
        have e3 : nApp (.str (nms2 c k)) (namesD (drawn2 c k)) = some (namesD (drawn2 c (k + 1))) := by
          unfold namesD
          rw [nApp_lst (b24 (by unfold drawn2; simp; omega))]
          unfold drawn2
          rw [List.range_succ]; simp
        refine ⟨_, by simp [d7, mul_str (s := sgn (c / 468 % 26)) (k := c / 7 % 4) (by omega) (by omega) (by rw [sgn_length]; decide), e1, e2, e3]; exact ⟨rfl, rfl, rfl⟩, _, _, _, rfl⟩)
    rw [e]
    simp
def handOf2 (ns : List Int) (p : Nat) (top : Int) (k : Nat) : Hand := ⟨nms2 (cel ns 6) k, drawn2 (cel ns (3 + k)) (sz ns k), (List.range (sz ns k)).map (wor ns p top (spotOf ns p k))⟩
def handsOf2 (ns : List Int) (p : Nat) (top : Int) : List Hand := (List.range (nh ns)).map (handOf2 ns p top)
theorem handOf2_ok (ns : List Int) {p : Nat} {top : Int} {k : Nat} (hk : k < 8) (h : 10 ^ 18 ≤ top) (h2 : top < T60) : (handOf2 ns p top k).Ok p where
  name := nms2_name _ hk
  words := drawn2_ok _ (sz_bnd ns k).1 (by have := (sz_bnd ns k).2; omega)
  len := by unfold handOf2 drawn2; simp
  row := fun r hr => by
    obtain ⟨t, _, rfl⟩ := List.mem_map.mp hr
    unfold wor; simp
  num := fun r hr z hz => by
    obtain ⟨t, _, rfl⟩ := List.mem_map.mp hr
    exact wor_num h h2 z hz
theorem handsOf2_len {ns : List Int} {p : Nat} {top : Int} : (handsOf2 ns p top).length = nh ns := by unfold handsOf2; simp
theorem handsOf2_ok (ns : List Int) {p : Nat} {top : Int} (h : 10 ^ 18 ≤ top) (h2 : top < T60) : HandsOk p (handsOf2 ns p top) where
  lo := by rw [handsOf2_len]; exact (nh_bnd ns).1
  hi := by rw [handsOf2_len]; have := (nh_bnd ns).2; omega
  ok := fun g hg => by
    obtain ⟨k, hk, rfl⟩ := List.mem_map.mp hg
    exact handOf2_ok ns (by have := List.mem_range.mp hk; have := (nh_bnd ns).2; omega) h h2
  many := by
    refine Nat.le_trans (ways_le fun g hg => ?_) ?_
    · obtain ⟨k, hk, rfl⟩ := List.mem_map.mp hg
      unfold handOf2 drawn2
      simp
      exact (sz_bnd ns k).2
    · rw [handsOf2_len]
      exact Nat.le_trans (Nat.pow_le_pow_right (by decide) (nh_bnd ns).2) (by decide)
  nd := by
    unfold handsOf2
    rw [List.map_map, List.Nodup, List.pairwise_map]
    refine List.Pairwise.imp_of_mem ?_ (List.nodup_range (n := nh ns))
    intro x y hx hy hne e
    have := List.mem_range.mp hx
    have := List.mem_range.mp hy
    have := (nh_bnd ns).2
    exact hne (nms2_inj (cel ns 6) (by omega) (by omega) e)
theorem drawn2_at {c : Int} {many k : Nat} (h : k < many) : (drawn2 c many)[k]? = some (nms2 c k) := by
  unfold drawn2
  rw [List.getElem?_map, List.getElem?_range h]; rfl
theorem law_hands2_ok (ns : List Int) {p : Nat} {top : Int} (hp : p ≤ 100) (h : 0 ≤ top) (h2 : top < 10 ^ 70) : m__law_hands_v3 [.scr ns, .int p, .int top] = .ok (handsD (handsOf2 ns p top)) := by
  have hn := nh_eq ns
  have hb := nh_bnd ns
  have c0 : m__law_cell [.scr ns, .int 0] = .ok (.int (cel ns 0)) := cell_at ns 0 rfl
  have c1 : m__law_cell [.scr ns, .int 1] = .ok (.int (cel ns 1)) := cell_at ns 1 rfl
  have c6 : m__law_cell [.scr ns, .int 6] = .ok (.int (cel ns 6)) := cell_at ns 6 rfl
  have d4 : ∀ z : Int, gDiv (.int z) (.int 4) = some (.int (z / 4)) := fun z => gDiv_int (by decide) (by decide)
  rw [m__law_hands_v3]
  refine call_rt ?_
  rw [b__law_hands_v3]
  simp only [List.map_cons, List.map_nil, List.length_cons, List.length_nil, List.cons_append, List.nil_append, List.replicate, Nat.zero_add, Nat.reduceAdd, Nat.reduceSub, List.set_cons_zero, List.set_cons_succ]
  rw [seq_set (d := .int (nh ns)) (by simp [c0, d4, hn]), seq_set (d := namesD (drawn2 (cel ns 6) 3)) (by
    simp [c6]
    exact law_names2_ok (cel ns 6) (many := 3) (by decide)), seq_set (d := .lst []) (by simp [nil_l]), seq_set (d := .int 8) (by simp)]
  simp only [List.map_cons, List.map_nil, List.length_cons, List.length_nil, List.cons_append, List.nil_append, List.replicate, Nat.zero_add, Nat.reduceAdd, Nat.reduceSub, List.set_cons_zero, List.set_cons_succ]
  rw [sSeq_eq]
  generalize hbb : sSeq (sSet 8 _) _ = b
  obtain ⟨ρ', e, x7, x8, x9, x10, x11, rfl⟩ := for_r (j := 7) (mi := mVar 3) (b := b) (ρ := [some (.scr ns), some (.int p), some (.int top), some (.int (nh ns)), some (namesD (drawn2 (cel ns 6) 3)), some (.lst []), some (.int 8), none, none, none, none, none])
    (fun k ρ => ∃ x7 x8 x9 x10 x11, ρ = [some (.scr ns), some (.int p), some (.int top), some (.int (nh ns)), some (namesD (drawn2 (cel ns 6) 3)), some (handsD ((List.range k).map (handOf2 ns p top))), some (.int (spotOf ns p k)), x7, x8, x9, x10, x11]) (nh ns) (by simp) (by omega)
    ⟨_, _, _, _, _, rfl⟩ (by
      rintro k ρ hk ⟨x7, x8, x9, x10, x11, rfl⟩
      subst hbb
      have c3 : m__law_cell [.scr ns, .int (3 + k)] = .ok (.int (cel ns (3 + k))) := cell_at ns (3 + k) (by simp)
      have sb := sz_bnd ns k
      have se := sz_eq ns k
      have div : gIx (.lst [.int 1, .int 3, .int 9]) (.int k) = some (.int (3 ^ k)) := by
        have : k = 0 ∨ k = 1 ∨ k = 2 := by omega
        rcases this with rfl | rfl | rfl <;> rfl
      have gd : gDiv (.int (cel ns 1)) (.int (3 ^ k)) = some (.int (cel ns 1 / 3 ^ k)) := by
        have : k = 0 ∨ k = 1 ∨ k = 2 := by omega
        rcases this with rfl | rfl | rfl <;> exact gDiv_int (by decide) (by decide)
      have l3 : gLst [.int 1, .int 3, .int 9] = some (.lst [.int 1, .int 3, .int 9]) := gLst_eq (show 3 ≤ sizeLine by decide)
      simp only [List.map_cons, List.map_nil, List.length_cons, List.length_nil, List.cons_append, List.nil_append, List.replicate, Nat.zero_add, Nat.reduceAdd, Nat.reduceSub, List.set_cons_zero, List.set_cons_succ]
      rw [seq_set (d := .int (sz ns k)) (by simp [c1, l3, div, gd, se]), seq_set (d := .lst []) (by simp [nil_l])]
      simp only [List.map_cons, List.map_nil, List.length_cons, List.length_nil, List.cons_append, List.nil_append, List.replicate, Nat.zero_add, Nat.reduceAdd, Nat.reduceSub, List.set_cons_zero, List.set_cons_succ]
      rw [sSeq_eq]
      generalize hM : (List.range k).map (handOf2 ns p top) = M
      obtain ⟨ρ', e, y10, y11, rfl⟩ := for_r (j := 10) (mi := mVar 8) (b := sSeq (sApp 9 (pNil) (mLc [11] (tgN 11) (iR1 (mVar 1)) (tYesM) (mArgs m__law_number (mA1 (mArgs m__law_cell (mA1 (mVar 0) (mA1 (m2 gAdd (mVar 6) (mVar 11)) (mA0)))) (mA1 (mVar 2) (mA0)))))) (sSet 6 (m2 gAdd (mVar 6) (mVar 1))))
        (ρ := [some (.scr ns), some (.int p), some (.int top), some (.int (nh ns)), some (namesD (drawn2 (cel ns 6) 3)), some (handsD M), some (.int (spotOf ns p k)), some (.int k), some (.int (sz ns k)), some (.lst []), x10, x11])
        (fun t ρ => ∃ y10 y11, ρ = [some (.scr ns), some (.int p), some (.int top), some (.int (nh ns)), some (namesD (drawn2 (cel ns 6) 3)), some (handsD M), some (.int (spotOf ns p k + t * p : Nat)), some (.int k), some (.int (sz ns k)), some (wD ((List.range t).map (wor ns p top (spotOf ns p k)))), y10, y11]) (sz ns k) (by simp) (by omega)
        ⟨x10, x11, by simp [wD]⟩ (by
          rintro t ρ ht ⟨y10, y11, rfl⟩
          simp only [List.map_cons, List.map_nil, List.length_cons, List.length_nil, List.cons_append, List.nil_append, List.replicate, Nat.zero_add, Nat.reduceAdd, Nat.reduceSub, List.set_cons_zero, List.set_cons_succ]
          have lc : mLc [11] (tgN 11) (iR1 (mVar 1)) (tYesM) (mArgs m__law_number (mA1 (mArgs m__law_cell (mA1 (mVar 0) (mA1 (m2 gAdd (mVar 6) (mVar 11)) (mA0)))) (mA1 (mVar 2) (mA0)))) [some (.scr ns), some (.int p), some (.int top), some (.int (nh ns)), some (namesD (drawn2 (cel ns 6) 3)), some (handsD M), some (.int (spotOf ns p k + t * p : Nat)), some (.int k), some (.int (sz ns k)), some (wD ((List.range t).map (wor ns p top (spotOf ns p k)))), some (.int t), y11] = .ok (numsD (wor ns p top (spotOf ns p k) t)) := by
            rw [lc_r (j := 11) p (fun j => .int (num (cel ns (spotOf ns p k + t * p + j)) top)) (by simp) (by omega) (fun j hj => by
              have c := cell_at ns (i := ((spotOf ns p k + t * p : Nat) : Int) + (j : Int)) (spotOf ns p k + t * p + j) (by simp)
              simp [wipeR] at c ⊢
              simp [c, num_ok _ top h h2])]
            unfold numsD wor
            rw [List.map_map]; rfl
          have ap : nApp (numsD (wor ns p top (spotOf ns p k) t)) (wD ((List.range t).map (wor ns p top (spotOf ns p k)))) = some (wD ((List.range (t + 1)).map (wor ns p top (spotOf ns p k)))) := by
            unfold wD
            rw [nApp_lst (b24 (by simp; omega)), List.range_succ]; simp
          generalize wD ((List.range t).map (wor ns p top (spotOf ns p k))) = A at *
          generalize wD ((List.range (t + 1)).map (wor ns p top (spotOf ns p k))) = A' at *
          rw [show spotOf ns p k + (t + 1) * p = spotOf ns p k + t * p + p by rw [Nat.add_mul, Nat.one_mul, Nat.add_assoc]]
          generalize spotOf ns p k + t * p = q at lc ⊢
          refine ⟨[some (.scr ns), some (.int p), some (.int top), some (.int (nh ns)), some (namesD (drawn2 (cel ns 6) 3)), some (handsD M), some (.int (q + p : Nat)), some (.int k), some (.int (sz ns k)), some A', some (.int t), y11], ?_, _, _, rfl⟩
          simp [lc, ap])
      have nm : m__law_names_v2 [.int (cel ns (3 + k)), .int (sz ns k)] = .ok (namesD (drawn2 (cel ns (3 + k)) (sz ns k))) := law_names2_ok _ (by omega)
      have tp : gTup [.str (nms2 (cel ns 6) k), namesD (drawn2 (cel ns (3 + k)) (sz ns k)), wD ((List.range (sz ns k)).map (wor ns p top (spotOf ns p k)))] = some (handOf2 ns p top k).d := tup3 _ _ _
      have ix := names_ix (drawn2_at (c := cel ns 6) (many := 3) (k := k) (by omega))
      have ap : nApp (handOf2 ns p top k).d (handsD M) = some (handsD ((List.range (k + 1)).map (handOf2 ns p top))) := by
        unfold handsD
        have : M.length = k := by rw [← hM]; simp
        rw [nApp_lst (b24 (by rw [List.length_map]; omega)), List.range_succ, List.map_append, hM]; simp
      generalize handsD ((List.range (k + 1)).map (handOf2 ns p top)) = A' at *
      generalize wD ((List.range (sz ns k)).map (wor ns p top (spotOf ns p k))) = B at *
      refine ⟨[some (.scr ns), some (.int p), some (.int top), some (.int (nh ns)), some (namesD (drawn2 (cel ns 6) 3)), some A', some (.int (spotOf ns p (k + 1))), some (.int k), some (.int (sz ns k)), some B, y10, y11], ?_, _, _, _, _, _, rfl⟩
      rw [e, Out.nx_bind]
      rw [show spotOf ns p (k + 1) = spotOf ns p k + sz ns k * p from rfl]
      simp [c3, nm, ix, tp, ap])
  rw [e]
  simp
  rfl
end TW
-- TWSaid3
namespace TW
open PySem PySem.Spec PyProof.Rows L2
theorem add_strL {s t : Str} (h : s.length + t.length ≤ 1000000) : gAdd (.str s) (.str t) = some (.str (s ++ t)) := if_pos (Nat.le_trans h (by decide))
theorem sp_ne1 : ((" " : Str).length == 0) = false := by decide +kernel
theorem sl_ne : ((" / " : Str).length == 0) = false := by decide +kernel
theorem eq_ne : ((" = " : Str).length == 0) = false := by decide +kernel
theorem sp_len : (" " : Str).length = 1 := by decide +kernel
theorem sl_len : (" / " : Str).length = 3 := by decide +kernel
theorem eq_len : (" = " : Str).length = 3 := by decide +kernel
theorem joinN_len {y : Str} {l : List Str} {m n : Nat} (h : ∀ s ∈ l, s.length ≤ m) (hl : l.length ≤ n) : (Txt.join y l).length ≤ n * m + n * y.length := by
  have a := join_len y l
  have b := sum_le h
  have c := Nat.mul_le_mul_right m hl
  have d := Nat.mul_le_mul_right y.length hl
  omega
theorem split_sp {l : List Str} (hl : l ≠ []) (hn : l.length ≤ 100) (h : ∀ s ∈ l, s.length ≤ 100 ∧ 32 ∉ TL.tl s) : gSplit (.str (Txt.join " " l)) (.str " ") = some (namesD l) := by
  refine gSplit_of sp_ne1 ?_ ?_
  · have := joinN_len (y := " ") (fun s hs => (h s hs).1) hn
    rw [sp_len] at this
    omega
  · exact TL.split_join (s := 32) (S := []) tl_sp (by decide +kernel) hl fun p hp => (h p hp).2
theorem name_no {c : Nat} (hc : c < 97) {s : Str} (h : IsName s) : c ∉ TL.tl s := fun q => by
  have := h.abc c q
  omega
theorem num_no {c : Nat} (hc : c < 45 ∨ c = 47 ∨ 57 < c) {z : Int} (hz : -T60 < z ∧ z < T60) : c ∉ TL.tl (numS z) := fun q => by
  have := num_signs hz c q
  omega
theorem numbers_in_ok {r : List Int} (hne : r ≠ []) (hn : r.length ≤ 8) (hz : ∀ z ∈ r, -T60 < z ∧ z < T60) : m_numbers_in [.str (Txt.join " " (r.map numS))] = .ok (numsD r) := by
  have sp : gSplit (.str (Txt.join " " (r.map numS))) (.str " ") = some (namesD (r.map numS)) := split_sp (fun e => hne (List.map_eq_nil_iff.mp e)) (by rw [List.length_map]; omega) fun s hs => by
    obtain ⟨z, hm, rfl⟩ := List.mem_map.mp hs
    have := num_len (hz z hm)
    exact ⟨by omega, num_no (by omega) (hz z hm)⟩
  rw [m_numbers_in]
  refine call_rt ?_
  rw [b_numbers_in]
  simp only [List.map_cons, List.map_nil, List.length_cons, List.length_nil, List.cons_append, List.nil_append, List.replicate, Nat.zero_add, Nat.reduceAdd, Nat.reduceSub, List.set_cons_zero, List.set_cons_succ]
  generalize Txt.join " " (r.map numS) = T at *
  have lc : mLc [1] (tgN 1) (iAny (mMeth gSplit (mVar 0) (mC (.str " ")))) (tYesM) (mArgs m_number_in (mA1 (mVar 1) (mA0))) [some (.str T), none] = .ok (numsD r) := by
    refine lc_m (v := 1) r (fun z => .str (numS z)) (fun z => .int z) ?_ (by omega) fun z hm => ?_
    · simp [mMeth, sp, iLoc_names]
    · have := number_in_ok (hz z hm)
      simp [wipeR, this]
  simp [lc]
def lineS (w : Str) (r : List Int) : Str := Txt.join " " (w :: r.map numS)
def linesOf (h : Hand) : List Str := (h.words.zip h.worths).map fun x => lineS x.1 x.2
def handS (h : Hand) : Str := Txt.join " = " (h.name :: linesOf h)
def houseS (outs : List Str) (hs : List Hand) : Str := Txt.join " / " (Txt.join " " outs :: hs.map handS)
section
variable {p : Nat} {h : Hand} {hs : List Hand} {outs : List Str}
theorem lineS_len {w : Str} {r : List Int} (hw : IsName w) (hn : r.length ≤ 8) (hz : ∀ z ∈ r, -T60 < z ∧ z < T60) : (lineS w r).length ≤ 600 := by
  have := joinN_len (y := " ") (l := w :: r.map numS) (m := 61) (n := 9) (fun s hs => by
    rcases List.mem_cons.mp hs with rfl | hs
    · have := hw.hi; omega
    · obtain ⟨z, hm, rfl⟩ := List.mem_map.mp hs
      exact (num_len (hz z hm)).2) (by simp; omega)
  rw [sp_len] at this
  exact Nat.le_trans this (by decide)
theorem join_no {c : Nat} {y : Str} {l : List Str} (hy : c ∉ TL.tl y) (h : ∀ s ∈ l, c ∉ TL.tl s) : c ∉ TL.tl (Txt.join y l) := fun q => by
  rw [TL.join_eq, TL.tl_join] at q
  rcases mem_joinL q with q | ⟨p, hp, q⟩
  · exact hy q
  · obtain ⟨s, hs, rfl⟩ := List.mem_map.mp hp
    exact h s hs q
theorem lineS_no {c : Nat} (hc : c = 47 ∨ c = 61) {w : Str} {r : List Int} (hw : IsName w) (hz : ∀ z ∈ r, -T60 < z ∧ z < T60) : c ∉ TL.tl (lineS w r) := join_no (by rw [tl_sp]; simp; omega) fun s hs => by
  rcases List.mem_cons.mp hs with rfl | hs
  · exact name_no (by omega) hw
  · obtain ⟨z, hm, rfl⟩ := List.mem_map.mp hs
    exact num_no (by omega) (hz z hm)
theorem linesOf_at (o : h.Ok p) {s : Str} (hs : s ∈ linesOf h) : ∃ w r, w ∈ h.words ∧ r ∈ h.worths ∧ s = lineS w r := by
  obtain ⟨⟨w, r⟩, hm, rfl⟩ := List.mem_map.mp hs
  exact ⟨w, r, (List.of_mem_zip hm).1, (List.of_mem_zip hm).2, rfl⟩
theorem linesOf_len (o : h.Ok p) : (linesOf h).length = h.words.length := by
  unfold linesOf
  rw [List.length_map, List.length_zip, o.len]; omega
theorem handS_len (o : h.Ok p) (hp : p ≤ 8) : (handS h).length ≤ 6000 := by
  have := joinN_len (y := " = ") (l := h.name :: linesOf h) (m := 600) (n := 9) (fun s hs => by
    rcases List.mem_cons.mp hs with rfl | hs
    · have := o.name.hi; omega
    · obtain ⟨w, r, hw, hr, rfl⟩ := linesOf_at o hs
      exact lineS_len (o.words.nm w hw) (by rw [o.row r hr]; exact hp) (o.num r hr)) (by
    rw [List.length_cons, linesOf_len o]; have := o.words.hi; omega)
  rw [eq_len] at this
  exact Nat.le_trans this (by decide)
theorem handS_no (o : h.Ok p) : 47 ∉ TL.tl (handS h) := join_no (by rw [tl_eq]; decide) fun s hs => by
  rcases List.mem_cons.mp hs with rfl | hs
  · exact name_no (by omega) o.name
  · obtain ⟨w, r, hw, hr, rfl⟩ := linesOf_at o hs
    exact lineS_no (.inl rfl) (o.words.nm w hw) (o.num r hr)
theorem split_hand (o : h.Ok p) (hp : p ≤ 8) : gSplit (.str (handS h)) (.str " = ") = some (namesD (h.name :: linesOf h)) := by
  refine gSplit_of eq_ne ?_ ?_
  · have := handS_len o hp
    omega
  · refine split_join3 tl_eq (by decide) (by decide +kernel) (by simp) fun s hs => ?_
    rcases List.mem_cons.mp hs with rfl | hs
    · exact name_no (by omega) o.name
    · obtain ⟨w, r, hw, hr, rfl⟩ := linesOf_at o hs
      exact lineS_no (.inr rfl) (o.words.nm w hw) (o.num r hr)
theorem part_line {w : Str} {r : List Int} (hw : IsName w) (hne : r ≠ []) (hn : r.length ≤ 8) (hz : ∀ z ∈ r, -T60 < z ∧ z < T60) : gPart (.str (lineS w r)) (.str " ") = some (.tup [.str w, .str " ", .str (Txt.join " " (r.map numS))]) := by
  have l := lineS_len hw hn hz
  obtain ⟨a, q, rfl⟩ : ∃ a q, r = a :: q := List.exists_cons_of_ne_nil hne
  have e : lineS w (a :: q) = w ++ " " ++ Txt.join " " ((a :: q).map numS) := join_cons2 _ _ _ _
  rw [e] at l ⊢
  exact gPart_of tl_sp (name_no (by omega) hw) (by omega) sp_ne1
theorem zip_take_map {α β : Type} : ∀ {a : List α} {b : List β} (k : Nat), a.length = b.length → ((a.zip b).take k).map Prod.fst = a.take k ∧ ((a.zip b).take k).map Prod.snd = b.take k
  | [], [], k, _ => by simp
  | x :: a, y :: b, 0, _ => by simp
  | x :: a, y :: b, k + 1, h => by
    have := zip_take_map (a := a) (b := b) k (by simpa using h)
    simp [this.1, this.2]
theorem hand_in_ok (o : h.Ok p) (h1 : 1 ≤ p) (hp : p ≤ 8) : m_hand_in [.str (handS h)] = .ok h.d := by
  have sp := split_hand o hp
  have w8 := o.words.hi
  have ll := o.len
  rw [m_hand_in]
  refine call_rt ?_
  rw [b_hand_in]
  simp only [List.map_cons, List.map_nil, List.length_cons, List.length_nil, List.cons_append, List.nil_append, List.replicate, Nat.zero_add, Nat.reduceAdd, Nat.reduceSub, List.set_cons_zero, List.set_cons_succ]
  generalize handS h = T at *
  rw [seq_set (d := namesD (h.name :: linesOf h)) (by simp [mMeth, sp]), seq_set (d := .lst []) (by simp [nil_l]), seq_set (d := .lst []) (by simp [nil_l])]
  simp only [List.map_cons, List.map_nil, List.length_cons, List.length_nil, List.cons_append, List.nil_append, List.replicate, Nat.zero_add, Nat.reduceAdd, Nat.reduceSub, List.set_cons_zero, List.set_cons_succ]
  have sl : gSl (namesD (h.name :: linesOf h)) (some 1) none = some (namesD (linesOf h)) := by
    rw [gsl_names, show (1 : Int) = ((1 : Nat) : Int) from rfl, cut_from]; rfl
  have ix : gIx (namesD (h.name :: linesOf h)) (.int 0) = some (.str h.name) := names_ix (k := 0) rfl
  generalize namesD (h.name :: linesOf h) = PC at *
  rw [sSeq_eq]
  generalize hb : sSeq (sSet 5 _) _ = b
  obtain ⟨ρ', e, x4, x5, rfl⟩ := for_m (j := 4) (m := iAny (mSl (mVar 1) (oYes (mC (.int 1))) (oNo))) (b := b) (ρ := [some (.str T), some PC, some (.lst []), some (.lst []), none, none])
    (fun k ρ => ∃ x4 x5, ρ = [some (.str T), some PC, some (namesD (((h.words.zip h.worths).take k).map Prod.fst)), some (wD (((h.words.zip h.worths).take k).map Prod.snd)), x4, x5]) (h.words.zip h.worths) (fun x => .str (lineS x.1 x.2))
    (by simp [sl, iLoc_names, linesOf]) ⟨_, _, rfl⟩ (by
      rintro k ⟨w, r⟩ ρ hd ⟨x4, x5, rfl⟩
      have hm := List.mem_of_getElem? hd
      have hw := (List.of_mem_zip hm).1
      have hr := (List.of_mem_zip hm).2
      have lr := o.row r hr
      have hne : r ≠ [] := fun e => by rw [e] at lr; simp at lr; omega
      have pt := part_line (o.words.nm w hw) hne (by omega) (o.num r hr)
      have nin := numbers_in_ok hne (by omega) (o.num r hr)
      have t1 : (h.words.zip h.worths).take (k + 1) = (h.words.zip h.worths).take k ++ [(w, r)] := by rw [List.take_add_one, hd]; rfl
      have lk : ((h.words.zip h.worths).take k).length ≤ 8 := by rw [List.length_take, List.length_zip]; omega
      rw [t1, List.map_append, List.map_append]
      generalize (h.words.zip h.worths).take k = Z at *
      subst hb
      dsimp only
      generalize lineS w r = LN at *
      generalize Txt.join " " (r.map numS) = NT at *
      simp only [List.map_cons, List.map_nil, List.length_cons, List.length_nil, List.cons_append, List.nil_append, List.replicate, Nat.zero_add, Nat.reduceAdd, Nat.reduceSub, List.set_cons_zero, List.set_cons_succ]
      rw [seq_set (d := .tup [.str w, .str " ", .str NT]) (by simp [mMeth, pt])]
      simp only [List.map_cons, List.map_nil, List.length_cons, List.length_nil, List.cons_append, List.nil_append, List.replicate, Nat.zero_add, Nat.reduceAdd, Nat.reduceSub, List.set_cons_zero, List.set_cons_succ]
      have a1 : nApp (.str w) (namesD (Z.map Prod.fst)) = some (namesD (Z.map Prod.fst ++ [w])) := by
        unfold namesD
        rw [nApp_lst (b24 (by simp; omega)), List.map_append]; rfl
      have a2 : nApp (numsD r) (wD (Z.map Prod.snd)) = some (wD (Z.map Prod.snd ++ [r])) := by
        unfold wD
        rw [nApp_lst (b24 (by simp; omega)), List.map_append]; rfl
      have g0 : gIx (.tup [.str w, .str " ", .str NT]) (.int 0) = some (.str w) := id rfl
      have g2 : gIx (.tup [.str w, .str " ", .str NT]) (.int 2) = some (.str NT) := id rfl
      generalize (D.tup [.str w, .str " ", .str NT]) = PT at *
      refine ⟨[some (.str T), some PC, some (namesD (Z.map Prod.fst ++ [w])), some (wD (Z.map Prod.snd ++ [r])), some (.str LN), some PT], ?_, _, _, rfl⟩
      generalize namesD (Z.map Prod.fst ++ [w]) = N1 at *
      generalize wD (Z.map Prod.snd ++ [r]) = N2 at *
      generalize namesD (Z.map Prod.fst) = M1 at *
      generalize wD (Z.map Prod.snd) = M2 at *
      simp [g0, g2, a1, nin, a2])
  rw [e, Out.nx_bind]
  have zt := zip_take_map (a := h.words) (b := h.worths) (h.words.zip h.worths).length (by omega)
  rw [zt.1, zt.2, List.length_zip, List.take_of_length_le (by omega), List.take_of_length_le (by omega)]
  have tp : gTup [.str h.name, namesD h.words, wD h.worths] = some h.d := tup3 _ _ _
  simp [ix, tp]
theorem houseS_len (hh : HandsOk p hs) (hp : p ≤ 8) (ao : AreNames outs 8) : (houseS outs hs).length ≤ 100000 := by
  have l0 := joinN_len (y := " ") (l := outs) (m := 8) (n := 8) (fun s hs => (ao.nm s hs).hi) ao.hi
  rw [sp_len] at l0
  have := joinN_len (y := " / ") (l := Txt.join " " outs :: hs.map handS) (m := 6000) (n := 5) (fun s hm => by
    rcases List.mem_cons.mp hm with rfl | hm
    · omega
    · obtain ⟨h, hq, rfl⟩ := List.mem_map.mp hm
      exact handS_len (hh.ok h hq) hp) (by simp; exact hh.hi)
  rw [sl_len] at this
  exact Nat.le_trans this (by decide)
theorem outs_ne (ao : AreNames outs 8) : outs ≠ [] := fun e => by have := ao.lo; rw [e] at this; simp at this
theorem split_outs (ao : AreNames outs 8) : gSplit (.str (Txt.join " " outs)) (.str " ") = some (namesD outs) :=
  split_sp (outs_ne ao) (by have := ao.hi; omega) fun s hs => ⟨by have := (ao.nm s hs).hi; omega, name_no (by omega) (ao.nm s hs)⟩
theorem split_house (hh : HandsOk p hs) (hp : p ≤ 8) (ao : AreNames outs 8) : gSplit (.str (houseS outs hs)) (.str " / ") = some (namesD (Txt.join " " outs :: hs.map handS)) := by
  refine gSplit_of sl_ne ?_ ?_
  · have := houseS_len hh hp ao
    omega
  · refine split_join3 tl_sl (by decide) (by decide +kernel) (by simp) fun s hm => ?_
    rcases List.mem_cons.mp hm with rfl | hm
    · exact join_no (by rw [tl_sp]; decide) fun s hs => name_no (by omega) (ao.nm s hs)
    · obtain ⟨h, hq, rfl⟩ := List.mem_map.mp hm
      exact handS_no (hh.ok h hq)
theorem house_in_ok (hh : HandsOk outs.length hs) (ao : AreNames outs 8) : m_house_in [.str (houseS outs hs)] = .ok (houseT outs hs) := by
  have sp := split_house hh ao.hi ao
  have so := split_outs ao
  have ho := house3_ok ao hh
  have h4 := hh.hi
  have hi : ∀ h ∈ hs, m_hand_in [.str (handS h)] = .ok h.d := fun h hm => hand_in_ok (hh.ok h hm) ao.lo ao.hi
  have sl : gSl (namesD (Txt.join " " outs :: hs.map handS)) (some 1) none = some (namesD (hs.map handS)) := by
    rw [gsl_names, show (1 : Int) = ((1 : Nat) : Int) from rfl, cut_from]; rfl
  have ix : gIx (namesD (Txt.join " " outs :: hs.map handS)) (.int 0) = some (.str (Txt.join " " outs)) := names_ix (k := 0) rfl
  have hit : iLoc (namesD (hs.map handS)) = some (hs.map fun h => .str (handS h)) := by
    show some ((hs.map handS).map D.str) = _
    rw [List.map_map]; rfl
  rw [m_house_in]
  refine call_rt ?_
  rw [b_house_in]
  simp only [List.map_cons, List.map_nil, List.length_cons, List.length_nil, List.cons_append, List.nil_append, List.replicate, Nat.zero_add, Nat.reduceAdd, Nat.reduceSub, List.set_cons_zero, List.set_cons_succ]
  generalize houseS outs hs = T at *
  generalize namesD (hs.map handS) = HP at *
  generalize namesD (Txt.join " " outs :: hs.map handS) = PC at *
  generalize Txt.join " " outs = OT at *
  rw [seq_set (d := PC) (by simp [mMeth, sp])]
  simp only [List.map_cons, List.map_nil, List.length_cons, List.length_nil, List.cons_append, List.nil_append, List.replicate, Nat.zero_add, Nat.reduceAdd, Nat.reduceSub, List.set_cons_zero, List.set_cons_succ]
  have lc : mLc [2] (tgN 2) (iAny (mSl (mVar 1) (oYes (mC (.int 1))) (oNo))) (tYesM) (mArgs m_hand_in (mA1 (mVar 2) (mA0))) [some (.str T), some PC, none] = .ok (handsD hs) := by
    refine lc_m (v := 2) hs (fun h => .str (handS h)) Hand.d (by simp [sl, hit]) (by omega) fun h hm => ?_
    have := hi h hm
    simp [wipeR, this]
  generalize handsD hs = HD at *
  generalize houseT outs hs = HT at *
  simp [mMeth, ix, so, lc, ho]
theorem linesOf_ix (o : h.Ok p) {k : Nat} {w : Str} {r : List Int} (hw : h.words[k]? = some w) (hr : h.worths[k]? = some r) : (linesOf h)[k]? = some (lineS w r) := by
  unfold linesOf
  rw [List.getElem?_map, List.getElem?_zip_eq_some (z := (w, r)) |>.mpr ⟨hw, hr⟩]; rfl
theorem law_house_row_ok (hh : HandsOk outs.length hs) (ao : AreNames outs 8) : m__law_house_row [namesD outs, handsD hs] = .ok (.str ("house " ++ houseS outs hs)) := by
  have h4 := hh.hi
  have jo : gJoin (.str " ") (namesD outs) = some (.str (Txt.join " " outs)) := join_ok (m := 8) (fun s hs => (ao.nm s hs).hi) (by have := ao.hi; omega) (by decide) (by decide +kernel)
  have lo : (Txt.join " " outs).length ≤ 1000 := by
    have := joinN_len (y := " ") (l := outs) (m := 8) (n := 8) (fun s hs => (ao.nm s hs).hi) ao.hi
    rw [sp_len] at this; omega
  have sh := houseS_len hh ao.hi ao
  have jh : gJoin (.str " / ") (namesD (Txt.join " " outs :: hs.map handS)) = some (.str (houseS outs hs)) := join_ok (m := 6000) (fun s hm => by
    rcases List.mem_cons.mp hm with rfl | hm
    · omega
    · obtain ⟨h, hq, rfl⟩ := List.mem_map.mp hm
      exact handS_len (hh.ok h hq) ao.hi) (by simp; omega) (by decide) (by decide +kernel)
  rw [m__law_house_row]
  refine call_rt ?_
  rw [b__law_house_row]
  simp only [List.map_cons, List.map_nil, List.length_cons, List.length_nil, List.cons_append, List.nil_append, List.replicate, Nat.zero_add, Nat.reduceAdd, Nat.reduceSub, List.set_cons_zero, List.set_cons_succ]
  generalize hOT : Txt.join " " outs = OT at *
  rw [seq_set (d := namesD [OT]) (by simp [mMeth, jo, one_l]; rfl)]
  simp only [List.map_cons, List.map_nil, List.length_cons, List.length_nil, List.cons_append, List.nil_append, List.replicate, Nat.zero_add, Nat.reduceAdd, Nat.reduceSub, List.set_cons_zero, List.set_cons_succ]
  rw [sSeq_eq]
  generalize hb : sSeq (sSet 4 _) _ = b
  obtain ⟨ρ', e, x3, x4, x5, x6, rfl⟩ := for_m (j := 3) (m := iAny (mVar 1)) (b := b) (ρ := [some (namesD outs), some (handsD hs), some (namesD [OT]), none, none, none, none])
    (fun k ρ => ∃ x3 x4 x5 x6, ρ = [some (namesD outs), some (handsD hs), some (namesD (OT :: (hs.take k).map handS)), x3, x4, x5, x6]) hs Hand.d (by simp [handsD]) ⟨_, _, _, _, rfl⟩ (by
      rintro k h ρ hd ⟨x3, x4, x5, x6, rfl⟩
      have hm := List.mem_of_getElem? hd
      have o := hh.ok h hm
      have w8 := o.words.hi
      have ll := o.len
      have lll := linesOf_len o
      have t1 : hs.take (k + 1) = hs.take k ++ [h] := by rw [List.take_add_one, hd]; rfl
      have lk : (hs.take k).length ≤ 4 := by rw [List.length_take]; omega
      have i0 : gIx h.d (.int 0) = some (.str h.name) := id rfl
      have i1 : gIx h.d (.int 1) = some (namesD h.words) := id rfl
      have i2 : gIx h.d (.int 2) = some (wD h.worths) := id rfl
      have lM : ((hs.take k).map handS).length ≤ 4 := by rw [List.length_map]; exact lk
      rw [t1, List.map_append]
      generalize (hs.take k).map handS = M at *
      generalize handsD hs = HD at *
      generalize h.d = HH at *
      subst hb
      simp only [List.map_cons, List.map_nil, List.length_cons, List.length_nil, List.cons_append, List.nil_append, List.replicate, Nat.zero_add, Nat.reduceAdd, Nat.reduceSub, List.set_cons_zero, List.set_cons_succ]
      rw [seq_set (d := .str h.name) (by simp [i0])]
      simp only [List.map_cons, List.map_nil, List.length_cons, List.length_nil, List.cons_append, List.nil_append, List.replicate, Nat.zero_add, Nat.reduceAdd, Nat.reduceSub, List.set_cons_zero, List.set_cons_succ]
      rw [sSeq_eq]
      generalize hb2 : sSet 4 _ = b2
      obtain ⟨ρ', e, y5, y6, rfl⟩ := for_r (j := 5) (mi := mL gLen (mA1 (m2 gIx (mVar 3) (mC (.int 1))) (mA0))) (b := b2) (ρ := [some (namesD outs), some HD, some (namesD (OT :: M)), some HH, some (.str h.name), x5, x6])
        (fun t ρ => ∃ y5 y6, ρ = [some (namesD outs), some HD, some (namesD (OT :: M)), some HH, some (.str (Txt.join " = " (h.name :: (linesOf h).take t))), y5, y6]) h.words.length (by simp [i1, len_names]) (by omega) ⟨x5, x6, by simp [join_one']⟩ (by
          rintro t ρ ht ⟨y5, y6, rfl⟩
          subst hb2
          obtain ⟨w, hw⟩ : ∃ w, h.words[t]? = some w := ⟨_, List.getElem?_eq_getElem ht⟩
          obtain ⟨r, hr⟩ : ∃ r, h.worths[t]? = some r := ⟨_, List.getElem?_eq_getElem (by omega)⟩
          have wm := List.mem_of_getElem? hw
          have rm := List.mem_of_getElem? hr
          have num := o.num r rm
          have lr := o.row r rm
          have o8 := ao.hi
          have l1 := linesOf_ix o hw hr
          have ix1 : gIx (namesD h.words) (.int t) = some (.str w) := names_ix hw
          have ix2 : gIx (wD h.worths) (.int t) = some (numsD r) := by
            show atI (h.worths.map numsD) (t : Int) = _
            rw [TW.atI_nat (by simp; omega), List.getElem?_map, hr]; rfl
          have lt1 : Txt.join " = " (h.name :: (linesOf h).take (t + 1)) = Txt.join " = " (h.name :: (linesOf h).take t) ++ " = " ++ lineS w r := by
            rw [List.take_add_one, l1]
            show Txt.join " = " (h.name :: (linesOf h).take t ++ [lineS w r]) = _
            exact join_snoc _ _ (by simp)
          have lj : (Txt.join " = " (h.name :: (linesOf h).take t)).length ≤ 6000 := by
            have := joinN_len (y := " = ") (l := h.name :: (linesOf h).take t) (m := 600) (n := 9) (fun s hs => by
              rcases List.mem_cons.mp hs with rfl | hs
              · have := o.name.hi; omega
              · obtain ⟨w, r, hw, hr, rfl⟩ := linesOf_at o (List.mem_of_mem_take hs)
                exact lineS_len (o.words.nm w hw) (by rw [o.row r hr]; exact ao.hi) (o.num r hr)) (by
              rw [List.length_cons, List.length_take]; omega)
            rw [eq_len] at this
            omega
          have ls := lineS_len (o.words.nm w wm) (by omega) num
          have lc : ∀ d4 : D, mLc [6] (tgN 6) (iAny (m2 gIx (m2 gIx (mVar 3) (mC (.int 2))) (mVar 5))) (tYesM) (mL gStr (mA1 (mVar 6) (mA0))) [some (namesD outs), some HD, some (namesD (OT :: M)), some HH, some d4, some (.int (t : Nat)), y6] = .ok (namesD (r.map numS)) := fun d4 => by
            rw [lc_m r D.int (fun z => .str (numS z)) (by simp [i2, ix2, numsD]) (by omega) fun z hz => by
              have := str_numS (num z hz)
              simp [wipeR, this]]
            unfold namesD
            rw [List.map_map]; rfl
          have ad : gAdd (.lst [.str w]) (namesD (r.map numS)) = some (namesD (w :: r.map numS)) := by
            unfold namesD
            rw [gAdd_lst (b24' (by simp; omega))]; rfl
          have jl : gJoin (.str " ") (namesD (w :: r.map numS)) = some (.str (lineS w r)) := join_ok (m := 61) (fun s hs => by
            rcases List.mem_cons.mp hs with rfl | hs
            · have := (o.words.nm _ wm).hi; omega
            · obtain ⟨z, hm, rfl⟩ := List.mem_map.mp hs
              exact (num_len (num z hm)).2) (by simp; omega) (by decide) (by decide +kernel)
          have a1 : gAdd (.str (Txt.join " = " (h.name :: (linesOf h).take t))) (.str " = ") = some (.str (Txt.join " = " (h.name :: (linesOf h).take t) ++ " = ")) := add_str (by rw [eq_len]; omega)
          have a2 : gAdd (.str (Txt.join " = " (h.name :: (linesOf h).take t) ++ " = ")) (.str (lineS w r)) = some (.str (Txt.join " = " (h.name :: (linesOf h).take (t + 1)))) := by
            rw [add_str (by rw [str_append_length, eq_len]; omega), lt1]
          generalize namesD (r.map numS) = NR at *
          generalize lineS w r = LW at *
          generalize Txt.join " = " (h.name :: (linesOf h).take t) = J0 at *
          generalize Txt.join " = " (h.name :: (linesOf h).take (t + 1)) = J1 at *
          generalize namesD (w :: r.map numS) = NW at *
          generalize namesD outs = OD at *
          generalize namesD (OT :: M) = OM at *
          refine ⟨[some OD, some HD, some OM, some HH, some (.str J1), some (.int (t : Nat)), y6], ?_, _, _, rfl⟩
          simp only [List.map_cons, List.map_nil, List.length_cons, List.length_nil, List.cons_append, List.nil_append, List.replicate, Nat.zero_add, Nat.reduceAdd, Nat.reduceSub, List.set_cons_zero, List.set_cons_succ]
          simp [mMeth, i1, ix1, one_l, lc, ad, jl, a1, a2])
      rw [e, Out.nx_bind]
      rw [List.take_of_length_le (by omega)]
      have ap : nApp (.str (handS h)) (namesD (OT :: M)) = some (namesD (OT :: (M ++ [handS h]))) := by
        unfold namesD
        rw [nApp_lst (b24 (by simp; omega))]
        simp
      rw [show Txt.join " = " (h.name :: linesOf h) = handS h from rfl]
      generalize namesD outs = OD at *
      generalize namesD (OT :: M) = OM at *
      generalize namesD (OT :: (M ++ [handS h])) = ON at *
      exact ⟨[some OD, some HD, some ON, some HH, some (.str (handS h)), y5, y6], by simp [ap], _, _, _, _, rfl⟩)
  rw [e, Out.nx_bind, List.take_length]
  have ad : gAdd (.str "house ") (.str (houseS outs hs)) = some (.str ("house " ++ houseS outs hs)) := add_strL (by rw [show ("house " : Str).length = 6 by decide +kernel]; omega)
  generalize houseS outs hs = HS at *
  generalize namesD (OT :: hs.map handS) = ON at *
  simp [mMeth, jh, ad]
end
end TW
-- TWDealt
namespace TW
open PySem PySem.Spec PyProof.Rows L2
theorem rowsG_snoc {rows : List (List Str)} {r : List Str} (h : rows.length < 1000000) : nApp (rowG r) (rowsG rows) = some (rowsG (rows ++ [r])) := by
  unfold rowsG
  rw [nApp_lst (b24 (by rw [List.length_map]; exact h)), List.map_append]; rfl
theorem cross_loopG {mi : Rho → Res (List D)} {x0 x2 x4 x5 : Option D} {rows : List (List Str)} {words : List Str} (hm : ∀ x3 x4 x5, mi [x0, some (rowsG rows), x2, x3, x4, x5] = .ok (words.map D.str)) (hl : rows.length * words.length < 1000000) (hr : ∀ r ∈ rows, r.length < 1000) :
    ∃ y4 y5, sFor (tgN 4) (iAny (mVar 1)) (sFor (tgN 5) mi (sApp 3 (pNil) (m2 gAddF (mVar 4) (mL gTupDF (mA1 (mVar 5) (mA0)))))) [x0, some (rowsG rows), x2, some (.lst []), x4, x5] = .nx [x0, some (rowsG rows), x2, some (rowsG (crossR rows words)), y4, y5] := by
  obtain ⟨ρ', e, y4, y5, rfl⟩ := for_m (j := 4) (m := iAny (mVar 1)) (b := sFor (tgN 5) mi (sApp 3 (pNil) (m2 gAddF (mVar 4) (mL gTupDF (mA1 (mVar 5) (mA0)))))) (ρ := [x0, some (rowsG rows), x2, some (.lst []), x4, x5])
    (fun i ρ => ∃ y4 y5, ρ = [x0, some (rowsG rows), x2, some (rowsG (crossR (rows.take i) words)), y4, y5]) rows rowG (by simp [rowsG]) ⟨_, _, rfl⟩ (by
      rintro i r ρ hd ⟨y4, y5, rfl⟩
      have hrm := hr r (List.mem_of_getElem? hd)
      have hi : i < rows.length := (List.getElem?_eq_some_iff.mp hd).1
      have t1 : rows.take (i + 1) = rows.take i ++ [r] := by rw [List.take_add_one, hd]; rfl
      have hc : (rows.take i).length * words.length + words.length < 1000000 := by
        have : (i + 1) * words.length ≤ rows.length * words.length := Nat.mul_le_mul_right _ (by omega)
        rw [List.length_take, Nat.min_eq_left (by omega)]
        rw [Nat.add_mul, Nat.one_mul] at this
        omega
      simp only [List.map_cons, List.map_nil, List.length_cons, List.length_nil, List.cons_append, List.nil_append, List.replicate, Nat.zero_add, Nat.reduceAdd, Nat.reduceSub, List.set_cons_zero, List.set_cons_succ]
      obtain ⟨ρ', e, z5, rfl⟩ := for_m (j := 5) (m := mi) (b := sApp 3 (pNil) (m2 gAddF (mVar 4) (mL gTupDF (mA1 (mVar 5) (mA0))))) (ρ := [x0, some (rowsG rows), x2, some (rowsG (crossR (rows.take i) words)), some (rowG r), y5])
        (fun j ρ => ∃ z5, ρ = [x0, some (rowsG rows), x2, some (rowsG (crossR (rows.take i) words ++ (words.take j).map fun w => r ++ [w])), some (rowG r), z5]) words D.str (hm _ _ _) ⟨y5, by simp⟩ (by
          rintro j w ρ hw ⟨z5, rfl⟩
          have hj : j < words.length := (List.getElem?_eq_some_iff.mp hw).1
          have t2 : words.take (j + 1) = words.take j ++ [w] := by rw [List.take_add_one, hw]; rfl
          have ap := rowsG_snoc (rows := crossR (rows.take i) words ++ (words.take j).map fun w => r ++ [w]) (r := r ++ [w]) (by
            have : (words.take j).length ≤ words.length := by rw [List.length_take]; omega
            rw [List.length_append, crossR_len, List.length_map]; omega)
          rw [t2, List.map_append, ← List.append_assoc]
          generalize crossR (rows.take i) words ++ (words.take j).map (fun w => r ++ [w]) = A at *
          simp only [List.map_cons, List.map_nil, List.length_cons, List.length_nil, List.cons_append, List.nil_append, List.replicate, Nat.zero_add, Nat.reduceAdd, Nat.reduceSub, List.set_cons_zero, List.set_cons_succ]
          refine ⟨[x0, some (rowsG rows), x2, some (rowsG (A ++ [r ++ [w]])), some (rowG r), some (.str w)], ?_, _, rfl⟩
          simp [one_tf, rowG_add hrm, ap])
      rw [List.take_length] at e
      rw [t1, crossR_snoc]
      exact ⟨_, e, _, _, rfl⟩)
  rw [List.take_length] at e
  exact ⟨y4, y5, e⟩
theorem crossed3_gen {hs : List Hand} (hl : hs.length < 900) (hw : ways hs < 1000) (ho : ∀ h ∈ hs, 1 ≤ h.words.length) : m_crossed_v3 [.lst (hs.map fun h => .tup (h.words.map D.str))] = .ok (rowsG (rowsW (wordsOf hs))) := by
  rw [m_crossed_v3]
  refine call_rt ?_
  rw [b_crossed_v3]
  simp only [List.map_cons, List.map_nil, List.length_cons, List.length_nil, List.cons_append, List.nil_append, List.replicate, Nat.zero_add, Nat.reduceAdd, Nat.reduceSub, List.set_cons_zero, List.set_cons_succ]
  rw [seq_set (d := rowsG [[]]) (by
    simp [show gTup [] = some (.tup []) from gTup_eq (Nat.zero_le _), one_l]; rfl)]
  simp only [List.map_cons, List.map_nil, List.length_cons, List.length_nil, List.cons_append, List.nil_append, List.replicate, Nat.zero_add, Nat.reduceAdd, Nat.reduceSub, List.set_cons_zero, List.set_cons_succ]
  rw [sSeq_eq]
  generalize hb : sSeq (sSet 3 _) _ = b
  generalize hx0 : (D.lst (hs.map fun h => .tup (h.words.map D.str))) = x0
  obtain ⟨ρ', e, x2, x3, x4, x5, rfl⟩ := for_m (j := 2) (m := iAny (mVar 0)) (b := b) (ρ := [some x0, some (rowsG [[]]), none, none, none, none])
    (fun i ρ => ∃ x2 x3 x4 x5, ρ = [some x0, some (rowsG (rowsW (wordsOf (hs.take i)))), x2, x3, x4, x5]) hs (fun h => .tup (h.words.map D.str)) (by subst hx0; simp) ⟨_, _, _, _, rfl⟩ (by
      rintro i h ρ hd ⟨x2, x3, x4, x5, rfl⟩
      subst hb
      have hi : i < hs.length := (List.getElem?_eq_some_iff.mp hd).1
      have t1 : hs.take (i + 1) = hs.take i ++ [h] := by rw [List.take_add_one, hd]; rfl
      have w1 := ways_take ho (i + 1)
      rw [t1, ways_snoc] at w1
      have t2 : rowsW (wordsOf (hs.take (i + 1))) = crossR (rowsW (wordsOf (hs.take i))) h.words := by
        rw [t1, ← rowsW_snoc]; unfold wordsOf; rw [List.map_append]; rfl
      have hr : ∀ r ∈ rowsW (wordsOf (hs.take i)), r.length < 1000 := fun r hr => by
        have := rows_len_lt hr
        rw [List.length_take] at this; omega
      have rl := rowsW_len (hs.take i)
      rw [t2]
      generalize rowsW (wordsOf (hs.take i)) = R at *
      simp only [List.map_cons, List.map_nil, List.length_cons, List.length_nil, List.cons_append, List.nil_append, List.replicate, Nat.zero_add, Nat.reduceAdd, Nat.reduceSub, List.set_cons_zero, List.set_cons_succ]
      rw [seq_set (d := .lst []) (by simp [nil_l])]
      simp only [List.map_cons, List.map_nil, List.length_cons, List.length_nil, List.cons_append, List.nil_append, List.replicate, Nat.zero_add, Nat.reduceAdd, Nat.reduceSub, List.set_cons_zero, List.set_cons_succ]
      obtain ⟨y4, y5, e⟩ := cross_loopG (mi := iAny (mVar 2)) (x0 := some x0) (x2 := some (.tup (h.words.map D.str))) (x4 := x4) (x5 := x5) (rows := R) (words := h.words) (fun x3 x4 x5 => by simp) (by rw [rl]; omega) hr
      refine ⟨[some x0, some (rowsG (crossR R h.words)), some (.tup (h.words.map D.str)), none, y4, y5], ?_, _, _, _, _, rfl⟩
      rw [sSeq_eq, e]
      simp)
  rw [e, List.take_length]
  simp
theorem rows_of3_ok {p : Nat} {outs : List Str} {hs : List Hand} (h : HandsOk p hs) : m_rows_of_v3 [houseT outs hs] = .ok (rowsG (rowsW (wordsOf hs))) := by
  rw [m_rows_of_v3]
  refine call_rt ?_
  rw [b_rows_of_v3]
  simp only [List.map_cons, List.map_nil, List.length_cons, List.length_nil, List.cons_append, List.nil_append, List.replicate, Nat.zero_add, Nat.reduceAdd, Nat.reduceSub, List.set_cons_zero, List.set_cons_succ]
  have i1 : gIx (houseT outs hs) (.int 1) = some (.tup (hs.map Hand.t)) := id rfl
  have hl := h.hi
  have e : mLc [1] (tgN 1) (iAny (m2 gIx (mVar 0) (mC (.int 1)))) (tYesM) (m2 gIx (mVar 1) (mC (.int 1))) [some (houseT outs hs), none] = .ok (.lst (hs.map fun h => .tup (h.words.map D.str))) := by
    refine lc_m hs Hand.t _ (by simp [i1]) (by omega) (fun x hx => ?_)
    simp [wipeR, show gIx x.t (.int 1) = some (.tup (x.words.map D.str)) from id rfl]
  simp [e, crossed3_gen (hs := hs) (by omega) (by have := h.many; omega) h.pos]
theorem noFts_all : ∀ {l : List D}, (∀ d ∈ l, d.noFt = true) → D.noFts l = true
  | [], _ => rfl
  | d :: l, h => by
    show (d.noFt && D.noFts l) = true
    rw [h d List.mem_cons_self, noFts_all fun x hx => h x (List.mem_cons_of_mem _ hx)]; rfl
theorem noFts_map {α : Type} {l : List α} {f : α → D} (h : ∀ x ∈ l, (f x).noFt = true) : D.noFts (l.map f) = true := noFts_all fun d hd => by
  obtain ⟨x, hx, rfl⟩ := List.mem_map.mp hd
  exact h x hx
theorem noFt_house {outs : List Str} {hs : List Hand} : D.noFts [houseT outs hs] = true := by
  refine noFts_all fun d hd => ?_
  rw [List.mem_singleton.mp hd]
  show D.noFts [.tup (outs.map D.str), .tup (hs.map Hand.t)] = true
  refine noFts_all fun d hd => ?_
  rcases List.mem_cons.mp hd with rfl | hd
  · exact noFts_map fun x _ => rfl
  · rw [List.mem_singleton.mp hd]
    refine noFts_map (f := Hand.t) fun h _ => ?_
    show D.noFts [.str h.name, .tup (h.words.map D.str), .tup (h.worths.map tints)] = true
    refine noFts_all fun d hd => ?_
    rcases List.mem_cons.mp hd with rfl | hd
    · rfl
    rcases List.mem_cons.mp hd with rfl | hd
    · exact noFts_map fun x _ => rfl
    rw [List.mem_singleton.mp hd]
    exact noFts_map (f := tints) fun r _ => (show D.noFts (r.map D.int) = true from noFts_map fun x _ => rfl)
def firstC : List (Option Cnd × Str) → List Str → Option Str
  | [], _ => none
  | (none, o) :: _, _ => some o
  | (some c, o) :: l, row => if c.ev row = true then some o else firstC l row
def CondsOk (hs : List Hand) (cl : List (Option Cnd × Str)) : Prop := ∀ x ∈ cl, ∀ c : Cnd, x.1 = some c → c.Ok hs ∧ c.depth ≤ 60
section
variable {hs : List Hand} {outs : List Str} {p : Nat} {rows : List (List Str)}
theorem firstC_some : ∀ {cl : List (Option Cnd × Str)} {row : List Str}, (∃ x ∈ cl, x.1 = none) → ∃ o, firstC cl row = some o
  | [], row, ⟨x, hx, _⟩ => by cases hx
  | (none, o) :: _, row, _ => ⟨o, rfl⟩
  | (some c, o) :: l, row, ⟨x, hx, e⟩ => by
    rcases List.mem_cons.mp hx with rfl | hx
    · cases e
    · obtain ⟨o', e'⟩ := firstC_some (row := row) ⟨x, hx, e⟩
      by_cases q : c.ev row = true
      · exact ⟨o, if_pos q⟩
      · exact ⟨o', (if_neg q).trans e'⟩
theorem firstC_mem : ∀ {cl : List (Option Cnd × Str)} {row : List Str} {o : Str}, firstC cl row = some o → ∃ x ∈ cl, x.2 = o
  | [], row, o, h => by cases h
  | (none, o') :: _, row, o, h => by cases h; exact ⟨_, List.mem_cons_self, rfl⟩
  | (some c, o') :: l, row, o, h => by
    by_cases q : c.ev row = true
    · have h : (if c.ev row = true then some o' else firstC l row) = some o := h
      rw [if_pos q] at h
      cases h
      exact ⟨_, List.mem_cons_self, rfl⟩
    · have h : (if c.ev row = true then some o' else firstC l row) = some o := h
      rw [if_neg q] at h
      obtain ⟨x, hx, e⟩ := firstC_mem h
      exact ⟨x, List.mem_cons_of_mem _ hx, e⟩
theorem Clauses.last {cl : List (Option Cnd × Str)} (hc : Clauses hs outs cl) : ∃ x ∈ cl, x.1 = none := by
  obtain ⟨init, o, ecl, _⟩ := hc.split
  exact ⟨(none, o), by rw [ecl]; simp, rfl⟩
theorem Clauses.conds {cl : List (Option Cnd × Str)} (hc : Clauses hs outs cl) : CondsOk hs cl := fun x hx c e => by
  obtain ⟨init, o, ecl, il, om, fine⟩ := hc.split
  rw [ecl] at hx
  rcases List.mem_append.mp hx with h | h
  · obtain ⟨⟨c', o'⟩, hm, rfl⟩ := List.mem_map.mp h
    cases e
    obtain ⟨⟨ok, sh⟩, _⟩ := fine _ hm
    have := Cnd.depth_le (hs := hs) c'
    exact ⟨ok, by dsimp only at sh ⊢; omega⟩
  · rw [List.mem_singleton.mp h] at e; cases e
theorem dealt_ok (hh : HandsOk p hs) (hr : Rws hs rows) {row : List Str} (hrow : row ∈ rows) {cl : List (Option Cnd × Str)} (hc : CondsOk hs cl) {o : Str} (ho : firstC cl row = some o) : m_dealt [rulesD cl, rowG row] = .ok (.str o) := by
  have ih : ∀ (R : D) (l : List (Option Cnd × Str)), (∀ x ∈ l, x ∈ cl) → firstC l row = some o → ∀ x2 x3, forL (tgT [2, 3]) (sIf (mT (mArgs (m_holds 60) (mA1 (mVar 2) (mA1 (mVar 1) (mA0))))) (sRet (mVar 3)) (sNil)) (l.map ruleD) [some R, some (rowG row), x2, x3] = .rt (.str o) := by
    intro R l
    induction l with
    | nil => intro _ h; cases h
    | cons x l ih =>
      intro sub h x2 x3
      obtain ⟨c, o'⟩ := x
      have step : forL (tgT [2, 3]) (sIf (mT (mArgs (m_holds 60) (mA1 (mVar 2) (mA1 (mVar 1) (mA0))))) (sRet (mVar 3)) (sNil)) (((c, o') :: l).map ruleD) [some R, some (rowG row), x2, x3] =
          ((sIf (mT (mArgs (m_holds 60) (mA1 (mVar 2) (mA1 (mVar 1) (mA0))))) (sRet (mVar 3)) (sNil)) [some R, some (rowG row), some (ccond c), some (.str o')]).bind (forL (tgT [2, 3]) (sIf (mT (mArgs (m_holds 60) (mA1 (mVar 2) (mA1 (mVar 1) (mA0))))) (sRet (mVar 3)) (sNil)) (l.map ruleD)) := id rfl
      rw [step]
      have i2 := ih (fun y hy => sub y (List.mem_cons_of_mem _ hy))
      generalize (l.map ruleD) = L at *
      cases c with
      | none =>
        have h : some o' = some o := h
        cases h
        have hn := holds_none (n := 59) (row := rowG row)
        generalize rowG row = G at *
        have hn : m_holds 60 [ccond none, G] = .ok (.bl true) := hn
        generalize ccond none = CC at *
        simp [hn]
      | some c =>
        obtain ⟨ok, dp⟩ := hc _ (sub _ List.mem_cons_self) c rfl
        have hv := holds_ok (hr.of row hrow) (hr.ne row hrow) (hr.nm row hrow) (fun h hm w hw => (hh.ok h hm).words.nm w hw) 60 c ok dp
        have h : (if c.ev row = true then some o' else firstC l row) = some o := h
        generalize rowG row = G at *
        have hv : m_holds 60 [ccond (some c), G] = .ok (.bl (c.ev row)) := hv
        generalize ccond (some c) = CC at *
        cases q : c.ev row with
        | true =>
          rw [q] at h hv
          rw [if_pos rfl] at h
          cases h
          simp [hv]
        | false =>
          rw [q] at h hv
          rw [if_neg Bool.false_ne_true] at h
          have := i2 h (some CC) (some (.str o'))
          simp [hv, this]
  have it : iLoc (rulesD cl) = some (cl.map ruleD) := id rfl
  have lp := ih (rulesD cl) cl (fun _ h => h) ho none none
  rw [m_dealt]
  refine call_rt ?_
  rw [b_dealt]
  simp only [List.map_cons, List.map_nil, List.length_cons, List.length_nil, List.cons_append, List.nil_append, List.replicate, Nat.zero_add, Nat.reduceAdd, Nat.reduceSub, List.set_cons_zero, List.set_cons_succ]
  generalize rulesD cl = R at *
  generalize rowG row = G at *
  rw [sSeq_eq]
  unfold sFor
  rw [show iAny (mVar 0) [some R, some G, none, none] = .ok (cl.map ruleD) from by simp [it], Res.out_ok, lp]
  rfl
theorem rowK_G {r : List Str} (h : r ≠ []) : rowK (rowG r) = some (rkey r) := by
  rw [rowG_ne h]; exact keysD_row r
theorem table_of_ok (hh : HandsOk p hs) {cl : List (Option Cnd × Str)} (hc : CondsOk hs cl) (hn : ∃ x ∈ cl, x.1 = none) :
    m_table_of [houseT outs hs, rulesD cl] = .ok (tabD (rowsW (wordsOf hs)) fun r => .str ((firstC cl r).getD "")) := by
  have hr := rws_of hh
  have nd := rowsW_nodup hh.wnd
  have ro := rows_of3_ok (outs := outs) hh
  have pos : rowsW (wordsOf hs) ≠ [] := fun z => by
    have := rowsW_len hs
    rw [z] at this
    have h1 : ∀ hs : List Hand, (∀ h ∈ hs, 1 ≤ h.words.length) → 0 < ways hs := by
      intro hs
      induction hs with
      | nil => intro _; exact Nat.zero_lt_one
      | cons h hs ih =>
        intro hp
        exact Nat.mul_pos (hp h List.mem_cons_self) (ih fun g hg => hp g (List.mem_cons_of_mem _ hg))
    have := h1 hs hh.pos
    simp at *
    omega
  have de : ∀ row ∈ rowsW (wordsOf hs), m_dealt [rulesD cl, rowG row] = .ok (.str ((firstC cl row).getD "")) := fun row hrow => by
    obtain ⟨o, ho⟩ := firstC_some (row := row) hn
    rw [dealt_ok hh hr hrow hc ho, ho]; rfl
  generalize rowsW (wordsOf hs) = rows at *
  have many := hr.many
  have nf := noFt_house (outs := outs) (hs := hs)
  have loop : ∀ (H R : D) (rest done : List (List Str)), R = rulesD cl → done ++ rest = rows → ∀ x3, rest = [] ∧ x3 = some .junk ∨ rest ≠ [] → tabF 2 3 (mArgs m_dealt (mA1 (mVar 1) (mA1 (mVar 3) (mA0)))) (rest.map rowG) [some H, some R, some (tabD done fun r => .str ((firstC cl r).getD "")), x3] =
      .nx [some H, some R, some (tabD rows fun r => .str ((firstC cl r).getD "")), some .junk] := by
    intro H R rest
    induction rest with
    | nil =>
      intro done eR e x3 hx
      rw [List.append_nil] at e
      rcases hx with ⟨_, rfl⟩ | hx
      · rw [e]; rfl
      · exact absurd rfl hx
    | cons r rest ih =>
      intro done eR e x3 _
      have hm : r ∈ rows := by rw [← e]; simp
      have d := de r hm
      rw [← eR] at d
      have hne := hr.ne r hm
      have nr : r ∉ done := fun z => by
        rw [← e] at nd
        exact (List.nodup_append.mp nd).2.2 r z r List.mem_cons_self rfl
      have ln : done.length < 1000000 := by
        have := congrArg List.length e
        rw [List.length_append] at this
        omega
      have pt := tab_put (rows := done) (g := fun r => .str ((firstC cl r).getD "")) (r := r) nr ln
      have i2 := ih (done ++ [r]) eR (by rw [← e]; simp) (some .junk) (by
        cases rest with
        | nil => exact .inl ⟨rfl, rfl⟩
        | cons a b => exact .inr (by simp))
      rw [List.map_cons]
      rw [rowG_ne hne] at d ⊢
      unfold tabF
      have ev : (mArgs m_dealt (mA1 (mVar 1) (mA1 (mVar 3) (mA0)))) (([some H, some R, some (tabD done fun r => .str ((firstC cl r).getD "")), x3] : Rho).set 3 (some (.ftup (r.map D.str)))) = .ok (.str ((firstC cl r).getD "")) := by
        generalize tabD done _ = T at *
        generalize D.ftup (r.map D.str) = G at *
        simp [d]
      rw [ev]
      have pt' : putD (tabD done fun r => .str ((firstC cl r).getD "")) (.tup (r.map D.str)) (.str ((firstC cl r).getD "")) = some (tabD (done ++ [r]) fun r => .str ((firstC cl r).getD "")) := pt
      dsimp only
      rw [if_pos (show (D.str ((firstC cl r).getD "")).flat = true from rfl)]
      rw [show (([some H, some R, some (tabD done fun r => .str ((firstC cl r).getD "")), x3] : Rho)[2]?) = some (some (tabD done fun r => .str ((firstC cl r).getD ""))) from rfl]
      dsimp only
      rw [pt']
      exact i2
  rw [m_table_of]
  refine call_rt ?_
  rw [b_table_of]
  simp only [List.map_cons, List.map_nil, List.length_cons, List.length_nil, List.cons_append, List.nil_append, List.replicate, Nat.zero_add, Nat.reduceAdd, Nat.reduceSub, List.set_cons_zero, List.set_cons_succ]
  have lp := loop (houseT outs hs) (rulesD cl) rows [] rfl rfl none (.inr pos)
  rw [seq_set (d := .dT [] []) (by simp)]
  simp only [List.map_cons, List.map_nil, List.length_cons, List.length_nil, List.cons_append, List.nil_append, List.replicate, Nat.zero_add, Nat.reduceAdd, Nat.reduceSub, List.set_cons_zero, List.set_cons_succ]
  have st : sTab 2 3 m_rows_of_v3 (mA1 (mVar 0) (mA0)) (mArgs m_dealt (mA1 (mVar 1) (mA1 (mVar 3) (mA0)))) [some (houseT outs hs), some (rulesD cl), some (.dT [] []), none] = .nx [some (houseT outs hs), some (rulesD cl), some (tabD rows fun r => .str ((firstC cl r).getD "")), some .junk] := by
    unfold sTab
    rw [show (mA1 (mVar 0) (mA0)) [some (houseT outs hs), some (rulesD cl), some (.dT [] []), none] = .ok [houseT outs hs] from by
      generalize houseT outs hs = H at *
      simp]
    dsimp only
    unfold mNoFt
    rw [if_pos nf, ro]
    have c1 : ∀ d ∈ rows.map rowG, rowK d ≠ none := fun d hd => by
      obtain ⟨r, hr', rfl⟩ := List.mem_map.mp hd
      rw [rowK_G (hr.ne r hr')]; simp
    have c2 : ((rows.map rowG).map rowK).Nodup := by
      have : (rows.map rowG).map rowK = rows.map fun r => some (rkey r) := by
        rw [List.map_map]
        exact List.map_congr_left fun r hr' => rowK_G (hr.ne r hr')
      rw [this, List.Nodup, List.pairwise_map]
      exact nd.imp fun h e => h (rkey_inj (Option.some.inj e))
    show (if (∀ d ∈ rows.map rowG, rowK d ≠ none) ∧ ((rows.map rowG).map rowK).Nodup ∧ rows.map rowG ≠ [] ∧ (3 : Nat) ≠ 2 ∧ 3 < _ then _ else _) = _
    rw [if_pos ⟨c1, c2, by simpa using pos, by decide, by simp⟩]
    exact lp
  rw [sSeq_eq, st, Out.nx_bind]
  generalize tabD rows _ = T at *
  simp
end
end TW
-- TWSaid4
namespace TW
open PySem PySem.Spec PyProof.Rows L2
theorem rows6_gen {hs : List Hand} (hl : hs.length < 900) (hw : ways hs < 1000) (ho : ∀ h ∈ hs, 1 ≤ h.words.length) : m__law_rows_v6 [handsD hs] = .ok (rowsG (rowsW (wordsOf hs))) := by
  rw [m__law_rows_v6]
  refine call_rt ?_
  rw [b__law_rows_v6]
  simp only [List.map_cons, List.map_nil, List.length_cons, List.length_nil, List.cons_append, List.nil_append, List.replicate, Nat.zero_add, Nat.reduceAdd, Nat.reduceSub, List.set_cons_zero, List.set_cons_succ]
  rw [seq_set (d := rowsG [[]]) (by
    simp [show gTup [] = some (.tup []) from gTup_eq (Nat.zero_le _), one_l]; rfl)]
  simp only [List.map_cons, List.map_nil, List.length_cons, List.length_nil, List.cons_append, List.nil_append, List.replicate, Nat.zero_add, Nat.reduceAdd, Nat.reduceSub, List.set_cons_zero, List.set_cons_succ]
  rw [sSeq_eq]
  generalize hb : sSeq (sSet 3 _) _ = b
  obtain ⟨ρ', e, x2, x3, x4, x5, rfl⟩ := for_m (j := 2) (m := iAny (mVar 0)) (b := b) (ρ := [some (handsD hs), some (rowsG [[]]), none, none, none, none])
    (fun i ρ => ∃ x2 x3 x4 x5, ρ = [some (handsD hs), some (rowsG (rowsW (wordsOf (hs.take i)))), x2, x3, x4, x5]) hs Hand.d (by simp [handsD]) ⟨_, _, _, _, rfl⟩ (by
      rintro i h ρ hd ⟨x2, x3, x4, x5, rfl⟩
      subst hb
      have hi : i < hs.length := (List.getElem?_eq_some_iff.mp hd).1
      have t1 : hs.take (i + 1) = hs.take i ++ [h] := by rw [List.take_add_one, hd]; rfl
      have w1 := ways_take ho (i + 1)
      rw [t1, ways_snoc] at w1
      have i1 : gIx h.d (.int 1) = some (namesD h.words) := id rfl
      have t2 : rowsW (wordsOf (hs.take (i + 1))) = crossR (rowsW (wordsOf (hs.take i))) h.words := by
        rw [t1, ← rowsW_snoc]; unfold wordsOf; rw [List.map_append]; rfl
      have hr : ∀ r ∈ rowsW (wordsOf (hs.take i)), r.length < 1000 := fun r hr => by
        have := rows_len_lt hr
        rw [List.length_take] at this; omega
      have rl := rowsW_len (hs.take i)
      rw [t2]
      generalize rowsW (wordsOf (hs.take i)) = R at *
      simp only [List.map_cons, List.map_nil, List.length_cons, List.length_nil, List.cons_append, List.nil_append, List.replicate, Nat.zero_add, Nat.reduceAdd, Nat.reduceSub, List.set_cons_zero, List.set_cons_succ]
      rw [seq_set (d := rowsG []) (by simp [nil_l]; rfl)]
      simp only [List.map_cons, List.map_nil, List.length_cons, List.length_nil, List.cons_append, List.nil_append, List.replicate, Nat.zero_add, Nat.reduceAdd, Nat.reduceSub, List.set_cons_zero, List.set_cons_succ]
      rw [sSeq_eq]
      generalize hb2 : sFor (tgN 5) _ _ = b2
      obtain ⟨ρ', e, y4, y5, rfl⟩ := for_m (j := 4) (m := iAny (mVar 1)) (b := b2) (ρ := [some (handsD hs), some (rowsG R), some h.d, some (rowsG []), x4, x5])
        (fun i ρ => ∃ y4 y5, ρ = [some (handsD hs), some (rowsG R), some h.d, some (rowsG (crossR (R.take i) h.words)), y4, y5]) R rowG (by simp [rowsG]) ⟨_, _, rfl⟩ (by
          rintro k r ρ hd ⟨y4, y5, rfl⟩
          have hrm := hr r (List.mem_of_getElem? hd)
          have hk := (List.getElem?_eq_some_iff.mp hd).1
          have t3 : R.take (k + 1) = R.take k ++ [r] := by rw [List.take_add_one, hd]; rfl
          have hc : (crossR (R.take k) h.words).length + h.words.length < 1000000 := by
            have : (k + 1) * h.words.length ≤ R.length * h.words.length := Nat.mul_le_mul_right _ (by omega)
            rw [crossR_len, List.length_take, Nat.min_eq_left (by omega)]
            rw [Nat.add_mul, Nat.one_mul] at this
            rw [rl] at this
            omega
          rw [t3, crossR_snoc]
          generalize crossR (R.take k) h.words = A at *
          subst hb2
          simp only [List.map_cons, List.map_nil, List.length_cons, List.length_nil, List.cons_append, List.nil_append, List.replicate, Nat.zero_add, Nat.reduceAdd, Nat.reduceSub, List.set_cons_zero, List.set_cons_succ]
          obtain ⟨ρ', e, z5, rfl⟩ := for_m (j := 5) (m := iAny (m2 gIx (mVar 2) (mC (.int 1)))) (b := sApp 3 (pNil) (m2 gAddF (mVar 4) (mL gTupDF (mA1 (mVar 5) (mA0))))) (ρ := [some (handsD hs), some (rowsG R), some h.d, some (rowsG A), some (rowG r), y5])
            (fun t ρ => ∃ z5, ρ = [some (handsD hs), some (rowsG R), some h.d, some (rowsG (A ++ (h.words.take t).map fun w => r ++ [w])), some (rowG r), z5]) h.words D.str (by simp [i1, iLoc_names]) ⟨y5, by simp⟩ (by
              rintro t w ρ hw ⟨z5, rfl⟩
              have ht := (List.getElem?_eq_some_iff.mp hw).1
              have t4 : h.words.take (t + 1) = h.words.take t ++ [w] := by rw [List.take_add_one, hw]; rfl
              have hlA : (A ++ (h.words.take t).map fun w => r ++ [w]).length < 1000000 := by
                rw [List.length_append, List.length_map, List.length_take]; omega
              rw [t4, List.map_append, ← List.append_assoc]
              generalize (A ++ (h.words.take t).map fun w => r ++ [w]) = B at *
              have ap := rowsG_snoc (r := r ++ [w]) hlA
              have ad := rowG_add (w := w) hrm
              generalize rowsG B = RB at *
              rw [List.map_cons, List.map_nil]
              generalize rowsG (B ++ [r ++ [w]]) = RB2 at *
              generalize rowG r = GR at *
              generalize rowG (r ++ [w]) = GR2 at *
              generalize handsD hs = HD at *
              generalize rowsG R = RR at *
              generalize h.d = HH at *
              exact ⟨[some HD, some RR, some HH, some RB2, some GR, some (.str w)], by simp [one_tf, ad, ap], _, rfl⟩)
          rw [List.take_length] at e
          exact ⟨_, e, _, _, rfl⟩)
      rw [e, Out.nx_bind, List.take_length]
      exact ⟨[some (handsD hs), some (rowsG (crossR R h.words)), some h.d, none, y4, y5], by simp, _, _, _, _, rfl⟩)
  rw [e, List.take_length]
  simp
def pick5 {α : Type} (q : Nat) (a0 a1 a2 a3 a4 : α) : α := match q with | 0 => a0 | 1 => a1 | 2 => a2 | 3 => a3 | _ => a4
structure Drn where
  q : Nat
  k : Nat
  a : Str
  j : Nat
  b : Str
  n : Nat
def Drn.d (t : Drn) : D := .lst [.int t.q, .int t.k, .str t.a, .int t.j, .str t.b, .int t.n]
def Drn.c (t : Drn) : Cnd := match t.q with
  | 0 => .says t.k t.a
  | 1 => .neg (.says t.k t.a)
  | 2 => .count t.n t.a
  | 3 => .and (.says t.k t.a) (.says t.j t.b)
  | _ => .or (.says t.j t.b) (.neg (.says t.k t.a))
structure Drn.Ok (hs : List Hand) (t : Drn) : Prop where
  q : t.q < 5
  k : t.k < hs.length
  a : t.a ∈ (hat hs t.k).words
  j : t.j < hs.length
  b : t.b ∈ (hat hs t.j).words
  n1 : 1 ≤ t.n
  n4 : t.n ≤ 4
theorem Drn.casesQ {t : Drn} {hs : List Hand} (o : t.Ok hs) : t.q = 0 ∨ t.q = 1 ∨ t.q = 2 ∨ t.q = 3 ∨ t.q = 4 := by have := o.q; omega
section
variable {p : Nat} {hs : List Hand} {outs : List Str} {t : Drn}
theorem Drn.fine (o : t.Ok hs) : Fine hs t.c := by
  obtain ⟨q, k, a, j, b, n⟩ := t
  obtain ⟨_, hk, ha, hj, hb, h1, h4⟩ := o
  have := Drn.casesQ (t := ⟨q, k, a, j, b, n⟩) ⟨‹_›, hk, ha, hj, hb, h1, h4⟩
  dsimp only at *
  rcases this with rfl | rfl | rfl | rfl | rfl
  · exact ⟨⟨hk, ha⟩, show 3 ≤ 34 by decide⟩
  · exact ⟨⟨hk, ha⟩, show 4 ≤ 34 by decide⟩
  · exact ⟨⟨h1, h4, _, hat_mem hk, ha⟩, show 3 ≤ 34 by decide⟩
  · exact ⟨⟨⟨hk, ha⟩, hj, hb⟩, show 7 ≤ 34 by decide⟩
  · exact ⟨⟨⟨hj, hb⟩, hk, ha⟩, show 8 ≤ 34 by decide⟩
theorem toNat_mod (z : Int) {m : Nat} (h : 0 < m) : ∃ k : Nat, z % (m : Int) = k ∧ k < m := by
  have := mod_bnd z (k := (m : Int)) (by omega)
  exact ⟨(z % (m : Int)).toNat, by omega, by omega⟩
theorem lst6 (a b c d e f : D) : gLst [a, b, c, d, e, f] = some (.lst [a, b, c, d, e, f]) := gLst_eq (show 6 ≤ sizeLine by decide)
theorem law_condition_ok (hh : HandsOk p hs) (cell : Int) : ∃ t : Drn, t.Ok hs ∧ m__law_condition [.int cell, handsD hs] = .ok t.d := by
  have ll := hh.lo
  have l4 := hh.hi
  have ln : gLen [handsD hs] = some (.int hs.length) := by unfold handsD; simp
  obtain ⟨k, ek, hk⟩ := toNat_mod cell (m := hs.length) (by omega)
  obtain ⟨j, ej, hj⟩ := toNat_mod (cell / 3) (m := hs.length) (by omega)
  have ok := (hh.ok _ (hat_mem hk)).words
  have oj := (hh.ok _ (hat_mem hj)).words
  obtain ⟨s, es, hs1⟩ := toNat_mod (cell / 9) (m := (hat hs k).words.length) (by have := ok.lo; omega)
  obtain ⟨u, eu, hu⟩ := toNat_mod (cell / 27) (m := (hat hs j).words.length) (by have := oj.lo; omega)
  obtain ⟨q, eq, hq⟩ := toNat_mod (cell / 81) (m := 5) (by omega)
  obtain ⟨n, en, hn⟩ := toNat_mod (cell / 405) (m := 4) (by omega)
  have en : cell / 405 % 4 = n := en
  have eq : cell / 81 % 5 = q := eq
  refine ⟨⟨q, k, wat (hat hs k).words s, j, wat (hat hs j).words u, 1 + n⟩, ⟨hq, hk, wat_mem hs1, hj, wat_mem hu, by dsimp only; omega, by dsimp only; omega⟩, ?_⟩
  have ik := hands_hand hk
  have ij := hands_hand hj
  have wk : gIx (hat hs k).d (.int 1) = some (namesD (hat hs k).words) := id rfl
  have wj : gIx (hat hs j).d (.int 1) = some (namesD (hat hs j).words) := id rfl
  have lk : gLen [namesD (hat hs k).words] = some (.int (hat hs k).words.length) := len_names
  have lj : gLen [namesD (hat hs j).words] = some (.int (hat hs j).words.length) := len_names
  have xk : gIx (namesD (hat hs k).words) (.int s) = some (.str (wat (hat hs k).words s)) := names_ix (wat_at hs1)
  have xj : gIx (namesD (hat hs j).words) (.int u) = some (.str (wat (hat hs j).words u)) := names_ix (wat_at hu)
  have m1 : gMod (.int cell) (.int hs.length) = some (.int k) := by rw [gMod_int (by omega), ek]
  have m2 : gMod (.int (cell / 3)) (.int hs.length) = some (.int j) := by rw [gMod_int (by omega), ej]
  have m3 : gMod (.int (cell / 9)) (.int (hat hs k).words.length) = some (.int s) := by rw [gMod_int (by have := ok.lo; omega), es]
  have m4 : gMod (.int (cell / 27)) (.int (hat hs j).words.length) = some (.int u) := by rw [gMod_int (by have := oj.lo; omega), eu]
  rw [m__law_condition]
  refine call_rt ?_
  rw [b__law_condition]
  unfold Drn.d
  generalize handsD hs = HD at *
  generalize wat (hat hs k).words s = WK at *
  generalize wat (hat hs j).words u = WJ at *
  generalize namesD (hat hs k).words = NK at *
  generalize namesD (hat hs j).words = NJ at *
  generalize ((hat hs k).words.length : Int) = zk at *
  generalize ((hat hs j).words.length : Int) = zj at *
  generalize (hat hs k).d = DK at *
  generalize (hat hs j).d = DJ at *
  simp only [List.map_cons, List.map_nil, List.length_cons, List.length_nil, List.cons_append, List.nil_append, List.replicate, Nat.zero_add, Nat.reduceAdd, Nat.reduceSub, List.set_cons_zero, List.set_cons_succ]
  rw [seq_set (d := .int k) (by simp [ln, m1])]
  simp only [List.map_cons, List.map_nil, List.length_cons, List.length_nil, List.cons_append, List.nil_append, List.replicate, Nat.zero_add, Nat.reduceAdd, Nat.reduceSub, List.set_cons_zero, List.set_cons_succ]
  rw [seq_set (d := .int j) (by simp [ln, m2, d3w])]
  simp only [List.map_cons, List.map_nil, List.length_cons, List.length_nil, List.cons_append, List.nil_append, List.replicate, Nat.zero_add, Nat.reduceAdd, Nat.reduceSub, List.set_cons_zero, List.set_cons_succ]
  rw [seq_set (d := .str WK) (by simp [ik, wk, lk, m3, d3w, xk])]
  simp only [List.map_cons, List.map_nil, List.length_cons, List.length_nil, List.cons_append, List.nil_append, List.replicate, Nat.zero_add, Nat.reduceAdd, Nat.reduceSub, List.set_cons_zero, List.set_cons_succ]
  rw [seq_set (d := .str WJ) (by simp [ij, wj, lj, m4, d3w, xj])]
  simp only [List.map_cons, List.map_nil, List.length_cons, List.length_nil, List.cons_append, List.nil_append, List.replicate, Nat.zero_add, Nat.reduceAdd, Nat.reduceSub, List.set_cons_zero, List.set_cons_succ]
  simp [d3w, eq, en, lst6]
theorem joinL_append (S : List Nat) : ∀ {a b : List (List Nat)}, a ≠ [] → b ≠ [] → TL.joinL S (a ++ b) = TL.joinL S a ++ (S ++ TL.joinL S b)
  | [], _, h, _ => absurd rfl h
  | [x], [], _, h => absurd rfl h
  | [x], y :: b, _, _ => rfl
  | x :: y :: a, b, _, h => by
    show x ++ (S ++ TL.joinL S (y :: a ++ b)) = x ++ (S ++ TL.joinL S (y :: a)) ++ (S ++ TL.joinL S b)
    rw [joinL_append S (a := y :: a) (by simp) h]
    simp only [List.append_assoc]
theorem join_append (y : Str) {a b : List Str} (ha : a ≠ []) (hb : b ≠ []) : Txt.join y (a ++ b) = Txt.join y a ++ y ++ Txt.join y b := by
  refine TL.ext_tl ?_
  rw [TL.join_eq, TL.join_eq, TL.join_eq, TL.tl_append, TL.tl_append, TL.tl_join, TL.tl_join, TL.tl_join, List.map_append, joinL_append _ (fun e => ha (List.map_eq_nil_iff.mp e)) (fun e => hb (List.map_eq_nil_iff.mp e)), List.append_assoc]
theorem str_assoc (a b c : Str) : a ++ b ++ c = a ++ (b ++ c) := TL.ext_tl (by simp only [TL.tl_append, List.append_assoc])
theorem lit2 {s a b : Str} (h : TL.tl s = TL.tl a ++ TL.tl b) : s = a ++ b := TL.ext_tl (by rw [TL.tl_append, h])
theorem l_says : ("says " : Str) = "says" ++ " " := lit2 (by decide +kernel)
theorem l_not : ("not " : Str) = "not" ++ " " := lit2 (by decide +kernel)
theorem l_not2 : (" not " : Str) = " " ++ ("not" ++ " ") := TL.ext_tl (by simp only [TL.tl_append]; decide +kernel)
theorem l_count : ("count " : Str) = "count" ++ " " := lit2 (by decide +kernel)
theorem l_and : ("and " : Str) = "and" ++ " " := lit2 (by decide +kernel)
theorem l_or : ("or " : Str) = "or" ++ " " := lit2 (by decide +kernel)
theorem l_when : ("when " : Str) = "when" ++ " " := lit2 (by decide +kernel)
theorem l_deal : (" deal " : Str) = " " ++ ("deal" ++ " ") := TL.ext_tl (by simp only [TL.tl_append]; decide +kernel)
theorem join_cons' (y a : Str) {l : List Str} (h : l ≠ []) : Txt.join y (a :: l) = a ++ (y ++ Txt.join y l) := by
  cases l with
  | nil => exact absurd rfl h
  | cons b l => rw [join_cons2, str_assoc]
def saysS (nm w : Str) : Str := "says " ++ nm ++ " " ++ w
theorem says_join (nm w : Str) : saysS nm w = Txt.join " " (["says", nm, w] : List Str) := by
  unfold saysS
  rw [join_cons' _ _ (by simp), join_cons' _ _ (by simp), join_one', l_says]
  simp only [str_assoc]
def cndS (hs : List Hand) (t : Drn) : Str := Txt.join " " (t.c.toks hs)
theorem cndS_0 {k : Nat} {a : Str} {j : Nat} {b : Str} {n : Nat} : saysS (hat hs k).name a = cndS hs ⟨0, k, a, j, b, n⟩ := says_join _ _
theorem cndS_1 {k : Nat} {a : Str} {j : Nat} {b : Str} {n : Nat} : "not " ++ saysS (hat hs k).name a = cndS hs ⟨1, k, a, j, b, n⟩ := by
  show _ = Txt.join " " (("not" : Str) :: [("says" : Str), (hat hs k).name, a])
  rw [join_cons' _ _ (by simp), ← says_join, l_not, str_assoc]
theorem cndS_2 {k : Nat} {a : Str} {j : Nat} {b : Str} {n : Nat} : "count " ++ digS n ++ " " ++ a = cndS hs ⟨2, k, a, j, b, n⟩ := by
  show _ = Txt.join " " [("count" : Str), digS n, a]
  rw [join_cons' _ _ (by simp), join_cons' _ _ (by simp), join_one', l_count]
  simp only [str_assoc]
theorem cndS_3 {k : Nat} {a : Str} {j : Nat} {b : Str} {n : Nat} : "and " ++ saysS (hat hs k).name a ++ " " ++ saysS (hat hs j).name b = cndS hs ⟨3, k, a, j, b, n⟩ := by
  show _ = Txt.join " " ("and" :: ([("says" : Str), (hat hs k).name, a] ++ [("says" : Str), (hat hs j).name, b]))
  rw [join_cons' _ _ (by simp), join_append _ (by simp) (by simp), ← says_join, ← says_join, l_and]
  simp only [str_assoc]
theorem cndS_4 {k : Nat} {a : Str} {j : Nat} {b : Str} {n : Nat} : "or " ++ saysS (hat hs j).name b ++ " not " ++ saysS (hat hs k).name a = cndS hs ⟨4, k, a, j, b, n⟩ := by
  show _ = Txt.join " " ("or" :: ([("says" : Str), (hat hs j).name, b] ++ (("not" : Str) :: [("says" : Str), (hat hs k).name, a])))
  rw [join_cons' _ _ (by simp), join_append _ (by simp) (by simp), join_cons' _ "not" (by simp), ← says_join, ← says_join, l_or, l_not2]
  simp only [str_assoc]
theorem saysS_len {nm w : Str} (h1 : IsName nm) (h2 : IsName w) : (saysS nm w).length ≤ 30 := by
  have a := h1.hi
  have b := h2.hi
  unfold saysS
  rw [str_append_length, str_append_length, str_append_length, show ("says " : Str).length = 5 by decide +kernel, sp_len]
  omega
theorem lst4 (a b c d : D) : gLst [a, b, c, d] = some (.lst [a, b, c, d]) := gLst_eq (show 4 ≤ sizeLine by decide)
theorem law_ctext_ok (hh : HandsOk p hs) (o : t.Ok hs) : m__law_condition_text [t.d, handsD hs] = .ok (.str (cndS hs t)) := by
  obtain ⟨q, k, a, j, b, n⟩ := t
  have ca := Drn.casesQ o
  obtain ⟨_, hk, ha, hj, hb, h1, h4⟩ := o
  dsimp only at *
  have ok := hh.ok _ (hat_mem hk)
  have oj := hh.ok _ (hat_mem hj)
  have na := ok.words.nm _ ha
  have nb := oj.words.nm _ hb
  have ik := hands_hand hk
  have ij := hands_hand hj
  have mk : gIx (hat hs k).d (.int 0) = some (.str (hat hs k).name) := id rfl
  have mj : gIx (hat hs j).d (.int 0) = some (.str (hat hs j).name) := id rfl
  have lk := ok.name.hi
  have lj := oj.name.hi
  have la := na.hi
  have lb := nb.hi
  have sk := saysS_len ok.name na
  have sj := saysS_len oj.name nb
  have l5 : ("says " : Str).length = 5 := by decide +kernel
  have l4n : ("not " : Str).length = 4 := by decide +kernel
  have l4a : ("and " : Str).length = 4 := by decide +kernel
  have l3o : ("or " : Str).length = 3 := by decide +kernel
  have l5n : (" not " : Str).length = 5 := by decide +kernel
  have l6 : ("count " : Str).length = 6 := by decide +kernel
  have dl : (digS n).length ≤ 8 := by
    rcases dig_cases h1 h4 with ⟨e, _⟩ | ⟨e, _⟩ | ⟨e, _⟩ | ⟨e, _⟩ <;> rw [e] <;> decide +kernel
  have gs : gStr [.int n] = some (.str (digS n)) := if_pos (Nat.lt_trans (log2_lt (k := 64) (show ((n : Int)).natAbs < 2 ^ 64 by omega) (by decide)) (by decide))
  have AD : ∀ {x y : Str}, x.length + y.length ≤ 10000 → gAdd (.str x) (.str y) = some (.str (x ++ y)) := add_str
  have k1 := AD (x := "says ") (y := (hat hs k).name) (by omega)
  have k2 := AD (x := "says " ++ (hat hs k).name) (y := " ") (by rw [str_append_length, sp_len]; omega)
  have k3 := AD (x := "says " ++ (hat hs k).name ++ " ") (y := a) (by rw [str_append_length, str_append_length, sp_len]; omega)
  have j1 := AD (x := "says ") (y := (hat hs j).name) (by omega)
  have j2 := AD (x := "says " ++ (hat hs j).name) (y := " ") (by rw [str_append_length, sp_len]; omega)
  have j3 := AD (x := "says " ++ (hat hs j).name ++ " ") (y := b) (by rw [str_append_length, str_append_length, sp_len]; omega)
  rw [show "says " ++ (hat hs k).name ++ " " ++ a = saysS (hat hs k).name a from rfl] at k3
  rw [show "says " ++ (hat hs j).name ++ " " ++ b = saysS (hat hs j).name b from rfl] at j3
  have c1 := AD (x := "not ") (y := saysS (hat hs k).name a) (by omega)
  have c2a := AD (x := "count ") (y := digS n) (by omega)
  have c2b := AD (x := "count " ++ digS n) (y := " ") (by rw [str_append_length, sp_len]; omega)
  have c2c := AD (x := "count " ++ digS n ++ " ") (y := a) (by rw [str_append_length, str_append_length, sp_len]; omega)
  have c3a := AD (x := "and ") (y := saysS (hat hs k).name a) (by omega)
  have c3b := AD (x := "and " ++ saysS (hat hs k).name a) (y := " ") (by rw [str_append_length, sp_len]; omega)
  have c3c := AD (x := "and " ++ saysS (hat hs k).name a ++ " ") (y := saysS (hat hs j).name b) (by rw [str_append_length, str_append_length, sp_len]; omega)
  have c4a := AD (x := "or ") (y := saysS (hat hs j).name b) (by omega)
  have c4b := AD (x := "or " ++ saysS (hat hs j).name b) (y := " not ") (by rw [str_append_length]; omega)
  have c4c := AD (x := "or " ++ saysS (hat hs j).name b ++ " not ") (y := saysS (hat hs k).name a) (by rw [str_append_length, str_append_length]; omega)
  rw [cndS_1 (j := j) (b := b) (n := n)] at c1
  rw [cndS_2 (hs := hs) (k := k) (j := j) (b := b)] at c2c
  rw [cndS_3 (n := n)] at c3c
  rw [cndS_4 (n := n)] at c4c
  have z0 : saysS (hat hs k).name a = cndS hs ⟨0, k, a, j, b, n⟩ := cndS_0
  have T0 : gIx (Drn.d ⟨q, k, a, j, b, n⟩) (.int 0) = some (.int q) := id rfl
  have T1 : gIx (Drn.d ⟨q, k, a, j, b, n⟩) (.int 1) = some (.int k) := id rfl
  have T2 : gIx (Drn.d ⟨q, k, a, j, b, n⟩) (.int 2) = some (.str a) := id rfl
  have T3 : gIx (Drn.d ⟨q, k, a, j, b, n⟩) (.int 3) = some (.int j) := id rfl
  have T4 : gIx (Drn.d ⟨q, k, a, j, b, n⟩) (.int 4) = some (.str b) := id rfl
  have T5 : gIx (Drn.d ⟨q, k, a, j, b, n⟩) (.int 5) = some (.int n) := id rfl
  have cat : ∀ a b c d e : D, gAdd (.lst [a, b, c, d]) (.lst [e]) = some (.lst [a, b, c, d, e]) := fun a b c d e => gAdd_lst (show 5 ≤ sizeLine by decide)
  have ixq : ∀ a0 a1 a2 a3 a4 : D, gIx (.lst [a0, a1, a2, a3, a4]) (.int q) = some (pick5 q a0 a1 a2 a3 a4) := fun a0 a1 a2 a3 a4 => by
    rcases ca with rfl | rfl | rfl | rfl | rfl <;> rfl
  have fin : D.str (cndS hs ⟨q, k, a, j, b, n⟩) = pick5 q (D.str (cndS hs ⟨0, k, a, j, b, n⟩)) (D.str (cndS hs ⟨1, k, a, j, b, n⟩)) (D.str (cndS hs ⟨2, k, a, j, b, n⟩)) (D.str (cndS hs ⟨3, k, a, j, b, n⟩)) (D.str (cndS hs ⟨4, k, a, j, b, n⟩)) := by
    rcases ca with rfl | rfl | rfl | rfl | rfl <;> rfl
  rw [fin]
  rw [m__law_condition_text]
  refine call_rt ?_
  rw [b__law_condition_text]
  generalize cndS hs ⟨1, k, a, j, b, n⟩ = S1 at *
  generalize cndS hs ⟨2, k, a, j, b, n⟩ = S2 at *
  generalize cndS hs ⟨3, k, a, j, b, n⟩ = S3 at *
  generalize cndS hs ⟨4, k, a, j, b, n⟩ = S4 at *
  rw [← z0]
  generalize saysS (hat hs k).name a = SK at *
  generalize saysS (hat hs j).name b = SJ at *
  generalize ("says " ++ (hat hs k).name ++ " " : Str) = u1 at *
  generalize ("says " ++ (hat hs j).name ++ " " : Str) = u2 at *
  generalize ("says " ++ (hat hs k).name : Str) = u3 at *
  generalize ("says " ++ (hat hs j).name : Str) = u4 at *
  generalize ("count " ++ digS n ++ " " : Str) = u5 at *
  generalize ("count " ++ digS n : Str) = u6 at *
  generalize ("and " ++ SK ++ " " : Str) = u7 at *
  generalize ("and " ++ SK : Str) = u8 at *
  generalize ("or " ++ SJ ++ " not " : Str) = u9 at *
  generalize ("or " ++ SJ : Str) = u10 at *
  generalize Drn.d ⟨q, k, a, j, b, n⟩ = TD at *
  generalize handsD hs = HD at *
  generalize (hat hs k).name = NK at *
  generalize (hat hs j).name = NJ at *
  generalize (hat hs k).d = DK at *
  generalize (hat hs j).d = DJ at *
  simp only [List.map_cons, List.map_nil, List.length_cons, List.length_nil, List.cons_append, List.nil_append, List.replicate, Nat.zero_add, Nat.reduceAdd, Nat.reduceSub, List.set_cons_zero, List.set_cons_succ]
  rw [seq_set (d := .str SK) (by simp [T1, T2, ik, mk, k1, k2, k3])]
  simp only [List.map_cons, List.map_nil, List.length_cons, List.length_nil, List.cons_append, List.nil_append, List.replicate, Nat.zero_add, Nat.reduceAdd, Nat.reduceSub, List.set_cons_zero, List.set_cons_succ]
  rw [seq_set (d := .str SJ) (by simp [T3, T4, ij, mj, j1, j2, j3])]
  simp only [List.map_cons, List.map_nil, List.length_cons, List.length_nil, List.cons_append, List.nil_append, List.replicate, Nat.zero_add, Nat.reduceAdd, Nat.reduceSub, List.set_cons_zero, List.set_cons_succ]
  rw [seq_set (d := .lst [.str SK, .str S1, .str S2, .str S3]) (by simp [T2, T5, gs, c1, c2a, c2b, c2c, c3a, c3b, c3c, lst4])]
  simp only [List.map_cons, List.map_nil, List.length_cons, List.length_nil, List.cons_append, List.nil_append, List.replicate, Nat.zero_add, Nat.reduceAdd, Nat.reduceSub, List.set_cons_zero, List.set_cons_succ]
  simp [T0, c4a, c4b, c4c, one_l, cat, ixq]
theorem law_holds_ok (hh : HandsOk p hs) (o : t.Ok hs) {rows : List (List Str)} (hr : Rws hs rows) {row : List Str} (hrow : row ∈ rows) : m__law_condition_holds [t.d, rowG row] = .ok (.bl (t.c.ev row)) := by
  obtain ⟨q, k, a, j, b, n⟩ := t
  have ca := Drn.casesQ o
  obtain ⟨_, hk, ha, hj, hb, h1, h4⟩ := o
  dsimp only at *
  have na := (hh.ok _ (hat_mem hk)).words.nm _ ha
  have nb := (hh.ok _ (hat_mem hj)).words.nm _ hb
  have rl := (hr.of row hrow).1
  have rk : gIx (.ftup (row.map D.str)) (.int k) = some (.str (wat row k)) := ft_ix (by omega)
  have rj : gIx (.ftup (row.map D.str)) (.int j) = some (.str (wat row j)) := ft_ix (by omega)
  have ek := gEq_str (hr.nm row hrow _ (wat_mem (t := k) (by omega))).ok na.ok
  have ej := gEq_str (hr.nm row hrow _ (wat_mem (t := j) (by omega))).ok nb.ok
  have ct := gCount_ft (r := row) (w := a)
  have T0 : gIx (Drn.d ⟨q, k, a, j, b, n⟩) (.int 0) = some (.int q) := id rfl
  have T1 : gIx (Drn.d ⟨q, k, a, j, b, n⟩) (.int 1) = some (.int k) := id rfl
  have T2 : gIx (Drn.d ⟨q, k, a, j, b, n⟩) (.int 2) = some (.str a) := id rfl
  have T3 : gIx (Drn.d ⟨q, k, a, j, b, n⟩) (.int 3) = some (.int j) := id rfl
  have T4 : gIx (Drn.d ⟨q, k, a, j, b, n⟩) (.int 4) = some (.str b) := id rfl
  have T5 : gIx (Drn.d ⟨q, k, a, j, b, n⟩) (.int 5) = some (.int n) := id rfl
  have five : ∀ a b c d e : D, gLst [a, b, c, d, e] = some (.lst [a, b, c, d, e]) := fun a b c d e => gLst_eq (show 5 ≤ sizeLine by decide)
  have ixq : ∀ a0 a1 a2 a3 a4 : D, gIx (.lst [a0, a1, a2, a3, a4]) (.int q) = some (pick5 q a0 a1 a2 a3 a4) := fun a0 a1 a2 a3 a4 => by
    rcases ca with rfl | rfl | rfl | rfl | rfl <;> rfl
  have fin : ∀ x y : Bool, x = decide (wat row k = a) → y = decide (wat row j = b) → D.bl ((Drn.c ⟨q, k, a, j, b, n⟩).ev row) = pick5 q (D.bl x) (D.bl (!x)) (D.bl (decide (n ≤ row.count a))) (D.bl (x && y)) (D.bl (y || !x)) := fun x y e1 e2 => by
    subst e1 e2
    rcases ca with rfl | rfl | rfl | rfl | rfl <;> rfl
  rw [fin _ _ rfl rfl]
  rw [m__law_condition_holds, rowG_ne (hr.ne row hrow)]
  refine call_rt ?_
  rw [b__law_condition_holds]
  generalize Drn.d ⟨q, k, a, j, b, n⟩ = TD at *
  generalize (.ftup (row.map D.str) : D) = RD at *
  generalize decide (wat row k = a) = X at *
  generalize decide (wat row j = b) = Y at *
  simp only [List.map_cons, List.map_nil, List.length_cons, List.length_nil, List.cons_append, List.nil_append, List.replicate, Nat.zero_add, Nat.reduceAdd, Nat.reduceSub, List.set_cons_zero, List.set_cons_succ]
  rw [seq_set (d := .bl X) (by simp [T1, T2, rk, ek])]
  simp only [List.map_cons, List.map_nil, List.length_cons, List.length_nil, List.cons_append, List.nil_append, List.replicate, Nat.zero_add, Nat.reduceAdd, Nat.reduceSub, List.set_cons_zero, List.set_cons_succ]
  rw [seq_set (d := .bl Y) (by simp [T3, T4, rj, ej])]
  simp only [List.map_cons, List.map_nil, List.length_cons, List.length_nil, List.cons_append, List.nil_append, List.replicate, Nat.zero_add, Nat.reduceAdd, Nat.reduceSub, List.set_cons_zero, List.set_cons_succ]
  cases X <;> cases Y <;> simp [T0, T2, T5, ct, five, ixq]
theorem lc_mt {α : Type} {ρ : Rho} {vs : List Nat} {tg : D → Rho → Option Rho} {m : Rho → Res (List D)} {me : Rho → Res D} (xs : List α) (f g : α → D) (hm : m ρ = .ok (xs.map f)) (hl : xs.length < 1000000) (h : ∀ x ∈ xs, ∃ ρ1, tg (f x) (wipeR ρ vs) = some ρ1 ∧ me ρ1 = .ok (g x)) :
    mLc vs tg m tYesM me ρ = .ok (.lst (xs.map g)) := by
  unfold mLc
  rw [hm, Res.bind_ok, if_pos (by rw [List.length_map]; exact b24 hl), compL_m (g := g) xs (fun x hx => by
    obtain ⟨ρ1, e1, e2⟩ := h x hx
    rw [e1]
    dsimp only
    rw [tYesM_eq, Res.bind_ok, if_pos rfl, e2]; rfl)]
  rfl
def tcl (l : List (Drn × Str)) (o : Str) : List (Option Cnd × Str) := l.map (fun x => (some x.1.c, x.2)) ++ [(none, o)]
def tD (l : List (Drn × Str)) : D := .lst (l.map fun x => .tup [x.1.d, .str x.2])
def TOk (hs : List Hand) (outs : List Str) (l : List (Drn × Str)) : Prop := l.length ≤ 3 ∧ ∀ x ∈ l, x.1.Ok hs ∧ x.2 ∈ outs
theorem tcl_ok {l : List (Drn × Str)} {o : Str} (h : TOk hs outs l) (ho : o ∈ outs) : Clauses hs outs (tcl l o) where
  split := ⟨l.map fun x => (x.1.c, x.2), o, by unfold tcl; rw [List.map_map]; rfl, by rw [List.length_map]; have := h.1; omega, ho, fun x hx => by
    obtain ⟨y, hy, rfl⟩ := List.mem_map.mp hx
    exact ⟨Drn.fine (h.2 y hy).1, (h.2 y hy).2⟩⟩
theorem law_clauses2_ok (hh : HandsOk p hs) (ao : AreNames outs 8) (ns : List Int) : ∃ l, TOk hs outs l ∧ m__law_clauses_v2 [.scr ns, handsD hs, namesD outs] = .ok (tD l) := by
  obtain ⟨m, em, hm⟩ := toNat_mod (cel ns 7) (m := 4) (by omega)
  have em : cel ns 7 % 4 = m := em
  have c7 : m__law_cell [.scr ns, .int 7] = .ok (.int (cel ns 7)) := cell_at ns 7 rfl
  have lo := ao.lo
  have lno : gLen [namesD outs] = some (.int outs.length) := len_names
  have cnd := Classical.axiomOfChoice fun cell => law_condition_ok hh cell
  obtain ⟨tf, htf⟩ := cnd
  have od := Classical.axiomOfChoice fun z : Int => toNat_mod z (m := outs.length) (by omega)
  obtain ⟨of, hof⟩ := od
  have m2e : ∀ t : Nat, t < 4 → gMul (.int 2) (.int t) = some (.int (2 * (t : Int))) := fun t ht => gMul_int (nat250 (by decide)) (nat250 (by omega))
  let F : Nat → Drn × Str := fun t => (tf (cel ns (51 + 2 * t)), wat outs (of (cel ns (52 + 2 * t))))
  have hF : ∀ t, (F t).1.Ok hs ∧ (F t).2 ∈ outs := fun t => ⟨(htf _).1, wat_mem (hof _).2⟩
  refine ⟨(List.range m).map F, ⟨by simp; omega, fun x hx => by
    obtain ⟨t, _, rfl⟩ := List.mem_map.mp hx
    exact hF t⟩, ?_⟩
  rw [m__law_clauses_v2]
  refine call_rt ?_
  rw [b__law_clauses_v2]
  simp only [List.map_cons, List.map_nil, List.length_cons, List.length_nil, List.cons_append, List.nil_append, List.replicate, Nat.zero_add, Nat.reduceAdd, Nat.reduceSub, List.set_cons_zero, List.set_cons_succ]
  rw [seq_set (d := .lst []) (by simp [nil_l])]
  simp only [List.map_cons, List.map_nil, List.length_cons, List.length_nil, List.cons_append, List.nil_append, List.replicate, Nat.zero_add, Nat.reduceAdd, Nat.reduceSub, List.set_cons_zero, List.set_cons_succ]
  rw [sSeq_eq]
  generalize hb : sSeq (sSet 5 _) _ = b
  obtain ⟨ρ', e, x4, x5, rfl⟩ := for_r (j := 4) (mi := m2 gMod (mArgs m__law_cell (mA1 (mVar 0) (mA1 (mC (.int 7)) (mA0)))) (mC (.int 4))) (b := b) (ρ := [some (.scr ns), some (handsD hs), some (namesD outs), some (.lst []), none, none])
    (fun t ρ => ∃ x4 x5, ρ = [some (.scr ns), some (handsD hs), some (namesD outs), some (tD ((List.range t).map F)), x4, x5]) m (by simp [c7, em]) (by omega) ⟨_, _, rfl⟩ (by
      rintro t ρ ht ⟨x4, x5, rfl⟩
      subst hb
      have ca : m__law_cell [.scr ns, .int (51 + 2 * (t : Int))] = .ok (.int (cel ns (51 + 2 * t))) := cell_at ns (51 + 2 * t) (by simp)
      have cb : m__law_cell [.scr ns, .int (52 + 2 * (t : Int))] = .ok (.int (cel ns (52 + 2 * t))) := cell_at ns (52 + 2 * t) (by simp)
      have co := (htf (cel ns (51 + 2 * t))).2
      have mo : gMod (.int (cel ns (52 + 2 * t))) (.int outs.length) = some (.int (of (cel ns (52 + 2 * t)))) := by rw [gMod_int (by omega), (hof _).1]
      have ix : gIx (namesD outs) (.int (of (cel ns (52 + 2 * t)))) = some (.str (F t).2) := names_ix (wat_at (hof _).2)
      have co : m__law_condition [.int (cel ns (51 + 2 * t)), handsD hs] = .ok (F t).1.d := co
      have tp : gTup [(F t).1.d, .str (F t).2] = some (.tup [(F t).1.d, .str (F t).2]) := tup2 _ _
      have ap : nApp (.tup [(F t).1.d, .str (F t).2]) (tD ((List.range t).map F)) = some (tD ((List.range (t + 1)).map F)) := by
        unfold tD
        rw [nApp_lst (b24 (by simp; omega)), List.range_succ, List.map_append, List.map_append]; rfl
      generalize tD ((List.range t).map F) = A at *
      generalize tD ((List.range (t + 1)).map F) = A' at *
      generalize F t = f at *
      generalize namesD outs = OD at *
      generalize handsD hs = HD at *
      generalize of (cel ns (52 + 2 * t)) = oi at *
      have mt := m2e t (by omega)
      simp only [List.map_cons, List.map_nil, List.length_cons, List.length_nil, List.cons_append, List.nil_append, List.replicate, Nat.zero_add, Nat.reduceAdd, Nat.reduceSub, List.set_cons_zero, List.set_cons_succ]
      rw [seq_set (d := .int (cel ns (51 + 2 * t))) (by simp [mt, ca])]
      simp only [List.map_cons, List.map_nil, List.length_cons, List.length_nil, List.cons_append, List.nil_append, List.replicate, Nat.zero_add, Nat.reduceAdd, Nat.reduceSub, List.set_cons_zero, List.set_cons_succ]
      generalize f.1.d = FD at *
      exact ⟨[some (.scr ns), some HD, some OD, some A', some (.int (t : Nat)), some (.int (cel ns (51 + 2 * t)))], by simp [mt, co, cb, lno, mo, ix, tp, ap], _, _, rfl⟩)
  rw [e, Out.nx_bind]
  simp
def ruleS (hs : List Hand) (cl : List (Option Cnd × Str)) : Str := Txt.join "; " (cl.map (cltext hs))
theorem when_text {t : Drn} {o : Str} : "when " ++ cndS hs t ++ " deal " ++ o = cltext hs (some t.c, o) := by
  show _ = Txt.join " " ("when" :: (t.c.toks hs ++ [("deal" : Str), o]))
  rw [join_cons' _ _ (by simp), join_append _ (toks_ne _) (by simp), join_cons' _ "deal" (by simp), join_one', l_when, l_deal]
  unfold cndS
  simp only [str_assoc]
theorem law_rule_row_ok (hh : HandsOk p hs) (ao : AreNames outs 8) {l : List (Drn × Str)} {o : Str} (h : TOk hs outs l) (ho : o ∈ outs) : m__law_rule_row [tD l, handsD hs, .str o] = .ok (.str ("rule " ++ ruleS hs (tcl l o))) := by
  have hc := tcl_ok h ho
  have tj := (texts_join hh ao hc).1
  have to := toks_of hh ao hc
  have l3 := h.1
  have short : ∀ x ∈ tcl l o, (cltext hs x).length ≤ 400 := fun x hx => by
    obtain ⟨l, e, h1, h2⟩ := to x hx
    exact text_short e h1 h2
  have cshort : ∀ x ∈ l, (cndS hs x.1).length ≤ 400 := fun x hx => by
    have f := Drn.fine (h.2 x hx).1
    exact text_short (l := x.1.c.toks hs) rfl (by have := f.2; omega) (toks_tok hh _ f.1)
  have osh : ∀ x ∈ l, x.2.length ≤ 8 := fun x hx => (ao.nm _ (h.2 x hx).2).hi
  have lw : ("when " : Str).length = 5 := by decide +kernel
  have ld : (" deal " : Str).length = 6 := by decide +kernel
  have ld2 : ("deal " : Str).length = 5 := by decide +kernel
  have lr : ("rule " : Str).length = 5 := by decide +kernel
  have oo := (ao.nm o ho).hi
  have lenR : (ruleS hs (tcl l o)).length ≤ 10000 := by
    have := joinN_len (y := "; ") (l := (tcl l o).map (cltext hs)) (m := 400) (n := 4) (fun s hs => by
      obtain ⟨x, hx, rfl⟩ := List.mem_map.mp hs
      exact short x hx) (by unfold tcl; simp; omega)
    rw [show ("; " : Str).length = 2 by decide +kernel] at this
    exact Nat.le_trans this (by decide)
  have it : iLoc (tD l) = some (l.map fun x => .tup [x.1.d, .str x.2]) := id rfl
  have ct : ∀ x ∈ l, m__law_condition_text [x.1.d, handsD hs] = .ok (.str (cndS hs x.1)) := fun x hx => law_ctext_ok hh (h.2 x hx).1
  rw [m__law_rule_row]
  refine call_rt ?_
  rw [b__law_rule_row]
  simp only [List.map_cons, List.map_nil, List.length_cons, List.length_nil, List.cons_append, List.nil_append, List.replicate, Nat.zero_add, Nat.reduceAdd, Nat.reduceSub, List.set_cons_zero, List.set_cons_succ]
  have lc : mLc [4, 5] (tgT [4, 5]) (iAny (mVar 0)) (tYesM) (m2 gAdd (m2 gAdd (m2 gAdd (mC (.str "when ")) (mArgs m__law_condition_text (mA1 (mVar 4) (mA1 (mVar 1) (mA0))))) (mC (.str " deal "))) (mVar 5)) [some (tD l), some (handsD hs), some (.str o), none, none, none] = .ok (namesD (l.map fun x => cltext hs (some x.1.c, x.2))) := by
    generalize handsD hs = HD at *
    rw [lc_mt l (fun x => .tup [x.1.d, .str x.2]) (fun x => .str (cltext hs (some x.1.c, x.2))) (by simp [it]) (by omega) (fun x hx => by
      have c := ct x hx
      have q1 := cshort x hx
      have q2 := osh x hx
      have a1 : gAdd (.str "when ") (.str (cndS hs x.1)) = some (.str ("when " ++ cndS hs x.1)) := add_str (by omega)
      have a2 : gAdd (.str ("when " ++ cndS hs x.1)) (.str " deal ") = some (.str ("when " ++ cndS hs x.1 ++ " deal ")) := add_str (by rw [str_append_length]; omega)
      have a3 : gAdd (.str ("when " ++ cndS hs x.1 ++ " deal ")) (.str x.2) = some (.str (cltext hs (some x.1.c, x.2))) := by
        rw [add_str (by rw [str_append_length, str_append_length]; omega), when_text]
      generalize tD l = TL at *
      generalize x.1.d = XD at *
      generalize cltext hs (some x.1.c, x.2) = CT at *
      generalize ("when " ++ cndS hs x.1 ++ " deal " : Str) = u2 at *
      generalize ("when " ++ cndS hs x.1 : Str) = u1 at *
      exact ⟨[some TL, some HD, some (.str o), none, some XD, some (.str x.2)], id rfl, by simp [c, a1, a2, a3]⟩)]
    unfold namesD
    rw [List.map_map]; rfl
  rw [seq_set (d := namesD (l.map fun x => cltext hs (some x.1.c, x.2))) lc]
  simp only [List.map_cons, List.map_nil, List.length_cons, List.length_nil, List.cons_append, List.nil_append, List.replicate, Nat.zero_add, Nat.reduceAdd, Nat.reduceSub, List.set_cons_zero, List.set_cons_succ]
  have e1 : (l.map fun x => cltext hs (some x.1.c, x.2)) ++ ["deal " ++ o] = (tcl l o).map (cltext hs) := by
    unfold tcl
    rw [List.map_append, List.map_map]; rfl
  have a1 : gAdd (.str "deal ") (.str o) = some (.str ("deal " ++ o)) := add_str (by omega)
  have a2 : gAdd (namesD (l.map fun x => cltext hs (some x.1.c, x.2))) (.lst [.str ("deal " ++ o)]) = some (namesD ((tcl l o).map (cltext hs))) := by
    rw [← e1]
    unfold namesD
    rw [gAdd_lst (b24' (by simp; omega)), List.map_append]; rfl
  have tj : gJoin (.str "; ") (namesD ((tcl l o).map (cltext hs))) = some (.str (ruleS hs (tcl l o))) := tj
  have a3 : gAdd (.str "rule ") (.str (ruleS hs (tcl l o))) = some (.str ("rule " ++ ruleS hs (tcl l o))) := add_strL (by omega)
  generalize namesD (l.map fun x => cltext hs (some x.1.c, x.2)) = NL at *
  generalize namesD ((tcl l o).map (cltext hs)) = N2 at *
  generalize ruleS hs (tcl l o) = RS at *
  generalize handsD hs = HD at *
  generalize tD l = TL at *
  simp [mMeth, a1, one_l, a2, tj, a3]
theorem law_dealt_ok (hh : HandsOk p hs) {rows : List (List Str)} (hr : Rws hs rows) {row : List Str} (hrow : row ∈ rows) {l : List (Drn × Str)} {o : Str} (h : TOk hs outs l) {z : Str} (hz : firstC (tcl l o) row = some z) : m__law_dealt [tD l, rowG row, .str o] = .ok (.str z) := by
  have ho : ∀ x ∈ l, m__law_condition_holds [x.1.d, rowG row] = .ok (.bl (x.1.c.ev row)) := fun x hx => law_holds_ok hh (h.2 x hx).1 hr hrow
  have it : iLoc (tD l) = some (l.map fun x => .tup [x.1.d, .str x.2]) := id rfl
  rw [m__law_dealt]
  refine call_rt ?_
  rw [b__law_dealt]
  simp only [List.map_cons, List.map_nil, List.length_cons, List.length_nil, List.cons_append, List.nil_append, List.replicate, Nat.zero_add, Nat.reduceAdd, Nat.reduceSub, List.set_cons_zero, List.set_cons_succ]
  generalize rowG row = RG at *
  have loop : ∀ (TL : D) (r : List (Drn × Str)), (∀ x ∈ r, x ∈ l) → firstC (tcl r o) row = some z → ∀ x3 x4,
      (forL (tgT [3, 4]) (sIf (mT (mArgs m__law_condition_holds (mA1 (mVar 3) (mA1 (mVar 1) (mA0))))) (sRet (mVar 4)) (sNil)) (r.map fun x => .tup [x.1.d, .str x.2]) [some TL, some RG, some (.str o), x3, x4]).bind (sRet (mVar 2)) = .rt (.str z) := by
    intro TL r
    induction r with
    | nil =>
      intro _ hf x3 x4
      have hf : some o = some z := hf
      cases hf
      simp [forL]
    | cons x r ih =>
      intro hm hf x3 x4
      have hx := ho x (hm x List.mem_cons_self)
      have hf : (if x.1.c.ev row = true then some x.2 else firstC (tcl r o) row) = some z := hf
      rw [List.map_cons]
      unfold forL
      rw [show tgT [3, 4] (.tup [x.1.d, .str x.2]) [some TL, some RG, some (.str o), x3, x4] = some [some TL, some RG, some (.str o), some x.1.d, some (.str x.2)] from id rfl]
      dsimp only
      generalize x.1.d = XD at *
      cases q : x.1.c.ev row with
      | true =>
        rw [q] at hf hx
        cases hf
        simp [hx]
      | false =>
        rw [q] at hf hx
        rw [if_neg Bool.false_ne_true] at hf
        have := ih (fun y hy => hm y (List.mem_cons_of_mem _ hy)) hf (some XD) (some (.str x.2))
        simp only [sIf_eq, mT_eq, mArgs_eq, mA1_eq, mA0_eq, mVar_eq, List.getElem?_cons_succ, List.getElem?_cons_zero, Res.bind_ok, hx, ofB_eq, Res.out_ok, if_neg Bool.false_ne_true, sNil_eq]
        exact this
  have lp := loop (tD l) l (fun x hx => hx) hz none none
  rw [sSeq_eq]
  unfold sFor
  rw [show iAny (mVar 0) [some (tD l), some RG, some (.str o), none, none] = .ok (l.map fun x => .tup [x.1.d, .str x.2]) from by simp [it], Res.out_ok]
  exact lp
end
end TW
-- TWSaid5
namespace TW
open PySem PySem.Spec PyProof.Rows L2
theorem callI_rt {N : Nat} {b : Rho → Out} {ds : List D} {d : D} (h : b (ds.map some ++ List.replicate (N - ds.length) none) = .rt d) : callI N b ds = .ok d := by
  unfold callI; rw [h]
@[simp] theorem sRetI_eq {m : Rho → Res D} {ρ : Rho} : sRetI m ρ = (m ρ).out ρ fun d => match ρ[0]? with
  | some (some s) => if d.flat = true then .rt (.tup [d, s]) else .stuck
  | _ => .stuck := id rfl
theorem iMeth_ok [DeskAt] {i : Nat} {m : List D → Res D} {me : Rho → Res D} {ρ : Rho} {h t d v s : D} (h1 : ρ[i]? = some (some (.ins DeskAt.C h t))) (h2 : me ρ = .ok d) (h3 : m [.ins DeskAt.C h t, d] = .ok (.tup [v, s])) : iMeth i m me ρ = .ok v (ρ.set i (some s)) := by
  unfold iMeth
  rw [h1]
  dsimp only
  rw [if_pos rfl]
  unfold iCall
  rw [h1, mA1_eq, h2, mA0_eq]
  show (if (false = true → D.sha 99 (.ins DeskAt.C h t) = true) then _ else _) = _
  rw [if_pos (by intro q; cases q), h3]
theorem sHouse_ok [DeskAt] {i : Nat} {m : Rho → Res D} {ρ : Rho} {h t v : D} (h1 : ρ[i]? = some (some (.ins DeskAt.C h t))) (h2 : m ρ = .ok v) : sHouse i m ρ = .nx (ρ.set i (some (.ins DeskAt.C v t))) := by
  unfold sHouse
  rw [h1]
  dsimp only
  rw [if_pos rfl, h2]; rfl
theorem sTable_ok [DeskAt] {i : Nat} {m : Rho → Res D} {ρ : Rho} {h t v : D} (h1 : ρ[i]? = some (some (.ins DeskAt.C h t))) (h2 : m ρ = .ok v) : sTable i m ρ = .nx (ρ.set i (some (.ins DeskAt.C h v))) := by
  unfold sTable
  rw [h1]
  dsimp only
  rw [if_pos rfl, h2]; rfl
theorem gHouse_ins [DeskAt] {h t : D} : gHouse (.ins DeskAt.C h t) = some h := if_pos rfl
theorem gTable_ins [DeskAt] {h t : D} : gTable (.ins DeskAt.C h t) = some t := if_pos rfl
theorem isi_strS {s : Str} : gIsi "str" (.str s) = some (.bl true) := isi_of rfl (show kitB "str" "str" = some true by decide +kernel)
theorem ok_house : PyData.strOk "house" = true := by decide +kernel
theorem ok_rule : PyData.strOk "rule" = true := by decide +kernel
theorem ok_best : PyData.strOk "best" = true := by decide +kernel
theorem ok_verdict : PyData.strOk "verdict" = true := by decide +kernel
theorem ok_menu : PyData.strOk "menu" = true := by decide +kernel
theorem ok_ok : PyData.strOk "ok" = true := by decide +kernel
theorem houseT_sha {outs : List Str} {hs : List Hand} : D.sha 0 (houseT outs hs) = true := by
  show ([.tup (outs.map D.str), .tup (hs.map Hand.t)] : List D).all (D.shalF 7 0) = true
  simp only [List.all_cons, List.all_nil, Bool.and_true, Bool.and_eq_true]
  constructor
  · show (outs.map D.str).all (D.shalF 6 0) = true
    rw [List.all_map]
    exact List.all_eq_true.mpr fun _ _ => rfl
  · show (hs.map Hand.t).all (D.shalF 6 0) = true
    rw [List.all_map]
    refine List.all_eq_true.mpr fun h _ => ?_
    show ([.str h.name, .tup (h.words.map D.str), .tup (h.worths.map tints)] : List D).all (D.shalF 5 0) = true
    simp only [List.all_cons, List.all_nil, Bool.and_true, Bool.and_eq_true]
    refine ⟨rfl, ?_, ?_⟩
    · show (h.words.map D.str).all (D.shalF 4 0) = true
      rw [List.all_map]
      exact List.all_eq_true.mpr fun _ _ => rfl
    · show (h.worths.map tints).all (D.shalF 4 0) = true
      rw [List.all_map]
      refine List.all_eq_true.mpr fun r _ => ?_
      show (r.map D.int).all (D.shalF 3 0) = true
      rw [List.all_map]
      exact List.all_eq_true.mpr fun _ _ => rfl
theorem tab_sha {rows : List (List Str)} {f : List Str → Str} : D.sha 1 (tabD rows fun r => .str (f r)) = true := by
  show (rows.map fun r => D.str (f r)).all (D.shalF 7 0) = true
  rw [List.all_map]
  exact List.all_eq_true.mpr fun r _ => rfl
def FST : List Str := ["house", "rule", "best", "deal", "pays", "verdict", "menu"]
theorem row_part {w : Str} {lit : Str} {x : Str} (e : lit = w ++ " ") (h : 32 ∉ TL.tl w) (hl : x.length ≤ 900000) (hw : w.length ≤ 10) : gPart (.str (lit ++ x)) (.str " ") = some (.tup [.str w, .str " ", .str x]) := by
  subst e
  refine gPart_of tl_sp h ?_ (by decide +kernel)
  rw [str_append_length, str_append_length, sp_len]; omega
section
variable {p : Nat} {hs : List Hand} {outs : List Str} {rows : List (List Str)}
theorem l_house : ("house " : Str) = "house" ++ " " := lit2 (by decide +kernel)
theorem l_rule : ("rule " : Str) = "rule" ++ " " := lit2 (by decide +kernel)
theorem l_dealS : ("deal " : Str) = "deal" ++ " " := lit2 (by decide +kernel)
theorem say_house [DeskAt] (hh : HandsOk outs.length hs) (ao : AreNames outs 8) (h0 t0 : D) : m_say [.ins DeskAt.C h0 t0, .str ("house " ++ houseS outs hs)] = .ok (.tup [.str "ok", .ins DeskAt.C (houseT outs hs) .non]) := by
  have hi := house_in_ok hh ao
  have sl := houseS_len hh ao.hi ao
  have pt := row_part (x := houseS outs hs) l_house (by decide +kernel) (by omega) (by decide +kernel)
  have sha := houseT_sha (outs := outs) (hs := hs)
  have i0 : gIx (.tup [.str "house", .str " ", .str (houseS outs hs)]) (.int 0) = some (.str "house") := id rfl
  have i2 : gIx (.tup [.str "house", .str " ", .str (houseS outs hs)]) (.int 2) = some (.str (houseS outs hs)) := id rfl
  have ni : gNinS FST (.str "house") = some (.bl false) := by
    show some (D.bl (!FST.any (· == "house"))) = _
    rw [show FST.any (· == ("house" : Str)) = true by decide +kernel]; rfl
  have e1 := eq_lit ok_house ok_verdict (r := false) (by decide +kernel)
  have e2 := eq_lit ok_house ok_house (r := true) (by decide +kernel)
  rw [m_say]
  refine callI_rt ?_
  rw [b_say]
  generalize ("house " ++ houseS outs hs : Str) = ROW at *
  generalize houseS outs hs = HS at *
  generalize houseT outs hs = HT at *
  generalize (.tup [.str "house", .str " ", .str HS] : D) = PT at *
  simp only [List.map_cons, List.map_nil, List.length_cons, List.length_nil, List.cons_append, List.nil_append, List.replicate, Nat.zero_add, Nat.reduceAdd, Nat.reduceSub, List.set_cons_zero, List.set_cons_succ]
  rw [if_skip (by simp [isi_strS])]
  rw [seq_set (d := PT) (by simp [mMeth, pt])]
  simp only [List.map_cons, List.map_nil, List.length_cons, List.length_nil, List.cons_append, List.nil_append, List.replicate, Nat.zero_add, Nat.reduceAdd, Nat.reduceSub, List.set_cons_zero, List.set_cons_succ]
  rw [if_skip (by rw [show (["house", "rule", "best", "deal", "pays", "verdict", "menu"] : List Str) = FST from rfl]; simp [i0, ni, e1])]
  rw [if_take (by simp [i0, e2])]
  rw [sSeq_eq, sSeq_eq, sHouse_ok (v := HT) (h := h0) (t := t0) rfl (by simp [i2, hi, sha]), Out.nx_bind]
  simp only [List.map_cons, List.map_nil, List.length_cons, List.length_nil, List.cons_append, List.nil_append, List.replicate, Nat.zero_add, Nat.reduceAdd, Nat.reduceSub, List.set_cons_zero, List.set_cons_succ]
  rw [sSeq_eq, sTable_ok (v := .non) (h := HT) (t := t0) rfl (by simp), Out.nx_bind]
  simp only [List.map_cons, List.map_nil, List.length_cons, List.length_nil, List.cons_append, List.nil_append, List.replicate, Nat.zero_add, Nat.reduceAdd, Nat.reduceSub, List.set_cons_zero, List.set_cons_succ]
  simp
theorem say_rule [DeskAt] (hh : HandsOk outs.length hs) (ao : AreNames outs 8) {cl : List (Option Cnd × Str)} (hc : Clauses hs outs cl) (hl : (ruleS hs cl).length ≤ 900000) (t0 : D) : m_say [.ins DeskAt.C (houseT outs hs) t0, .str ("rule " ++ ruleS hs cl)] = .ok (.tup [.str "ok", .ins DeskAt.C (houseT outs hs) (tabD (rowsW (wordsOf hs)) fun r => .str ((firstC cl r).getD ""))]) := by
  have hi := TWT.read_rule_ok hh ao hc
  have tb := table_of_ok (outs := outs) hh hc.conds hc.last
  have pt := row_part (x := ruleS hs cl) l_rule (by decide +kernel) hl (by decide +kernel)
  have sha := tab_sha (rows := rowsW (wordsOf hs)) (f := fun r => (firstC cl r).getD "")
  have i0 : gIx (.tup [.str "rule", .str " ", .str (ruleS hs cl)]) (.int 0) = some (.str "rule") := id rfl
  have i2 : gIx (.tup [.str "rule", .str " ", .str (ruleS hs cl)]) (.int 2) = some (.str (ruleS hs cl)) := id rfl
  have ni : gNinS FST (.str "rule") = some (.bl false) := by
    show some (D.bl (!FST.any (· == "rule"))) = _
    rw [show FST.any (· == ("rule" : Str)) = true by decide +kernel]; rfl
  have e1 := eq_lit ok_rule ok_verdict (r := false) (by decide +kernel)
  have e2 := eq_lit ok_rule ok_house (r := false) (by decide +kernel)
  have e3 := eq_lit ok_rule ok_rule (r := true) (by decide +kernel)
  have nn : gIsN (houseT outs hs) .non = some (.bl false) := id rfl
  have hi : m_read_rule [houseT outs hs, .str (ruleS hs cl)] = .ok (rulesD cl) := hi
  rw [m_say]
  refine callI_rt ?_
  rw [b_say]
  generalize (tabD (rowsW (wordsOf hs)) fun r => .str ((firstC cl r).getD "")) = TB at *
  generalize ("rule " ++ ruleS hs cl : Str) = ROW at *
  generalize ruleS hs cl = RS at *
  generalize rulesD cl = RD at *
  generalize houseT outs hs = HT at *
  generalize (.tup [.str "rule", .str " ", .str RS] : D) = PT at *
  have gh : gHouse (.ins DeskAt.C HT t0) = some HT := gHouse_ins
  simp only [List.map_cons, List.map_nil, List.length_cons, List.length_nil, List.cons_append, List.nil_append, List.replicate, Nat.zero_add, Nat.reduceAdd, Nat.reduceSub, List.set_cons_zero, List.set_cons_succ]
  rw [if_skip (by simp [isi_strS])]
  rw [seq_set (d := PT) (by simp [mMeth, pt])]
  simp only [List.map_cons, List.map_nil, List.length_cons, List.length_nil, List.cons_append, List.nil_append, List.replicate, Nat.zero_add, Nat.reduceAdd, Nat.reduceSub, List.set_cons_zero, List.set_cons_succ]
  rw [if_skip (by rw [show (["house", "rule", "best", "deal", "pays", "verdict", "menu"] : List Str) = FST from rfl]; simp [i0, ni, e1])]
  rw [if_skip (by simp [i0, e2])]
  rw [if_skip (by simp [gh, nn])]
  rw [if_take (by simp [i0, e3])]
  rw [sSeq_eq, sSeq_eq, sTable_ok (v := TB) (h := HT) (t := t0) rfl (by simp [i2, gh, hi, tb, sha]), Out.nx_bind]
  simp only [List.map_cons, List.map_nil, List.length_cons, List.length_nil, List.cons_append, List.nil_append, List.replicate, Nat.zero_add, Nat.reduceAdd, Nat.reduceSub, List.set_cons_zero, List.set_cons_succ]
  simp
theorem row_in_ok {row : List Str} {g : List Str → D} (hr : Rws hs rows) (hrow : row ∈ rows) (h8 : hs.length ≤ 8) : m_row_in [tabD rows g, .str (Txt.join " " row)] = .ok (rowT row) := by
  have nm := hr.nm row hrow
  have rl := (hr.of row hrow).1
  have sp := split_sp (hr.ne row hrow) (by omega) fun s hs => ⟨by have := (nm s hs).hi; omega, name_no (by omega) (nm s hs)⟩
  have ni := tab_nin (g := g) hrow
  rw [m_row_in]
  refine call_rt ?_
  rw [b_row_in]
  generalize tabD rows g = TB at *
  generalize Txt.join " " row = TX at *
  have gt : gTuple [namesD row] = some (rowT row) := id rfl
  generalize namesD row = NR at *
  generalize rowT row = RT at *
  simp only [List.map_cons, List.map_nil, List.length_cons, List.length_nil, List.cons_append, List.nil_append, List.replicate, Nat.zero_add, Nat.reduceAdd, Nat.reduceSub, List.set_cons_zero, List.set_cons_succ]
  rw [seq_set (d := RT) (by simp [mMeth, sp, gt])]
  simp only [List.map_cons, List.map_nil, List.length_cons, List.length_nil, List.cons_append, List.nil_append, List.replicate, Nat.zero_add, Nat.reduceAdd, Nat.reduceSub, List.set_cons_zero, List.set_cons_succ]
  rw [if_skip (by simp [ni])]
  simp
theorem told_deal {row : List Str} {f : List Str → Str} (hr : Rws hs rows) (hrow : row ∈ rows) (h8 : hs.length ≤ 8) (H : D) : m_told_about [H, tabD rows (fun r => .str (f r)), .str "deal", .str (Txt.join " " row)] = .ok (.str (f row)) := by
  have ri := row_in_ok (g := fun r => .str (f r)) hr hrow h8
  have ix := tab_ix (g := fun r => .str (f r)) hrow
  have e1 := eq_lit ok_deal ok_verdict (r := false) (by decide +kernel)
  have e2 := eq_lit ok_deal ok_menu (r := false) (by decide +kernel)
  have e3 := eq_lit ok_deal ok_deal (r := true) (by decide +kernel)
  rw [m_told_about]
  refine call_rt ?_
  rw [b_told_about]
  generalize tabD rows (fun r => .str (f r)) = TB at *
  generalize Txt.join " " row = TX at *
  generalize rowT row = RT at *
  simp only [List.map_cons, List.map_nil, List.length_cons, List.length_nil, List.cons_append, List.nil_append, List.replicate, Nat.zero_add, Nat.reduceAdd, Nat.reduceSub, List.set_cons_zero, List.set_cons_succ]
  rw [if_skip (by simp [e1]), if_skip (by simp [e2]), seq_set (d := RT) (by simp [ri])]
  simp only [List.map_cons, List.map_nil, List.length_cons, List.length_nil, List.cons_append, List.nil_append, List.replicate, Nat.zero_add, Nat.reduceAdd, Nat.reduceSub, List.set_cons_zero, List.set_cons_succ]
  simp [e3, ix]
theorem row_text {row : List Str} (hr : Rws hs rows) (hrow : row ∈ rows) (h8 : hs.length ≤ 8) : (Txt.join " " row).length ≤ 100 ∧ gJoin (.str " ") (rowG row) = some (.str (Txt.join " " row)) := by
  have nm := hr.nm row hrow
  have rl := (hr.of row hrow).1
  have := joinN_len (y := " ") (l := row) (m := 8) (n := 8) (fun s hs => (nm s hs).hi) (by omega)
  rw [sp_len] at this
  refine ⟨by omega, ?_⟩
  rw [rowG_ne (hr.ne row hrow)]
  exact join_ok (m := 8) (fun s hs => (nm s hs).hi) (by omega) (by decide) (by decide +kernel)
theorem say_deal [DeskAt] {row : List Str} {f : List Str → Str} (hr : Rws hs rows) (hrow : row ∈ rows) (h8 : hs.length ≤ 8) : m_say [.ins DeskAt.C (houseT outs hs) (tabD rows fun r => .str (f r)), .str ("deal " ++ Txt.join " " row)] = .ok (.tup [.str (f row), .ins DeskAt.C (houseT outs hs) (tabD rows fun r => .str (f r))]) := by
  have td := told_deal (f := f) hr hrow h8 (houseT outs hs)
  have rt := (row_text hr hrow h8).1
  have pt := row_part (x := Txt.join " " row) l_dealS (by decide +kernel) (by omega) (by decide +kernel)
  have i0 : gIx (.tup [.str "deal", .str " ", .str (Txt.join " " row)]) (.int 0) = some (.str "deal") := id rfl
  have i2 : gIx (.tup [.str "deal", .str " ", .str (Txt.join " " row)]) (.int 2) = some (.str (Txt.join " " row)) := id rfl
  have ni : gNinS FST (.str "deal") = some (.bl false) := by
    show some (D.bl (!FST.any (· == "deal"))) = _
    rw [show FST.any (· == ("deal" : Str)) = true by decide +kernel]; rfl
  have e1 := eq_lit ok_deal ok_verdict (r := false) (by decide +kernel)
  have e2 := eq_lit ok_deal ok_house (r := false) (by decide +kernel)
  have e3 := eq_lit ok_deal ok_rule (r := false) (by decide +kernel)
  have e4 := eq_lit ok_deal ok_best (r := false) (by decide +kernel)
  have nn : gIsN (houseT outs hs) .non = some (.bl false) := id rfl
  have nt : gIsN (tabD rows fun r => .str (f r)) .non = some (.bl false) := id rfl
  have sh : D.sha 0 (.str (f row)) = true := rfl
  rw [m_say]
  refine callI_rt ?_
  rw [b_say]
  generalize (tabD rows fun r => .str (f r)) = TB at *
  generalize ("deal " ++ Txt.join " " row : Str) = ROW at *
  generalize Txt.join " " row = RS at *
  generalize houseT outs hs = HT at *
  generalize (.tup [.str "deal", .str " ", .str RS] : D) = PT at *
  have gh : gHouse (.ins DeskAt.C HT TB) = some HT := gHouse_ins
  have gt : gTable (.ins DeskAt.C HT TB) = some TB := gTable_ins
  simp only [List.map_cons, List.map_nil, List.length_cons, List.length_nil, List.cons_append, List.nil_append, List.replicate, Nat.zero_add, Nat.reduceAdd, Nat.reduceSub, List.set_cons_zero, List.set_cons_succ]
  rw [if_skip (by simp [isi_strS])]
  rw [seq_set (d := PT) (by simp [mMeth, pt])]
  simp only [List.map_cons, List.map_nil, List.length_cons, List.length_nil, List.cons_append, List.nil_append, List.replicate, Nat.zero_add, Nat.reduceAdd, Nat.reduceSub, List.set_cons_zero, List.set_cons_succ]
  rw [if_skip (by rw [show (["house", "rule", "best", "deal", "pays", "verdict", "menu"] : List Str) = FST from rfl]; simp [i0, ni, e1])]
  rw [if_skip (by simp [i0, e2])]
  rw [if_skip (by simp [gh, nn])]
  rw [if_skip (by simp [i0, e3])]
  rw [if_skip (by simp [i0, e4])]
  rw [if_skip (by simp [gt, nt])]
  simp [gh, gt, i0, i2, td, sh]
end
end TW
-- Mth_k73
namespace Lk73
open PySem PySem.Spec PyProof.Rows L2 TW
theorem ifI_no [DeskAt] {i : Nat} {m : List D → Res D} {me : Rho → Res D} {a b : Rho → Out} {ρ : Rho} {h t d s : D} (h1 : ρ[i]? = some (some (.ins DeskAt.C h t))) (h2 : me ρ = .ok d) (h3 : m [.ins DeskAt.C h t, d] = .ok (.tup [.str "ok", s])) :
    sSeq (sIfI (i2 gNe (iMeth i m me) (mC (.str "ok"))) a sNil) b ρ = b (ρ.set i (some s)) := by
  have e := iMeth_ok h1 h2 h3
  have ne := ne_lit ok_ok ok_ok (r := true) (by decide)
  rw [sSeq_eq]
  unfold sIfI i2
  rw [e]
  dsimp only
  rw [if_pos flat_str, mC_eq]
  dsimp only
  rw [ne]
  rfl
theorem law_holds (DA : DeskAt) : ∀ ns : List Int, ns.length ≤ 63 → (∀ z ∈ ns, Builtin.Int.intBits z ≤ 1048576) → @m_law_k73 DA [.scr ns] = .ok (.bl true) := by
  intro ns hns _
  have c0 : m__law_cell [.scr ns, .int 0] = .ok (.int (cel ns 0)) := cell_at ns 0 rfl
  have c2 : m__law_cell [.scr ns, .int 2] = .ok (.int (cel ns 2)) := cell_at ns 2 rfl
  have c50 : m__law_cell [.scr ns, .int 50] = .ok (.int (cel ns 50)) := cell_at ns 50 rfl
  have pe := pl_eq ns
  have pb := pl_bnd ns
  have lh := law_hands2_ok ns (p := pl ns) (top := T57) (by omega) (by decide) (by decide)
  have hh := handsOf2_ok ns (p := pl ns) (top := T57) (by decide) (by decide)
  have ln := law_names2_ok (cel ns 2) (many := pl ns) (by omega)
  have ao := drawn2_ok (cel ns 2) (many := pl ns) (by omega) (by omega)
  have lo : (drawn2 (cel ns 2) (pl ns)).length = pl ns := by unfold drawn2; simp
  generalize drawn2 (cel ns 2) (pl ns) = outs at *
  generalize handsOf2 ns (pl ns) T57 = hs at *
  rw [← lo] at hh
  have h4 := hh.hi
  have hr := rws_of hh
  have er := rows6_gen (hs := hs) (by omega) (by have := hh.many; omega) hh.pos
  have lw := law_house_row_ok hh ao
  obtain ⟨l, hl, el⟩ := law_clauses2_ok hh ao ns
  have hl0 : TOk hs outs [] := ⟨by simp, fun x hx => by cases hx⟩
  have sh := say_house hh ao .non .non
  have rl : ∀ l o, TOk hs outs l → o ∈ outs → (ruleS hs (tcl l o)).length ≤ 900000 := fun l o h ho => by
    have to := toks_of hh ao (tcl_ok h ho)
    have := joinN_len (y := "; ") (l := (tcl l o).map (cltext hs)) (m := 400) (n := 4) (fun s hs => by
      obtain ⟨x, hx, rfl⟩ := List.mem_map.mp hs
      obtain ⟨l, e, h1, h2⟩ := to x hx
      exact text_short e h1 h2) (by have := h.1; unfold tcl; simp; omega)
    rw [show ("; " : Str).length = 2 by decide +kernel] at this
    exact Nat.le_trans this (by decide)
  obtain ⟨w, ew, hw⟩ := toNat_mod (cel ns 50) (m := pl ns) (by omega)
  have last : gIx (namesD outs) (.int w) = some (.str (wat outs w)) := names_ix (wat_at (by omega))
  have lastm : wat outs w ∈ outs := wat_mem (by omega)
  have zero : gIx (namesD outs) (.int 0) = some (.str (wat outs 0)) := names_ix (k := 0) (wat_at (by omega))
  have zerom : wat outs 0 ∈ outs := wat_mem (by omega)
  have two : gLst [tD l, .lst []] = some (.lst [tD l, .lst []]) := gLst_eq (show 2 ≤ sizeLine by decide)
  have it2 : iLoc (.lst [tD l, .lst []]) = some ([l, []].map tD) := id rfl
  have itr : iLoc (rowsG (rowsW (wordsOf hs))) = some ((rowsW (wordsOf hs)).map rowG) := id rfl
  have m50 : gMod (.int (cel ns 50)) (.int (pl ns)) = some (.int w) := by rw [gMod_int (by omega), ew]
  rw [m_law_k73]
  refine call_rt ?_
  rw [b_law_k73]
  simp only [List.map_cons, List.map_nil, List.length_cons, List.length_nil, List.cons_append, List.nil_append, List.replicate, Nat.zero_add, Nat.reduceAdd, Nat.reduceSub, List.set_cons_zero, List.set_cons_succ]
  rw [seq_set (d := .int (pl ns)) (by simp [c0, pe])]
  simp only [List.map_cons, List.map_nil, List.length_cons, List.length_nil, List.cons_append, List.nil_append, List.replicate, Nat.zero_add, Nat.reduceAdd, Nat.reduceSub, List.set_cons_zero, List.set_cons_succ]
  rw [seq_set (d := handsD hs) (by simp [pow57, lh])]
  simp only [List.map_cons, List.map_nil, List.length_cons, List.length_nil, List.cons_append, List.nil_append, List.replicate, Nat.zero_add, Nat.reduceAdd, Nat.reduceSub, List.set_cons_zero, List.set_cons_succ]
  rw [seq_set (d := namesD outs) (by simp [c2, ln])]
  simp only [List.map_cons, List.map_nil, List.length_cons, List.length_nil, List.cons_append, List.nil_append, List.replicate, Nat.zero_add, Nat.reduceAdd, Nat.reduceSub, List.set_cons_zero, List.set_cons_succ]
  generalize hOD : namesD outs = OD at *
  generalize hHD : handsD hs = HD at *
  rw [sSeq_eq, show sDesk 4 [some (.scr ns), some (.int (pl ns)), some HD, some OD, none, none, none, none, none] = .nx [some (.scr ns), some (.int (pl ns)), some HD, some OD, some (.ins DeskAt.C .non .non), none, none, none, none] from rfl, Out.nx_bind]
  rw [ifI_no (i := 4) (h := .non) (t := .non) (d := .str ("house " ++ houseS outs hs)) rfl (by simp [lw]) sh]
  simp only [List.map_cons, List.map_nil, List.length_cons, List.length_nil, List.cons_append, List.nil_append, List.replicate, Nat.zero_add, Nat.reduceAdd, Nat.reduceSub, List.set_cons_zero, List.set_cons_succ]
  rw [seq_set (d := .str (wat outs w)) (by simp [c50, m50, last])]
  simp only [List.map_cons, List.map_nil, List.length_cons, List.length_nil, List.cons_append, List.nil_append, List.replicate, Nat.zero_add, Nat.reduceAdd, Nat.reduceSub, List.set_cons_zero, List.set_cons_succ]
  rw [sSeq_eq]
  generalize hb : sSeq (sIfI _ _ _) _ = b
  obtain ⟨ρ', e, T, o, x6, x7, x8, _, rfl⟩ := for_m (j := 6) (m := iAny (mL gLst (mA1 (mArgs m__law_clauses_v2 (mA1 (mVar 0) (mA1 (mVar 2) (mA1 (mVar 3) (mA0))))) (mA1 (mL gLst (mA0)) (mA0))))) (b := b) (ρ := [some (.scr ns), some (.int (pl ns)), some HD, some OD, some (.ins DeskAt.C (houseT outs hs) .non), some (.str (wat outs w)), none, none, none])
    (fun _ ρ => ∃ T o x6 x7 x8, o ∈ outs ∧ ρ = [some (.scr ns), some (.int (pl ns)), some HD, some OD, some (.ins DeskAt.C (houseT outs hs) T), some (.str o), x6, x7, x8]) [l, []] tD (by simp [el, nil_l, two, it2]) ⟨_, _, _, _, _, lastm, rfl⟩ (by
      rintro k c ρ hd ⟨T, o, x6, x7, x8, ho, rfl⟩
      have hc : TOk hs outs c := by
        have := List.mem_of_getElem? hd
        rcases List.mem_cons.mp this with rfl | this
        · exact hl
        · rw [List.mem_singleton.mp this]; exact hl0
      have cls := tcl_ok hc ho
      have rr := law_rule_row_ok hh ao hc ho
      have sr := say_rule hh ao cls (rl c o hc ho) T
      have sd : ∀ row ∈ rowsW (wordsOf hs), m_say [.ins DeskAt.C (houseT outs hs) (tabD (rowsW (wordsOf hs)) fun r => .str ((firstC (tcl c o) r).getD "")), .str ("deal " ++ Txt.join " " row)] = .ok (.tup [.str ((firstC (tcl c o) row).getD ""), .ins DeskAt.C (houseT outs hs) (tabD (rowsW (wordsOf hs)) fun r => .str ((firstC (tcl c o) r).getD ""))]) := fun row hrow => say_deal (f := fun r => (firstC (tcl c o) r).getD "") hr hrow (by omega)
      rw [hHD] at rr
      subst hb
      simp only [List.map_cons, List.map_nil, List.length_cons, List.length_nil, List.cons_append, List.nil_append, List.replicate, Nat.zero_add, Nat.reduceAdd, Nat.reduceSub, List.set_cons_zero, List.set_cons_succ]
      generalize (tabD (rowsW (wordsOf hs)) fun r => .str ((firstC (tcl c o) r).getD "")) = TB at *
      have ld : ∀ row ∈ rowsW (wordsOf hs), m__law_dealt [tD c, rowG row, .str o] = .ok (.str ((firstC (tcl c o) row).getD "")) := fun row hrow => by
        obtain ⟨z, hz⟩ := firstC_some (row := row) cls.last
        rw [law_dealt_ok hh hr hrow hc hz, hz]; rfl
      have okz : ∀ row, PyData.strOk ((firstC (tcl c o) row).getD "") = true := fun row => by
        obtain ⟨z, hz⟩ := firstC_some (row := row) cls.last
        obtain ⟨y, hy, rfl⟩ := firstC_mem hz
        rw [hz]
        refine (ao.nm _ ?_).ok
        unfold tcl at hy
        rcases List.mem_append.mp hy with hy | hy
        · obtain ⟨v, hv, rfl⟩ := List.mem_map.mp hy
          exact (hc.2 v hv).2
        · rw [List.mem_singleton.mp hy]; exact ho
      generalize hTD : tD c = TD at *
      rw [ifI_no (i := 4) (h := houseT outs hs) (t := T) (d := .str ("rule " ++ ruleS hs (tcl c o))) rfl (by simp [rr]) sr]
      simp only [List.map_cons, List.map_nil, List.length_cons, List.length_nil, List.cons_append, List.nil_append, List.replicate, Nat.zero_add, Nat.reduceAdd, Nat.reduceSub, List.set_cons_zero, List.set_cons_succ]
      rw [sSeq_eq]
      generalize hb2 : sSeq (sSetI 8 _) _ = b2
      obtain ⟨ρ', e, y7, y8, rfl⟩ := for_m (j := 7) (m := iAny (mArgs m__law_rows_v6 (mA1 (mVar 2) (mA0)))) (b := b2) (ρ := [some (.scr ns), some (.int (pl ns)), some HD, some OD, some (.ins DeskAt.C (houseT outs hs) TB), some (.str o), some TD, x7, x8])
        (fun _ ρ => ∃ y7 y8, ρ = [some (.scr ns), some (.int (pl ns)), some HD, some OD, some (.ins DeskAt.C (houseT outs hs) TB), some (.str o), some TD, y7, y8]) (rowsW (wordsOf hs)) rowG (by simp [er, itr]) ⟨_, _, rfl⟩ (by
          rintro k row ρ hd ⟨y7, y8, rfl⟩
          have hrow := List.mem_of_getElem? hd
          have s := sd row hrow
          have rt := row_text hr hrow (by omega)
          have dl := ld row hrow
          have okk := okz row
          have ne := gNe_str okk okk
          rw [decide_eq_true rfl] at ne
          have a1 : gAdd (.str "deal ") (.str (Txt.join " " row)) = some (.str ("deal " ++ Txt.join " " row)) := add_str (by
            have := rt.1
            rw [show ("deal " : Str).length = 5 by decide +kernel]; omega)
          have jn := rt.2
          subst hb2
          simp only [List.map_cons, List.map_nil, List.length_cons, List.length_nil, List.cons_append, List.nil_append, List.replicate, Nat.zero_add, Nat.reduceAdd, Nat.reduceSub, List.set_cons_zero, List.set_cons_succ]
          generalize (firstC (tcl c o) row).getD "" = z at *
          generalize ("deal " ++ Txt.join " " row : Str) = ROW at *
          generalize Txt.join " " row = JR at *
          generalize rowG row = RG at *
          generalize houseT outs hs = HT at *
          have im := iMeth_ok (i := 4) (m := m_say) (me := m2 gAdd (mC (.str "deal ")) (mMeth gJoin (mC (.str " ")) (mVar 7))) (ρ := [some (.scr ns), some (.int (pl ns)), some HD, some OD, some (.ins DeskAt.C HT TB), some (.str o), some TD, some RG, y8]) rfl (by simp [mMeth, jn, a1]) s
          refine ⟨[some (.scr ns), some (.int (pl ns)), some HD, some OD, some (.ins DeskAt.C HT TB), some (.str o), some TD, some RG, some (.str z)], ?_, _, _, rfl⟩
          rw [sSeq_eq]
          unfold sSetI
          rw [im]
          show (if D.flat (.str z) = true then Out.nx _ else Out.stuck).bind _ = _
          rw [if_pos flat_str, Out.nx_bind]
          simp only [List.map_cons, List.map_nil, List.length_cons, List.length_nil, List.cons_append, List.nil_append, List.replicate, Nat.zero_add, Nat.reduceAdd, Nat.reduceSub, List.set_cons_zero, List.set_cons_succ]
          simp [isi_strS, dl, ne])
      rw [e, Out.nx_bind]
      exact ⟨[some (.scr ns), some (.int (pl ns)), some HD, some OD, some (.ins DeskAt.C (houseT outs hs) TB), some (.str (wat outs 0)), some TD, y7, y8], by simp [zero], _, _, _, _, _, zerom, rfl⟩)
  rw [e, Out.nx_bind]
  simp
end Lk73
-- End_k73
open PySem PySem.W PyProof.Rows
set_option maxHeartbeats 0 in
theorem PySem.Challenge.cw_trueword_k73_rules_said_holds : PySem.Challenge.rw_trueword_k73_rules_said.Holds := by
  w_on; o_law; k_head; (case hw => w_witness2)
  k_fill
  refine L2.walk_ofB (l := PySem.Challenge.rw_trueword_k73_rules_said) (n := 63) (k := 66) (x := "script") (CX := fun w => L2.CX (PySem.Challenge.rw_trueword_k73_rules_said).prog w) (sp := fun w => TW.spLaw _) rfl (by decide) rfl ⟨rfl, by decide, by decide⟩ (fun w h Y => PySem.W.kIn_of Y) ?F (fun _ _ a ns hl hb hO hS => ⟨a, ns, rfl, TW.scr_of hO hS, hl, hb, fun _ => rfl⟩) (fun w H s e s1 h => TW.no_cx (P := (PySem.Challenge.rw_trueword_k73_rules_said).prog) h)
  case F =>
    intro w mg fa h KX G hmg
    refine' Lk73.all_mk KX G hmg ?a_Desk ?a_is_name ?l_is_name ?c_is_name ?k_is_name ?a_are_names ?l_are_names ?c_are_names ?k_are_names ?a_is_worth ?l_is_worth ?c_is_worth ?k_is_worth ?a_are_worths ?l_are_worths ?c_are_worths ?k_are_worths ?a_is_hand ?l_is_hand ?c_is_hand ?k_is_hand ?a_house_of ?l_house_of ?c_house_of ?k_house_of ?a_crossed ?l_crossed ?c_crossed ?k_crossed ?a_rows_of ?l_rows_of ?c_rows_of ?k_rows_of ?a_holds ?l_holds ?c_holds ?k_holds ?a_dealt ?l_dealt ?c_dealt ?k_dealt ?a_table_of ?l_table_of ?c_table_of ?k_table_of ?a_word_at ?l_word_at ?c_word_at ?k_word_at ?a_saying ?l_saying ?c_saying ?k_saying ?a_counting ?l_counting ?c_counting ?k_counting ?a_condition_at ?l_condition_at ?c_condition_at ?k_condition_at ?a_clause_of ?l_clause_of ?c_clause_of ?k_clause_of ?a_read_rule ?l_read_rule ?c_read_rule ?k_read_rule ?a_number_in ?l_number_in ?c_number_in ?k_number_in ?a_numbers_in ?l_numbers_in ?c_numbers_in ?k_numbers_in ?a_hand_in ?l_hand_in ?c_hand_in ?k_hand_in ?a_house_in ?l_house_in ?c_house_in ?k_house_in ?a_row_in ?l_row_in ?c_row_in ?k_row_in ?a_told_about ?l_told_about ?c_told_about ?k_told_about ?a_say ?fn_say ?l_say ?c_say ?k_say ?a__law_cell ?l__law_cell ?c__law_cell ?k__law_cell ?a__law_number ?l__law_number ?c__law_number ?k__law_number ?a__law_names ?l__law_names ?c__law_names ?k__law_names ?a__law_hands ?l__law_hands ?c__law_hands ?k__law_hands ?a__law_rows ?l__law_rows ?c__law_rows ?k__law_rows ?a__law_house_row ?l__law_house_row ?c__law_house_row ?k__law_house_row ?a__law_condition ?l__law_condition ?c__law_condition ?k__law_condition ?a__law_condition_text ?l__law_condition_text ?c__law_condition_text ?k__law_condition_text ?a__law_condition_holds ?l__law_condition_holds ?c__law_condition_holds ?k__law_condition_holds ?a__law_clauses ?l__law_clauses ?c__law_clauses ?k__law_clauses ?a__law_rule_row ?l__law_rule_row ?c__law_rule_row ?k__law_rule_row ?a__law_dealt ?l__law_dealt ?c__law_dealt ?k__law_dealt ?a_law ?l_law ?c_law ?k_law ?a___init__ ?fn___init__ ?l___init__ ?c___init__ ?k___init__ ?pg_ ?hd_ ?po_ ?sa_ ?nh_ ?nt_ ?mk_ ?kp_ ?a_FIRST ?l_FIRST ?r_FIRST ?n_bool ?n_enumerate ?n_int ?n_isinstance ?n_len ?n_list ?n_range ?n_set ?n_str ?n_tuple ?w_FIGURES ?r_FIGURES ?w_LETTERS ?r_LETTERS Lk73.law_holds
    (case a_Desk => k_is); (case a_is_name => k_is); (case l_is_name => k_is); (case c_is_name => k_is); (case k_is_name => k_is); (case a_are_names => k_is); (case l_are_names => k_is); (case c_are_names => k_is); (case k_are_names => k_is); (case a_is_worth => k_is); (case l_is_worth => k_is); (case c_is_worth => k_is); (case k_is_worth => k_is); (case a_are_worths => k_is); (case l_are_worths => k_is); (case c_are_worths => k_is); (case k_are_worths => k_is); (case a_is_hand => k_is); (case l_is_hand => k_is); (case c_is_hand => k_is); (case k_is_hand => k_is); (case a_house_of => k_is); (case l_house_of => k_is); (case c_house_of => k_is); (case k_house_of => k_is); (case a_crossed => k_is); (case l_crossed => k_is); (case c_crossed => k_is); (case k_crossed => k_is); (case a_rows_of => k_is); (case l_rows_of => k_is); (case c_rows_of => k_is); (case k_rows_of => k_is); (case a_holds => k_is); (case l_holds => k_is); (case c_holds => k_is); (case k_holds => k_is); (case a_dealt => k_is); (case l_dealt => k_is); (case c_dealt => k_is); (case k_dealt => k_is); (case a_table_of => k_is); (case l_table_of => k_is); (case c_table_of => k_is); (case k_table_of => k_is); (case a_word_at => k_is); (case l_word_at => k_is); (case c_word_at => k_is); (case k_word_at => k_is); (case a_saying => k_is); (case l_saying => k_is); (case c_saying => k_is); (case k_saying => k_is); (case a_counting => k_is); (case l_counting => k_is); (case c_counting => k_is); (case k_counting => k_is); (case a_condition_at => k_is); (case l_condition_at => k_is); (case c_condition_at => k_is); (case k_condition_at => k_is); (case a_clause_of => k_is); (case l_clause_of => k_is); (case c_clause_of => k_is); (case k_clause_of => k_is); (case a_read_rule => k_is); (case l_read_rule => k_is); (case c_read_rule => k_is); (case k_read_rule => k_is); (case a_number_in => k_is); (case l_number_in => k_is); (case c_number_in => k_is); (case k_number_in => k_is); (case a_numbers_in => k_is); (case l_numbers_in => k_is); (case c_numbers_in => k_is); (case k_numbers_in => k_is); (case a_hand_in => k_is); (case l_hand_in => k_is); (case c_hand_in => k_is); (case k_hand_in => k_is); (case a_house_in => k_is); (case l_house_in => k_is); (case c_house_in => k_is); (case k_house_in => k_is); (case a_row_in => k_is); (case l_row_in => k_is); (case c_row_in => k_is); (case k_row_in => k_is); (case a_told_about => k_is); (case l_told_about => k_is); (case c_told_about => k_is); (case k_told_about => k_is); (case a_say => k_is); (case fn_say => k_is); (case l_say => k_is); (case c_say => k_is); (case k_say => k_is); (case a__law_cell => k_is); (case l__law_cell => k_is); (case c__law_cell => k_is); (case k__law_cell => k_is); (case a__law_number => k_is); (case l__law_number => k_is); (case c__law_number => k_is); (case k__law_number => k_is); (case a__law_names => k_is); (case l__law_names => k_is); (case c__law_names => k_is); (case k__law_names => k_is); (case a__law_hands => k_is); (case l__law_hands => k_is); (case c__law_hands => k_is); (case k__law_hands => k_is); (case a__law_rows => k_is); (case l__law_rows => k_is); (case c__law_rows => k_is); (case k__law_rows => k_is); (case a__law_house_row => k_is); (case l__law_house_row => k_is); (case c__law_house_row => k_is); (case k__law_house_row => k_is); (case a__law_condition => k_is); (case l__law_condition => k_is); (case c__law_condition => k_is); (case k__law_condition => k_is); (case a__law_condition_text => k_is); (case l__law_condition_text => k_is); (case c__law_condition_text => k_is); (case k__law_condition_text => k_is); (case a__law_condition_holds => k_is); (case l__law_condition_holds => k_is); (case c__law_condition_holds => k_is); (case k__law_condition_holds => k_is); (case a__law_clauses => k_is); (case l__law_clauses => k_is); (case c__law_clauses => k_is); (case k__law_clauses => k_is); (case a__law_rule_row => k_is); (case l__law_rule_row => k_is); (case c__law_rule_row => k_is); (case k__law_rule_row => k_is); (case a__law_dealt => k_is); (case l__law_dealt => k_is); (case c__law_dealt => k_is); (case k__law_dealt => k_is); (case a_law => k_is); (case l_law => k_is); (case c_law => k_is); (case k_law => k_is); (case a___init__ => k_is); (case fn___init__ => k_is); (case l___init__ => k_is); (case c___init__ => k_is); (case k___init__ => k_is); (case pg_ => k_is); (case hd_ => k_is); (case po_ => k_is); (case sa_ => k_is); (case nh_ => k_is); (case nt_ => k_is); (case mk_ => k_is); (case kp_ => k_is); (case a_FIRST => k_is); (case l_FIRST => k_is); (case r_FIRST => repeat (first | exact .nil | refine .cons ⟨_, rfl⟩ ?_)); (case n_bool => k_is); (case n_enumerate => k_is); (case n_int => k_is); (case n_isinstance => k_is); (case n_len => k_is); (case n_list => k_is); (case n_range => k_is); (case n_set => k_is); (case n_str => k_is); (case n_tuple => k_is); (case w_FIGURES => k_is); (case r_FIGURES => first | exact .int ⟨_, rfl⟩ | exact .str rfl | exact .str ⟨_, rfl⟩); (case w_LETTERS => k_is); (case r_LETTERS => first | exact .int ⟨_, rfl⟩ | exact .str rfl | exact .str ⟨_, rfl⟩)
