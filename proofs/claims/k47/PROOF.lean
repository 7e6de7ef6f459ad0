import PyProof.Rows.All
import HandS.ForMost
import HandS.ForExc
import HandS.Strs
import HandS.Wide
import HandS.TupAny
import HandS.IsInst
import HandS.Dict
import HandS.TupLen
import HandS.Conv
import HandS.Zip
import HandS.EndBits
import HandS.Deep
import HandS.TupLe
import HandS.WideBits
import HandS.Small
import HandS.ExcIs
import HandS.Style
import PyProof.EnumMake
import PyProof.Draws
import KE.GoesMore
import HandS.More
import KE.KEqDict
import PyProof.DictFindH
import PyProof.DictRoadsH
import HandS.Finally
import KE.GoesComp
import HandS.OwnEq
import KE.KDictKeyed
import KE.KTupTabMore
import HandS.DictTup
import PySem.Challenge.RW_trueword_k47_no_menus
set_option Elab.async false
set_option linter.all false
set_option maxRecDepth 100000
set_option autoImplicit false
-- TWBase
namespace TW
open PySem PySem.Spec PyProof.Rows L2
inductive D where
  | non | bl (b : Bool) | int (i : Int) | str (s : Str)
  | lst (l : List D) | tup (l : List D)
  | dK (ks : List Key) (vs : List D) | dT (ks : List (List Key)) (vs : List D)
  | scr (l : List Int)
  | junk
  | ftup (l : List D)
  | ins (C : Nat) (h t : D)
  | nul (es : List (Option Str × Int))
def NulObj (o : Obj) (es : List (Option Str × Int)) : Prop :=
  o.ExactDict ∧ es.length ≤ sizeLine ∧ ∃ ds ep, o.data = .dict ds ep ∧ Paired (fun (p : Option Str × Int) (e : DictEntry) => (match p.1 with | some x => ∃ t, e.key = .str x t | none => e.key = .none) ∧ ∃ t, e.val = .int p.2 t) es ds.toList
def NulAt (H : Hp) (a : Addr) (es : List (Option Str × Int)) : Prop := ∃ o, H a = some (.frz o (.ext fun _ => True)) ∧ NulObj o es ∧ (a == sysModules) = false
def ScrAt (K : PySem.W.Frag) (H : Hp) (a : Addr) (xs : List V) : Prop :=
  (∃ o, H a = some (.frz o (.lst xs))) ∨ ∃ (o : Obj) (its : Array Value) (n : Nat), K.lookup a = some o ∧ o.cls = .type "list" ∧ o.dict = none ∧ o.data = .seq its n ∧ its.size ≤ sizeLine ∧ Vals xs its.toList
theorem ScrAt.sq {K : PySem.W.Frag} {H : Hp} {a : Addr} {xs : List V} (h : ScrAt K H a xs) : SqL K H a xs := h.imp .inr id
mutual
def Dat (K : PySem.W.Frag) (H : Hp) : D → Nat → V → List Addr → List Addr → Prop
  | .non, _, v, S, R => v = .non ∧ S = [] ∧ R = []
  | .bl b, _, v, S, R => v = .bl b ∧ S = [] ∧ R = []
  | .int i, _, v, S, R => v = .int i ∧ S = [] ∧ R = []
  | .str s, _, v, S, R => v = .str s ∧ S = [] ∧ R = []
  | .scr l, _, v, S, R => (∃ a, v = .ref a ∧ ScrAt K H a (l.map V.int)) ∧ S = [] ∧ R = []
  | .junk, _, _, S, R => S = [] ∧ R = []
  | .nul es, _, v, S, R => S = [] ∧ ∃ a, v = .ref a ∧ NulAt H a es ∧ R = [a]
  | .ins C h t, n, v, S, R => match n with
    | 0 => ∃ a dx x y R1 R2, v = .ref a ∧ H a = some (.ins C dx [("house", x), ("table", y)]) ∧ H dx = some (.own a) ∧ S = [] ∧ R = a :: dx :: (R1 ++ R2) ∧ Dat K H h 0 x [] R1 ∧ Dat K H t 0 y [] R2
    | n + 1 => ∃ a dx x y S1 S2 R1 R2, v = .ref a ∧ H a = some (.ins C dx [("house", x), ("table", y)]) ∧ H dx = some (.own a) ∧ S = a :: (S1 ++ S2) ∧ R = dx :: (R1 ++ R2) ∧ Dat K H h n x S1 R1 ∧ Dat K H t n y S2 R2
  | .ftup ds, n, v, S, R => ∃ a xs, v = .ref a ∧ (∃ o : Obj, o.dict = none ∧ H a = some (.frz o (.tup xs))) ∧ Dats K H ds (n - 1) xs S R
  | .lst ds, n, v, S, R => match n with
    | 0 => ∃ a xs R', v = .ref a ∧ H a = some (.lst xs) ∧ S = [] ∧ R = a :: R' ∧ Dats K H ds 0 xs [] R'
    | n + 1 => ∃ a xs S', v = .ref a ∧ H a = some (.lst xs) ∧ S = a :: S' ∧ Dats K H ds n xs S' R
  | .tup ds, n, v, S, R => ∃ a xs, v = .ref a ∧ H a = some (.tup xs) ∧ Dats K H ds (n - 1) xs S R
  | .dK ks ds, n, v, S, R => match n with
    | 0 => ∃ a ws R', v = .ref a ∧ Rd H a (.dK ws) ∧ ws.map (·.1) = ks ∧ S = [] ∧ R = a :: R' ∧ Dats K H ds 0 (ws.map (·.2)) [] R'
    | n + 1 => ∃ a ws S', v = .ref a ∧ H a = some (.dK ws) ∧ ws.map (·.1) = ks ∧ S = a :: S' ∧ Dats K H ds n (ws.map (·.2)) S' R
  | .dT ks ds, n, v, S, R => match n with
    | 0 => ∃ a ws R', v = .ref a ∧ Rd H a (.dT ws) ∧ ws.map (·.1) = ks ∧ S = [] ∧ R = a :: R' ∧ Dats K H ds 0 (ws.map (·.2)) [] R'
    | n + 1 => ∃ a ws S', v = .ref a ∧ H a = some (.dT ws) ∧ ws.map (·.1) = ks ∧ S = a :: S' ∧ Dats K H ds n (ws.map (·.2)) S' R
def Dats (K : PySem.W.Frag) (H : Hp) : List D → Nat → List V → List Addr → List Addr → Prop
  | [], _, xs, S, R => xs = [] ∧ S = [] ∧ R = []
  | d :: ds, n, xs, S, R => ∃ x xs' S1 S2 R1 R2, xs = x :: xs' ∧ S = S1 ++ S2 ∧ R = R1 ++ R2 ∧ Dat K H d n x S1 R1 ∧ Dats K H ds n xs' S2 R2
end
structure Stay (H H' : Hp) (S R : List Addr) : Prop where
  tup : ∀ b xs, H b = some (.tup xs) → H' b = some (.tup xs)
  frz : ∀ b o xs, H b = some (.frz o (.tup xs)) → H' b = some (.frz o (.tup xs))
  scr : ∀ b o xs, H b = some (.frz o (.lst xs)) → H' b = some (.frz o (.lst xs))
  own : ∀ b ∈ S, ∀ o, H b = some o → H' b = some o
  res : ∀ b ∈ R, ∀ o, H b = some o → H' b = some o

section
variable {K : PySem.W.Frag} {H H' : Hp}
theorem Stay.mono {S R S' R' : List Addr} (h : Stay H H' S R) (hs : ∀ b ∈ S', b ∈ S) (hr : ∀ b ∈ R', b ∈ R) : Stay H H' S' R' :=
  ⟨h.tup, h.frz, h.scr, fun b hb => h.own b (hs b hb), fun b hb => h.res b (hr b hb)⟩
theorem Stay.rd {S R : List Addr} (h : Stay H H' S R) {a : Addr} {u : HO} (ha : a ∈ R) (q : Rd H a u) : Rd H' a u := by
  rcases q with q | ⟨o, q⟩
  · exact .inl (h.res _ ha _ q)
  · exact .inr ⟨o, h.res _ ha _ q⟩
theorem Stay.of_same (h : Same H H') (S R : List Addr) : Stay H H' S R :=
  ⟨fun b xs q => h _ _ q, fun b o xs q => h _ _ q, fun b o xs q => h _ _ q, fun b _ o q => h _ _ q, fun b _ o q => h _ _ q⟩

mutual
theorem Dat.stay : ∀ (d : D) (n : Nat) (v : V) (S R : List Addr), Stay H H' S R → Dat K H d n v S R → Dat K H' d n v S R
  | .non, _, _, _, _, _, h => by simpa [Dat] using h
  | .bl b, _, _, _, _, _, h => by simpa [Dat] using h
  | .int i, _, _, _, _, _, h => by simpa [Dat] using h
  | .str s, _, _, _, _, _, h => by simpa [Dat] using h
  | .junk, _, _, _, _, _, h => by simpa [Dat] using h
  | .nul es, _, _, _, _, st, h => by
    simp only [Dat] at h ⊢
    obtain ⟨rfl, a, rfl, ⟨o, q, g⟩, rfl⟩ := h
    exact ⟨rfl, a, rfl, ⟨o, st.res _ List.mem_cons_self _ q, g⟩, rfl⟩
  | .ins C h t, 0, v, S, R, st, e => by
    simp only [Dat] at e ⊢
    obtain ⟨a, dx, x, y, R1, R2, rfl, q, qd, rfl, rfl, h1, h2⟩ := e
    exact ⟨a, dx, x, y, R1, R2, rfl, st.res _ List.mem_cons_self _ q, st.res _ (List.mem_cons_of_mem _ List.mem_cons_self) _ qd, rfl, rfl,
      Dat.stay h 0 x [] R1 (st.mono (fun _ z => z) fun b z => List.mem_cons_of_mem _ (List.mem_cons_of_mem _ (List.mem_append_left _ z))) h1,
      Dat.stay t 0 y [] R2 (st.mono (fun _ z => z) fun b z => List.mem_cons_of_mem _ (List.mem_cons_of_mem _ (List.mem_append_right _ z))) h2⟩
  | .ins C h t, n + 1, v, S, R, st, e => by
    simp only [Dat] at e ⊢
    obtain ⟨a, dx, x, y, S1, S2, R1, R2, rfl, q, qd, rfl, rfl, h1, h2⟩ := e
    exact ⟨a, dx, x, y, S1, S2, R1, R2, rfl, st.own _ List.mem_cons_self _ q, st.res _ List.mem_cons_self _ qd, rfl, rfl,
      Dat.stay h n x S1 R1 (st.mono (fun b z => List.mem_cons_of_mem _ (List.mem_append_left _ z)) fun b z => List.mem_cons_of_mem _ (List.mem_append_left _ z)) h1,
      Dat.stay t n y S2 R2 (st.mono (fun b z => List.mem_cons_of_mem _ (List.mem_append_right _ z)) fun b z => List.mem_cons_of_mem _ (List.mem_append_right _ z)) h2⟩
  | .scr l, _, _, _, _, st, h => by
    simp only [Dat] at h ⊢
    obtain ⟨⟨a, e, q⟩, h⟩ := h
    exact ⟨⟨a, e, q.imp (fun ⟨o, q⟩ => ⟨o, st.scr _ _ _ q⟩) id⟩, h⟩
  | .lst ds, 0, v, S, R, st, h => by
    simp only [Dat] at h ⊢
    obtain ⟨a, xs, R', rfl, q, rfl, rfl, hd⟩ := h
    exact ⟨a, xs, R', rfl, st.res _ List.mem_cons_self _ q, rfl, rfl, Dats.stay ds 0 xs [] R' (st.mono (fun _ z => z) fun b z => List.mem_cons_of_mem _ z) hd⟩
  | .lst ds, n + 1, v, S, R, st, h => by
    simp only [Dat] at h ⊢
    obtain ⟨a, xs, S', rfl, q, rfl, hd⟩ := h
    exact ⟨a, xs, S', rfl, st.own _ List.mem_cons_self _ q, rfl, Dats.stay ds n xs S' R (st.mono (fun b z => List.mem_cons_of_mem _ z) fun _ z => z) hd⟩
  | .tup ds, n, v, S, R, st, h => by
    simp only [Dat] at h ⊢
    obtain ⟨a, xs, rfl, q, hd⟩ := h
    exact ⟨a, xs, rfl, st.tup _ _ q, Dats.stay ds (n - 1) xs S R st hd⟩
  | .ftup ds, n, v, S, R, st, h => by
    simp only [Dat] at h ⊢
    obtain ⟨a, xs, rfl, q, hd⟩ := h
    exact ⟨a, xs, rfl, q.imp fun o q => ⟨q.1, st.frz _ _ _ q.2⟩, Dats.stay ds (n - 1) xs S R st hd⟩
  | .dK ks ds, 0, v, S, R, st, h => by
    simp only [Dat] at h ⊢
    obtain ⟨a, ws, R', rfl, q, hk, rfl, rfl, hd⟩ := h
    exact ⟨a, ws, R', rfl, st.rd List.mem_cons_self q, hk, rfl, rfl, Dats.stay ds 0 _ [] R' (st.mono (fun _ z => z) fun b z => List.mem_cons_of_mem _ z) hd⟩
  | .dK ks ds, n + 1, v, S, R, st, h => by
    simp only [Dat] at h ⊢
    obtain ⟨a, ws, S', rfl, q, hk, rfl, hd⟩ := h
    exact ⟨a, ws, S', rfl, st.own _ List.mem_cons_self _ q, hk, rfl, Dats.stay ds n _ S' R (st.mono (fun b z => List.mem_cons_of_mem _ z) fun _ z => z) hd⟩
  | .dT ks ds, 0, v, S, R, st, h => by
    simp only [Dat] at h ⊢
    obtain ⟨a, ws, R', rfl, q, hk, rfl, rfl, hd⟩ := h
    exact ⟨a, ws, R', rfl, st.rd List.mem_cons_self q, hk, rfl, rfl, Dats.stay ds 0 _ [] R' (st.mono (fun _ z => z) fun b z => List.mem_cons_of_mem _ z) hd⟩
  | .dT ks ds, n + 1, v, S, R, st, h => by
    simp only [Dat] at h ⊢
    obtain ⟨a, ws, S', rfl, q, hk, rfl, hd⟩ := h
    exact ⟨a, ws, S', rfl, st.own _ List.mem_cons_self _ q, hk, rfl, Dats.stay ds n _ S' R (st.mono (fun b z => List.mem_cons_of_mem _ z) fun _ z => z) hd⟩
theorem Dats.stay : ∀ (ds : List D) (n : Nat) (xs : List V) (S R : List Addr), Stay H H' S R → Dats K H ds n xs S R → Dats K H' ds n xs S R
  | [], _, _, _, _, _, h => by simpa [Dats] using h
  | d :: ds, n, xs, S, R, st, h => by
    simp only [Dats] at h ⊢
    obtain ⟨x, xs', S1, S2, R1, R2, rfl, rfl, rfl, h1, h2⟩ := h
    exact ⟨x, xs', S1, S2, R1, R2, rfl, rfl, rfl,
      Dat.stay d n x S1 R1 (st.mono (fun b z => List.mem_append_left _ z) fun b z => List.mem_append_left _ z) h1,
      Dats.stay ds n xs' S2 R2 (st.mono (fun b z => List.mem_append_right _ z) fun b z => List.mem_append_right _ z) h2⟩
end
theorem Dat.same {d : D} {n : Nat} {v : V} {S R : List Addr} (h : Dat K H d n v S R) (s : Same H H') : Dat K H' d n v S R := Dat.stay d n v S R (.of_same s S R) h
theorem Dats.same {ds : List D} {n : Nat} {xs : List V} {S R : List Addr} (h : Dats K H ds n xs S R) (s : Same H H') : Dats K H' ds n xs S R := Dats.stay ds n xs S R (.of_same s S R) h

mutual
theorem Dat.weak : ∀ (d : D) (n k : Nat) (v : V) (S R : List Addr), k ≤ n → Dat K H d n v S R →
    ∃ S' R', Dat K H d k v S' R' ∧ S'.Sublist S ∧ (∀ a ∈ R', a ∈ S ∨ a ∈ R)
  | .non, _, _, _, S, R, _, h => by
    simp only [Dat] at h ⊢
    obtain ⟨rfl, rfl, rfl⟩ := h
    exact ⟨[], [], ⟨rfl, rfl, rfl⟩, .slnil, fun _ z => .inr z⟩
  | .bl b, _, _, _, S, R, _, h => by
    simp only [Dat] at h ⊢
    obtain ⟨rfl, rfl, rfl⟩ := h
    exact ⟨[], [], ⟨rfl, rfl, rfl⟩, .slnil, fun _ z => .inr z⟩
  | .int i, _, _, _, S, R, _, h => by
    simp only [Dat] at h ⊢
    obtain ⟨rfl, rfl, rfl⟩ := h
    exact ⟨[], [], ⟨rfl, rfl, rfl⟩, .slnil, fun _ z => .inr z⟩
  | .str s, _, _, _, S, R, _, h => by
    simp only [Dat] at h ⊢
    obtain ⟨rfl, rfl, rfl⟩ := h
    exact ⟨[], [], ⟨rfl, rfl, rfl⟩, .slnil, fun _ z => .inr z⟩
  | .junk, _, _, _, S, R, _, h => by
    simp only [Dat] at h ⊢
    obtain ⟨rfl, rfl⟩ := h
    exact ⟨[], [], ⟨rfl, rfl⟩, .slnil, fun _ z => .inr z⟩
  | .nul es, _, _, _, S, R, _, h => by
    simp only [Dat] at h ⊢
    obtain ⟨rfl, h⟩ := h
    exact ⟨[], R, ⟨rfl, h⟩, .slnil, fun _ z => .inr z⟩
  | .ins C h t, 0, k, v, S, R, hk, e => by
    obtain rfl : k = 0 := by omega
    exact ⟨S, R, e, .refl _, fun _ z => .inr z⟩
  | .ins C h t, n + 1, 0, v, S, R, hk, e => by
    simp only [Dat] at e ⊢
    obtain ⟨a, dx, x, y, S1, S2, R1, R2, rfl, q, qd, rfl, rfl, h1, h2⟩ := e
    obtain ⟨S1', R1', g1, s1, r1⟩ := Dat.weak h n 0 x S1 R1 (Nat.zero_le _) h1
    obtain ⟨S2', R2', g2, s2, r2⟩ := Dat.weak t n 0 y S2 R2 (Nat.zero_le _) h2
    obtain rfl : S1' = [] := Dat.noS g1
    obtain rfl : S2' = [] := Dat.noS g2
    refine ⟨[], a :: dx :: (R1' ++ R2'), ⟨a, dx, x, y, R1', R2', rfl, q, qd, rfl, rfl, g1, g2⟩, List.nil_sublist _, fun b z => ?_⟩
    rcases List.mem_cons.mp z with rfl | z
    · exact .inl List.mem_cons_self
    rcases List.mem_cons.mp z with rfl | z
    · exact .inr List.mem_cons_self
    · rcases List.mem_append.mp z with z | z
      · exact (r1 b z).imp (fun z => List.mem_cons_of_mem _ (List.mem_append_left _ z)) fun z => List.mem_cons_of_mem _ (List.mem_append_left _ z)
      · exact (r2 b z).imp (fun z => List.mem_cons_of_mem _ (List.mem_append_right _ z)) fun z => List.mem_cons_of_mem _ (List.mem_append_right _ z)
  | .ins C h t, n + 1, k + 1, v, S, R, hk, e => by
    simp only [Dat] at e ⊢
    obtain ⟨a, dx, x, y, S1, S2, R1, R2, rfl, q, qd, rfl, rfl, h1, h2⟩ := e
    obtain ⟨S1', R1', g1, s1, r1⟩ := Dat.weak h n k x S1 R1 (by omega) h1
    obtain ⟨S2', R2', g2, s2, r2⟩ := Dat.weak t n k y S2 R2 (by omega) h2
    refine ⟨a :: (S1' ++ S2'), dx :: (R1' ++ R2'), ⟨a, dx, x, y, S1', S2', R1', R2', rfl, q, qd, rfl, rfl, g1, g2⟩, (s1.append s2).cons₂ a, fun b z => ?_⟩
    rcases List.mem_cons.mp z with rfl | z
    · exact .inr List.mem_cons_self
    · rcases List.mem_append.mp z with z | z
      · exact (r1 b z).imp (fun z => List.mem_cons_of_mem _ (List.mem_append_left _ z)) fun z => List.mem_cons_of_mem _ (List.mem_append_left _ z)
      · exact (r2 b z).imp (fun z => List.mem_cons_of_mem _ (List.mem_append_right _ z)) fun z => List.mem_cons_of_mem _ (List.mem_append_right _ z)
  | .scr l, _, _, _, S, R, _, h => by
    simp only [Dat] at h ⊢
    obtain ⟨e, rfl, rfl⟩ := h
    exact ⟨[], [], ⟨e, rfl, rfl⟩, .slnil, fun _ z => .inr z⟩
  | .lst ds, 0, k, v, S, R, hk, h => by
    obtain rfl : k = 0 := by omega
    exact ⟨S, R, h, .refl _, fun _ z => .inr z⟩
  | .lst ds, n + 1, 0, v, S, R, hk, h => by
    simp only [Dat] at h ⊢
    obtain ⟨a, xs, S', rfl, q, rfl, hd⟩ := h
    obtain ⟨S1, R1, h1, s1, r1⟩ := Dats.weak ds n 0 xs S' R (Nat.zero_le _) hd
    obtain rfl : S1 = [] := Dats.noS h1
    exact ⟨[], a :: R1, ⟨a, xs, R1, rfl, q, rfl, rfl, h1⟩, List.nil_sublist _, fun b z => by
      rcases List.mem_cons.mp z with rfl | z
      · exact .inl List.mem_cons_self
      · exact (r1 b z).imp (List.mem_cons_of_mem _) id⟩
  | .lst ds, n + 1, k + 1, v, S, R, hk, h => by
    simp only [Dat] at h ⊢
    obtain ⟨a, xs, S', rfl, q, rfl, hd⟩ := h
    obtain ⟨S1, R1, h1, s1, r1⟩ := Dats.weak ds n k xs S' R (by omega) hd
    exact ⟨a :: S1, R1, ⟨a, xs, S1, rfl, q, rfl, h1⟩, s1.cons₂ a, fun b z => (r1 b z).imp (List.mem_cons_of_mem _) id⟩
  | .tup ds, n, k, v, S, R, hk, h => by
    simp only [Dat] at h ⊢
    obtain ⟨a, xs, rfl, q, hd⟩ := h
    obtain ⟨S1, R1, h1, s1, r1⟩ := Dats.weak ds (n - 1) (k - 1) xs S R (by omega) hd
    exact ⟨S1, R1, ⟨a, xs, rfl, q, h1⟩, s1, r1⟩
  | .ftup ds, n, k, v, S, R, hk, h => by
    simp only [Dat] at h ⊢
    obtain ⟨a, xs, rfl, q, hd⟩ := h
    obtain ⟨S1, R1, h1, s1, r1⟩ := Dats.weak ds (n - 1) (k - 1) xs S R (by omega) hd
    exact ⟨S1, R1, ⟨a, xs, rfl, q, h1⟩, s1, r1⟩
  | .dK ks ds, 0, k, v, S, R, hk, h => by
    obtain rfl : k = 0 := by omega
    exact ⟨S, R, h, .refl _, fun _ z => .inr z⟩
  | .dK ks ds, n + 1, 0, v, S, R, hk, h => by
    simp only [Dat] at h ⊢
    obtain ⟨a, xs, S', rfl, q, hks, rfl, hd⟩ := h
    obtain ⟨S1, R1, h1, s1, r1⟩ := Dats.weak ds n 0 _ S' R (Nat.zero_le _) hd
    obtain rfl : S1 = [] := Dats.noS h1
    exact ⟨[], a :: R1, ⟨a, xs, R1, rfl, .of q, hks, rfl, rfl, h1⟩, List.nil_sublist _, fun b z => by
      rcases List.mem_cons.mp z with rfl | z
      · exact .inl List.mem_cons_self
      · exact (r1 b z).imp (List.mem_cons_of_mem _) id⟩
  | .dK ks ds, n + 1, k + 1, v, S, R, hk, h => by
    simp only [Dat] at h ⊢
    obtain ⟨a, xs, S', rfl, q, hks, rfl, hd⟩ := h
    obtain ⟨S1, R1, h1, s1, r1⟩ := Dats.weak ds n k _ S' R (by omega) hd
    exact ⟨a :: S1, R1, ⟨a, xs, S1, rfl, q, hks, rfl, h1⟩, s1.cons₂ a, fun b z => (r1 b z).imp (List.mem_cons_of_mem _) id⟩
  | .dT ks ds, 0, k, v, S, R, hk, h => by
    obtain rfl : k = 0 := by omega
    exact ⟨S, R, h, .refl _, fun _ z => .inr z⟩
  | .dT ks ds, n + 1, 0, v, S, R, hk, h => by
    simp only [Dat] at h ⊢
    obtain ⟨a, xs, S', rfl, q, hks, rfl, hd⟩ := h
    obtain ⟨S1, R1, h1, s1, r1⟩ := Dats.weak ds n 0 _ S' R (Nat.zero_le _) hd
    obtain rfl : S1 = [] := Dats.noS h1
    exact ⟨[], a :: R1, ⟨a, xs, R1, rfl, .of q, hks, rfl, rfl, h1⟩, List.nil_sublist _, fun b z => by
      rcases List.mem_cons.mp z with rfl | z
      · exact .inl List.mem_cons_self
      · exact (r1 b z).imp (List.mem_cons_of_mem _) id⟩
  | .dT ks ds, n + 1, k + 1, v, S, R, hk, h => by
    simp only [Dat] at h ⊢
    obtain ⟨a, xs, S', rfl, q, hks, rfl, hd⟩ := h
    obtain ⟨S1, R1, h1, s1, r1⟩ := Dats.weak ds n k _ S' R (by omega) hd
    exact ⟨a :: S1, R1, ⟨a, xs, S1, rfl, q, hks, rfl, h1⟩, s1.cons₂ a, fun b z => (r1 b z).imp (List.mem_cons_of_mem _) id⟩
theorem Dats.weak : ∀ (ds : List D) (n k : Nat) (xs : List V) (S R : List Addr), k ≤ n → Dats K H ds n xs S R →
    ∃ S' R', Dats K H ds k xs S' R' ∧ S'.Sublist S ∧ (∀ a ∈ R', a ∈ S ∨ a ∈ R)
  | [], _, _, _, S, R, _, h => by
    simp only [Dats] at h ⊢
    obtain ⟨rfl, rfl, rfl⟩ := h
    exact ⟨[], [], ⟨rfl, rfl, rfl⟩, .slnil, fun _ z => .inr z⟩
  | d :: ds, n, k, xs, S, R, hk, h => by
    simp only [Dats] at h ⊢
    obtain ⟨x, xs', S1, S2, R1, R2, rfl, rfl, rfl, h1, h2⟩ := h
    obtain ⟨S1', R1', g1, s1, r1⟩ := Dat.weak d n k x S1 R1 hk h1
    obtain ⟨S2', R2', g2, s2, r2⟩ := Dats.weak ds n k xs' S2 R2 hk h2
    refine ⟨S1' ++ S2', R1' ++ R2', ⟨x, xs', S1', S2', R1', R2', rfl, rfl, rfl, g1, g2⟩, s1.append s2, fun a z => ?_⟩
    rcases List.mem_append.mp z with z | z
    · exact (r1 a z).imp (List.mem_append_left _) (List.mem_append_left _)
    · exact (r2 a z).imp (List.mem_append_right _) (List.mem_append_right _)
theorem Dat.noS : ∀ {d : D} {v : V} {S R : List Addr}, Dat K H d 0 v S R → S = []
  | .non, _, _, _, h => by simp only [Dat] at h; exact h.2.1
  | .bl _, _, _, _, h => by simp only [Dat] at h; exact h.2.1
  | .int _, _, _, _, h => by simp only [Dat] at h; exact h.2.1
  | .str _, _, _, _, h => by simp only [Dat] at h; exact h.2.1
  | .junk, _, _, _, h => by simp only [Dat] at h; exact h.1
  | .nul _, _, _, _, h => by simp only [Dat] at h; exact h.1
  | .ins _ _ _, _, _, _, h => by simp only [Dat] at h; obtain ⟨_, _, _, _, _, _, _, _, _, z, _⟩ := h; exact z
  | .scr _, _, _, _, h => by simp only [Dat] at h; exact h.2.1
  | .lst ds, _, _, _, h => by simp only [Dat] at h; obtain ⟨_, _, _, _, _, z, _⟩ := h; exact z
  | .tup ds, _, _, _, h => by simp only [Dat] at h; obtain ⟨_, _, _, _, z⟩ := h; exact Dats.noS z
  | .ftup ds, _, _, _, h => by simp only [Dat] at h; obtain ⟨_, _, _, _, z⟩ := h; exact Dats.noS z
  | .dK _ ds, _, _, _, h => by simp only [Dat] at h; obtain ⟨_, _, _, _, _, _, z, _⟩ := h; exact z
  | .dT _ ds, _, _, _, h => by simp only [Dat] at h; obtain ⟨_, _, _, _, _, _, z, _⟩ := h; exact z
theorem Dats.noS : ∀ {ds : List D} {xs : List V} {S R : List Addr}, Dats K H ds 0 xs S R → S = []
  | [], _, _, _, h => by simp only [Dats] at h; exact h.2.1
  | d :: ds, _, _, _, h => by
    simp only [Dats] at h
    obtain ⟨x, xs', S1, S2, R1, R2, rfl, rfl, rfl, h1, h2⟩ := h
    rw [Dat.noS h1, Dats.noS h2]; rfl
end

mutual
theorem Dat.weakP : ∀ (d : D) (n k : Nat) (v : V) (S R : List Addr), k ≤ n → Dat K H d n v S R →
    ∃ S' R' Ex, Dat K H d k v S' R' ∧ (S' ++ Ex).Perm S ∧ (∀ a ∈ R', a ∈ Ex ∨ a ∈ R)
  | .non, _, _, _, S, R, _, h => by
    simp only [Dat] at h ⊢
    obtain ⟨rfl, rfl, rfl⟩ := h
    exact ⟨[], [], [], ⟨rfl, rfl, rfl⟩, .refl _, fun _ z => .inr z⟩
  | .bl b, _, _, _, S, R, _, h => by
    simp only [Dat] at h ⊢
    obtain ⟨rfl, rfl, rfl⟩ := h
    exact ⟨[], [], [], ⟨rfl, rfl, rfl⟩, .refl _, fun _ z => .inr z⟩
  | .int i, _, _, _, S, R, _, h => by
    simp only [Dat] at h ⊢
    obtain ⟨rfl, rfl, rfl⟩ := h
    exact ⟨[], [], [], ⟨rfl, rfl, rfl⟩, .refl _, fun _ z => .inr z⟩
  | .str s, _, _, _, S, R, _, h => by
    simp only [Dat] at h ⊢
    obtain ⟨rfl, rfl, rfl⟩ := h
    exact ⟨[], [], [], ⟨rfl, rfl, rfl⟩, .refl _, fun _ z => .inr z⟩
  | .junk, _, _, _, S, R, _, h => by
    simp only [Dat] at h ⊢
    obtain ⟨rfl, rfl⟩ := h
    exact ⟨[], [], [], ⟨rfl, rfl⟩, .refl _, fun _ z => .inr z⟩
  | .nul es, _, _, _, S, R, _, h => by
    simp only [Dat] at h ⊢
    obtain ⟨rfl, h⟩ := h
    exact ⟨[], R, [], ⟨rfl, h⟩, .refl _, fun _ z => .inr z⟩
  | .ins C h t, 0, k, v, S, R, hk, e => by
    obtain rfl : k = 0 := by omega
    exact ⟨S, R, [], e, by simp, fun _ z => .inr z⟩
  | .ins C h t, n + 1, 0, v, S, R, hk, e => by
    simp only [Dat] at e ⊢
    obtain ⟨a, dx, x, y, S1, S2, R1, R2, rfl, q, qd, rfl, rfl, h1, h2⟩ := e
    obtain ⟨S1', R1', E1, g1, s1, r1⟩ := Dat.weakP h n 0 x S1 R1 (Nat.zero_le _) h1
    obtain ⟨S2', R2', E2, g2, s2, r2⟩ := Dat.weakP t n 0 y S2 R2 (Nat.zero_le _) h2
    obtain rfl : S1' = [] := Dat.noS g1
    obtain rfl : S2' = [] := Dat.noS g2
    refine ⟨[], a :: dx :: (R1' ++ R2'), a :: (E1 ++ E2), ⟨a, dx, x, y, R1', R2', rfl, q, qd, rfl, rfl, g1, g2⟩, ?_, fun b z => ?_⟩
    · exact List.Perm.cons a (s1.append s2)
    rcases List.mem_cons.mp z with rfl | z
    · exact .inl List.mem_cons_self
    rcases List.mem_cons.mp z with rfl | z
    · exact .inr List.mem_cons_self
    · rcases List.mem_append.mp z with z | z
      · exact (r1 b z).imp (fun z => List.mem_cons_of_mem _ (List.mem_append_left _ z)) fun z => List.mem_cons_of_mem _ (List.mem_append_left _ z)
      · exact (r2 b z).imp (fun z => List.mem_cons_of_mem _ (List.mem_append_right _ z)) fun z => List.mem_cons_of_mem _ (List.mem_append_right _ z)
  | .ins C h t, n + 1, k + 1, v, S, R, hk, e => by
    simp only [Dat] at e ⊢
    obtain ⟨a, dx, x, y, S1, S2, R1, R2, rfl, q, qd, rfl, rfl, h1, h2⟩ := e
    obtain ⟨S1', R1', E1, g1, s1, r1⟩ := Dat.weakP h n k x S1 R1 (by omega) h1
    obtain ⟨S2', R2', E2, g2, s2, r2⟩ := Dat.weakP t n k y S2 R2 (by omega) h2
    refine ⟨a :: (S1' ++ S2'), dx :: (R1' ++ R2'), E1 ++ E2, ⟨a, dx, x, y, S1', S2', R1', R2', rfl, q, qd, rfl, rfl, g1, g2⟩, ?_, fun b z => ?_⟩
    · have e1 : ((S1' ++ S2') ++ (E1 ++ E2)).Perm ((S1' ++ E1) ++ (S2' ++ E2)) := by
        simp only [List.append_assoc]
        refine List.Perm.append_left _ ?_
        rw [← List.append_assoc, ← List.append_assoc]
        exact List.Perm.append_right _ List.perm_append_comm
      exact List.Perm.cons a (e1.trans (s1.append s2))
    rcases List.mem_cons.mp z with rfl | z
    · exact .inr List.mem_cons_self
    · rcases List.mem_append.mp z with z | z
      · exact (r1 b z).imp (List.mem_append_left _) fun z => List.mem_cons_of_mem _ (List.mem_append_left _ z)
      · exact (r2 b z).imp (List.mem_append_right _) fun z => List.mem_cons_of_mem _ (List.mem_append_right _ z)
  | .scr l, _, _, _, S, R, _, h => by
    simp only [Dat] at h ⊢
    obtain ⟨e, rfl, rfl⟩ := h
    exact ⟨[], [], [], ⟨e, rfl, rfl⟩, .refl _, fun _ z => .inr z⟩
  | .lst ds, 0, k, v, S, R, hk, h => by
    obtain rfl : k = 0 := by omega
    exact ⟨S, R, [], h, by simp, fun _ z => .inr z⟩
  | .lst ds, n + 1, 0, v, S, R, hk, h => by
    simp only [Dat] at h ⊢
    obtain ⟨a, xs, S', rfl, q, rfl, hd⟩ := h
    obtain ⟨S1, R1, E1, h1, s1, r1⟩ := Dats.weakP ds n 0 xs S' R (Nat.zero_le _) hd
    obtain rfl : S1 = [] := Dats.noS h1
    exact ⟨[], a :: R1, a :: E1, ⟨a, xs, R1, rfl, q, rfl, rfl, h1⟩, s1.cons a, fun b z => by
      rcases List.mem_cons.mp z with rfl | z
      · exact .inl List.mem_cons_self
      · exact (r1 b z).imp (List.mem_cons_of_mem _) id⟩
  | .lst ds, n + 1, k + 1, v, S, R, hk, h => by
    simp only [Dat] at h ⊢
    obtain ⟨a, xs, S', rfl, q, rfl, hd⟩ := h
    obtain ⟨S1, R1, E1, h1, s1, r1⟩ := Dats.weakP ds n k xs S' R (by omega) hd
    exact ⟨a :: S1, R1, E1, ⟨a, xs, S1, rfl, q, rfl, h1⟩, s1.cons a, r1⟩
  | .tup ds, n, k, v, S, R, hk, h => by
    simp only [Dat] at h ⊢
    obtain ⟨a, xs, rfl, q, hd⟩ := h
    obtain ⟨S1, R1, E1, h1, s1, r1⟩ := Dats.weakP ds (n - 1) (k - 1) xs S R (by omega) hd
    exact ⟨S1, R1, E1, ⟨a, xs, rfl, q, h1⟩, s1, r1⟩
  | .ftup ds, n, k, v, S, R, hk, h => by
    simp only [Dat] at h ⊢
    obtain ⟨a, xs, rfl, q, hd⟩ := h
    obtain ⟨S1, R1, E1, h1, s1, r1⟩ := Dats.weakP ds (n - 1) (k - 1) xs S R (by omega) hd
    exact ⟨S1, R1, E1, ⟨a, xs, rfl, q, h1⟩, s1, r1⟩
  | .dK ks ds, 0, k, v, S, R, hk, h => by
    obtain rfl : k = 0 := by omega
    exact ⟨S, R, [], h, by simp, fun _ z => .inr z⟩
  | .dK ks ds, n + 1, 0, v, S, R, hk, h => by
    simp only [Dat] at h ⊢
    obtain ⟨a, xs, S', rfl, q, hks, rfl, hd⟩ := h
    obtain ⟨S1, R1, E1, h1, s1, r1⟩ := Dats.weakP ds n 0 _ S' R (Nat.zero_le _) hd
    obtain rfl : S1 = [] := Dats.noS h1
    exact ⟨[], a :: R1, a :: E1, ⟨a, xs, R1, rfl, .of q, hks, rfl, rfl, h1⟩, s1.cons a, fun b z => by
      rcases List.mem_cons.mp z with rfl | z
      · exact .inl List.mem_cons_self
      · exact (r1 b z).imp (List.mem_cons_of_mem _) id⟩
  | .dK ks ds, n + 1, k + 1, v, S, R, hk, h => by
    simp only [Dat] at h ⊢
    obtain ⟨a, xs, S', rfl, q, hks, rfl, hd⟩ := h
    obtain ⟨S1, R1, E1, h1, s1, r1⟩ := Dats.weakP ds n k _ S' R (by omega) hd
    exact ⟨a :: S1, R1, E1, ⟨a, xs, S1, rfl, q, hks, rfl, h1⟩, s1.cons a, r1⟩
  | .dT ks ds, 0, k, v, S, R, hk, h => by
    obtain rfl : k = 0 := by omega
    exact ⟨S, R, [], h, by simp, fun _ z => .inr z⟩
  | .dT ks ds, n + 1, 0, v, S, R, hk, h => by
    simp only [Dat] at h ⊢
    obtain ⟨a, xs, S', rfl, q, hks, rfl, hd⟩ := h
    obtain ⟨S1, R1, E1, h1, s1, r1⟩ := Dats.weakP ds n 0 _ S' R (Nat.zero_le _) hd
    obtain rfl : S1 = [] := Dats.noS h1
    exact ⟨[], a :: R1, a :: E1, ⟨a, xs, R1, rfl, .of q, hks, rfl, rfl, h1⟩, s1.cons a, fun b z => by
      rcases List.mem_cons.mp z with rfl | z
      · exact .inl List.mem_cons_self
      · exact (r1 b z).imp (List.mem_cons_of_mem _) id⟩
  | .dT ks ds, n + 1, k + 1, v, S, R, hk, h => by
    simp only [Dat] at h ⊢
    obtain ⟨a, xs, S', rfl, q, hks, rfl, hd⟩ := h
    obtain ⟨S1, R1, E1, h1, s1, r1⟩ := Dats.weakP ds n k _ S' R (by omega) hd
    exact ⟨a :: S1, R1, E1, ⟨a, xs, S1, rfl, q, hks, rfl, h1⟩, s1.cons a, r1⟩
theorem Dats.weakP : ∀ (ds : List D) (n k : Nat) (xs : List V) (S R : List Addr), k ≤ n → Dats K H ds n xs S R →
    ∃ S' R' Ex, Dats K H ds k xs S' R' ∧ (S' ++ Ex).Perm S ∧ (∀ a ∈ R', a ∈ Ex ∨ a ∈ R)
  | [], _, _, _, S, R, _, h => by
    simp only [Dats] at h ⊢
    obtain ⟨rfl, rfl, rfl⟩ := h
    exact ⟨[], [], [], ⟨rfl, rfl, rfl⟩, .refl _, fun _ z => .inr z⟩
  | d :: ds, n, k, xs, S, R, hk, h => by
    simp only [Dats] at h ⊢
    obtain ⟨x, xs', S1, S2, R1, R2, rfl, rfl, rfl, h1, h2⟩ := h
    obtain ⟨S1', R1', E1, g1, s1, r1⟩ := Dat.weakP d n k x S1 R1 hk h1
    obtain ⟨S2', R2', E2, g2, s2, r2⟩ := Dats.weakP ds n k xs' S2 R2 hk h2
    refine ⟨S1' ++ S2', R1' ++ R2', E1 ++ E2, ⟨x, xs', S1', S2', R1', R2', rfl, rfl, rfl, g1, g2⟩, ?_, fun a z => ?_⟩
    · refine List.Perm.trans ?_ (s1.append s2)
      simp only [List.append_assoc]
      refine List.Perm.append_left _ ?_
      rw [← List.append_assoc, ← List.append_assoc]
      exact List.Perm.append_right _ List.perm_append_comm
    rcases List.mem_append.mp z with z | z
    · exact (r1 a z).imp (List.mem_append_left _) (List.mem_append_left _)
    · exact (r2 a z).imp (List.mem_append_right _) (List.mem_append_right _)
end
theorem Dat.weakS {d : D} {n k : Nat} {v : V} {S R : List Addr} (hk : k ≤ n) (h : Dat K H d n v S R) :
    ∃ S' R', Dat K H d k v S' R' ∧ (S.Nodup → S'.Nodup) ∧ (∀ a ∈ S', a ∈ S) ∧ (∀ a ∈ R', a ∈ S ∨ a ∈ R) ∧ (S.Nodup → (∀ a ∈ S, a ∉ R) → ∀ a ∈ S', a ∉ R') := by
  obtain ⟨S', R', Ex, g, p, r⟩ := Dat.weakP d n k v S R hk h
  have sub : ∀ a ∈ S', a ∈ S := fun a ha => p.subset (List.mem_append_left _ ha)
  refine ⟨S', R', g, fun nd => (List.nodup_append.mp (p.nodup_iff.mpr nd)).1, sub, fun a ha => ?_, fun nd hR a ha hr => ?_⟩
  · rcases r a ha with z | z
    · exact .inl (p.subset (List.mem_append_right _ z))
    · exact .inr z
  · rcases r a hr with z | z
    · exact (List.nodup_append.mp (p.nodup_iff.mpr nd)).2.2 a ha a z rfl
    · exact hR a (sub a ha) z
mutual
theorem Dat.dom : ∀ {d : D} {n : Nat} {v : V} {S R : List Addr}, Dat K H d n v S R → ∀ a ∈ S, H a ≠ none
  | .non, _, _, _, _, h, a, z => by simp only [Dat] at h; rw [h.2.1] at z; simp at z
  | .bl _, _, _, _, _, h, a, z => by simp only [Dat] at h; rw [h.2.1] at z; simp at z
  | .int _, _, _, _, _, h, a, z => by simp only [Dat] at h; rw [h.2.1] at z; simp at z
  | .str _, _, _, _, _, h, a, z => by simp only [Dat] at h; rw [h.2.1] at z; simp at z
  | .junk, _, _, _, _, h, a, z => by simp only [Dat] at h; rw [h.1] at z; simp at z
  | .nul _, _, _, _, _, h, a, z => by simp only [Dat] at h; rw [h.1] at z; simp at z
  | .ins _ _ _, 0, _, _, _, h, a, z => by rw [Dat.noS h] at z; simp at z
  | .ins _ _ _, n + 1, _, _, _, h, a, z => by
    simp only [Dat] at h
    obtain ⟨b, dx, x, y, S1, S2, R1, R2, rfl, q, qd, rfl, rfl, h1, h2⟩ := h
    rcases List.mem_cons.mp z with rfl | z
    · rw [q]; simp
    · rcases List.mem_append.mp z with z | z
      · exact Dat.dom h1 a z
      · exact Dat.dom h2 a z
  | .scr _, _, _, _, _, h, a, z => by simp only [Dat] at h; rw [h.2.1] at z; simp at z
  | .lst ds, 0, _, _, _, h, a, z => by rw [Dat.noS h] at z; simp at z
  | .lst ds, n + 1, _, _, _, h, a, z => by
    simp only [Dat] at h
    obtain ⟨b, xs, S', rfl, q, rfl, hd⟩ := h
    rcases List.mem_cons.mp z with rfl | z
    · rw [q]; simp
    · exact Dats.dom hd a z
  | .tup ds, n, _, _, _, h, a, z => by
    simp only [Dat] at h
    obtain ⟨b, xs, rfl, q, hd⟩ := h
    exact Dats.dom hd a z
  | .ftup ds, n, _, _, _, h, a, z => by
    simp only [Dat] at h
    obtain ⟨b, xs, rfl, q, hd⟩ := h
    exact Dats.dom hd a z
  | .dK _ ds, 0, _, _, _, h, a, z => by rw [Dat.noS h] at z; simp at z
  | .dK _ ds, n + 1, _, _, _, h, a, z => by
    simp only [Dat] at h
    obtain ⟨b, xs, S', rfl, q, _, rfl, hd⟩ := h
    rcases List.mem_cons.mp z with rfl | z
    · rw [q]; simp
    · exact Dats.dom hd a z
  | .dT _ ds, 0, _, _, _, h, a, z => by rw [Dat.noS h] at z; simp at z
  | .dT _ ds, n + 1, _, _, _, h, a, z => by
    simp only [Dat] at h
    obtain ⟨b, xs, S', rfl, q, _, rfl, hd⟩ := h
    rcases List.mem_cons.mp z with rfl | z
    · rw [q]; simp
    · exact Dats.dom hd a z
theorem Dats.dom : ∀ {ds : List D} {n : Nat} {xs : List V} {S R : List Addr}, Dats K H ds n xs S R → ∀ a ∈ S, H a ≠ none
  | [], _, _, _, _, h, a, z => by simp only [Dats] at h; rw [h.2.1] at z; simp at z
  | d :: ds, n, _, _, _, h, a, z => by
    simp only [Dats] at h
    obtain ⟨x, xs', S1, S2, R1, R2, rfl, rfl, rfl, h1, h2⟩ := h
    rcases List.mem_append.mp z with z | z
    · exact Dat.dom h1 a z
    · exact Dats.dom h2 a z
end
mutual
theorem Dat.domR : ∀ {d : D} {n : Nat} {v : V} {S R : List Addr}, Dat K H d n v S R → ∀ a ∈ R, H a ≠ none
  | .non, _, _, _, _, h, a, z => by simp only [Dat] at h; rw [h.2.2] at z; simp at z
  | .bl _, _, _, _, _, h, a, z => by simp only [Dat] at h; rw [h.2.2] at z; simp at z
  | .int _, _, _, _, _, h, a, z => by simp only [Dat] at h; rw [h.2.2] at z; simp at z
  | .str _, _, _, _, _, h, a, z => by simp only [Dat] at h; rw [h.2.2] at z; simp at z
  | .junk, _, _, _, _, h, a, z => by simp only [Dat] at h; rw [h.2] at z; simp at z
  | .nul _, _, _, _, _, h, a, z => by
    simp only [Dat] at h
    obtain ⟨_, b, _, ⟨o, q, _⟩, rfl⟩ := h
    obtain rfl := List.mem_singleton.mp z
    rw [q]; simp
  | .ins _ _ _, 0, _, _, _, h, a, z => by
    simp only [Dat] at h
    obtain ⟨b, dx, x, y, R1, R2, rfl, q, qd, rfl, rfl, h1, h2⟩ := h
    rcases List.mem_cons.mp z with rfl | z
    · rw [q]; simp
    rcases List.mem_cons.mp z with rfl | z
    · rw [qd]; simp
    · rcases List.mem_append.mp z with z | z
      · exact Dat.domR h1 a z
      · exact Dat.domR h2 a z
  | .ins _ _ _, n + 1, _, _, _, h, a, z => by
    simp only [Dat] at h
    obtain ⟨b, dx, x, y, S1, S2, R1, R2, rfl, q, qd, rfl, rfl, h1, h2⟩ := h
    rcases List.mem_cons.mp z with rfl | z
    · rw [qd]; simp
    · rcases List.mem_append.mp z with z | z
      · exact Dat.domR h1 a z
      · exact Dat.domR h2 a z
  | .scr _, _, _, _, _, h, a, z => by simp only [Dat] at h; rw [h.2.2] at z; simp at z
  | .lst ds, 0, _, _, _, h, a, z => by
    simp only [Dat] at h
    obtain ⟨b, xs, R', rfl, q, rfl, rfl, hd⟩ := h
    rcases List.mem_cons.mp z with rfl | z
    · rw [q]; simp
    · exact Dats.domR hd a z
  | .lst ds, n + 1, _, _, _, h, a, z => by
    simp only [Dat] at h
    obtain ⟨b, xs, S', rfl, q, rfl, hd⟩ := h
    exact Dats.domR hd a z
  | .tup ds, n, _, _, _, h, a, z => by
    simp only [Dat] at h
    obtain ⟨b, xs, rfl, q, hd⟩ := h
    exact Dats.domR hd a z
  | .ftup ds, n, _, _, _, h, a, z => by
    simp only [Dat] at h
    obtain ⟨b, xs, rfl, q, hd⟩ := h
    exact Dats.domR hd a z
  | .dK _ ds, 0, _, _, _, h, a, z => by
    simp only [Dat] at h
    obtain ⟨b, xs, R', rfl, q, _, rfl, rfl, hd⟩ := h
    rcases List.mem_cons.mp z with rfl | z
    · rcases q with q | ⟨o, q⟩ <;> (rw [q]; simp)
    · exact Dats.domR hd a z
  | .dK _ ds, n + 1, _, _, _, h, a, z => by
    simp only [Dat] at h
    obtain ⟨b, xs, S', rfl, q, _, rfl, hd⟩ := h
    exact Dats.domR hd a z
  | .dT _ ds, 0, _, _, _, h, a, z => by
    simp only [Dat] at h
    obtain ⟨b, xs, R', rfl, q, _, rfl, rfl, hd⟩ := h
    rcases List.mem_cons.mp z with rfl | z
    · rcases q with q | ⟨o, q⟩ <;> (rw [q]; simp)
    · exact Dats.domR hd a z
  | .dT _ ds, n + 1, _, _, _, h, a, z => by
    simp only [Dat] at h
    obtain ⟨b, xs, S', rfl, q, _, rfl, hd⟩ := h
    exact Dats.domR hd a z
theorem Dats.domR : ∀ {ds : List D} {n : Nat} {xs : List V} {S R : List Addr}, Dats K H ds n xs S R → ∀ a ∈ R, H a ≠ none
  | [], _, _, _, _, h, a, z => by simp only [Dats] at h; rw [h.2.2] at z; simp at z
  | d :: ds, n, _, _, _, h, a, z => by
    simp only [Dats] at h
    obtain ⟨x, xs', S1, S2, R1, R2, rfl, rfl, rfl, h1, h2⟩ := h
    rcases List.mem_append.mp z with z | z
    · exact Dat.domR h1 a z
    · exact Dats.domR h2 a z
end
theorem Dats.length : ∀ {ds : List D} {n : Nat} {xs : List V} {S R : List Addr}, Dats K H ds n xs S R → xs.length = ds.length
  | [], _, _, _, _, h => by simp only [Dats] at h; rw [h.1]; rfl
  | d :: ds, n, _, _, _, h => by
    simp only [Dats] at h
    obtain ⟨x, xs', S1, S2, R1, R2, rfl, rfl, rfl, h1, h2⟩ := h
    simp [Dats.length h2]
theorem Dats.get : ∀ {ds : List D} {n : Nat} {xs : List V} {S R : List Addr} {i : Nat} {d : D}, Dats K H ds n xs S R → ds[i]? = some d →
    ∃ x S' R', xs[i]? = some x ∧ Dat K H d n x S' R' ∧ S'.Sublist S ∧ ∀ a ∈ R', a ∈ R
  | [], _, _, _, _, _, _, h, e => by simp at e
  | d :: ds, n, _, _, _, 0, _, h, e => by
    simp only [Dats] at h
    obtain ⟨x, xs', S1, S2, R1, R2, rfl, rfl, rfl, h1, h2⟩ := h
    simp at e
    subst e
    exact ⟨x, S1, R1, rfl, h1, List.sublist_append_left _ _, fun a z => List.mem_append_left _ z⟩
  | d :: ds, n, _, _, _, i + 1, d', h, e => by
    simp only [Dats] at h
    obtain ⟨x, xs', S1, S2, R1, R2, rfl, rfl, rfl, h1, h2⟩ := h
    obtain ⟨y, S', R', e1, q, s, r⟩ := Dats.get (i := i) (d := d') h2 (by simpa using e)
    exact ⟨y, S', R', by simpa using e1, q, s.trans (List.sublist_append_right _ _), fun a z => List.mem_append_right _ (r a z)⟩
theorem Dats.append : ∀ {ds es : List D} {n : Nat} {xs ys : List V} {S R S' R' : List Addr}, Dats K H ds n xs S R → Dats K H es n ys S' R' → Dats K H (ds ++ es) n (xs ++ ys) (S ++ S') (R ++ R')
  | [], es, n, _, ys, _, _, S', R', h, g => by
    simp only [Dats] at h
    obtain ⟨rfl, rfl, rfl⟩ := h
    simpa using g
  | d :: ds, es, n, _, ys, _, _, S', R', h, g => by
    simp only [Dats] at h
    obtain ⟨x, xs', S1, S2, R1, R2, rfl, rfl, rfl, h1, h2⟩ := h
    show Dats K H (d :: (ds ++ es)) n _ _ _
    simp only [Dats]
    exact ⟨x, xs' ++ ys, S1, S2 ++ S', R1, R2 ++ R', rfl, by simp, by simp, h1, Dats.append h2 g⟩
theorem Dats.one {d : D} {n : Nat} {x : V} {S R : List Addr} (h : Dat K H d n x S R) : Dats K H [d] n [x] S R := by
  simp only [Dats]
  exact ⟨x, [], S, [], R, [], rfl, by simp, by simp, h, rfl, rfl, rfl⟩
theorem Dats.nil {n : Nat} : Dats K H [] n [] [] [] := by simp [Dats]
theorem Dats.cons {d : D} {ds : List D} {n : Nat} {x : V} {xs : List V} {S1 R1 S2 R2 : List Addr} (h1 : Dat K H d n x S1 R1) (h2 : Dats K H ds n xs S2 R2) : Dats K H (d :: ds) n (x :: xs) (S1 ++ S2) (R1 ++ R2) := by
  simp only [Dats]
  exact ⟨x, xs, S1, S2, R1, R2, rfl, rfl, rfl, h1, h2⟩
end
end TW
-- TWRe
namespace TW
open PySem PySem.Spec PyProof.Rows L2
inductive Res (α : Type) where
  | ok (a : α) | exn (c : Str) | stuck
def Res.bind {α β : Type} (m : Res α) (f : α → Res β) : Res β := match m with
  | .ok a => f a
  | .exn c => .exn c
  | .stuck => .stuck
@[simp] theorem Res.bind_ok {α β : Type} (a : α) (f : α → Res β) : (Res.ok a).bind f = f a := id rfl
@[simp] theorem Res.bind_exn {α β : Type} (c : Str) (f : α → Res β) : (Res.exn c : Res α).bind f = .exn c := id rfl
@[simp] theorem Res.bind_stuck {α β : Type} (f : α → Res β) : (Res.stuck : Res α).bind f = .stuck := id rfl
abbrev Rho := List (Option D)
structure Fr where
  no : Addr → Prop
  pin : Nat → Option V
instance : CoeFun Fr (fun _ => Addr → Prop) := ⟨Fr.no⟩
def Fr.plus (F : Fr) (A : List Addr) : Fr := ⟨fun a => F.no a ∨ a ∈ A, F.pin⟩
def Fr.un (F : Fr) : Fr := ⟨F.no, fun _ => none⟩
structure Sto (K : PySem.W.Frag) (F : Fr) (H0 : Hp) (Γ : List Nat) (ρ : Rho) (σ : L2.St) (H : Hp) (S R : Nat → List Addr) : Prop where
  same : Same H0 H
  len : σ.length = ρ.length
  slot : ∀ i d, ρ[i]? = some (some d) → ∃ x, σ[i]? = some (some x) ∧ Dat K H d (Γ.getD i 0) x (S i) (R i)
  emp : ∀ i, (∀ d, ρ[i]? ≠ some (some d)) → S i = [] ∧ R i = []
  new : ∀ i, ∀ a ∈ S i, H0 a = none
  nd : ∀ i, (S i).Nodup
  dj : ∀ i j, i ≠ j → ∀ a ∈ S i, a ∉ S j
  rs : ∀ i j, ∀ a ∈ R i, a ∉ S j
  rf : ∀ i, ∀ a ∈ R i, ¬ F a
  sf : ∀ i, ∀ a ∈ S i, ¬ F a
  fd : ∀ a, F a → H a ≠ none
  pin : ∀ i v, F.pin i = some v → Γ.getD i 0 = 99 ∧ σ[i]? = some (some v)
def Av (F : Fr) (S : Nat → List Addr) (a : Addr) : Prop := F a ∨ ∃ i, a ∈ S i

section
variable {K : PySem.W.Frag} {F : Fr} {H0 H H' : Hp} {Γ : List Nat} {ρ : Rho} {σ : L2.St} {S R : Nat → List Addr}
theorem Sto.domS (h : Sto K F H0 Γ ρ σ H S R) (i : Nat) : ∀ a ∈ S i, H a ≠ none := fun a ha => by
  by_cases e : ∃ d, ρ[i]? = some (some d)
  · obtain ⟨d, e⟩ := e
    obtain ⟨x, _, q⟩ := h.slot i d e
    exact Dat.dom q a ha
  · rw [(h.emp i fun d q => e ⟨d, q⟩).1] at ha
    simp at ha
theorem Sto.domR (h : Sto K F H0 Γ ρ σ H S R) (i : Nat) : ∀ a ∈ R i, H a ≠ none := fun a ha => by
  by_cases e : ∃ d, ρ[i]? = some (some d)
  · obtain ⟨d, e⟩ := e
    obtain ⟨x, _, q⟩ := h.slot i d e
    exact Dat.domR q a ha
  · rw [(h.emp i fun d q => e ⟨d, q⟩).2] at ha
    simp at ha
theorem Sto.avd (h : Sto K F H0 Γ ρ σ H S R) : ∀ a, Av F S a → H a ≠ none := fun a ha => by
  rcases ha with ha | ⟨i, ha⟩
  · exact h.fd a ha
  · exact h.domS i a ha
theorem Sto.more {A : List Addr} (h : Sto K F H0 Γ ρ σ H S R) (hd : ∀ a ∈ A, H a ≠ none) (hs : ∀ a ∈ A, ∀ i, a ∉ S i) (hr : ∀ a ∈ A, ∀ i, a ∉ R i) : Sto K (F.plus A) H0 Γ ρ σ H S R :=
  ⟨h.same, h.len, h.slot, h.emp, h.new, h.nd, h.dj, h.rs, fun i a ha z => z.elim (h.rf i a ha) fun z => hr a z i ha, fun i a ha z => z.elim (h.sf i a ha) fun z => hs a z i ha, fun a z => z.elim (h.fd a) (hd a), h.pin⟩
theorem Sto.grow (h : Sto K F H0 Γ ρ σ H S R) (e : Same H H') : Sto K F H0 Γ ρ σ H' S R where
  same := h.same.trans e
  len := h.len
  slot := fun i d q => let ⟨x, e1, e2⟩ := h.slot i d q; ⟨x, e1, e2.same e⟩
  emp := h.emp
  new := h.new
  nd := h.nd
  dj := h.dj
  rs := h.rs
  rf := h.rf
  sf := h.sf
  fd := fun a ha z => by
    cases q : H a with
    | none => exact h.fd a ha q
    | some o => rw [e a o q] at z; cases z
  pin := h.pin
end
def New (H : Hp) (A B : List Addr) : Prop := A.Nodup ∧ ∀ a ∈ A, H a = none ∧ a ∉ B
def PostV (K : PySem.W.Frag) (Z : Addr → Prop) (n : Nat) (fr : Bool) (H : Hp) (Q : VK) (d : D) : Prop :=
  ∀ x H' A B, Same H H' → Dat K H' d n x A B → (∀ a ∈ B, ¬ Z a) → (fr = true → New H A B) → Q x H'
def PostE (X : Cx) (W : WX) (Z : Addr → Prop) (n : Nat) (fr : Bool) (σ : L2.St) (H : Hp) (Q : VK) : Res D → Prop
  | .ok d => PostV X.K Z n fr H Q d
  | .exn c => ∀ C H', X.mg c = some (.ref C) → Same H H' → W (.ref C) none σ H'
  | .stuck => False
def RE (X : Cx) (W : WX) (Γ : List Nat) (n : Nat) (fr : Bool) (e : Expr) (m : Rho → Res D) : Prop :=
  ∃ t, PE X e t ∧ ∀ F H0 ρ σ H S R Q, Sto X.K F H0 Γ ρ σ H S R → PostE X W (Av F S) n fr σ H Q (m ρ) → t σ H Q
def PostT (X : Cx) (W : WX) (σ : L2.St) (H : Hp) (Q : Bool → Hp → Prop) : Res Bool → Prop
  | .ok b => ∀ H', Same H H' → Q b H'
  | .exn c => ∀ C H', X.mg c = some (.ref C) → Same H H' → W (.ref C) none σ H'
  | .stuck => False
def RT (X : Cx) (W : WX) (Γ : List Nat) (e : Expr) (m : Rho → Res Bool) : Prop :=
  ∃ t, PT X e t ∧ ∀ F H0 ρ σ H S R Q, Sto X.K F H0 Γ ρ σ H S R → PostT X W σ H Q (m ρ) → t σ H Q
def PostA (X : Cx) (W : WX) (Z : Addr → Prop) (n : Nat) (fr : Bool) (σ : L2.St) (H : Hp) (Q : List V → Hp → Prop) : Res (List D) → Prop
  | .ok ds => ∀ xs H' A B, Same H H' → Dats X.K H' ds n xs A B → (∀ a ∈ B, ¬ Z a) → (fr = true → New H A B) → Q xs H'
  | .exn c => ∀ C H', X.mg c = some (.ref C) → Same H H' → W (.ref C) none σ H'
  | .stuck => False
def RA (X : Cx) (W : WX) (Γ : List Nat) (n : Nat) (fr : Bool) (es : List Expr) (m : Rho → Res (List D)) : Prop :=
  (∀ ρ ds, m ρ = .ok ds → ds.length = es.length) ∧ ∃ t, PA X es t ∧ ∀ F H0 ρ σ H S R Q, Sto X.K F H0 Γ ρ σ H S R → PostA X W (Av F S) n fr σ H Q (m ρ) → t σ H Q
inductive Out where
  | nx (ρ : Rho) | rt (d : D) | ex (c : Str) (ρ : Rho) | stuck
def Keep (S : Nat → List Addr) (H H' : Hp) : Prop := ∀ a o, H a = some o → (∀ i, a ∉ S i) → H' a = some o
def Grow (S : Nat → List Addr) (H : Hp) (S' : Nat → List Addr) : Prop := ∀ i, ∀ a ∈ S' i, (∃ j, a ∈ S j) ∨ H a = none
def D.flat : D → Bool
  | .non => true
  | .bl _ => true
  | .int _ => true
  | .str _ => true
  | _ => false
def PostRt (X : Cx) (F : Fr) (H0 : Hp) (n : Nat) (E : Ends) (d : D) : Prop :=
  if n < 1000 then ∀ x H' A B, Same H0 H' → Dat X.K H' d n x A B → New H0 A B → (∀ a ∈ B, ¬ F a) → E.rt x H'
  else ∃ v s, d = .tup [v, s] ∧ v.flat = true ∧ ∀ x x0 H' A B, (∀ p, F.pin (n - 1000) = some p → p = x0) → Same H0 H' → Dat X.K H' v 0 x [] [] → Dat X.K H' s 99 x0 A B → New H0 A B → (∀ a ∈ B, ¬ F a) → (∀ a ∈ A, ¬ F a) → E.rt x H'
theorem PostRt.lo {X : Cx} {F : Fr} {H0 : Hp} {n : Nat} {E : Ends} {d : D} (h : PostRt X F H0 n E d) (hn : n < 1000) : ∀ x H' A B, Same H0 H' → Dat X.K H' d n x A B → New H0 A B → (∀ a ∈ B, ¬ F a) → E.rt x H' := by
  unfold PostRt at h
  rw [if_pos hn] at h
  exact h
theorem PostRt.of {X : Cx} {F : Fr} {H0 : Hp} {n : Nat} {E : Ends} {d : D} (hn : n < 1000) (h : ∀ x H' A B, Same H0 H' → Dat X.K H' d n x A B → New H0 A B → (∀ a ∈ B, ¬ F a) → E.rt x H') : PostRt X F H0 n E d := by
  unfold PostRt
  rw [if_pos hn]
  exact h
def PostS (X : Cx) (W : WX) (F : Fr) (H0 : Hp) (Γ' : List Nat) (n : Nat) (S : Nat → List Addr) (H : Hp) (E : Ends) : Out → Prop
  | .nx ρ' => ∀ σ' H' S' R', Sto X.K F H0 Γ' ρ' σ' H' S' R' → Keep S H H' → Grow S H S' → E.nx σ' H'
  | .rt d => PostRt X F H0 n E d
  | .ex c ρ' => ∀ C σ' H' S' R', X.mg c = some (.ref C) → Sto X.K F.un H0 [] ρ' σ' H' S' R' → Keep S H H' → Grow S H S' → W (.ref C) none σ' H'
  | .stuck => False
def RS (X : Cx) (W : WX) (n : Nat) (Γ Γ' : List Nat) (st : Stmt) (m : Rho → Out) : Prop :=
  ∃ t, PS X st t ∧ ∀ F H0 ρ σ H S R E, Sto X.K F H0 Γ ρ σ H S R → PostS X W F H0 Γ' n S H E (m ρ) → t E σ H
def RSs (X : Cx) (W : WX) (n : Nat) (Γ Γ' : List Nat) (st : List Stmt) (m : Rho → Out) : Prop :=
  ∃ t, PSs X st t ∧ ∀ F H0 ρ σ H S R E, Sto X.K F H0 Γ ρ σ H S R → PostS X W F H0 Γ' n S H E (m ρ) → t E σ H

section
variable {X : Cx} {W : WX} {Γ : List Nat} {F : Fr} {S : Nat → List Addr} {H H' H0 : Hp} {σ : L2.St}
theorem Keep.refl : Keep S H H := fun _ _ e _ => e
theorem Keep.of_same (h : Same H H') : Keep S H H' := fun a o e _ => h a o e
theorem Grow.refl : Grow S H S := fun i a h => .inl ⟨i, h⟩
theorem Grow.trans {S1 S2 : Nat → List Addr} (g1 : Grow S H S1) (k : Keep S H H') (g2 : Grow S1 H' S2) : Grow S H S2 := fun i a h => by
  rcases g2 i a h with ⟨j, h⟩ | h
  · exact g1 j a h
  · by_cases e : ∃ j, a ∈ S j
    · exact .inl e
    · refine .inr ?_
      cases q : H a with
      | none => rfl
      | some o =>
        rw [k a o q fun i hi => e ⟨i, hi⟩] at h
        cases h
theorem Keep.trans {S1 : Nat → List Addr} {H2 : Hp} (k1 : Keep S H H') (g1 : Grow S H S1) (k2 : Keep S1 H' H2) : Keep S H H2 := fun a o e h => by
  refine k2 a o (k1 a o e h) fun i hi => ?_
  rcases g1 i a hi with ⟨j, hj⟩ | hn
  · exact h j hj
  · rw [e] at hn
    cases hn
theorem PostE.imp {Z : Addr → Prop} {n : Nat} {fr : Bool} {Q Q' : VK} {m : Res D} (h : PostE X W Z n fr σ H Q m) (q : ∀ x H', Q x H' → Q' x H') : PostE X W Z n fr σ H Q' m := by
  cases m with
  | ok d => exact fun x H' A B s d v f => q _ _ (h x H' A B s d v f)
  | exn c => exact h
  | stuck => exact h
theorem PostS.later {Γ' : List Nat} {n : Nat} {E : Ends} {S1 : Nat → List Addr} {o : Out} (h : PostS X W F H0 Γ' n S H E o) (k : Keep S H H') (g : Grow S H S1) : PostS X W F H0 Γ' n S1 H' E o := by
  cases o with
  | nx ρ' => exact fun σ' H2 S' R' st k' g' => h σ' H2 S' R' st (k.trans g k') (g.trans k g')
  | rt d => exact h
  | ex c ρ' => exact fun C σ' H2 S' R' hc st k' g' => h C σ' H2 S' R' hc st (k.trans g k') (g.trans k g')
  | stuck => exact h
end

section
variable {X : Cx} {W : WX} {Γ : List Nat} {e : Expr} {m : Rho → Res D}
theorem RE.w {n k : Nat} (h : RE X W Γ n true e m) (hk : k ≤ n := by decide) : RE X W Γ k true e m := by
  obtain ⟨t, p, q⟩ := h
  refine ⟨t, p, fun F H0 ρ σ H S R Q st po => q F H0 ρ σ H S R Q st ?_⟩
  cases e : m ρ with
  | stuck => rw [e] at po; exact po
  | exn c => rw [e] at po; exact po
  | ok d =>
    rw [e] at po
    refine fun x H' A B s d' v f => ?_
    obtain ⟨A', B', g, snd, sl, hb, ap⟩ := Dat.weakS hk d'
    obtain ⟨nd, new⟩ := f rfl
    refine po x H' A' B' s g (fun a ha => ?_) fun _ => ⟨snd nd, fun a ha => ⟨(new a (sl a ha)).1, ap nd (fun a ha => (new a ha).2) a ha⟩⟩
    rcases hb a ha with ha | ha
    · exact fun z => st.avd a z (new a ha).1
    · exact v a ha
theorem RE.own0 (h : RE X W Γ 0 false e m) : RE X W Γ 0 true e m := by
  obtain ⟨t, p, q⟩ := h
  refine ⟨t, p, fun F H0 ρ σ H S R Q st po => q F H0 ρ σ H S R Q st ?_⟩
  cases e : m ρ with
  | stuck => rw [e] at po; exact po
  | exn c => rw [e] at po; exact po
  | ok d =>
    rw [e] at po
    refine fun x H' A B s d' v f => ?_
    obtain rfl : A = [] := Dat.noS d'
    exact po x H' [] B s d' v fun _ => ⟨List.nodup_nil, fun a z => by simp at z⟩
end
theorem Dat.flat {K : PySem.W.Frag} {H : Hp} {d : D} {n : Nat} {v : V} {A B : List Addr} (h : Dat K H d n v A B) (f : d.flat = true) : A = [] ∧ B = [] ∧ ∀ k, Dat K H d k v [] [] := by
  cases d with
  | non => simp only [Dat] at h; obtain ⟨rfl, rfl, rfl⟩ := h; exact ⟨rfl, rfl, fun _ => by simp [Dat]⟩
  | bl b => simp only [Dat] at h; obtain ⟨rfl, rfl, rfl⟩ := h; exact ⟨rfl, rfl, fun _ => by simp [Dat]⟩
  | int i => simp only [Dat] at h; obtain ⟨rfl, rfl, rfl⟩ := h; exact ⟨rfl, rfl, fun _ => by simp [Dat]⟩
  | str s => simp only [Dat] at h; obtain ⟨rfl, rfl, rfl⟩ := h; exact ⟨rfl, rfl, fun _ => by simp [Dat]⟩
  | lst l => cases f
  | tup l => cases f
  | dK a b => cases f
  | dT a b => cases f
  | scr l => cases f
  | junk => cases f
  | ins C h t => cases f
  | nul _ => cases f
  | ftup l => cases f
def mFlat (m : Rho → Res D) : Rho → Res D := fun ρ => (m ρ).bind fun d => if d.flat then .ok d else .stuck
section
variable {X : Cx} {W : WX} {Γ : List Nat} {e : Expr} {m : Rho → Res D}
theorem RE.flat {n k : Nat} {fr : Bool} (h : RE X W Γ n fr e m) : RE X W Γ k true e (mFlat m) := by
  obtain ⟨t, p, q⟩ := h
  refine ⟨t, p, fun F H0 ρ σ H S R Q st po => q F H0 ρ σ H S R Q st ?_⟩
  unfold mFlat at po
  cases e : m ρ with
  | stuck => rw [e] at po; exact po
  | exn c => rw [e] at po; exact po
  | ok d =>
    rw [e] at po
    simp only [Res.bind_ok] at po
    by_cases f : d.flat = true
    · rw [if_pos f] at po
      refine fun x H' A B s d' v fr' => ?_
      obtain ⟨rfl, rfl, g⟩ := d'.flat f
      exact po x H' [] [] s (g k) (fun a z => by simp at z) fun _ => ⟨List.nodup_nil, fun a z => by simp at z⟩
    · rw [if_neg f] at po
      exact po.elim
end
end TW
-- TWStrs
namespace TW
open PySem PySem.Spec PyProof.Rows L2
def strRep (s : Str) (k : Nat) : Str := ⟨(List.replicate k s.cps).foldl (· ++ ·) #[]⟩
theorem foldl_rep (a : Array Nat) : ∀ (k : Nat) (b : Array Nat), ((List.replicate k a).foldl (· ++ ·) b).toList = b.toList ++ (List.replicate k a.toList).flatten
  | 0, b => by simp
  | k + 1, b => by rw [List.replicate_succ, List.foldl_cons, foldl_rep a k, List.replicate_succ, List.flatten_cons]; simp
theorem strRep_list (s : Str) (k : Nat) : (strRep s k).cps.toList = (List.replicate k s.cps.toList).flatten := by
  unfold strRep
  rw [foldl_rep]; simp
theorem strRep_length (s : Str) (k : Nat) : (strRep s k).length = s.length * k := by
  show (strRep s k).cps.size = s.cps.size * k
  rw [← Array.length_toList, strRep_list, List.length_flatten, List.map_replicate, List.sum_replicate_nat, Array.length_toList, Nat.mul_comm]
def rRepS : R2 := fun x y H Q => ∃ (s : Str) (k : Int), x = .str s ∧ y = .int k ∧ -(2 ^ 63) ≤ k ∧ k < 2 ^ 63 ∧ s.length * k.toNat ≤ sizeLine ∧ Q (.str (strRep s k.toNat)) H
theorem op_mulS {X : Cx} : OpR X (binaryOp .Mult) rRepS := by
  intro pins s σ H x y v u Q I rx ry h
  obtain ⟨a, k, rfl, rfl, h1, h2, h3, q⟩ := h
  obtain ⟨t, rfl⟩ := rx
  obtain ⟨t', rfl⟩ := ry
  refine P.mul_str (by rw [decide_eq_false (by omega), decide_eq_false (by omega)]; rfl) (fun c1 c2 z => ?_) (fun c1 c2 => ?_) ?_
  · have hk : 0 < k := by omega
    have e : (a.length : Int) * k ≤ sizeLine := by
      have : k = (k.toNat : Int) := by omega
      rw [this]; exact_mod_cast h3
    have e2 : (a.length : Int) ≤ (2 ^ 63 - 1) / k := by
      refine (Int.le_ediv_iff_mul_le hk).mpr (Int.le_trans e ?_)
      show ((sizeLine : Nat) : Int) ≤ _
      decide
    omega
  · simpa [Builtin.Str.tooLong] using h3
  · have hl : (strRep a k.toNat).length ≤ sizeLine := by rw [strRep_length]; exact h3
    split
    · rename_i c
      have e : strRep a k.toNat = Str.empty := by rw [show k.toNat = 0 by omega]; rfl
      rw [e] at q hl
      exact ⟨hl, .str Str.empty, H, I.tok _, ⟨_, rfl⟩, q⟩
    · rename_i c
      split
      · rename_i d
        have e : strRep a k.toNat = a := by
          rcases Bool.or_eq_true_iff.mp d with d | d
          · have := eq_of_beq d
            subst this
            show (⟨_⟩ : Str) = a
            cases a
            simp
          · have d : a.cps.size = 0 := eq_of_beq d
            have d2 : a.cps.toList = [] := List.length_eq_zero_iff.mp (by rw [Array.length_toList]; exact d)
            have : (strRep a k.toNat).cps.toList = a.cps.toList := by rw [strRep_list, d2]; simp
            cases a with
            | mk c =>
              show (⟨(strRep ⟨c⟩ k.toNat).cps⟩ : Str) = ⟨c⟩
              congr 1
              exact Array.toList_inj.mp this
        rw [e] at q
        exact ⟨.str a, H, I, ⟨_, rfl⟩, q⟩
      · exact ⟨hl, .str _, H, I.tok _, ⟨_, rfl⟩, q⟩
end TW
-- TWOps
namespace TW
open PySem PySem.Spec PyProof.Rows L2

def mVar (i : Nat) : Rho → Res D := fun ρ => match ρ[i]? with
  | some (some d) => .ok d
  | _ => .stuck
def mC (d : D) : Rho → Res D := fun _ => .ok d
def ofO {α : Type} : Option α → Res α
  | some a => .ok a
  | none => .stuck
@[simp] theorem ofO_some {α : Type} (a : α) : ofO (some a) = .ok a := id rfl
@[simp] theorem ofO_none {α : Type} : ofO (none : Option α) = .stuck := id rfl
def m1 (g : D → Option D) (a : Rho → Res D) : Rho → Res D := fun ρ => (a ρ).bind fun x => ofO (g x)
def m2 (g : D → D → Option D) (a b : Rho → Res D) : Rho → Res D := fun ρ => (a ρ).bind fun x => (b ρ).bind fun y => ofO (g x y)
def mA0 : Rho → Res (List D) := fun _ => .ok []
def mA1 (a : Rho → Res D) (r : Rho → Res (List D)) : Rho → Res (List D) := fun ρ => (a ρ).bind fun x => (r ρ).bind fun xs => .ok (x :: xs)
def mArgs (g : List D → Res D) (a : Rho → Res (List D)) : Rho → Res D := fun ρ => (a ρ).bind g
def mL (g : List D → Option D) (a : Rho → Res (List D)) : Rho → Res D := fun ρ => (a ρ).bind fun x => ofO (g x)

section
variable {K : PySem.W.Frag} {Z : Addr → Prop} {n : Nat} {fr : Bool} {H H' : Hp} {Q : VK} {d : D}
theorem New.later {A B : List Addr} (h : New H' A B) (s : Same H H') : New H A B := ⟨h.1, fun a ha => ⟨s.free (h.2 a ha).1, (h.2 a ha).2⟩⟩
theorem New.nil {B : List Addr} : New H [] B := ⟨List.nodup_nil, fun a z => by simp at z⟩
theorem PostV.later (h : PostV K Z n fr H Q d) (s : Same H H') : PostV K Z n fr H' Q d := fun x H2 A B s2 g v f =>
  h x H2 A B (s.trans s2) g v fun e => (f e).later s
theorem PostV.flat (h : PostV K Z n fr H Q d) (f : d.flat = true) {x : V} (g : ∀ k, Dat K H d k x [] []) : Q x H :=
  h x H [] [] (Same.refl H) (g n) (fun a z => by simp at z) fun _ => New.nil
theorem same_new {p : Addr} {o : HO} (h : H p = none) : Same H (upd H p o) := fun b x e => by
  rw [upd_ne (ne_of_none e h)]
  exact e
end
section
variable {X : Cx} {W : WX} {Γ : List Nat} {n : Nat} {fr : Bool} {F : Fr} {S R : Nat → List Addr} {H H' H0 : Hp} {σ : L2.St} {ρ : Rho} {Q : VK}
theorem PostE.later {Z : Addr → Prop} {m : Res D} (h : PostE X W Z n fr σ H Q m) (s : Same H H') : PostE X W Z n fr σ H' Q m := by
  cases m with
  | ok d => exact PostV.later h s
  | exn c => exact fun C H2 e s2 => h C H2 e (s.trans s2)
  | stuck => exact h
theorem PostA.later {Z : Addr → Prop} {Q : List V → Hp → Prop} {m : Res (List D)} (h : PostA X W Z n fr σ H Q m) (s : Same H H') : PostA X W Z n fr σ H' Q m := by
  cases m with
  | ok d => exact fun x H2 A B s2 g v f => h x H2 A B (s.trans s2) g v fun e => (f e).later s
  | exn c => exact fun C H2 e s2 => h C H2 e (s.trans s2)
  | stuck => exact h
theorem PostT.later {Q : Bool → Hp → Prop} {m : Res Bool} (h : PostT X W σ H Q m) (s : Same H H') : PostT X W σ H' Q m := by
  cases m with
  | ok d => exact fun H2 s2 => h H2 (s.trans s2)
  | exn c => exact fun C H2 e s2 => h C H2 e (s.trans s2)
  | stuck => exact h
def PostX (X : Cx) (W : WX) (σ : L2.St) (H : Hp) {α : Type} (ok : α → Prop) : Res α → Prop
  | .ok d => ok d
  | .exn c => ∀ C H', X.mg c = some (.ref C) → Same H H' → W (.ref C) none σ H'
  | .stuck => False
theorem PostX.imp {α : Type} {ok ok' : α → Prop} {m : Res α} (h : PostX X W σ H ok m) (q : ∀ d, m = .ok d → ok d → ok' d) : PostX X W σ H ok' m := by
  cases m with
  | ok d => exact q d rfl h
  | exn c => exact h
  | stuck => exact h
theorem PostX.bind {α β : Type} {ok : β → Prop} {m : Res α} {f : α → Res β} (h : PostX X W σ H ok (m.bind f)) : PostX X W σ H (fun d => PostX X W σ H ok (f d)) m := by
  cases m with
  | ok d => exact h
  | exn c => exact h
  | stuck => exact h
theorem PostX.later {α : Type} {ok ok' : α → Prop} {m : Res α} (h : PostX X W σ H ok m) (s : Same H H') (q : ∀ d, m = .ok d → ok d → ok' d) : PostX X W σ H' ok' m := by
  cases m with
  | ok d => exact q d rfl h
  | exn c => exact fun C H2 e s2 => h C H2 e (s.trans s2)
  | stuck => exact h
theorem PostE.iff {Z : Addr → Prop} {m : Res D} : PostE X W Z n fr σ H Q m ↔ PostX X W σ H (PostV X.K Z n fr H Q) m := by
  cases m <;> exact Iff.rfl
theorem PostT.iff {Q : Bool → Hp → Prop} {m : Res Bool} : PostT X W σ H Q m ↔ PostX X W σ H (fun b => ∀ H', Same H H' → Q b H') m := by
  cases m <;> exact Iff.rfl
theorem PostA.iff {Z : Addr → Prop} {Q : List V → Hp → Prop} {m : Res (List D)} : PostA X W Z n fr σ H Q m ↔ PostX X W σ H (fun ds => ∀ xs H' A B, Same H H' → Dats X.K H' ds n xs A B → (∀ a ∈ B, ¬ Z a) → (fr = true → New H A B) → Q xs H') m := by
  cases m <;> exact Iff.rfl
end

section
variable {X : Cx} {W : WX} {Γ : List Nat} {n : Nat} {e : Expr} {x : Str} {pos : Pos} {m : Rho → Res D}
theorem re_own {i : Nat} (hv : PE X e (tVar i)) (k : Nat) (hk : Γ.getD i 0 = k := by rfl) : RE X W Γ k false e (mVar i) := by
  refine ⟨_, hv, fun F H0 ρ σ H S R Q st po => ?_⟩
  unfold mVar at po
  split at po
  · rename_i d e
    obtain ⟨x, e1, q⟩ := st.slot i d e
    rw [hk] at q
    exact ⟨x, e1, po x H _ _ (Same.refl H) q (fun a ha z => z.elim (st.rf i a ha) fun ⟨j, hj⟩ => st.rs i j a ha hj) fun z => nomatch z⟩
  · exact po.elim
theorem re_v {i : Nat} (hv : PE X e (tVar i)) (hk : Γ.getD i 0 = 0 := by rfl) : RE X W Γ 0 true e (mVar i) := (re_own hv 0 hk).own0
theorem re_c {v : V} {d : D} (hc : PE X e (tC v)) (f : d.flat = true) (h : ∀ K H k, Dat K H d k v [] []) : RE X W Γ n true e (mC d) := by
  refine ⟨_, hc, fun F H0 ρ σ H S R Q st po => ?_⟩
  exact PostV.flat po f (h X.K H)
theorem re_int {i : Int} {j} : RE X W Γ n true (.Constant (.int i) j pos) (mC (.int i)) := re_c pe_int rfl fun _ _ _ => by simp [Dat]
theorem re_str {i : Str} {j} : RE X W Γ n true (.Constant (.str i) j pos) (mC (.str i)) := re_c pe_str rfl fun _ _ _ => by simp [Dat]
theorem re_bl {i : Bool} {j} : RE X W Γ n true (.Constant (.bool i) j pos) (mC (.bl i)) := re_c pe_bl rfl fun _ _ _ => by simp [Dat]
theorem re_non {j} : RE X W Γ n true (.Constant .none j pos) (mC .non) := re_c pe_non rfl fun _ _ _ => by simp [Dat]
end
def BinV (K : PySem.W.Frag) (r : R2) (g : D → D → Option D) (n : Nat) : Prop :=
  ∀ (Z : Addr → Prop) (x y : V) (d e z : D) (H : Hp) (B1 B2 : List Addr) (Q : VK), (∀ a, Z a → H a ≠ none) → Dat K H d 0 x [] B1 → Dat K H e 0 y [] B2 → (∀ a ∈ B1, ¬ Z a) → (∀ a ∈ B2, ¬ Z a) →
    g d e = some z → PostV K Z n true H Q z → r x y H Q
def BinF (K : PySem.W.Frag) (r : R2) (g : D → D → Option D) : Prop :=
  ∀ (x y : V) (d e z : D) (H : Hp) (B1 B2 : List Addr) (Q : VK), Dat K H d 0 x [] B1 → Dat K H e 0 y [] B2 → g d e = some z → (z.flat = true → ∀ v, (∀ k, Dat K H z k v [] []) → Q v H) → r x y H Q
theorem PostE.ofO {X : Cx} {W : WX} {Z : Addr → Prop} {n : Nat} {fr : Bool} {σ : L2.St} {H : Hp} {Q : VK} {o : Option D} (h : PostE X W Z n fr σ H Q (ofO o)) : ∃ z, o = some z ∧ PostV X.K Z n fr H Q z := by
  cases o with
  | none => exact h.elim
  | some z => exact ⟨z, rfl, h⟩
section
variable {X : Cx} {W : WX} {Γ : List Nat} {n n1 n2 : Nat} {f1 f2 fr : Bool} {a b : Expr} {pos : Pos} {ma mb : Rho → Res D} {r : R2} {g : D → D → Option D}
theorem bin_run (hv : BinV X.K r g n) {ta tb : TE} {F : Fr} {H0 : Hp} {ρ : Rho} {σ : L2.St} {H : Hp} {S R : Nat → List Addr} {Q : VK}
    (qa : ∀ F H0 ρ σ H S R Q, Sto X.K F H0 Γ ρ σ H S R → PostE X W (Av F S) 0 true σ H Q (ma ρ) → ta σ H Q) (qb : ∀ F H0 ρ σ H S R Q, Sto X.K F H0 Γ ρ σ H S R → PostE X W (Av F S) 0 true σ H Q (mb ρ) → tb σ H Q)
    (st : Sto X.K F H0 Γ ρ σ H S R) (po : PostE X W (Av F S) n true σ H Q (m2 g ma mb ρ)) : tOp r ta tb σ H Q := by
  refine qa F H0 ρ σ H S R _ st (PostE.iff.mpr ((PostE.iff.mp po).bind.imp fun d _ po => ?_))
  intro x H1 A B s1 d1 v1 _
  refine qb F H0 ρ σ H1 S R _ (st.grow s1) (PostE.iff.mpr (po.bind.later s1 fun e ee po => ?_))
  intro y H2 A' B' s2 d2 v2 _
  obtain rfl : A = [] := Dat.noS d1
  obtain rfl : A' = [] := Dat.noS d2
  obtain ⟨z, ez, po⟩ := PostE.ofO (PostE.iff.mpr po)
  exact hv (Av F S) x y d e z H2 B B' Q ((st.grow s1).grow s2).avd (d1.same s2) d2 v1 v2 ez (PostV.later po (s1.trans s2))
theorem binf_run (hv : BinF X.K r g) {ta tb : TE} {F : Fr} {H0 : Hp} {ρ : Rho} {σ : L2.St} {H : Hp} {S R : Nat → List Addr} {Q : VK}
    (qa : ∀ F H0 ρ σ H S R Q, Sto X.K F H0 Γ ρ σ H S R → PostE X W (Av F S) n1 f1 σ H Q (ma ρ) → ta σ H Q) (qb : ∀ F H0 ρ σ H S R Q, Sto X.K F H0 Γ ρ σ H S R → PostE X W (Av F S) n2 f2 σ H Q (mb ρ) → tb σ H Q)
    (st : Sto X.K F H0 Γ ρ σ H S R) (po : PostX X W σ H (fun z => ∀ H', Same H H' → z.flat = true → ∀ v, (∀ k, Dat X.K H' z k v [] []) → Q v H') (m2 g ma mb ρ)) : tOp r ta tb σ H Q := by
  refine qa F H0 ρ σ H S R _ st (PostE.iff.mpr (po.bind.imp fun d _ po => ?_))
  intro x H1 A B s1 d1 _ _
  refine qb F H0 ρ σ H1 S R _ (st.grow s1) (PostE.iff.mpr (po.bind.later s1 fun e ee po => ?_))
  intro y H2 A' B' s2 d2 _ _
  obtain ⟨S1, R1, d1, l1, _⟩ := Dat.weak d n1 0 x A B (Nat.zero_le _) d1
  obtain ⟨S2, R2, d2, l2, _⟩ := Dat.weak e n2 0 y A' B' (Nat.zero_le _) d2
  obtain rfl : S1 = [] := Dat.noS d1
  obtain rfl : S2 = [] := Dat.noS d2
  cases ez : g d e with
  | none => rw [ez] at po; exact po.elim
  | some z =>
    rw [ez] at po
    exact hv x y d e z H2 R1 R2 Q (d1.same s2) d2 ez (po H2 (s1.trans s2))
theorem re_bin {op : Operator} (ho : OpR X (binaryOp op) r) (hv : BinV X.K r g n) (ha : RE X W Γ 0 true a ma) (hb : RE X W Γ 0 true b mb) : RE X W Γ n true (.BinOp a op b pos) (m2 g ma mb) := by
  obtain ⟨ta, pa, qa⟩ := ha
  obtain ⟨tb, pb, qb⟩ := hb
  exact ⟨_, pe_op ho pa pb, fun F H0 ρ σ H S R Q st po => bin_run hv qa qb st po⟩
theorem re_cmp {op : CmpOp} (ho : OpR X (compareOp op) r) (hv : BinF X.K r g) (hm : behindInMarks op b = false) (ha : RE X W Γ n1 f1 a ma) (hb : RE X W Γ n2 f2 b mb) : RE X W Γ n true (.Compare a [op] [b] pos) (m2 g ma mb) := by
  obtain ⟨ta, pa, qa⟩ := ha
  obtain ⟨tb, pb, qb⟩ := hb
  exact ⟨_, pe_cmpR ho pa pb hm, fun F H0 ρ σ H S R Q st po => binf_run hv qa qb st ((PostE.iff.mp po).imp fun z _ po H' s f v hd =>
    po v H' [] [] s (hd n) (fun a z => by simp at z) fun _ => New.nil)⟩
def ofB : D → Res Bool
  | .bl b => .ok b
  | _ => .stuck
def mT (m : Rho → Res D) : Rho → Res Bool := fun ρ => (m ρ).bind ofB
theorem dat_bl {K : PySem.W.Frag} {H : Hp} {b : Bool} {n : Nat} {v : V} {A B : List Addr} (h : Dat K H (.bl b) n v A B) : v = .bl b := by
  simp only [Dat] at h
  exact h.1
theorem rt_cmp {op : CmpOp} (ho : OpR X (compareOp op) r) (hv : BinF X.K r g) (hm : behindInMarks op b = false) (ha : RE X W Γ n1 f1 a ma) (hb : RE X W Γ n2 f2 b mb) : RT X W Γ (.Compare a [op] [b] pos) (mT (m2 g ma mb)) := by
  obtain ⟨ta, pa, qa⟩ := ha
  obtain ⟨tb, pb, qb⟩ := hb
  refine ⟨_, pt_cmpR ho pa pb hm, fun F H0 ρ σ H S R Q st po => ?_⟩
  unfold mT at po
  refine binf_run (Q := fun x H1 => ∃ k, x = .bl k ∧ Q k H1) hv qa qb st ((PostT.iff.mp po).bind.imp fun z _ po H' s f v hd => ?_)
  cases z with
  | bl c => exact ⟨c, dat_bl (hd 0), po H' s⟩
  | _ => exact po.elim
theorem rt_val (ha : RE X W Γ n1 f1 a ma) (he : ∀ whole, isTrue a X.env whole = (do let v ← whole; standAt a.pos; holding [v] (truthy v)) := by intro _; rfl) : RT X W Γ a (mT ma) := by
  obtain ⟨ta, pa, qa⟩ := ha
  refine ⟨_, pt_val pa he, fun F H0 ρ σ H S R Q st po => ?_⟩
  unfold mT at po
  refine qa F H0 ρ σ H S R _ st (PostE.iff.mpr ((PostT.iff.mp po).bind.imp fun z _ po => ?_))
  intro x H1 A B s1 d1 _ _
  cases z with
  | bl c => exact ⟨c, dat_bl d1, po H1 s1⟩
  | _ => exact po.elim
end

def gAdd : D → D → Option D
  | .int i, .int j => some (.int (i + j))
  | .str i, .str j => if i.length + j.length ≤ sizeLine then some (.str (i ++ j)) else none
  | .lst i, .lst j => if i.length + j.length ≤ sizeLine then some (.lst (i ++ j)) else none
  | .tup i, .tup j => if i.length + j.length ≤ sizeLine then some (.tup (i ++ j)) else none
  | _, _ => none
def gSub : D → D → Option D
  | .int i, .int j => some (.int (i - j))
  | _, _ => none
def gMul : D → D → Option D
  | .int i, .int j => if i.natAbs.log2 + j.natAbs.log2 < 1000000 then some (.int (i * j)) else none
  | .lst i, .int k => if -(2 ^ 63) ≤ k ∧ k < 2 ^ 63 ∧ i.length * k.toNat ≤ sizeLine then some (.lst (List.replicate k.toNat i).flatten) else none
  | .str s, .int k => if -(2 ^ 63) ≤ k ∧ k < 2 ^ 63 ∧ s.length * k.toNat ≤ sizeLine then some (.str (strRep s k.toNat)) else none
  | _, _ => none
def gDiv : D → D → Option D
  | .int i, .int j => if 0 < j ∧ j.natAbs.log2 < 9000 then some (.int (i / j)) else none
  | _, _ => none
def gMod : D → D → Option D
  | .int i, .int j => if 0 < j then some (.int (i % j)) else none
  | _, _ => none
def gPow : D → D → Option D
  | .int i, .int j => if 0 ≤ j ∧ j ≤ 1000000 ∧ i.natAbs < 2 ^ 64 then some (.int (i ^ j.toNat)) else none
  | _, _ => none
theorem OpR.or {X : Cx} {f : Value → Value → Sem Value} {r r' : R2} (h : OpR X f r) (h' : OpR X f r') : OpR X f (fun x y H Q => r x y H Q ∨ r' x y H Q) :=
  fun pins s σ H x y v u Q I rx ry q => q.elim (h pins s σ H x y v u Q I rx ry) (h' pins s σ H x y v u Q I rx ry)
theorem dat_int {K : PySem.W.Frag} {H : Hp} {i : Int} {n : Nat} {v : V} {A B : List Addr} (h : Dat K H (.int i) n v A B) : v = .int i := by
  simp only [Dat] at h
  exact h.1
theorem dat_str {K : PySem.W.Frag} {H : Hp} {i : Str} {n : Nat} {v : V} {A B : List Addr} (h : Dat K H (.str i) n v A B) : v = .str i := by
  simp only [Dat] at h
  exact h.1
theorem dat_of_int {K : PySem.W.Frag} {H : Hp} {i : Int} (k : Nat) : Dat K H (.int i) k (.int i) [] [] := by simp [Dat]
theorem dat_of_str {K : PySem.W.Frag} {H : Hp} {i : Str} (k : Nat) : Dat K H (.str i) k (.str i) [] [] := by simp [Dat]
theorem dat_of_bl {K : PySem.W.Frag} {H : Hp} {i : Bool} (k : Nat) : Dat K H (.bl i) k (.bl i) [] [] := by simp [Dat]
theorem dat_of_non {K : PySem.W.Frag} {H : Hp} (k : Nat) : Dat K H .non k .non [] [] := by simp [Dat]
theorem dat_lst0 {K : PySem.W.Frag} {H : Hp} {ds : List D} {v : V} {B : List Addr} (h : Dat K H (.lst ds) 0 v [] B) : ∃ a xs R', v = .ref a ∧ H a = some (.lst xs) ∧ B = a :: R' ∧ Dats K H ds 0 xs [] R' := by
  simp only [Dat] at h
  obtain ⟨a, xs, R', e, q, _, r, d⟩ := h
  exact ⟨a, xs, R', e, q, r, d⟩
theorem dat_tup0 {K : PySem.W.Frag} {H : Hp} {ds : List D} {v : V} {B : List Addr} (h : Dat K H (.tup ds) 0 v [] B) : ∃ a xs, v = .ref a ∧ H a = some (.tup xs) ∧ Dats K H ds 0 xs [] B := by
  simp only [Dat] at h
  exact h
theorem dat_ftup0 {K : PySem.W.Frag} {H : Hp} {ds : List D} {v : V} {B : List Addr} (h : Dat K H (.ftup ds) 0 v [] B) : ∃ a xs, v = .ref a ∧ (∃ o : Obj, o.dict = none ∧ H a = some (.frz o (.tup xs))) ∧ Dats K H ds 0 xs [] B := by
  simp only [Dat] at h
  exact h
theorem sqt_frz {K : PySem.W.Frag} {H : Hp} {a : Addr} {xs : List V} (h : ∃ o : Obj, o.dict = none ∧ H a = some (.frz o (.tup xs))) : SqT K H a xs := let ⟨o, _, q⟩ := h; .inl (.inr ⟨o, q⟩)
theorem new_lst {K : PySem.W.Frag} {Z : Addr → Prop} {H : Hp} {Q : VK} {ds : List D} {xs : List V} {B : List Addr} {p : Addr} {n : Nat} (po : PostV K Z n true H Q (.lst ds)) (hp : H p = none) (hd : Dats K H ds (n - 1) xs [] B) (hb : ∀ a ∈ B, ¬ Z a) (hz : ∀ a, Z a → H a ≠ none) : Q (.ref p) (upd H p (.lst xs)) := by
  cases n with
  | zero =>
    refine po (.ref p) _ [] (p :: B) (same_new hp) ?_ (fun a ha z => ?_) fun _ => New.nil
    · unfold Dat
      exact ⟨p, xs, B, rfl, upd_same, rfl, rfl, hd.same (same_new hp)⟩
    · rcases List.mem_cons.mp ha with rfl | ha
      · exact hz _ z hp
      · exact hb a ha z
  | succ n =>
    refine po (.ref p) _ [p] B (same_new hp) ?_ hb fun _ => ⟨by simp, fun a z => by simp at z; rw [z]; exact ⟨hp, fun hB => Dats.domR hd p hB hp⟩⟩
    show Dat K _ (.lst ds) (n + 1) _ _ _
    unfold Dat
    exact ⟨p, xs, [], rfl, upd_same, rfl, hd.same (same_new hp)⟩
theorem new_tup {K : PySem.W.Frag} {Z : Addr → Prop} {H : Hp} {Q : VK} {ds : List D} {xs : List V} {B : List Addr} {p : Addr} {n : Nat} (po : PostV K Z n true H Q (.tup ds)) (hp : H p = none) (hd : Dats K H ds (n - 1) xs [] B) (hb : ∀ a ∈ B, ¬ Z a) : Q (.ref p) (upd H p (.tup xs)) := by
  refine po (.ref p) _ [] B (same_new hp) ?_ hb fun _ => New.nil
  unfold Dat
  exact ⟨p, xs, rfl, upd_same, hd.same (same_new hp)⟩
def rAdd (K : PySem.W.Frag) : R2 := fun x y H Q => (rI0 (fun i j => .int (i + j)) x y H Q ∨ ∃ i j, x = .str i ∧ y = .str j ∧ i.length + j.length ≤ sizeLine ∧ Q (.str (i ++ j)) H) ∨ (rCat x y H Q ∨ rCatA K x y H Q)
theorem op_addD {X : Cx} : OpR X (binaryOp .Add) (rAdd X.K) := OpR.or (OpR.or op_add op_add_str) (OpR.or op_cat op_catA)
theorem bv_add {K : PySem.W.Frag} {n : Nat} (hn : n ≤ 1 := by decide) : BinV K (rAdd K) gAdd n := by
  intro Z x y d e z H B1 B2 Q hz h1 h2 v1 v2 ez po
  unfold gAdd at ez
  split at ez
  · cases ez
    rename_i i j
    exact .inl (.inl ⟨i, j, dat_int h1, dat_int h2, po.flat rfl dat_of_int⟩)
  · rename_i i j
    split at ez
    · rename_i hl
      cases ez
      exact .inl (.inr ⟨i, j, dat_str h1, dat_str h2, hl, po.flat rfl dat_of_str⟩)
    · cases ez
  · rename_i i j
    split at ez
    · rename_i hl
      cases ez
      obtain ⟨a, xs, R1, rfl, q1, rfl, d1⟩ := dat_lst0 h1
      obtain ⟨b, ys, R2, rfl, q2, rfl, d2⟩ := dat_lst0 h2
      refine .inr (.inl ⟨a, b, xs, ys, rfl, rfl, q1, q2, by rw [d1.length, d2.length]; exact hl, fun p hp => ?_⟩)
      have dd : Dats K H (i ++ j) (n - 1) (xs ++ ys) ([] ++ []) (R1 ++ R2) := by
        rw [show n - 1 = 0 by omega]
        exact d1.append d2
      refine new_lst po hp dd (fun a ha => ?_) hz
      rcases List.mem_append.mp ha with ha | ha
      · exact v1 a (List.mem_cons_of_mem _ ha)
      · exact v2 a (List.mem_cons_of_mem _ ha)
    · cases ez
  · rename_i i j
    split at ez
    · rename_i hl
      cases ez
      obtain ⟨a, xs, rfl, q1, d1⟩ := dat_tup0 h1
      obtain ⟨b, ys, rfl, q2, d2⟩ := dat_tup0 h2
      have e0 : n - 1 = 0 := by omega
      refine .inr (.inr ⟨a, b, xs, ys, rfl, rfl, .of q1, .of q2, by rw [d1.length, d2.length]; exact hl, fun e => ?_, fun e e' => ?_, fun e e' p hp => ?_⟩)
      · subst e
        have : i = [] := List.length_eq_zero_iff.mp (by rw [← d1.length]; rfl)
        subst this
        refine po _ H [] B2 (Same.refl H) ?_ v2 fun _ => New.nil
        unfold Dat
        exact ⟨b, ys, rfl, q2, by rw [e0]; simpa using d2⟩
      · subst e'
        have : j = [] := List.length_eq_zero_iff.mp (by rw [← d2.length]; rfl)
        subst this
        refine po _ H [] B1 (Same.refl H) ?_ v1 fun _ => New.nil
        unfold Dat
        exact ⟨a, xs, rfl, q1, by rw [e0]; simpa using d1⟩
      · have dd : Dats K H (i ++ j) (n - 1) (xs ++ ys) ([] ++ []) (B1 ++ B2) := by
          rw [e0]
          exact d1.append d2
        refine new_tup po hp dd fun a ha => ?_
        rcases List.mem_append.mp ha with ha | ha
        · exact v1 a ha
        · exact v2 a ha
    · cases ez
  · cases ez
theorem bv_sub {K : PySem.W.Frag} {n : Nat} : BinV K (rI0 fun i j => .int (i - j)) gSub n := by
  intro Z x y d e z H B1 B2 Q hz h1 h2 v1 v2 ez po
  unfold gSub at ez
  split at ez
  · cases ez
    rename_i i j
    exact ⟨i, j, dat_int h1, dat_int h2, po.flat rfl dat_of_int⟩
  · cases ez
def rMul : R2 := fun x y H Q => (rI CMulW (fun i j => .int (i * j)) x y H Q ∨ rRep x y H Q) ∨ rRepS x y H Q
theorem op_mulD {X : Cx} : OpR X (binaryOp .Mult) rMul := OpR.or (OpR.or op_mulW op_rep) op_mulS
theorem Dats.rep {K : PySem.W.Frag} {H : Hp} {ds : List D} {n : Nat} {xs : List V} {R : List Addr} (h : Dats K H ds n xs [] R) : ∀ k : Nat, ∃ R', Dats K H (List.replicate k ds).flatten n (List.replicate k xs).flatten [] R' ∧ ∀ a ∈ R', a ∈ R
  | 0 => ⟨[], by simpa using Dats.nil, fun a z => by simp at z⟩
  | k + 1 => by
    obtain ⟨R', q, i⟩ := Dats.rep h k
    refine ⟨R ++ R', ?_, fun a ha => ?_⟩
    · rw [List.replicate_succ, List.replicate_succ, List.flatten_cons, List.flatten_cons]
      simpa using h.append q
    · rcases List.mem_append.mp ha with ha | ha
      · exact ha
      · exact i a ha
theorem bv_mul {K : PySem.W.Frag} {n : Nat} (hn : n ≤ 1 := by decide) : BinV K rMul gMul n := by
  intro Z x y d e z H B1 B2 Q hz h1 h2 v1 v2 ez po
  unfold gMul at ez
  split at ez
  · rename_i i j
    split at ez
    · rename_i hl
      cases ez
      exact .inl <| .inl ⟨i, j, dat_int h1, dat_int h2, hl, po.flat rfl dat_of_int⟩
    · cases ez
  · rename_i i k
    split at ez
    · rename_i hl
      cases ez
      obtain ⟨a, xs, R1, rfl, q1, rfl, d1⟩ := dat_lst0 h1
      obtain ⟨R', dd, hr⟩ := d1.rep k.toNat
      refine .inl <| .inr ⟨a, k, xs, rfl, dat_int h2, q1, hl.1, hl.2.1, by rw [d1.length]; exact hl.2.2, fun p hp => ?_⟩
      refine new_lst po hp (B := R') (by rw [show n - 1 = 0 by omega]; exact dd) (fun a ha => v1 a (List.mem_cons_of_mem _ (hr a ha))) hz
    · cases ez
  · rename_i s k
    split at ez
    · rename_i hl
      cases ez
      exact .inr ⟨s, k, dat_str h1, dat_int h2, hl.1, hl.2.1, hl.2.2, po.flat rfl dat_of_str⟩
    · cases ez
  · cases ez
theorem bv_div {K : PySem.W.Frag} {n : Nat} : BinV K (rI CDivW fun i j => .int (i / j)) gDiv n := by
  intro Z x y d e z H B1 B2 Q hz h1 h2 v1 v2 ez po
  unfold gDiv at ez
  split at ez
  · rename_i i j
    split at ez
    · rename_i hl
      cases ez
      exact ⟨i, j, dat_int h1, dat_int h2, hl, po.flat rfl dat_of_int⟩
    · cases ez
  · cases ez
theorem bv_mod {K : PySem.W.Frag} {n : Nat} : BinV K (rI (fun _ j => 0 < j) fun i j => .int (i % j)) gMod n := by
  intro Z x y d e z H B1 B2 Q hz h1 h2 v1 v2 ez po
  unfold gMod at ez
  split at ez
  · rename_i i j
    split at ez
    · rename_i hl
      cases ez
      exact ⟨i, j, dat_int h1, dat_int h2, hl, po.flat rfl dat_of_int⟩
    · cases ez
  · cases ez
theorem bv_pow {K : PySem.W.Frag} {n : Nat} : BinV K (rI CPow fun i j => .int (i ^ j.toNat)) gPow n := by
  intro Z x y d e z H B1 B2 Q hz h1 h2 v1 v2 ez po
  unfold gPow at ez
  split at ez
  · rename_i i j
    split at ez
    · rename_i hl
      cases ez
      exact ⟨i, j, dat_int h1, dat_int h2, hl, po.flat rfl dat_of_int⟩
    · cases ez
  · cases ez
section
variable {X : Cx} {W : WX} {Γ : List Nat} {n : Nat} {a b : Expr} {pos : Pos} {ma mb : Rho → Res D}
theorem re_add (ha : RE X W Γ 0 true a ma) (hb : RE X W Γ 0 true b mb) (hn : n ≤ 1 := by decide) : RE X W Γ n true (.BinOp a .Add b pos) (m2 gAdd ma mb) := re_bin op_addD (bv_add hn) ha hb
theorem re_sub (ha : RE X W Γ 0 true a ma) (hb : RE X W Γ 0 true b mb) : RE X W Γ n true (.BinOp a .Sub b pos) (m2 gSub ma mb) := re_bin op_sub bv_sub ha hb
theorem re_mul (ha : RE X W Γ 0 true a ma) (hb : RE X W Γ 0 true b mb) (hn : n ≤ 1 := by decide) : RE X W Γ n true (.BinOp a .Mult b pos) (m2 gMul ma mb) := re_bin op_mulD (bv_mul hn) ha hb
theorem re_div (ha : RE X W Γ 0 true a ma) (hb : RE X W Γ 0 true b mb) : RE X W Γ n true (.BinOp a .FloorDiv b pos) (m2 gDiv ma mb) := re_bin op_fdivW bv_div ha hb
theorem re_mod (ha : RE X W Γ 0 true a ma) (hb : RE X W Γ 0 true b mb) : RE X W Γ n true (.BinOp a .Mod b pos) (m2 gMod ma mb) := re_bin op_mod bv_mod ha hb
theorem re_pow (ha : RE X W Γ 0 true a ma) (hb : RE X W Γ 0 true b mb) : RE X W Γ n true (.BinOp a .Pow b pos) (m2 gPow ma mb) := re_bin op_pow bv_pow ha hb
end
end TW
-- TWExpr
namespace TW
open PySem PySem.Spec PyProof.Rows L2

def gLt : D → D → Option D
  | .int i, .int j => some (.bl (decide (i < j)))
  | _, _ => none
def gLe : D → D → Option D
  | .int i, .int j => some (.bl (decide (i ≤ j)))
  | _, _ => none
def gGt : D → D → Option D
  | .int i, .int j => some (.bl (decide (j < i)))
  | _, _ => none
def gGe : D → D → Option D
  | .int i, .int j => some (.bl (decide (j ≤ i)))
  | _, _ => none
mutual
def toPy : D → Option PyData
  | .non => some .none
  | .bl b => some (.bool b)
  | .int i => some (.int i)
  | .str s => some (.str s)
  | .lst l => (toPys l).map .list
  | .tup l => (toPys l).map .tuple
  | .dK _ _ => none
  | .dT _ _ => none
  | .scr _ => none
  | .junk => none
  | .ins _ _ _ => none
  | .nul _ => none
  | .ftup l => (toPys l).map .tuple
def toPys : List D → Option (List PyData)
  | [] => some []
  | d :: ds => (toPy d).bind fun p => (toPys ds).map fun r => p :: r
end
def gEq (d e : D) : Option D := (toPy d).bind fun p => (toPy e).bind fun q => if SeqAt.shaped p = true ∧ SeqAt.shaped q = true then some (.bl (PyData.eqv p q)) else none
def gNe (d e : D) : Option D := (toPy d).bind fun p => (toPy e).bind fun q => if SeqAt.shaped p = true ∧ SeqAt.shaped q = true then some (.bl (!PyData.eqv p q)) else none
section
variable {K : PySem.W.Frag} {H : Hp}
mutual
theorem Dat.dp : ∀ {d : D} {v : V} {R : List Addr} {p : PyData}, Dat K H d 0 v [] R → toPy d = some p → Dp K H v p
  | .non, _, _, _, h, e => by simp only [Dat] at h; simp only [toPy] at e; cases e; rw [h.1]; exact .non
  | .bl b, _, _, _, h, e => by simp only [Dat] at h; simp only [toPy] at e; cases e; rw [h.1]; exact .bl b
  | .int b, _, _, _, h, e => by simp only [Dat] at h; simp only [toPy] at e; cases e; rw [h.1]; exact .int b
  | .str b, _, _, _, h, e => by simp only [Dat] at h; simp only [toPy] at e; cases e; rw [h.1]; exact .str b
  | .lst l, _, _, _, h, e => by
    obtain ⟨a, xs, R', rfl, q, rfl, dd⟩ := dat_lst0 h
    simp only [toPy] at e
    cases ep : toPys l with
    | none => rw [ep] at e; cases e
    | some ps =>
      rw [ep] at e; cases e
      exact .lst (.of q) (Dats.dp dd ep)
  | .tup l, _, _, _, h, e => by
    obtain ⟨a, xs, rfl, q, dd⟩ := dat_tup0 h
    simp only [toPy] at e
    cases ep : toPys l with
    | none => rw [ep] at e; cases e
    | some ps =>
      rw [ep] at e; cases e
      exact .tup (.of q) (Dats.dp dd ep)
  | .ftup l, _, _, _, h, e => by
    obtain ⟨a, xs, rfl, q, dd⟩ := dat_ftup0 h
    simp only [toPy] at e
    cases ep : toPys l with
    | none => rw [ep] at e; cases e
    | some ps =>
      rw [ep] at e; cases e
      exact .tup (sqt_frz q) (Dats.dp dd ep)
  | .dK _ _, _, _, _, h, e => by simp only [toPy] at e; cases e
  | .dT _ _, _, _, _, h, e => by simp only [toPy] at e; cases e
  | .scr _, _, _, _, h, e => by simp only [toPy] at e; cases e
  | .junk, _, _, _, h, e => by simp only [toPy] at e; cases e
  | .ins _ _ _, _, _, _, h, e => by simp only [toPy] at e; cases e
  | .nul _, _, _, _, h, e => by simp only [toPy] at e; cases e
theorem Dats.dp : ∀ {ds : List D} {xs : List V} {R : List Addr} {ps : List PyData}, Dats K H ds 0 xs [] R → toPys ds = some ps → DpAll K H xs ps
  | [], _, _, _, h, e => by simp only [Dats] at h; simp only [toPys] at e; cases e; rw [h.1]; exact .nil
  | d :: ds, _, _, _, h, e => by
    simp only [Dats] at h
    obtain ⟨x, xs', S1, S2, R1, R2, rfl, e0, rfl, h1, h2⟩ := h
    obtain ⟨rfl, rfl⟩ := List.append_eq_nil_iff.mp e0.symm
    simp only [toPys] at e
    cases ep : toPy d with
    | none => rw [ep] at e; cases e
    | some p =>
      rw [ep] at e
      cases er : toPys ds with
      | none => rw [er] at e; cases e
      | some r =>
        rw [er] at e; cases e
        exact .cons (Dat.dp h1 ep) (Dats.dp h2 er)
end
end
section
variable {K : PySem.W.Frag}
theorem bf_lt : BinF K (rI0 fun i j => .bl (decide (i < j))) gLt := by
  intro x y d e z H B1 B2 Q h1 h2 ez po
  unfold gLt at ez
  split at ez
  · cases ez
    exact ⟨_, _, dat_int h1, dat_int h2, po rfl _ dat_of_bl⟩
  · cases ez
theorem bf_le : BinF K (rI0 fun i j => .bl (decide (i ≤ j))) gLe := by
  intro x y d e z H B1 B2 Q h1 h2 ez po
  unfold gLe at ez
  split at ez
  · cases ez
    exact ⟨_, _, dat_int h1, dat_int h2, po rfl _ dat_of_bl⟩
  · cases ez
theorem bf_gt : BinF K (rI0 fun i j => .bl (decide (j < i))) gGt := by
  intro x y d e z H B1 B2 Q h1 h2 ez po
  unfold gGt at ez
  split at ez
  · cases ez
    exact ⟨_, _, dat_int h1, dat_int h2, po rfl _ dat_of_bl⟩
  · cases ez
theorem bf_eq : BinF K (rEqD K) gEq := by
  intro x y d e z H B1 B2 Q h1 h2 ez po
  unfold gEq at ez
  cases ep : toPy d with
  | none => rw [ep] at ez; cases ez
  | some p =>
    cases eq : toPy e with
    | none => rw [ep, eq] at ez; cases ez
    | some q =>
      rw [ep, eq] at ez
      simp only [Option.bind_some] at ez
      split at ez
      · rename_i hs
        cases ez
        exact ⟨p, q, h1.dp ep, h2.dp eq, hs.1, hs.2, po rfl _ dat_of_bl⟩
      · cases ez
theorem bf_ne : BinF K (rNeD K) gNe := by
  intro x y d e z H B1 B2 Q h1 h2 ez po
  unfold gNe at ez
  cases ep : toPy d with
  | none => rw [ep] at ez; cases ez
  | some p =>
    cases eq : toPy e with
    | none => rw [ep, eq] at ez; cases ez
    | some q =>
      rw [ep, eq] at ez
      simp only [Option.bind_some] at ez
      split at ez
      · rename_i hs
        cases ez
        exact ⟨p, q, h1.dp ep, h2.dp eq, hs.1, hs.2, po rfl _ dat_of_bl⟩
      · cases ez
end
def gIsN : D → D → Option D
  | d, .non => match d with
    | .non => some (.bl true)
    | .junk => none
    | .ins _ _ _ => none
    | .nul _ => none
    | _ => some (.bl false)
  | _, _ => none
def gNotN : D → D → Option D
  | d, .non => match d with
    | .non => some (.bl false)
    | .junk => none
    | .ins _ _ _ => none
    | .nul _ => none
    | _ => some (.bl true)
  | _, _ => none
def D.known : D → Bool
  | .junk => false
  | .ins _ _ _ => false
  | .nul _ => false
  | _ => true
theorem dat_isN {K : PySem.W.Frag} {H : Hp} {d : D} {n : Nat} {v : V} {A B : List Addr} (h : Dat K H d n v A B) (hj : d.known = true) : (v = .non) ↔ d = .non := by
  cases d with
  | junk => cases hj
  | ins _ _ _ => cases hj
  | nul _ => cases hj
  | non => simp only [Dat] at h; simp [h.1]
  | bl b => simp only [Dat] at h; simp [h.1]
  | int b => simp only [Dat] at h; simp [h.1]
  | str b => simp only [Dat] at h; simp [h.1]
  | lst l => cases n <;> (simp only [Dat] at h; obtain ⟨a, _, _, rfl, _⟩ := h; simp)
  | tup l => simp only [Dat] at h; obtain ⟨a, _, rfl, _⟩ := h; simp
  | ftup l => simp only [Dat] at h; obtain ⟨a, _, rfl, _⟩ := h; simp
  | dK _ l => cases n <;> (simp only [Dat] at h; obtain ⟨a, _, _, rfl, _⟩ := h; simp)
  | dT _ l => cases n <;> (simp only [Dat] at h; obtain ⟨a, _, _, rfl, _⟩ := h; simp)
  | scr l => simp only [Dat] at h; obtain ⟨⟨a, rfl, _⟩, _⟩ := h; simp
section
variable {X : Cx} {W : WX} {Γ : List Nat} {n n1 n2 : Nat} {f1 f2 : Bool} {a b c : Expr} {pos pos' : Pos} {ma mb mc : Rho → Res D} {j : Nat}
theorem dec_isN {K : PySem.W.Frag} {H : Hp} {d : D} {n : Nat} {v : V} {A B : List Addr} (h : Dat K H d n v A B) {z : D} (e : gIsN d .non = some z) : z = .bl (decide (v = .non)) := by
  have hj : d.known = true := by cases d <;> first | rfl | cases e
  have q := dat_isN h hj
  cases d with
  | junk => cases e
  | ins _ _ _ => cases e
  | nul _ => cases e
  | non => cases e; rw [decide_eq_true (q.mpr rfl)]
  | bl b => cases e; rw [decide_eq_false fun z => D.noConfusion (q.mp z)]
  | int b => cases e; rw [decide_eq_false fun z => D.noConfusion (q.mp z)]
  | str b => cases e; rw [decide_eq_false fun z => D.noConfusion (q.mp z)]
  | lst l => cases e; rw [decide_eq_false fun z => D.noConfusion (q.mp z)]
  | tup l => cases e; rw [decide_eq_false fun z => D.noConfusion (q.mp z)]
  | ftup l => cases e; rw [decide_eq_false fun z => D.noConfusion (q.mp z)]
  | dK _ l => cases e; rw [decide_eq_false fun z => D.noConfusion (q.mp z)]
  | dT _ l => cases e; rw [decide_eq_false fun z => D.noConfusion (q.mp z)]
  | scr l => cases e; rw [decide_eq_false fun z => D.noConfusion (q.mp z)]
theorem re_isN (ha : RE X W Γ n1 f1 a ma) : RE X W Γ n true (.Compare a [.Is] [.Constant .none j pos'] pos) (m1 (fun d => gIsN d .non) ma) := by
  obtain ⟨ta, pa, qa⟩ := ha
  refine ⟨_, pe_cmp (pc_isN pa), fun F H0 ρ σ H S R Q st po => ?_⟩
  refine qa F H0 ρ σ H S R _ st (PostE.iff.mpr ((PostE.iff.mp po).bind.imp fun d _ po => ?_))
  intro x H1 A B s1 d1 _ _
  obtain ⟨z, ez, po⟩ := PostE.ofO (PostE.iff.mpr po)
  obtain rfl := dec_isN d1 ez
  exact PostV.flat (PostV.later po s1) rfl dat_of_bl
theorem rt_isN (ha : RE X W Γ n1 f1 a ma) : RT X W Γ (.Compare a [.Is] [.Constant .none j pos'] pos) (mT (m1 (fun d => gIsN d .non) ma)) := by
  obtain ⟨ta, pa, qa⟩ := ha
  refine ⟨_, pt_cmp (pc_isN pa), fun F H0 ρ σ H S R Q st po => ?_⟩
  unfold mT m1 at po
  refine qa F H0 ρ σ H S R _ st (PostE.iff.mpr ((PostT.iff.mp po).bind.bind.imp fun d _ po => ?_))
  intro x H1 A B s1 d1 _ _
  dsimp only at po
  cases ez : gIsN d .non with
  | none => rw [ez] at po; exact po.elim
  | some z =>
    rw [ez] at po
    obtain rfl := dec_isN d1 ez
    exact ⟨_, rfl, po H1 s1⟩
theorem re_gt (ha : RE X W Γ n1 f1 a ma) (hb : RE X W Γ n2 f2 b mb) : RE X W Γ n true (.Compare a [.Gt] [b] pos) (m2 gGt ma mb) := re_cmp op_gt bf_gt (nomark _) ha hb
theorem re_eq (hu : X.A.units + 64 < cLine) (ha : RE X W Γ n1 f1 a ma) (hb : RE X W Γ n2 f2 b mb) : RE X W Γ n true (.Compare a [.Eq] [b] pos) (m2 gEq ma mb) := re_cmp (op_eqD hu) bf_eq (nomark _) ha hb
theorem rt_lt (ha : RE X W Γ n1 f1 a ma) (hb : RE X W Γ n2 f2 b mb) : RT X W Γ (.Compare a [.Lt] [b] pos) (mT (m2 gLt ma mb)) := rt_cmp op_lt bf_lt (nomark _) ha hb
theorem rt_gt (ha : RE X W Γ n1 f1 a ma) (hb : RE X W Γ n2 f2 b mb) : RT X W Γ (.Compare a [.Gt] [b] pos) (mT (m2 gGt ma mb)) := rt_cmp op_gt bf_gt (nomark _) ha hb
theorem rt_eq (hu : X.A.units + 64 < cLine) (ha : RE X W Γ n1 f1 a ma) (hb : RE X W Γ n2 f2 b mb) : RT X W Γ (.Compare a [.Eq] [b] pos) (mT (m2 gEq ma mb)) := rt_cmp (op_eqD hu) bf_eq (nomark _) ha hb
theorem rt_ne (hu : X.A.units + 64 < cLine) (ha : RE X W Γ n1 f1 a ma) (hb : RE X W Γ n2 f2 b mb) : RT X W Γ (.Compare a [.NotEq] [b] pos) (mT (m2 gNe ma mb)) := rt_cmp (op_neD hu) bf_ne (nomark _) ha hb
end

def mAnd (a b : Rho → Res D) : Rho → Res D := fun ρ => (a ρ).bind fun d => match d with
  | .bl true => b ρ
  | .bl false => .ok (.bl false)
  | _ => .stuck
def mOr (a b : Rho → Res D) : Rho → Res D := fun ρ => (a ρ).bind fun d => match d with
  | .bl true => .ok (.bl true)
  | .bl false => b ρ
  | _ => .stuck
def gNot : D → Option D
  | .bl b => some (.bl (!b))
  | _ => none
def tAndM (a b : Rho → Res Bool) : Rho → Res Bool := fun ρ => (a ρ).bind fun d => if d = true then b ρ else .ok false
def tOrM (a b : Rho → Res Bool) : Rho → Res Bool := fun ρ => (a ρ).bind fun d => if d = true then .ok true else b ρ
def tNotM (a : Rho → Res Bool) : Rho → Res Bool := fun ρ => (a ρ).bind fun d => .ok (!d)
def RW (X : Cx) (W : WX) (Γ : List Nat) (e : Expr) (m : Rho → Res Bool) : Prop :=
  ∃ t, PW X e t ∧ ∀ F H0 ρ σ H S R Q, Sto X.K F H0 Γ ρ σ H S R → PostT X W σ H Q (m ρ) → t σ H Q
section
variable {X : Cx} {W : WX} {Γ : List Nat} {n n1 n2 : Nat} {f1 f2 : Bool} {a b c : Expr} {rest : List Expr} {pos : Pos} {ma mb mc : Rho → Res D} {ta' tb' : Rho → Res Bool}
theorem re_one {op} (h : RE X W Γ n true a ma) : RE X W Γ n true (.BoolOp op [a] pos) ma := by
  obtain ⟨ta, pa, qa⟩ := h
  exact ⟨_, pe_one pa, qa⟩
theorem re_and (ha : RE X W Γ n1 f1 a ma) (hb : RE X W Γ n true (.BoolOp .And (b :: rest) pos) mb) : RE X W Γ n true (.BoolOp .And (a :: b :: rest) pos) (mAnd ma mb) := by
  obtain ⟨ta, pa, qa⟩ := ha
  obtain ⟨tb, pb, qb⟩ := hb
  refine ⟨_, pe_and pa pb, fun F H0 ρ σ H S R Q st po => ?_⟩
  refine qa F H0 ρ σ H S R _ st (PostE.iff.mpr ((PostE.iff.mp po).bind.imp fun d _ po => ?_))
  intro x H1 A B s1 d1 _ _
  cases d with
  | bl k =>
    refine ⟨k, dat_bl d1, ?_⟩
    cases k with
    | true => exact iteT (qb F H0 ρ σ H1 S R _ (st.grow s1) (PostE.later (PostE.iff.mpr po) s1))
    | false => exact iteF (PostV.flat (PostV.later po s1) rfl dat_of_bl)
  | _ => exact po.elim
theorem re_not (ha : RE X W Γ n1 f1 a ma) : RE X W Γ n true (.UnaryOp .Not a pos) (m1 gNot ma) := by
  obtain ⟨ta, pa, qa⟩ := ha
  refine ⟨_, pe_not pa, fun F H0 ρ σ H S R Q st po => ?_⟩
  refine qa F H0 ρ σ H S R _ st (PostE.iff.mpr ((PostE.iff.mp po).bind.imp fun d _ po => ?_))
  intro x H1 A B s1 d1 _ _
  cases d with
  | bl k => exact ⟨k, dat_bl d1, PostV.flat (PostV.later po s1) rfl dat_of_bl⟩
  | _ => exact po.elim
theorem RW.t {t : Rho → Res Bool} (h : RW X W Γ a t) : RT X W Γ a t := by
  obtain ⟨t, p, q⟩ := h
  exact ⟨t, p.pt, q⟩
theorem rw_and1 {t : Rho → Res Bool} (ha : RT X W Γ a t) : RW X W Γ (.BoolOp .And [a] pos) t := by
  obtain ⟨t, p, q⟩ := ha
  exact ⟨t, pw_and1 p, q⟩
theorem rw_or1 {t : Rho → Res Bool} (ha : RT X W Γ a t) : RW X W Γ (.BoolOp .Or [a] pos) t := by
  obtain ⟨t, p, q⟩ := ha
  exact ⟨t, pw_or1 p, q⟩
theorem rw_and (ha : RT X W Γ a ta') (hb : RW X W Γ (.BoolOp .And (b :: rest) pos) tb') : RW X W Γ (.BoolOp .And (a :: b :: rest) pos) (tAndM ta' tb') := by
  obtain ⟨ta, pa, qa⟩ := ha
  obtain ⟨tb, pb, qb⟩ := hb
  refine ⟨_, pw_and pa pb, fun F H0 ρ σ H S R Q st po => ?_⟩
  refine qa F H0 ρ σ H S R _ st (PostT.iff.mpr ((PostT.iff.mp po).bind.imp fun d _ po => ?_))
  intro H1 s1
  cases d with
  | true => exact iteT (qb F H0 ρ σ H1 S R _ (st.grow s1) (PostT.later (PostT.iff.mpr po) s1))
  | false => exact iteF (po H1 s1)
theorem rw_or (ha : RT X W Γ a ta') (hb : RW X W Γ (.BoolOp .Or (b :: rest) pos) tb') : RW X W Γ (.BoolOp .Or (a :: b :: rest) pos) (tOrM ta' tb') := by
  obtain ⟨ta, pa, qa⟩ := ha
  obtain ⟨tb, pb, qb⟩ := hb
  refine ⟨_, pw_or pa pb, fun F H0 ρ σ H S R Q st po => ?_⟩
  refine qa F H0 ρ σ H S R _ st (PostT.iff.mpr ((PostT.iff.mp po).bind.imp fun d _ po => ?_))
  intro H1 s1
  cases d with
  | false => exact iteF (qb F H0 ρ σ H1 S R _ (st.grow s1) (PostT.later (PostT.iff.mpr po) s1))
  | true => exact iteT (po H1 s1)
theorem rt_not (ha : RT X W Γ a ta') : RT X W Γ (.UnaryOp .Not a pos) (tNotM ta') := by
  obtain ⟨ta, pa, qa⟩ := ha
  refine ⟨_, pt_not pa, fun F H0 ρ σ H S R Q st po => ?_⟩
  exact qa F H0 ρ σ H S R _ st (PostT.iff.mpr ((PostT.iff.mp po).bind.imp fun d _ po => po))
def mChain (g g' : D → D → Option D) (a b c : Rho → Res D) : Rho → Res D := fun ρ => (a ρ).bind fun x => (b ρ).bind fun y => (ofO (g x y)).bind fun z => match z with
  | .bl true => (c ρ).bind fun w => ofO (g' y w)
  | .bl false => .ok (.bl false)
  | _ => .stuck
theorem chain_run {r r' : R2} {g g' : D → D → Option D} (hv : BinF X.K r g) (hv' : BinF X.K r' g') {ta tb tc : TE} {F : Fr} {H0 : Hp} {ρ : Rho} {σ : L2.St} {H : Hp} {S R : Nat → List Addr} {Q : VK}
    (qa : ∀ F H0 ρ σ H S R Q, Sto X.K F H0 Γ ρ σ H S R → PostE X W (Av F S) 0 true σ H Q (ma ρ) → ta σ H Q) (qb : ∀ F H0 ρ σ H S R Q, Sto X.K F H0 Γ ρ σ H S R → PostE X W (Av F S) 0 true σ H Q (mb ρ) → tb σ H Q)
    (qc : ∀ F H0 ρ σ H S R Q, Sto X.K F H0 Γ ρ σ H S R → PostE X W (Av F S) 0 true σ H Q (mc ρ) → tc σ H Q)
    (st : Sto X.K F H0 Γ ρ σ H S R) (po : PostX X W σ H (fun z => ∀ H', Same H H' → z.flat = true → ∀ v, (∀ k, Dat X.K H' z k v [] []) → Q v H') (mChain g g' ma mb mc ρ)) : tChain r r' ta tb tc σ H Q := by
  unfold mChain at po
  refine qa F H0 ρ σ H S R _ st (PostE.iff.mpr (po.bind.imp fun d _ po => ?_))
  intro x H1 A B s1 d1 _ _
  refine qb F H0 ρ σ H1 S R _ (st.grow s1) (PostE.iff.mpr (po.bind.later s1 fun e ee po => ?_))
  intro y H2 A' B' s2 d2 _ _
  obtain rfl : A = [] := Dat.noS d1
  obtain rfl : A' = [] := Dat.noS d2
  cases ez : g d e with
  | none => rw [ez] at po; exact po.elim
  | some z =>
    rw [ez] at po
    refine hv x y d e z H2 B B' _ (d1.same s2) d2 ez fun fz v hz => ?_
    simp only [ofO_some, Res.bind_ok] at po
    cases z with
    | bl k =>
      refine ⟨k, dat_bl (hz 0), ?_⟩
      cases k with
      | false => exact iteF (po H2 (s1.trans s2) rfl _ dat_of_bl)
      | true =>
        refine iteT (qc F H0 ρ σ H2 S R _ ((st.grow s1).grow s2) (PostE.iff.mpr (PostX.bind po |>.later (s1.trans s2) fun w ew po => ?_)))
        intro u H3 A3 B3 s3 d3 _ _
        obtain rfl : A3 = [] := Dat.noS d3
        cases ez2 : g' e w with
        | none => rw [ez2] at po; exact po.elim
        | some z2 =>
          rw [ez2] at po
          exact hv' y u e w z2 H3 B' B3 Q (d2.same s3) d3 ez2 (po H3 ((s1.trans s2).trans s3))
    | _ => exact po.elim
theorem re_chain {op op' : CmpOp} {r r' : R2} {g g' : D → D → Option D} (ho : OpR X (compareOp op) r) (ho' : OpR X (compareOp op') r') (hv : BinF X.K r g) (hv' : BinF X.K r' g') (ha : RE X W Γ 0 true a ma) (hb : RE X W Γ 0 true b mb) (hc : RE X W Γ 0 true c mc)
    (hm : lastMarks [op, op'] [b, c] = false := by with_unfolding_all rfl) : RE X W Γ n true (.Compare a [op, op'] [b, c] pos) (mChain g g' ma mb mc) := by
  obtain ⟨ta, pa, qa⟩ := ha
  obtain ⟨tb, pb, qb⟩ := hb
  obtain ⟨tc, pc, qc⟩ := hc
  exact ⟨_, pe_chain ho ho' pa pb pc hm, fun F H0 ρ σ H S R Q st po => chain_run hv hv' qa qb qc st ((PostE.iff.mp po).imp fun z _ po H' s f v hd =>
    po v H' [] [] s (hd n) (fun a z => by simp at z) fun _ => New.nil)⟩
theorem rt_chain {op op' : CmpOp} {r r' : R2} {g g' : D → D → Option D} (ho : OpR X (compareOp op) r) (ho' : OpR X (compareOp op') r') (hv : BinF X.K r g) (hv' : BinF X.K r' g') (ha : RE X W Γ 0 true a ma) (hb : RE X W Γ 0 true b mb) (hc : RE X W Γ 0 true c mc)
    (hm : lastMarks [op, op'] [b, c] = false := by with_unfolding_all rfl) : RT X W Γ (.Compare a [op, op'] [b, c] pos) (mT (mChain g g' ma mb mc)) := by
  obtain ⟨ta, pa, qa⟩ := ha
  obtain ⟨tb, pb, qb⟩ := hb
  obtain ⟨tc, pc, qc⟩ := hc
  refine ⟨_, pt_chain ho ho' pa pb pc hm, fun F H0 ρ σ H S R Q st po => ?_⟩
  unfold mT at po
  refine chain_run (Q := fun x H1 => ∃ k, x = .bl k ∧ Q k H1) hv hv' qa qb qc st ((PostT.iff.mp po).bind.imp fun z _ po H' s f v hd => ?_)
  cases z with
  | bl c => exact ⟨c, dat_bl (hd 0), po H' s⟩
  | _ => exact po.elim
end
end TW
-- TWDict0
namespace TW
open PySem PySem.Spec PyProof.Rows L2
def keyD : D → Option Key
  | .int i => some (.inl i)
  | .str s => some (.inr s)
  | _ => none
def keysD : List D → Option (List Key)
  | [] => some []
  | d :: ds => (keyD d).bind fun k => (keysD ds).map fun r => k :: r
def lookK {κ : Type} [DecidableEq κ] : List κ → List D → κ → Option D
  | j :: ks, d :: ds, k => if j = k then some d else lookK ks ds k
  | _, _, _ => none
def lookD (d k : D) : Option (Option D) := match d with
  | .dK ks vs => (keyD k).map fun k => lookK ks vs k
  | .dT ks vs => match k with
    | .tup l => (keysD l).map fun k => lookK ks vs k
    | _ => none
  | _ => none
section
variable {K : PySem.W.Frag} {H : Hp}
theorem dat_key {d : D} {k : Key} {n : Nat} {x : V} {S R : List Addr} (h : Dat K H d n x S R) (e : keyD d = some k) : x = kV k := by
  cases d with
  | int i => cases e; exact dat_int h
  | str s => cases e; exact dat_str h
  | _ => cases e
theorem dats_keys : ∀ {ds : List D} {ks : List Key} {n : Nat} {xs : List V} {S R : List Addr}, Dats K H ds n xs S R → keysD ds = some ks → xs = ks.map kV
  | [], _, _, _, _, _, h, e => by
    cases e
    simp only [Dats] at h
    rw [h.1]; rfl
  | d :: ds, _, _, _, _, _, h, e => by
    unfold Dats at h
    obtain ⟨x, xs', S1, S2, R1, R2, rfl, rfl, rfl, h1, h2⟩ := h
    unfold keysD at e
    cases e1 : keyD d with
    | none => rw [e1] at e; cases e
    | some k =>
      rw [e1] at e
      cases e2 : keysD ds with
      | none => rw [e2] at e; cases e
      | some r =>
        rw [e2] at e
        cases e
        rw [dat_key h1 e1, dats_keys h2 e2]
        rfl
def Fnd (K : PySem.W.Frag) (H : Hp) (n : Nat) (A B : List Addr) : Option D → Option V → Prop
  | none, r => r = none
  | some z, r => ∃ v S' R', r = some v ∧ Dat K H z n v S' R' ∧ S'.Sublist A ∧ ∀ a ∈ R', a ∈ B
theorem Fnd.more {n : Nat} {A B A' B' : List Addr} {o : Option D} {r : Option V} (h : Fnd K H n A B o r) (hA : A.Sublist A') (hB : ∀ a ∈ B, a ∈ B') : Fnd K H n A' B' o r := by
  cases o with
  | none => exact h
  | some z =>
    obtain ⟨v, S', R', a1, a2, a3, a4⟩ := h
    exact ⟨v, S', R', a1, a2, a3.trans hA, fun a ha => hB a (a4 a ha)⟩
theorem dats_look {κ : Type} [DecidableEq κ] {k : κ} : ∀ {ws : List (κ × V)} {ds : List D} {n : Nat} {S R : List Addr}, Dats K H ds n (ws.map (·.2)) S R → Fnd K H n S R (lookK (ws.map (·.1)) ds k) (valV ws k)
  | [], ds, n, S, R, h => by
    have : lookK ([] : List κ) ds k = none := by cases ds <;> rfl
    rw [List.map_nil, this]
    rfl
  | w :: ws, [], n, S, R, h => by simp only [Dats] at h; simp at h
  | w :: ws, d :: ds, n, S, R, h => by
    unfold Dats at h
    obtain ⟨x, xs', S1, S2, R1, R2, e, rfl, rfl, h1, h2⟩ := h
    simp only [List.map_cons, List.cons.injEq] at e
    obtain ⟨rfl, rfl⟩ := e
    have ih := dats_look (k := k) h2
    simp only [List.map_cons, lookK]
    by_cases e : w.1 = k
    · rw [if_pos e]
      exact ⟨w.2, S1, R1, valV_pos e, h1, List.sublist_append_left _ _, fun a ha => List.mem_append_left _ ha⟩
    · rw [if_neg e, valV_neg e]
      exact ih.more (List.sublist_append_right _ _) fun a ha => List.mem_append_right _ ha
theorem look_at {d e : D} {o : Option D} {n : Nat} {x y : V} {A B B2 : List Addr} (h : Dat K H d n x A B) (hy : Dat K H e 0 y [] B2) (ez : lookD d e = some o) :
    ∃ a r, x = .ref a ∧ DGet H a y r ∧ Fnd K H (n - 1) A B o r := by
  cases d with
  | dK ks vs =>
    simp only [lookD, Option.map_eq_some_iff] at ez
    obtain ⟨k, ek, rfl⟩ := ez
    have ey := dat_key hy ek
    cases n with
    | zero =>
      unfold Dat at h
      obtain ⟨a, ws, R', rfl, q, rfl, rfl, rfl, hd⟩ := h
      exact ⟨a, _, rfl, .inl ⟨ws, k, q, ey, rfl⟩, (dats_look hd).more (.refl _) fun a ha => List.mem_cons_of_mem _ ha⟩
    | succ n =>
      unfold Dat at h
      obtain ⟨a, ws, S1, rfl, q, rfl, rfl, hd⟩ := h
      exact ⟨a, _, rfl, .inl ⟨ws, k, .of q, ey, rfl⟩, (dats_look hd).more (List.sublist_cons_self _ _) fun a ha => ha⟩
  | dT ks vs =>
    unfold lookD at ez
    cases e with
    | tup l =>
      simp only [Option.map_eq_some_iff] at ez
      obtain ⟨k, ek, rfl⟩ := ez
      obtain ⟨b, xs, rfl, hb, hl⟩ := dat_tup0 hy
      obtain rfl := dats_keys hl ek
      cases n with
      | zero =>
        unfold Dat at h
        obtain ⟨a, ws, R', rfl, q, rfl, rfl, rfl, hd⟩ := h
        exact ⟨a, _, rfl, .inr ⟨ws, k, b, q, rfl, hb, rfl⟩, (dats_look hd).more (.refl _) fun a ha => List.mem_cons_of_mem _ ha⟩
      | succ n =>
        unfold Dat at h
        obtain ⟨a, ws, S1, rfl, q, rfl, rfl, hd⟩ := h
        exact ⟨a, _, rfl, .inr ⟨ws, k, b, .of q, rfl, hb, rfl⟩, (dats_look hd).more (List.sublist_cons_self _ _) fun a ha => ha⟩
    | _ => cases ez
  | _ => cases ez
end
def rIxD : R2 := fun x y H Q => ∃ a v, x = .ref a ∧ DGet H a y (some v) ∧ Q v H
theorem ix_dict {X : Cx} (hu : X.A.units + 1 < cLine) : IxR X rIxD := by
  intro value slice pins s σ H x y v u Q I rx ry h hs
  obtain ⟨a, z, rfl, g, q⟩ := h
  cases rx
  exact tail_any (dict_typeIs I g) PySem.F.slot_dict_getitem.lookup (d_getItem hu I g ry fun w s2 I2 rw2 => ⟨z, H, I2, rw2, q⟩) hs
def rInDict (k : Bool) : R2 := fun x y H Q => ∃ a o, y = .ref a ∧ DGet H a x o ∧ Q (.bl (if k = true then o.isSome else !o.isSome)) H
theorem op_inDict {X : Cx} (hu : X.A.units + 1 < cLine) : OpR X (compareOp .In) (rInDict true) := by
  intro pins s σ H x y v u Q I rx ry h
  obtain ⟨a, o, rfl, g, q⟩ := h
  cases ry
  exact d_in hu I g rx fun s3 I3 => ⟨.bl o.isSome, H, I3, rfl, q⟩
theorem op_notInDict {X : Cx} (hu : X.A.units + 1 < cLine) : OpR X (compareOp .NotIn) (rInDict false) := by
  intro pins s σ H x y v u Q I rx ry h
  obtain ⟨a, o, rfl, g, q⟩ := h
  cases ry
  exact d_notIn hu I g rx fun s3 I3 => ⟨.bl (!o.isSome), H, I3, rfl, q⟩
end TW
-- TWCall
namespace TW
open PySem PySem.Spec PyProof.Rows L2

section
variable {X : Cx} {W : WX} {Γ : List Nat} {n : Nat} {e : Expr} {es : List Expr} {pos : Pos} {me : Rho → Res D} {mes : Rho → Res (List D)}
theorem ra_nil : RA X W Γ n true [] mA0 := by
  refine ⟨fun ρ ds e => by cases e; rfl, _, pa_nil, fun F H0 ρ σ H S R Q st po => ?_⟩
  exact po [] H [] [] (Same.refl H) .nil (fun a z => by simp at z) fun _ => New.nil
theorem ra_cons (he : RE X W Γ n true e me) (hes : RA X W Γ n true es mes) (hs : starEach (e :: es) X.env = (false, eval e X.env) :: starEach es X.env := by rfl) : RA X W Γ n true (e :: es) (mA1 me mes) := by
  obtain ⟨ta, pa, qa⟩ := he
  obtain ⟨lb, tb, pb, qb⟩ := hes
  refine ⟨fun ρ ds e => ?_, _, pa_cons pa pb hs, fun F H0 ρ σ H S R Q st po => ?_⟩
  · unfold mA1 at e
    cases e1 : me ρ with
    | ok d =>
      rw [e1] at e
      cases e2 : mes ρ with
      | ok r =>
        rw [e2] at e
        cases e
        simp [lb ρ r e2]
      | exn c => rw [e2] at e; cases e
      | stuck => rw [e2] at e; cases e
    | exn c => rw [e1] at e; cases e
    | stuck => rw [e1] at e; cases e
  refine qa F H0 ρ σ H S R _ st (PostE.iff.mpr ((PostA.iff.mp po).bind.imp fun d _ po => ?_))
  intro x H1 A B s1 d1 v1 f1
  obtain ⟨n1, w1⟩ := f1 rfl
  refine qb (F.plus A) H0 ρ σ H1 S R _ ((st.grow s1).more (fun a ha => Dat.dom d1 a ha) (fun a ha i hi => st.domS i a hi (w1 a ha).1) fun a ha i hi => st.domR i a hi (w1 a ha).1) (PostA.iff.mpr (po.bind.later s1 fun ds _ po => ?_))
  intro xs H2 A' B' s2 d2 v2 f2
  refine po (x :: xs) H2 (A ++ A') (B ++ B') (s1.trans s2) (.cons (d1.same s2) d2) (fun a ha => ?_) fun _ => ?_
  · rcases List.mem_append.mp ha with ha | ha
    · exact v1 a ha
    · exact fun z => v2 a ha (z.imp .inl id)
  · obtain ⟨n2, w2⟩ := f2 rfl
    refine ⟨List.nodup_append.mpr ⟨n1, n2, fun a ha b hb e => ?_⟩, fun a ha => ?_⟩
    · subst e
      exact Dat.dom d1 a ha (w2 a hb).1
    · rcases List.mem_append.mp ha with ha | ha
      · refine ⟨(w1 a ha).1, fun hB => ?_⟩
        rcases List.mem_append.mp hB with hB | hB
        · exact (w1 a ha).2 hB
        · exact v2 a hB (.inl (.inr ha))
      · refine ⟨s1.free (w2 a ha).1, fun hB => ?_⟩
        rcases List.mem_append.mp hB with hB | hB
        · exact Dat.domR d1 a hB (w2 a ha).1
        · exact (w2 a ha).2 hB
def gLst (l : List D) : Option D := if l.length ≤ sizeLine then some (.lst l) else none
def gTup (l : List D) : Option D := if l.length ≤ sizeLine then some (.tup l) else none
theorem PostA.ofO {X : Cx} {W : WX} {σ : L2.St} {H : Hp} {g : List D → Option D} {l : List D} {ok : D → Prop} (h : PostX X W σ H ok (ofO (g l))) : ∃ z, g l = some z ∧ ok z := by
  cases e : g l with
  | none => rw [e] at h; exact h.elim
  | some z => rw [e] at h; exact ⟨z, rfl, h⟩
theorem re_lst (he : RA X W Γ n true es mes) : RE X W Γ (n + 1) true (.List es pos) (mL gLst mes) := by
  obtain ⟨_, ta, pa, qa⟩ := he
  refine ⟨_, pe_lst pa, fun F H0 ρ σ H S R Q st po => ?_⟩
  refine qa F H0 ρ σ H S R _ st (PostA.iff.mpr ((PostE.iff.mp po).bind.imp fun d _ po => ?_))
  intro xs H1 A B s1 d1 v1 f1
  obtain ⟨z, ez, po⟩ := PostA.ofO po
  unfold gLst at ez
  split at ez
  · rename_i hl
    cases ez
    obtain ⟨nd, nw⟩ := f1 rfl
    refine ⟨by rw [d1.length]; exact hl, fun p hp => ?_⟩
    refine po (.ref p) _ (p :: A) B (s1.trans (same_new hp)) ?_ v1 fun _ => ⟨List.nodup_cons.mpr ⟨fun z => Dats.dom d1 p z hp, nd⟩, fun a ha => ?_⟩
    · unfold Dat
      exact ⟨p, xs, A, rfl, upd_same, rfl, d1.same (same_new hp)⟩
    · rcases List.mem_cons.mp ha with rfl | ha
      · exact ⟨s1.free hp, fun hB => Dats.domR d1 _ hB hp⟩
      · exact nw a ha
  · cases ez
theorem re_tup {j} (he : RA X W Γ (n - 1) true es mes) : RE X W Γ n true (.Tuple es j pos) (mL gTup mes) := by
  obtain ⟨_, ta, pa, qa⟩ := he
  refine ⟨_, pe_tup pa, fun F H0 ρ σ H S R Q st po => ?_⟩
  refine qa F H0 ρ σ H S R _ st (PostA.iff.mpr ((PostE.iff.mp po).bind.imp fun d _ po => ?_))
  intro xs H1 A B s1 d1 v1 f1
  obtain ⟨z, ez, po⟩ := PostA.ofO po
  unfold gTup at ez
  split at ez
  · rename_i hl
    cases ez
    refine ⟨by rw [d1.length]; exact hl, fun p hp => ?_⟩
    refine po (.ref p) _ A B (s1.trans (same_new hp)) ?_ v1 f1
    unfold Dat
    exact ⟨p, xs, rfl, upd_same, d1.same (same_new hp)⟩
  · cases ez
end

def RB (X : Cx) (W : WX) (Γ : List Nat) (e : Expr) (m : Rho → Res D) : Prop :=
  ∃ t, PE X e t ∧ ∀ F H0 ρ σ H S R Q, Sto X.K F H0 Γ ρ σ H S R → PostX X W σ H (fun d => ∀ x H' B, Same H H' → Dat X.K H' d 0 x [] B → Q x H') (m ρ) → t σ H Q
theorem RE.b {X : Cx} {W : WX} {Γ : List Nat} {n : Nat} {fr : Bool} {e : Expr} {m : Rho → Res D} (h : RE X W Γ n fr e m) : RB X W Γ e m := by
  obtain ⟨t, p, q⟩ := h
  refine ⟨t, p, fun F H0 ρ σ H S R Q st po => q F H0 ρ σ H S R Q st (PostE.iff.mpr (po.imp fun d _ po => ?_))⟩
  intro x H' A B s d1 _ _
  obtain ⟨S', R', g, _, _⟩ := Dat.weak d n 0 x A B (Nat.zero_le _) d1
  obtain rfl : S' = [] := Dat.noS g
  exact po x H' R' s g
def RAB (X : Cx) (W : WX) (Γ : List Nat) (es : List Expr) (m : Rho → Res (List D)) : Prop :=
  ∃ t, PA X es t ∧ ∀ F H0 ρ σ H S R Q, Sto X.K F H0 Γ ρ σ H S R → PostX X W σ H (fun ds => ∀ xs H' B, Same H H' → Dats X.K H' ds 0 xs [] B → Q xs H') (m ρ) → t σ H Q
section
variable {X : Cx} {W : WX} {Γ : List Nat} {e : Expr} {es : List Expr} {pos : Pos} {me : Rho → Res D} {mes : Rho → Res (List D)}
theorem rab_nil : RAB X W Γ [] mA0 := by
  refine ⟨_, pa_nil, fun F H0 ρ σ H S R Q st po => ?_⟩
  exact po [] H [] (Same.refl H) .nil
theorem rab_cons (he : RB X W Γ e me) (hes : RAB X W Γ es mes) (hs : starEach (e :: es) X.env = (false, eval e X.env) :: starEach es X.env := by rfl) : RAB X W Γ (e :: es) (mA1 me mes) := by
  obtain ⟨ta, pa, qa⟩ := he
  obtain ⟨tb, pb, qb⟩ := hes
  refine ⟨_, pa_cons pa pb hs, fun F H0 ρ σ H S R Q st po => ?_⟩
  refine qa F H0 ρ σ H S R _ st (po.bind.imp fun d _ po => ?_)
  intro x H1 B s1 d1
  refine qb F H0 ρ σ H1 S R _ (st.grow s1) (po.bind.later s1 fun ds _ po => ?_)
  intro xs H2 B' s2 d2
  exact po (x :: xs) H2 (B ++ B') (s1.trans s2) (by simpa using Dats.cons (d1.same s2) d2)
end

def gIx : D → D → Option D
  | .lst l, .int i => atI l i
  | .tup l, .int i => atI l i
  | .scr l, .int i => (atI l i).map .int
  | .str s, .int i => if s.length ≤ sizeLine then (atI s.cps.toList i).map fun c => .str ⟨#[c]⟩ else none
  | .dK ks vs, k => (lookD (.dK ks vs) k).bind id
  | .dT ks vs, k => (lookD (.dT ks vs) k).bind id
  | .ftup l, .int i => atI l i
  | _, _ => none
theorem atI_some {α : Type} {l : List α} {i : Int} {v : α} (h : atI l i = some v) : ∃ j, ixN l.length i = some j ∧ l[j]? = some v := by
  unfold atI at h
  cases e : ixN l.length i with
  | none => rw [e] at h; cases h
  | some j => rw [e] at h; exact ⟨j, rfl, h⟩
theorem atI_of {α : Type} {l : List α} {i : Int} {v : α} {j : Nat} (h : ixN l.length i = some j) (e : l[j]? = some v) : atI l i = some v := by
  unfold atI
  rw [h]
  exact e
section
variable {X : Cx} {W : WX} {Γ : List Nat} {n k : Nat} {fr : Bool} {a b : Expr} {pos : Pos} {ma mb : Rho → Res D}
theorem ix_at {K : PySem.W.Frag} {H : Hp} {d e z : D} {n : Nat} {x y : V} {A B B2 : List Addr} {Q : VK} (h : Dat K H d n x A B) (hy : Dat K H e 0 y [] B2) (ez : gIx d e = some z)
    (q : ∀ v A' B', Dat K H z (n - 1) v A' B' → A'.Sublist A → (∀ a ∈ B', a ∈ B) → Q v H) : rIx K x y H Q ∨ rIxD x y H Q := by
  unfold gIx at ez
  split at ez
  · rename_i l i
    obtain ⟨j, e1, e2⟩ := atI_some ez
    cases n with
    | zero =>
      unfold Dat at h
      obtain ⟨p, xs, R', rfl, hp, rfl, rfl, hd⟩ := h
      obtain ⟨v, S', R2, e3, g, sl, r⟩ := hd.get e2
      exact .inl <| .inl ⟨p, xs, i, v, rfl, dat_int hy, .of hp, atI_of (by rw [hd.length]; exact e1) e3, q v S' R2 g (sl.trans (List.nil_sublist _)) fun a ha => List.mem_cons_of_mem _ (r a ha)⟩
    | succ n =>
      unfold Dat at h
      obtain ⟨p, xs, S1, rfl, hp, rfl, hd⟩ := h
      obtain ⟨v, S', R2, e3, g, sl, r⟩ := hd.get e2
      exact .inl <| .inl ⟨p, xs, i, v, rfl, dat_int hy, .of hp, atI_of (by rw [hd.length]; exact e1) e3, q v S' R2 g (sl.trans (List.sublist_cons_self _ _)) r⟩
  · rename_i l i
    obtain ⟨j, e1, e2⟩ := atI_some ez
    unfold Dat at h
    obtain ⟨p, xs, rfl, hp, hd⟩ := h
    obtain ⟨v, S', R2, e3, g, sl, r⟩ := hd.get e2
    exact .inl <| .inr (.inl ⟨p, xs, i, v, rfl, dat_int hy, .of hp, atI_of (by rw [hd.length]; exact e1) e3, q v S' R2 g sl r⟩)
  · rename_i l i
    cases e1 : atI l i with
    | none => rw [e1] at ez; cases ez
    | some c =>
      rw [e1] at ez
      cases ez
      obtain ⟨j, e1, e2⟩ := atI_some e1
      unfold Dat at h
      obtain ⟨⟨p, rfl, hp⟩, rfl, rfl⟩ := h
      exact .inl <| .inl ⟨p, l.map V.int, i, .int c, rfl, dat_int hy, hp.sq, atI_of (by rw [List.length_map]; exact e1) (by rw [List.getElem?_map, e2]; rfl), q _ [] [] (dat_of_int _) (List.nil_sublist _) fun a z => by simp at z⟩
  · rename_i s i
    split at ez
    · rename_i hl
      cases e1 : atI s.cps.toList i with
      | none => rw [e1] at ez; cases ez
      | some c =>
        rw [e1] at ez
        cases ez
        exact .inl <| .inr (.inr ⟨s, i, c, dat_str h, dat_int hy, hl, e1, q _ [] [] (dat_of_str _) (List.nil_sublist _) fun a z => by simp at z⟩)
    · cases ez
  · rename_i ks vs
    have e2 : lookD (.dK ks vs) e = some (some z) := by
      cases q : lookD (.dK ks vs) e with
      | none => rw [q] at ez; cases ez
      | some o => rw [q] at ez; exact congrArg some ez
    obtain ⟨a, r, rfl, g, v, S', R', rfl, g2, sl, hr⟩ := look_at h hy e2
    exact .inr ⟨a, v, rfl, g, q v S' R' g2 sl hr⟩
  · rename_i ks vs
    have e2 : lookD (.dT ks vs) e = some (some z) := by
      cases q : lookD (.dT ks vs) e with
      | none => rw [q] at ez; cases ez
      | some o => rw [q] at ez; exact congrArg some ez
    obtain ⟨a, r, rfl, g, v, S', R', rfl, g2, sl, hr⟩ := look_at h hy e2
    exact .inr ⟨a, v, rfl, g, q v S' R' g2 sl hr⟩
  · rename_i l i
    obtain ⟨j, e1, e2⟩ := atI_some ez
    unfold Dat at h
    obtain ⟨p, xs, rfl, hp, hd⟩ := h
    obtain ⟨v, S', R2, e3, g, sl, r⟩ := hd.get e2
    exact .inl <| .inr (.inl ⟨p, xs, i, v, rfl, dat_int hy, sqt_frz hp, atI_of (by rw [hd.length]; exact e1) e3, q v S' R2 g sl r⟩)
  · cases ez
theorem re_ixG (hu : X.A.units + 1 < cLine) (ha : RE X W Γ n fr a ma) (hb : RE X W Γ 0 true b mb) (hs : PlainIx b := by exact fun _ _ => rfl) : RE X W Γ (n - 1) fr (.Subscript a b pos) (m2 gIx ma mb) := by
  obtain ⟨ta, pa, qa⟩ := ha
  obtain ⟨tb, pb, qb⟩ := hb
  refine ⟨_, pe_ix (IxR.or ix_seq (ix_dict hu)) pa pb hs, fun F H0 ρ σ H S R Q st po => ?_⟩
  refine qa F H0 ρ σ H S R _ st (PostE.iff.mpr ((PostE.iff.mp po).bind.imp fun d _ po => ?_))
  intro x H1 A B s1 d1 v1 f1
  refine qb F H0 ρ σ H1 S R _ (st.grow s1) (PostE.iff.mpr (po.bind.later s1 fun e ee po => ?_))
  intro y H2 A' B' s2 d2 _ _
  obtain rfl : A' = [] := Dat.noS d2
  obtain ⟨z, ez, po⟩ := PostE.ofO (PostE.iff.mpr po)
  refine ix_at (d1.same s2) d2 ez fun v A2 B2 g sl r => ?_
  exact po v H2 A2 B2 (s1.trans s2) g (fun a ha => v1 a (r a ha)) fun e => ⟨(f1 e).1.sublist sl, fun a ha => ⟨((f1 e).2 a (sl.subset ha)).1, fun hB => ((f1 e).2 a (sl.subset ha)).2 (r a hB)⟩⟩
theorem re_ix (hu : X.A.units + 1 < cLine) (ha : RE X W Γ 0 true a ma) (hb : RE X W Γ 0 true b mb) (hs : PlainIx b := by exact fun _ _ => rfl) : RE X W Γ 0 true (.Subscript a b pos) (m2 gIx ma mb) := re_ixG hu ha hb hs
theorem re_ixF (hu : X.A.units + 1 < cLine) (ha : RE X W Γ (n + 1) true a ma) (hb : RE X W Γ 0 true b mb) (hs : PlainIx b := by exact fun _ _ => rfl) : RE X W Γ n true (.Subscript a b pos) (m2 gIx ma mb) := re_ixG hu ha hb hs
theorem re_ixO (hu : X.A.units + 1 < cLine) (ha : RE X W Γ (n + 1) false a ma) (hb : RE X W Γ 0 true b mb) (hs : PlainIx b := by exact fun _ _ => rfl) : RE X W Γ n false (.Subscript a b pos) (m2 gIx ma mb) := re_ixG hu ha hb hs
end

def CallV (K : PySem.W.Frag) (r : List V → Hp → VK → Prop) (g : List D → Option D) (n : Nat) : Prop :=
  ∀ (Z : Addr → Prop) (vs : List V) (ds : List D) (z : D) (H : Hp) (B : List Addr) (Q : VK), (∀ a, Z a → H a ≠ none) → Dats K H ds 0 vs [] B → (∀ a ∈ B, ¬ Z a) → g ds = some z → PostV K Z n true H Q z → r vs H Q
def CallF (K : PySem.W.Frag) (r : List V → Hp → VK → Prop) (g : List D → Option D) : Prop :=
  ∀ (vs : List V) (ds : List D) (z : D) (H : Hp) (B : List Addr) (Q : VK), Dats K H ds 0 vs [] B → g ds = some z → (z.flat = true → ∀ v, (∀ k, Dat K H z k v [] []) → Q v H) → r vs H Q
section
variable {X : Cx} {W : WX} {Γ : List Nat} {n : Nat} {e : Expr} {es : List Expr} {x : Str} {id T : String} {p pos : Pos} {r : List V → Hp → VK → Prop} {g : List D → Option D} {ma : Rho → Res (List D)}
theorem re_callT (hc : CallR X (.type T) r) (hv : CallV X.K r g n) (hm : X.mg x = none) (hb : bootBuiltins x = some (.type T)) (ha : RA X W Γ 0 true (e :: es) ma) (hg : Gl X x := by rfl) (hn : x ≠ "__name__" := by decide) (hdb : (x == ("__debug__" : Str)) = false := by decide)
    (he : starEach (e :: es) X.env = (false, eval e X.env) :: starEach es X.env := by rfl) (hpl : (backTo pos (starEach es X.env)).any (·.1) = false := by rfl) : RE X W Γ n true (.Call (.Name x p) (e :: es) [] pos) (mL g ma) := by
  obtain ⟨_, ta, pa, qa⟩ := ha
  refine ⟨_, pe_callTy hc hg hm hb pa hn hdb he hpl, fun F H0 ρ σ H S R Q st po => ?_⟩
  refine qa F H0 ρ σ H S R _ st (PostA.iff.mpr ((PostE.iff.mp po).bind.imp fun d _ po => ?_))
  intro xs H1 A B s1 d1 v1 f1
  obtain rfl : A = [] := Dats.noS d1
  obtain ⟨z, ez, po⟩ := PostA.ofO po
  exact hv (Av F S) xs d z H1 B Q (st.grow s1).avd d1 v1 ez (PostV.later po s1)
theorem re_callBF (hc : CallR X (.builtin id) r) (hv : CallF X.K r g) (hm : X.mg x = none) (hb : bootBuiltins x = some (.builtin id)) (ha : RAB X W Γ (e :: es) ma) (hg : Gl X x := by rfl) (hn : x ≠ "__name__" := by decide) (hdb : (x == ("__debug__" : Str)) = false := by decide)
    (he : starEach (e :: es) X.env = (false, eval e X.env) :: starEach es X.env := by rfl) (hpl : (backTo pos (starEach es X.env)).any (·.1) = false := by rfl) : RE X W Γ n true (.Call (.Name x p) (e :: es) [] pos) (mL g ma) := by
  obtain ⟨ta, pa, qa⟩ := ha
  refine ⟨_, pe_callB hc hg hm hb pa hn hdb he hpl, fun F H0 ρ σ H S R Q st po => ?_⟩
  refine qa F H0 ρ σ H S R _ st ((PostE.iff.mp po).bind.imp fun d _ po => ?_)
  intro xs H1 B s1 d1
  obtain ⟨z, ez, po⟩ := PostA.ofO po
  exact hv xs d z H1 B Q d1 ez fun f v hd => PostV.flat (PostV.later po s1) f hd
theorem re_callTF (hc : CallR X (.type T) r) (hv : CallF X.K r g) (hm : X.mg x = none) (hb : bootBuiltins x = some (.type T)) (ha : RAB X W Γ (e :: es) ma) (hg : Gl X x := by rfl) (hn : x ≠ "__name__" := by decide) (hdb : (x == ("__debug__" : Str)) = false := by decide)
    (he : starEach (e :: es) X.env = (false, eval e X.env) :: starEach es X.env := by rfl) (hpl : (backTo pos (starEach es X.env)).any (·.1) = false := by rfl) : RE X W Γ n true (.Call (.Name x p) (e :: es) [] pos) (mL g ma) := by
  obtain ⟨ta, pa, qa⟩ := ha
  refine ⟨_, pe_callTy hc hg hm hb pa hn hdb he hpl, fun F H0 ρ σ H S R Q st po => ?_⟩
  refine qa F H0 ρ σ H S R _ st ((PostE.iff.mp po).bind.imp fun d _ po => ?_)
  intro xs H1 B s1 d1
  obtain ⟨z, ez, po⟩ := PostA.ofO po
  exact hv xs d z H1 B Q d1 ez fun f v hd => PostV.flat (PostV.later po s1) f hd
end
section
variable {K : PySem.W.Frag}
theorem dats1 {H : Hp} {d : D} {vs : List V} {B : List Addr} (h : Dats K H [d] 0 vs [] B) : ∃ v, vs = [v] ∧ Dat K H d 0 v [] B := by
  simp only [Dats] at h
  obtain ⟨x, xs', S1, S2, R1, R2, rfl, e0, rfl, h1, rfl, rfl, rfl⟩ := h
  obtain ⟨rfl, _⟩ := List.append_eq_nil_iff.mp e0.symm
  exact ⟨x, rfl, by simpa using h1⟩
theorem dats2 {H : Hp} {d e : D} {vs : List V} {B : List Addr} (h : Dats K H [d, e] 0 vs [] B) : ∃ v w B1 B2, vs = [v, w] ∧ Dat K H d 0 v [] B1 ∧ Dat K H e 0 w [] B2 ∧ B = B1 ++ B2 := by
  unfold Dats at h
  obtain ⟨x, xs', S1, S2, R1, R2, rfl, e0, rfl, h1, h2⟩ := h
  obtain ⟨rfl, rfl⟩ := List.append_eq_nil_iff.mp e0.symm
  obtain ⟨y, rfl, h3⟩ := dats1 h2
  exact ⟨x, y, R1, R2, rfl, h1, h3, rfl⟩
def gLen : List D → Option D
  | [.lst l] => some (.int l.length)
  | [.tup l] => some (.int l.length)
  | [.scr l] => some (.int l.length)
  | [.str s] => if s.length ≤ sizeLine then some (.int s.length) else none
  | [.dK ks _] => some (.int ks.length)
  | [.dT ks _] => some (.int ks.length)
  | [.ftup l] => some (.int l.length)
  | _ => none
theorem int_list {H : Hp} : ∀ {l : List D} {ns : List Int} {xs : List V} {B : List Addr}, Dats K H l 0 xs [] B → l = ns.map D.int → xs = ns.map V.int
  | [], ns, xs, B, h, e => by
    simp only [Dats] at h
    rw [h.1]
    cases ns with
    | nil => rfl
    | cons a r => cases e
  | d :: l, ns, xs, B, h, e => by
    cases ns with
    | nil => cases e
    | cons a r =>
      cases e
      unfold Dats at h
      obtain ⟨x, xs', S1, S2, R1, R2, rfl, e0, rfl, h1, h2⟩ := h
      obtain ⟨rfl, rfl⟩ := List.append_eq_nil_iff.mp e0.symm
      rw [dat_int h1, int_list h2 rfl]
      rfl
end
end TW
-- TWBlt
namespace TW
open PySem PySem.Spec PyProof.Rows L2

theorem CallR.or {X : Cx} {f : Value} {r r' : List V → Hp → VK → Prop} (h : CallR X f r) (h' : CallR X f r') : CallR X f (fun xs H Q => r xs H Q ∨ r' xs H Q) :=
  fun pins s σ H xs us Q I rx q => q.elim (h pins s σ H xs us Q I rx) (h' pins s σ H xs us Q I rx)
section
variable {K : PySem.W.Frag}
def rLenA (K : PySem.W.Frag) : List V → Hp → VK → Prop := fun xs H Q => (∃ x n, xs = [x] ∧ LenV K x H n ∧ Q (.int n) H) ∨ ((∃ a kvs, xs = [V.ref a] ∧ Rd H a (.dK kvs) ∧ Q (.int (kvs.length : Nat)) H) ∨ (∃ a kvs, xs = [V.ref a] ∧ Rd H a (.dT kvs) ∧ Q (.int (kvs.length : Nat)) H))
theorem call_lenK {X : Cx} : CallR X (.builtin "len") (fun xs H Q => ∃ a kvs, xs = [V.ref a] ∧ Rd H a (.dK kvs) ∧ Q (.int (kvs.length : Nat)) H) := by
  intro pins s σ H xs us Q I r h
  obtain ⟨a, kvs, rfl, ha, q⟩ := h
  obtain ⟨u, rfl, ru⟩ := vals1 r
  cases ru
  exact d_len I ha fun t s' I' => ⟨.int kvs.length, H, I', ⟨t, rfl⟩, q⟩
theorem call_lenT {X : Cx} : CallR X (.builtin "len") (fun xs H Q => ∃ a kvs, xs = [V.ref a] ∧ Rd H a (.dT kvs) ∧ Q (.int (kvs.length : Nat)) H) := by
  intro pins s σ H xs us Q I r h
  obtain ⟨p, kvs, rfl, hp, q⟩ := h
  obtain ⟨u, rfl, rx⟩ := vals1 r
  obtain rfl : u = .ref p := rx
  obtain ⟨z, hd, ys, rel, dd⟩ := dt_rd I.hok hp
  have hl : kvs.length = ys.length := Paired.length rel
  refine call_len_dictH hd dd (by rw [← hl]; rw [sizeLine_eq] at z; omega) ?_
  rw [← hl]
  exact ⟨.int ((kvs.length : Nat) : Int), H, I.tok _, ⟨_, rfl⟩, q⟩
theorem call_lenA {X : Cx} : CallR X (.builtin "len") (rLenA X.K) := CallR.or call_len (CallR.or call_lenK call_lenT)
theorem cf_len : CallF K (rLenA K) gLen := by
  intro vs ds z H B Q h ez po
  unfold gLen at ez
  split at ez
  · cases ez
    obtain ⟨v, e9, h9⟩ := dats1 h
    subst e9
    clear h
    have h := h9
    clear h9
    obtain ⟨a, xs, R', rfl, q, rfl, hd⟩ := dat_lst0 h
    exact .inl ⟨_, xs.length, rfl, .inl ⟨xs, .of q, rfl⟩, by rw [hd.length]; exact po rfl _ dat_of_int⟩
  · cases ez
    obtain ⟨v, e9, h9⟩ := dats1 h
    subst e9
    clear h
    have h := h9
    clear h9
    obtain ⟨a, xs, rfl, q, hd⟩ := dat_tup0 h
    exact .inl ⟨_, xs.length, rfl, .inr ⟨xs, .of q, rfl⟩, by rw [hd.length]; exact po rfl _ dat_of_int⟩
  · rename_i l
    cases ez
    obtain ⟨v, e9, h9⟩ := dats1 h
    subst e9
    clear h
    have h := h9
    clear h9
    unfold Dat at h
    obtain ⟨⟨a, rfl, q⟩, _⟩ := h
    exact .inl ⟨_, l.length, rfl, .inl ⟨l.map V.int, q.sq, by rw [List.length_map]⟩, po rfl _ dat_of_int⟩
  · rename_i s
    split at ez
    · rename_i hl
      cases ez
      obtain ⟨v, e9, h9⟩ := dats1 h
      subst e9
      clear h
      have h := h9
      clear h9
      rw [dat_str h]
      exact .inl ⟨_, s.length, rfl, ⟨hl, rfl⟩, po rfl _ dat_of_int⟩
    · cases ez
  · cases ez
    obtain ⟨v, e9, h9⟩ := dats1 h
    subst e9
    unfold Dat at h9
    obtain ⟨a, ws, R', rfl, q, rfl, _⟩ := h9
    exact .inr (.inl ⟨a, ws, rfl, q, by rw [← List.length_map (as := ws) (·.1)]; exact po rfl _ dat_of_int⟩)
  · cases ez
    obtain ⟨v, e9, h9⟩ := dats1 h
    subst e9
    unfold Dat at h9
    obtain ⟨a, ws, R', rfl, q, rfl, _⟩ := h9
    exact .inr (.inr ⟨a, ws, rfl, q, by rw [← List.length_map (as := ws) (·.1)]; exact po rfl _ dat_of_int⟩)
  · cases ez
    obtain ⟨v, e9, h9⟩ := dats1 h
    subst e9
    obtain ⟨a, xs, rfl, q, hd⟩ := dat_ftup0 h9
    exact .inl ⟨_, xs.length, rfl, .inr ⟨xs, sqt_frz q, rfl⟩, by rw [hd.length]; exact po rfl _ dat_of_int⟩
  · cases ez
def intsOf : List D → Option (List Int)
  | [] => some []
  | .int i :: r => (intsOf r).map fun l => i :: l
  | _ => none
theorem intsOf_eq : ∀ {l : List D} {ns : List Int}, intsOf l = some ns → l = ns.map D.int
  | [], ns, h => by cases h; rfl
  | d :: r, ns, h => by
    cases d with
    | int i =>
      unfold intsOf at h
      cases e : intsOf r with
      | none => rw [e] at h; cases h
      | some l =>
        rw [e] at h
        cases h
        rw [intsOf_eq e]
        rfl
    | _ => cases h
@[simp] theorem intsOf_map (ns : List Int) : intsOf (ns.map D.int) = some ns := by
  induction ns with
  | nil => rfl
  | cons a r ih =>
    show (intsOf (r.map D.int)).map _ = _
    rw [ih]
    rfl
def maxI : List Int → Option Int
  | [] => none
  | a :: r => some (r.foldl max a)
def minI : List Int → Option Int
  | [] => none
  | a :: r => some (r.foldl min a)
theorem foldl_max : ∀ (r : List Int) (a : Int), (r.foldl max a = a ∨ r.foldl max a ∈ r) ∧ a ≤ r.foldl max a ∧ ∀ y ∈ r, y ≤ r.foldl max a
  | [], a => ⟨.inl rfl, Int.le_refl _, fun y h => by simp at h⟩
  | b :: r, a => by
    obtain ⟨h1, h2, h3⟩ := foldl_max r (max a b)
    rw [List.foldl_cons]
    refine ⟨?_, by omega, fun y hy => ?_⟩
    · rcases h1 with h1 | h1
      · rw [h1]
        by_cases h : a ≤ b
        · rw [Int.max_eq_right h]; exact .inr List.mem_cons_self
        · rw [Int.max_eq_left (by omega)]; exact .inl rfl
      · exact .inr (List.mem_cons_of_mem _ h1)
    · rcases List.mem_cons.mp hy with rfl | hy
      · omega
      · exact h3 y hy
theorem foldl_min : ∀ (r : List Int) (a : Int), (r.foldl min a = a ∨ r.foldl min a ∈ r) ∧ r.foldl min a ≤ a ∧ ∀ y ∈ r, r.foldl min a ≤ y
  | [], a => ⟨.inl rfl, Int.le_refl _, fun y h => by simp at h⟩
  | b :: r, a => by
    obtain ⟨h1, h2, h3⟩ := foldl_min r (min a b)
    rw [List.foldl_cons]
    refine ⟨?_, by omega, fun y hy => ?_⟩
    · rcases h1 with h1 | h1
      · rw [h1]
        by_cases h : a ≤ b
        · rw [Int.min_eq_left h]; exact .inl rfl
        · rw [Int.min_eq_right (by omega)]; exact .inr List.mem_cons_self
      · exact .inr (List.mem_cons_of_mem _ h1)
    · rcases List.mem_cons.mp hy with rfl | hy
      · omega
      · exact h3 y hy
theorem maxI_spec {l : List Int} {m : Int} (h : maxI l = some m) : m ∈ l ∧ ∀ y ∈ l, y ≤ m := by
  cases l with
  | nil => cases h
  | cons a r =>
    cases h
    obtain ⟨h1, h2, h3⟩ := foldl_max r a
    refine ⟨h1.elim (fun e => by rw [e]; exact List.mem_cons_self) fun e => List.mem_cons_of_mem _ e, fun y hy => ?_⟩
    rcases List.mem_cons.mp hy with rfl | hy
    · exact h2
    · exact h3 y hy
theorem minI_spec {l : List Int} {m : Int} (h : minI l = some m) : m ∈ l ∧ ∀ y ∈ l, m ≤ y := by
  cases l with
  | nil => cases h
  | cons a r =>
    cases h
    obtain ⟨h1, h2, h3⟩ := foldl_min r a
    refine ⟨h1.elim (fun e => by rw [e]; exact List.mem_cons_self) fun e => List.mem_cons_of_mem _ e, fun y hy => ?_⟩
    rcases List.mem_cons.mp hy with rfl | hy
    · exact h2
    · exact h3 y hy
def gMax : List D → Option D
  | [.int i, .int j] => some (.int (max i j))
  | [.lst l] => (intsOf l).bind fun ns => (maxI ns).map .int
  | _ => none
def gMin : List D → Option D
  | [.int i, .int j] => some (.int (min i j))
  | [.lst l] => (intsOf l).bind fun ns => (minI ns).map .int
  | _ => none
def gAbs : List D → Option D
  | [.int i] => some (.int (if i < 0 then -i else i))
  | _ => none
def gInt : List D → Option D
  | [.int i] => some (.int i)
  | [.bl b] => some (.int (if b then 1 else 0))
  | _ => none
def rMaxA (K : PySem.W.Frag) : List V → Hp → VK → Prop := fun xs H Q => (∃ i j, xs = [.int i, .int j] ∧ Q (.int (if j > i then j else i)) H) ∨ rMax K xs H Q
def rMinA (K : PySem.W.Frag) : List V → Hp → VK → Prop := fun xs H Q => (∃ i j, xs = [.int i, .int j] ∧ Q (.int (if j < i then j else i)) H) ∨ rMin K xs H Q
theorem call_maxA {X : Cx} (hc : X.calm = true) : CallR X (.builtin "max") (rMaxA X.K) := CallR.or (call_max2 hc) (cr_max hc)
theorem call_minA {X : Cx} (hc : X.calm = true) : CallR X (.builtin "min") (rMinA X.K) := CallR.or (call_min2 hc) (cr_min hc)
theorem cf_max : CallF K (rMaxA K) gMax := by
  intro vs ds z H B Q h ez po
  unfold gMax at ez
  split at ez
  · rename_i i j
    cases ez
    obtain ⟨v, w, B1, B2, rfl, h1, h2, _⟩ := dats2 h
    rw [dat_int h1, dat_int h2]
    refine .inl ⟨i, j, rfl, ?_⟩
    have e : (if j > i then j else i) = max i j := by split <;> omega
    rw [e]
    exact po rfl _ dat_of_int
  · rename_i l
    cases e : intsOf l with
    | none => rw [e] at ez; cases ez
    | some ns =>
      rw [e] at ez
      simp only [Option.bind_some] at ez
      cases em : maxI ns with
      | none => rw [em] at ez; cases ez
      | some m =>
        rw [em] at ez
        cases ez
        obtain ⟨v, e9, h9⟩ := dats1 h
        subst e9
        clear h
        have h := h9
        clear h9
        obtain ⟨a, xs, R', rfl, q, rfl, hd⟩ := dat_lst0 h
        have ex := int_list hd (intsOf_eq e)
        subst ex
        obtain ⟨m1, m2⟩ := maxI_spec em
        refine .inr ⟨a, ns, rfl, .of q, List.length_pos_of_mem m1, fun k hk hm => ?_⟩
        have : k = m := by have := hm m m1; have := m2 k hk; omega
        rw [this]
        exact po rfl _ dat_of_int
  · cases ez
theorem cf_min : CallF K (rMinA K) gMin := by
  intro vs ds z H B Q h ez po
  unfold gMin at ez
  split at ez
  · rename_i i j
    cases ez
    obtain ⟨v, w, B1, B2, rfl, h1, h2, _⟩ := dats2 h
    rw [dat_int h1, dat_int h2]
    refine .inl ⟨i, j, rfl, ?_⟩
    have e : (if j < i then j else i) = min i j := by split <;> omega
    rw [e]
    exact po rfl _ dat_of_int
  · rename_i l
    cases e : intsOf l with
    | none => rw [e] at ez; cases ez
    | some ns =>
      rw [e] at ez
      simp only [Option.bind_some] at ez
      cases em : minI ns with
      | none => rw [em] at ez; cases ez
      | some m =>
        rw [em] at ez
        cases ez
        obtain ⟨v, e9, h9⟩ := dats1 h
        subst e9
        clear h
        have h := h9
        clear h9
        obtain ⟨a, xs, R', rfl, q, rfl, hd⟩ := dat_lst0 h
        have ex := int_list hd (intsOf_eq e)
        subst ex
        obtain ⟨m1, m2⟩ := minI_spec em
        refine .inr ⟨a, ns, rfl, .of q, List.length_pos_of_mem m1, fun k hk hm => ?_⟩
        have : k = m := by have := hm m m1; have := m2 k hk; omega
        rw [this]
        exact po rfl _ dat_of_int
  · cases ez
theorem cf_int : CallF K (fun xs H Q => (∃ i, xs = [.int i] ∧ Q (.int i) H) ∨ ∃ k, xs = [.bl k] ∧ Q (.int (if k then 1 else 0)) H) gInt := by
  intro vs ds z H B Q h ez po
  unfold gInt at ez
  split at ez
  · rename_i i
    cases ez
    obtain ⟨v, e9, h9⟩ := dats1 h
    subst e9
    clear h
    have h := h9
    clear h9
    rw [dat_int h]
    exact .inl ⟨i, rfl, po rfl _ dat_of_int⟩
  · rename_i b
    cases ez
    obtain ⟨v, e9, h9⟩ := dats1 h
    subst e9
    clear h
    have h := h9
    clear h9
    rw [dat_bl h]
    exact .inr ⟨b, rfl, po rfl _ dat_of_int⟩
  · cases ez
def gList : List D → Option D
  | [.lst l] => some (.lst l)
  | [.tup l] => some (.lst l)
  | [.scr l] => some (.lst (l.map .int))
  | [.ftup l] => some (.lst l)
  | _ => none
def gTuple : List D → Option D
  | [.lst l] => some (.tup l)
  | [.tup l] => some (.tup l)
  | [.ftup l] => some (.ftup l)
  | _ => none
theorem cv_tuple {n : Nat} (hn : n ≤ 1 := by decide) : CallV K (fun xs H Q => ∃ p ys, xs = [.ref p] ∧ ((SqL K H p ys ∧ ∀ l, H l = none → Q (.ref l) (upd H l (.tup ys))) ∨ (SqT K H p ys ∧ Q (.ref p) H))) gTuple n := by
  intro Z vs ds z H B Q hz h hb ez po
  have e0 : n - 1 = 0 := by omega
  unfold gTuple at ez
  split at ez
  · cases ez
    obtain ⟨v, e9, h9⟩ := dats1 h
    subst e9
    clear h
    have h := h9
    clear h9
    obtain ⟨a, xs, R', rfl, q, rfl, hd⟩ := dat_lst0 h
    exact ⟨a, xs, rfl, .inl ⟨.of q, fun l hl => new_tup po hl (B := R') (by rw [e0]; exact hd) (fun b hb' => hb b (List.mem_cons_of_mem _ hb'))⟩⟩
  · rename_i l
    cases ez
    obtain ⟨v, e9, h9⟩ := dats1 h
    subst e9
    clear h
    have h := h9
    clear h9
    obtain ⟨a, xs, rfl, q, hd⟩ := dat_tup0 h
    refine ⟨a, xs, rfl, .inr ⟨.of q, ?_⟩⟩
    refine po (.ref a) H [] B (Same.refl H) ?_ hb fun _ => New.nil
    unfold Dat
    exact ⟨a, xs, rfl, q, by rw [e0]; exact hd⟩
  · rename_i l
    cases ez
    obtain ⟨v, e9, h9⟩ := dats1 h
    subst e9
    obtain ⟨a, xs, rfl, q, hd⟩ := dat_ftup0 h9
    refine ⟨a, xs, rfl, .inr ⟨sqt_frz q, ?_⟩⟩
    refine po (.ref a) H [] B (Same.refl H) ?_ hb fun _ => New.nil
    unfold Dat
    exact ⟨a, xs, rfl, q, by rw [e0]; exact hd⟩
  · cases ez
end
section
variable {X : Cx} {W : WX} {Γ : List Nat} {n : Nat} {e : Expr} {es : List Expr} {p pos : Pos} {ma : Rho → Res (List D)}
theorem re_len (hm : X.mg "len" = none) (ha : RAB X W Γ [e] ma) (hg : Gl X "len" := by rfl)
    (he : starEach (e :: []) X.env = (false, eval e X.env) :: starEach [] X.env := by rfl) (hpl : (backTo pos (starEach [] X.env)).any (·.1) = false := by rfl) : RE X W Γ n true (.Call (.Name "len" p) [e] [] pos) (mL gLen ma) := re_callBF call_lenA cf_len hm PySem.boot_len ha hg (by decide) (by decide) he hpl
theorem re_max (hc : X.calm = true) (hm : X.mg "max" = none) (ha : RAB X W Γ (e :: es) ma) (hg : Gl X "max" := by rfl)
    (he : starEach (e :: es) X.env = (false, eval e X.env) :: starEach es X.env := by rfl) (hpl : (backTo pos (starEach es X.env)).any (·.1) = false := by rfl) : RE X W Γ n true (.Call (.Name "max" p) (e :: es) [] pos) (mL gMax ma) := re_callBF (call_maxA hc) cf_max hm (by decide +kernel) ha hg (by decide) (by decide) he hpl
theorem re_min (hc : X.calm = true) (hm : X.mg "min" = none) (ha : RAB X W Γ (e :: es) ma) (hg : Gl X "min" := by rfl)
    (he : starEach (e :: es) X.env = (false, eval e X.env) :: starEach es X.env := by rfl) (hpl : (backTo pos (starEach es X.env)).any (·.1) = false := by rfl) : RE X W Γ n true (.Call (.Name "min" p) (e :: es) [] pos) (mL gMin ma) := re_callBF (call_minA hc) cf_min hm (by decide +kernel) ha hg (by decide) (by decide) he hpl
theorem re_intB (hm : X.mg "int" = none) (ha : RAB X W Γ [e] ma) (hg : Gl X "int" := by rfl)
    (he : starEach (e :: []) X.env = (false, eval e X.env) :: starEach [] X.env := by rfl) (hpl : (backTo pos (starEach [] X.env)).any (·.1) = false := by rfl) : RE X W Γ n true (.Call (.Name "int" p) [e] [] pos) (mL gInt ma) := re_callTF call_int1 cf_int hm boot_int ha hg (by decide) (by decide) he hpl
theorem re_tuple (hm : X.mg "tuple" = none) (ha : RA X W Γ 0 true [e] ma) (hn : n ≤ 1 := by decide) (hg : Gl X "tuple" := by rfl)
    (he : starEach (e :: []) X.env = (false, eval e X.env) :: starEach [] X.env := by rfl) (hpl : (backTo pos (starEach [] X.env)).any (·.1) = false := by rfl) : RE X W Γ n true (.Call (.Name "tuple" p) [e] [] pos) (mL gTuple ma) := re_callT call_tuple_of (cv_tuple hn) hm boot_tuple ha hg (by decide) (by decide) he hpl
end

def D.ty : D → String
  | .non => "NoneType"
  | .bl _ => "bool"
  | .int _ => "int"
  | .str _ => "str"
  | .lst _ => "list"
  | .tup _ => "tuple"
  | .dK _ _ => "dict"
  | .dT _ _ => "dict"
  | .scr _ => "list"
  | .junk => "junk"
  | .ins _ _ _ => "junk"
  | .nul _ => "junk"
  | .ftup _ => "tuple"
def gIsi (T : String) (d : D) : Option D := match d with
  | .junk => none
  | .ins _ _ _ => none
  | .nul _ => none
  | d => (kitB d.ty T).map .bl
def rIsiZ (K : PySem.W.Frag) : List V → Hp → VK → Prop := fun xs H Q => ∃ (a : Addr) (o : Obj) (kvs : List (List Key × V)) (c : V) (u : Value) (b : Bool), xs = [.ref a, c] ∧ ClsV c u ∧ H a = some (.frz o (.dT kvs)) ∧ PySem.W.kitOne K (.type "dict") u = some b ∧ Q (.bl b) H
theorem call_isiZ {X : Cx} : CallR X (.builtin "isinstance") (rIsiZ X.K) := by
  intro pins s σ H xs us Q I r h
  obtain ⟨a, o, kvs, c, u, b, rfl, k, ea, e, q⟩ := h
  obtain ⟨u1, u2, rfl, r1, r2⟩ := vals2 r
  have e2 := k.eq r2
  subst e2
  cases (show u1 = Value.ref a from r1)
  obtain ⟨_, _, _, _, _, ob, es, ep, h1, h2, _⟩ := (show ObjOk X.prog X.w H s.heap a (.frz o (.dT kvs)) from I.hok a _ ea)
  exact PySem.W.kia_one PySem.W.kitx_dict I.kIn ⟨ob, h1, h2.1⟩ e (fun z => nomatch z) fun tk => ⟨.bl b, H, I.tok tk, rfl, q⟩
theorem isi_at {K : PySem.W.Frag} {H : Hp} {d : D} {x : V} {B : List Addr} {T : String} {b : Bool} {Q : VK} (hj : d.known = true) (h : Dat K H d 0 x [] B) (e : kitB d.ty T = some b) (q : Q (.bl b) H) : rIsi K [x, .ty T] H Q ∨ rIsiZ K [x, .ty T] H Q := by
  have base : ∀ {t : String}, kitB t T = some b → TyX K H x (.type t) → rIsi K [x, .ty T] H Q := fun e ty => ⟨x, .ty T, _, _, b, rfl, .ty T, ty, kit_ty e, q⟩
  cases d with
  | junk => cases hj
  | ins _ _ _ => cases hj
  | nul _ => cases hj
  | non => simp only [Dat] at h; obtain ⟨rfl, _⟩ := h; exact .inl (base e (.base .non))
  | bl k => rw [dat_bl h] at base ⊢; exact .inl (base e (.base (.bl k)))
  | int k => rw [dat_int h] at base ⊢; exact .inl (base e (.base (.int k)))
  | str k => rw [dat_str h] at base ⊢; exact .inl (base e (.base (.str k)))
  | lst l =>
    obtain ⟨a, xs, R', rfl, q', _⟩ := dat_lst0 h
    exact .inl (base e (.base (.lst q')))
  | tup l =>
    obtain ⟨a, xs, rfl, q', _⟩ := dat_tup0 h
    exact .inl (base e (.base (.tup q')))
  | ftup l =>
    obtain ⟨a, xs, rfl, ⟨o, _, q'⟩, _⟩ := dat_ftup0 h
    exact .inl (base e (.fTuple q'))
  | dK ks vs =>
    unfold Dat at h
    obtain ⟨a, ws, R', rfl, q' | ⟨o, q'⟩, _⟩ := h
    · exact .inl (base e (.base (.dK q')))
    · exact .inl (base e (.fDict q'))
  | dT ks vs =>
    unfold Dat at h
    obtain ⟨a, ws, R', rfl, q' | ⟨o, q'⟩, _⟩ := h
    · exact .inl (base e (.base (.dT q')))
    · exact .inr ⟨a, o, ws, .ty T, .type T, b, rfl, .ty T, q', kit_ty e, q⟩
  | scr l =>
    unfold Dat at h
    obtain ⟨⟨a, rfl, ⟨o, q'⟩ | ⟨o, its, m, k1, k2, _⟩⟩, _⟩ := h
    · exact .inl (base e (.base (.frz q')))
    · exact .inl (base e (.kList k1 k2))
section
variable {X : Cx} {W : WX} {Γ : List Nat} {n : Nat} {e : Expr} {p p2 pos : Pos} {me : Rho → Res D}
theorem re_isi {T : Str} {U : String} (hm : X.mg "isinstance" = none) (hmT : X.mg T = none) (hbT : bootBuiltins T = some (.type U)) (ha : RB X W Γ e me) (hg : Gl X "isinstance" := by rfl) (hgT : Gl X T := by rfl) (hnT : T ≠ "__name__" := by decide) (hdT : (T == ("__debug__" : Str)) = false := by decide)
    (he : starEach (e :: [.Name T p2]) X.env = (false, eval e X.env) :: starEach [.Name T p2] X.env := by rfl) (he2 : starEach (.Name T p2 :: []) X.env = (false, eval (.Name T p2) X.env) :: starEach [] X.env := by rfl) (hpl : (backTo pos (starEach [.Name T p2] X.env)).any (·.1) = false := by rfl) :
    RE X W Γ n true (.Call (.Name "isinstance" p) [e, .Name T p2] [] pos) (m1 (gIsi U) me) := by
  obtain ⟨ta, pa, qa⟩ := ha
  refine ⟨_, pe_callB (CallR.or call_isi call_isiZ) hg hm boot_isinstance (pa_cons pa (pa_cons (pe_bltn (v := .ty U) hgT hmT hbT rfl hnT hdT) pa_nil he2) he) (by decide) (by decide) he hpl, fun F H0 ρ σ H S R Q st po => ?_⟩
  refine qa F H0 ρ σ H S R _ st ((PostE.iff.mp po).bind.imp fun d _ po => ?_)
  intro x H1 B s1 d1
  obtain ⟨z, ez, po⟩ := PostE.ofO (PostE.iff.mpr po)
  have hj : d.known = true := by cases d <;> first | rfl | cases ez
  have ez : (kitB d.ty U).map D.bl = some z := by cases d <;> first | exact ez | cases hj
  cases ek : kitB d.ty U with
  | none => rw [ek] at ez; cases ez
  | some b =>
    rw [ek] at ez
    cases ez
    exact isi_at hj d1 ek (PostV.flat (PostV.later po s1) rfl dat_of_bl)
end

def cutD {α : Type} (l : List α) (lo hi : Option Int) : List α := (l.drop (HT.sIx l.length 0 lo)).take (HT.sIx l.length l.length hi - HT.sIx l.length 0 lo)
def gSl (d : D) (lo hi : Option Int) : Option D := match d with
  | .lst l => some (.lst (cutD l lo hi))
  | .tup l => some (.tup (cutD l lo hi))
  | .scr l => some (.lst ((cutD l lo hi).map .int))
  | .str s => if s.length ≤ sizeLine then some (.str (cutS s lo hi)) else none
  | _ => none
def ROp (X : Cx) (W : WX) (Γ : List Nat) (e : Option Expr) (m : Rho → Res (Option Int)) : Prop :=
  ∃ t, PO X e t ∧ ∀ F H0 ρ σ H S R Q, Sto X.K F H0 Γ ρ σ H S R → PostX X W σ H (fun o => ∀ H', Same H H' → Q o H') (m ρ) → t σ H Q
def ofI : D → Res (Option Int)
  | .int i => .ok (some i)
  | _ => .stuck
def oNo : Rho → Res (Option Int) := fun _ => .ok none
def oYes (m : Rho → Res D) : Rho → Res (Option Int) := fun ρ => (m ρ).bind ofI
def mSl (a : Rho → Res D) (lo hi : Rho → Res (Option Int)) : Rho → Res D := fun ρ => (a ρ).bind fun d => (lo ρ).bind fun l => (hi ρ).bind fun h => ofO (gSl d l h)
theorem Dats.drop {K : PySem.W.Frag} {H : Hp} : ∀ {ds : List D} {xs : List V} {R : List Addr} (k : Nat), Dats K H ds 0 xs [] R → ∃ R', Dats K H (ds.drop k) 0 (xs.drop k) [] R' ∧ ∀ a ∈ R', a ∈ R
  | ds, xs, R, 0, h => ⟨R, by simpa using h, fun _ z => z⟩
  | [], xs, R, k + 1, h => by
    simp only [Dats] at h
    obtain ⟨rfl, _, rfl⟩ := h
    exact ⟨[], by simpa using Dats.nil, fun a z => z⟩
  | d :: ds, xs, R, k + 1, h => by
    unfold Dats at h
    obtain ⟨x, xs', S1, S2, R1, R2, rfl, e0, rfl, h1, h2⟩ := h
    obtain ⟨rfl, rfl⟩ := List.append_eq_nil_iff.mp e0.symm
    obtain ⟨R', q, i⟩ := Dats.drop k h2
    exact ⟨R', q, fun a z => List.mem_append_right _ (i a z)⟩
theorem Dats.take {K : PySem.W.Frag} {H : Hp} : ∀ {ds : List D} {xs : List V} {R : List Addr} (k : Nat), Dats K H ds 0 xs [] R → ∃ R', Dats K H (ds.take k) 0 (xs.take k) [] R' ∧ ∀ a ∈ R', a ∈ R
  | ds, xs, R, 0, h => ⟨[], by simpa using Dats.nil, fun _ z => by simp at z⟩
  | [], xs, R, k + 1, h => by
    simp only [Dats] at h
    obtain ⟨rfl, _, rfl⟩ := h
    exact ⟨[], by simpa using Dats.nil, fun a z => z⟩
  | d :: ds, xs, R, k + 1, h => by
    unfold Dats at h
    obtain ⟨x, xs', S1, S2, R1, R2, rfl, e0, rfl, h1, h2⟩ := h
    obtain ⟨rfl, rfl⟩ := List.append_eq_nil_iff.mp e0.symm
    obtain ⟨R', q, i⟩ := Dats.take k h2
    refine ⟨R1 ++ R', Dats.cons (S1 := []) (S2 := []) h1 q, fun a z => ?_⟩
    rcases List.mem_append.mp z with z | z
    · exact List.mem_append_left _ z
    · exact List.mem_append_right _ (i a z)
theorem Dats.cut {K : PySem.W.Frag} {H : Hp} {ds : List D} {xs : List V} {R : List Addr} (lo hi : Option Int) (h : Dats K H ds 0 xs [] R) : ∃ R', Dats K H (cutD ds lo hi) 0 (cutV xs lo hi) [] R' ∧ ∀ a ∈ R', a ∈ R := by
  unfold cutD cutV
  rw [h.length]
  obtain ⟨R1, q1, i1⟩ := Dats.drop (HT.sIx ds.length 0 lo) h
  obtain ⟨R2, q2, i2⟩ := Dats.take (HT.sIx ds.length ds.length hi - HT.sIx ds.length 0 lo) q1
  exact ⟨R2, q2, fun a z => i1 a (i2 a z)⟩
theorem SlR.or {X : Cx} {r r' : V → Option Int → Option Int → Hp → VK → Prop} (h : SlR X r) (h' : SlR X r') : SlR X (fun x lo hi H Q => r x lo hi H Q ∨ r' x lo hi H Q) :=
  fun pins s σ H x v vl vu lo hi sl Q I rx hs pl pu q => q.elim (h pins s σ H x v vl vu lo hi sl Q I rx hs pl pu) (h' pins s σ H x v vl vu lo hi sl Q I rx hs pl pu)
section
variable {X : Cx} {W : WX} {Γ : List Nat} {n : Nat} {e : Expr} {lo hi : Option Expr} {pos p2 : Pos} {me : Rho → Res D} {ml mh : Rho → Res (Option Int)}
theorem ro_no : ROp X W Γ none oNo := ⟨_, po_none, fun F H0 ρ σ H S R Q st po => po H (Same.refl H)⟩
theorem ro_yes (h : RE X W Γ 0 true e me) : ROp X W Γ (some e) (oYes me) := by
  obtain ⟨t, p, q⟩ := h
  refine ⟨_, po_some p, fun F H0 ρ σ H S R Q st po => ?_⟩
  refine q F H0 ρ σ H S R _ st (PostE.iff.mpr (po.bind.imp fun d _ po => ?_))
  intro x H1 A B s1 d1 _ _
  cases d with
  | int i => exact ⟨i, dat_int d1, po H1 s1⟩
  | _ => exact po.elim
theorem sl_at {K : PySem.W.Frag} {Z : Addr → Prop} {H : Hp} {d z : D} {x : V} {B : List Addr} {l h : Option Int} {Q : VK} {n : Nat} (hn : n ≤ 1) (hz : ∀ a, Z a → H a ≠ none) (hd : Dat K H d 0 x [] B) (hb : ∀ a ∈ B, ¬ Z a) (ez : gSl d l h = some z) (po : PostV K Z n true H Q z) :
    (rSlL K x l h H Q ∨ rSlS x l h H Q) ∨ rSlA K x l h H Q := by
  have e0 : n - 1 = 0 := by omega
  unfold gSl at ez
  split at ez
  · rename_i ds
    cases ez
    obtain ⟨a, xs, R', rfl, q, rfl, dd⟩ := dat_lst0 hd
    obtain ⟨R2, g, i⟩ := dd.cut l h
    exact .inl (.inl ⟨a, xs, rfl, .of q, fun p hp => new_lst po hp (B := R2) (by rw [e0]; exact g) (fun b hb' => hb b (List.mem_cons_of_mem _ (i b hb'))) hz⟩)
  · rename_i ds
    cases ez
    obtain ⟨a, xs, rfl, q, dd⟩ := dat_tup0 hd
    obtain ⟨R2, g, i⟩ := dd.cut l h
    refine .inr ⟨a, xs, rfl, .of q, fun hw => ?_, fun hw p hp => new_tup po hp (B := R2) (by rw [e0]; exact g) fun b hb' => hb b (i b hb')⟩
    have ew : cutD ds l h = ds := by
      have hl := dd.length
      unfold cutD
      rw [← hl, hw.1, hw.2, List.drop_zero, Nat.sub_zero, hl, List.take_length]
    refine po (.ref a) H [] B (Same.refl H) ?_ hb fun _ => New.nil
    rw [ew]
    unfold Dat
    exact ⟨a, xs, rfl, q, by rw [e0]; exact dd⟩
  · rename_i ds
    cases ez
    unfold Dat at hd
    obtain ⟨⟨a, rfl, q⟩, _, rfl⟩ := hd
    refine .inl (.inl ⟨a, ds.map V.int, rfl, q.sq, fun p hp => ?_⟩)
    have ec : cutV (ds.map V.int) l h = (cutD ds l h).map V.int := by
      unfold cutV cutD
      rw [List.length_map, List.map_take, List.map_drop]
    rw [ec]
    refine new_lst po hp (B := []) ?_ (fun b hb' => by simp at hb') hz
    rw [e0]
    generalize cutD ds l h = l2
    induction l2 with
    | nil => exact .nil
    | cons a r ih => exact Dats.cons (S1 := []) (R1 := []) (dat_of_int 0) ih
  · rename_i s
    split at ez
    · rename_i hl
      cases ez
      rw [dat_str hd]
      exact .inl (.inr ⟨s, rfl, hl, PostV.flat po rfl dat_of_str⟩)
    · cases ez
  · cases ez
theorem re_sl (he : RE X W Γ 0 true e me) (hl : ROp X W Γ lo ml) (hh : ROp X W Γ hi mh) (hn : n ≤ 1 := by decide) : RE X W Γ n true (.Subscript e (.Slice lo hi none p2) pos) (mSl me ml mh) := by
  obtain ⟨ta, pa, qa⟩ := he
  obtain ⟨tb, pb, qb⟩ := hl
  obtain ⟨tc, pc, qc⟩ := hh
  refine ⟨_, pe_slice (SlR.or (SlR.or sl_list sl_str) sl_tupA) pa pb pc, fun F H0 ρ σ H S R Q st po => ?_⟩
  unfold mSl at po
  refine qa F H0 ρ σ H S R _ st (PostE.iff.mpr ((PostE.iff.mp po).bind.imp fun d _ po => ?_))
  intro x H1 A B s1 d1 v1 _
  obtain rfl : A = [] := Dat.noS d1
  refine qb F H0 ρ σ H1 S R _ (st.grow s1) (po.bind.later s1 fun l _ po H2 s2 => ?_)
  refine qc F H0 ρ σ H2 S R _ ((st.grow s1).grow s2) (po.bind.later (s1.trans s2) fun h _ po H3 s3 => ?_)
  obtain ⟨z, ez, po⟩ := PostE.ofO (PostE.iff.mpr po)
  exact sl_at hn (((st.grow s1).grow s2).grow s3).avd ((d1.same s2).same s3) v1 ez (PostV.later po ((s1.trans s2).trans s3))
end
def spM (K : PySem.W.Frag) (mg : Str → Option Value) (n ar : Nat) (m : List D → Res D) : Sp := fun vs H Q E => vs.length = ar ∧ ∃ (ds : List D) (F : Addr → Prop) (R : List Addr), (∀ a, F a → H a ≠ none) ∧ Dats K H ds 0 vs [] R ∧ (∀ a ∈ R, ¬ F a) ∧
  match m ds with
  | .ok d => PostV K F n true H Q d
  | .exn c => ∀ C H', mg c = some (.ref C) → Same H H' → E (.ref C) none H'
  | .stuck => False
structure FnG (P : Program) (w : World) (K : PySem.W.Frag) (mg : Str → Option Value) (base : Heap) (x : Str) (k n ar : Nat) (m : List D → Res D) : Prop where
  ex : ∃ (f : Addr) (fd : FuncData) (ps : List Str), FnOk P w K mg base (L2.CX P w) k f fd ps (spM K mg n ar m) ∧ mg x = some (.ref f) ∧ PySem.W.keepIn K (.ref f) = true ∧ Binds K fd ps []
theorem FnG.mono {P : Program} {w : World} {K : PySem.W.Frag} {mg : Str → Option Value} {base : Heap} {x : Str} {j k n ar : Nat} {m : List D → Res D} (h : FnG P w K mg base x j n ar m) (hk : j ≤ k) : FnG P w K mg base x k n ar m := by
  obtain ⟨f, fd, ps, F, r⟩ := h.ex
  exact ⟨f, fd, ps, F.mono hk, r⟩
section
variable {X : Cx} {W : WX} {Γ : List Nat} {n nf k ar : Nat} {e : Expr} {es : List Expr} {x : Str} {p pos : Pos} {ma : Rho → Res (List D)} {m : List D → Res D}
theorem re_call (h : FnG X.prog X.w X.K X.mg X.base x k nf ar m) (hr : Room k X.A) (tk : Takes X W) (ha : RA X W Γ 0 true (e :: es) ma) (hl : (e :: es).length = ar := by rfl) (hn : n ≤ nf := by decide) (hg : Gl X x := by rfl)
    (hdb : (x == ("__debug__" : Str)) = false := by decide) (he : starEach (e :: es) X.env = (false, eval e X.env) :: starEach es X.env := by rfl) (hpl : (backTo pos (starEach es X.env)).any (·.1) = false := by rfl) :
    RE X W Γ n true (.Call (.Name x p) (e :: es) [] pos) (mArgs m ma) := by
  refine RE.w ?_ hn
  obtain ⟨f, fd, ps, F, hm, hk, hb⟩ := h.ex
  obtain ⟨la, ta, pa, qa⟩ := ha
  have har : ∀ ρ ds, ma ρ = .ok ds → ds.length = ar := fun ρ ds q => (la ρ ds q).trans hl
  refine ⟨_, pe_callS F hr hg hm hk hb (fun σ => passAt tk σ) pa hdb he hpl, fun F' H0 ρ σ H S R Q st po => ?_⟩
  refine qa F' H0 ρ σ H S R _ st (PostA.iff.mpr ((PostE.iff.mp po).bind.imp fun ds eds po => ?_))
  intro xs H1 A B s1 d1 v1 _
  obtain rfl : A = [] := Dats.noS d1
  refine ⟨by rw [d1.length]; exact har ρ ds eds, ds, Av F' S, B, (st.grow s1).avd, d1, v1, ?_⟩
  cases em : m ds with
  | ok d => rw [em] at po; exact PostV.later po s1
  | exn c => rw [em] at po; exact fun C H' hc s2 => po C H' hc (s1.trans s2)
  | stuck => rw [em] at po; exact po
end
end TW
-- TWStm
namespace TW
open PySem PySem.Spec PyProof.Rows L2

section
variable {K : PySem.W.Frag} {H : Hp}
mutual
theorem Dat.mut : ∀ {d : D} {n : Nat} {v : V} {S R : List Addr}, Dat K H d n v S R → ∀ a ∈ S, Mut (H a)
  | .non, _, _, _, _, h, a, z => by simp only [Dat] at h; rw [h.2.1] at z; simp at z
  | .bl _, _, _, _, _, h, a, z => by simp only [Dat] at h; rw [h.2.1] at z; simp at z
  | .int _, _, _, _, _, h, a, z => by simp only [Dat] at h; rw [h.2.1] at z; simp at z
  | .str _, _, _, _, _, h, a, z => by simp only [Dat] at h; rw [h.2.1] at z; simp at z
  | .junk, _, _, _, _, h, a, z => by simp only [Dat] at h; rw [h.1] at z; simp at z
  | .nul _, _, _, _, _, h, a, z => by simp only [Dat] at h; rw [h.1] at z; simp at z
  | .ins _ _ _, 0, _, _, _, h, a, z => by rw [Dat.noS h] at z; simp at z
  | .ins _ _ _, n + 1, _, _, _, h, a, z => by
    simp only [Dat] at h
    obtain ⟨b, dx, x, y, S1, S2, R1, R2, rfl, q, qd, rfl, rfl, h1, h2⟩ := h
    rcases List.mem_cons.mp z with rfl | z
    · rw [q]; trivial
    · rcases List.mem_append.mp z with z | z
      · exact Dat.mut h1 a z
      · exact Dat.mut h2 a z
  | .scr _, _, _, _, _, h, a, z => by simp only [Dat] at h; rw [h.2.1] at z; simp at z
  | .lst ds, 0, _, _, _, h, a, z => by rw [Dat.noS h] at z; simp at z
  | .lst ds, n + 1, _, _, _, h, a, z => by
    simp only [Dat] at h
    obtain ⟨b, xs, S', rfl, q, rfl, hd⟩ := h
    rcases List.mem_cons.mp z with rfl | z
    · rw [q]; trivial
    · exact Dats.mut hd a z
  | .tup ds, n, _, _, _, h, a, z => by
    simp only [Dat] at h
    obtain ⟨b, xs, rfl, q, hd⟩ := h
    exact Dats.mut hd a z
  | .ftup ds, n, _, _, _, h, a, z => by
    simp only [Dat] at h
    obtain ⟨b, xs, rfl, q, hd⟩ := h
    exact Dats.mut hd a z
  | .dK _ ds, 0, _, _, _, h, a, z => by rw [Dat.noS h] at z; simp at z
  | .dK _ ds, n + 1, _, _, _, h, a, z => by
    simp only [Dat] at h
    obtain ⟨b, xs, S', rfl, q, _, rfl, hd⟩ := h
    rcases List.mem_cons.mp z with rfl | z
    · rw [q]; trivial
    · exact Dats.mut hd a z
  | .dT _ ds, 0, _, _, _, h, a, z => by rw [Dat.noS h] at z; simp at z
  | .dT _ ds, n + 1, _, _, _, h, a, z => by
    simp only [Dat] at h
    obtain ⟨b, xs, S', rfl, q, _, rfl, hd⟩ := h
    rcases List.mem_cons.mp z with rfl | z
    · rw [q]; trivial
    · exact Dats.mut hd a z
theorem Dats.mut : ∀ {ds : List D} {n : Nat} {xs : List V} {S R : List Addr}, Dats K H ds n xs S R → ∀ a ∈ S, Mut (H a)
  | [], _, _, _, _, h, a, z => by simp only [Dats] at h; rw [h.2.1] at z; simp at z
  | d :: ds, n, _, _, _, h, a, z => by
    simp only [Dats] at h
    obtain ⟨x, xs', S1, S2, R1, R2, rfl, rfl, rfl, h1, h2⟩ := h
    rcases List.mem_append.mp z with z | z
    · exact Dat.mut h1 a z
    · exact Dats.mut h2 a z
end
end
section
variable {K : PySem.W.Frag} {F : Fr} {H0 H H' : Hp} {Γ Γ' : List Nat} {ρ : Rho} {σ : L2.St} {S R : Nat → List Addr}
theorem Sto.mut (h : Sto K F H0 Γ ρ σ H S R) (i : Nat) : ∀ a ∈ S i, Mut (H a) := fun a ha => by
  by_cases e : ∃ d, ρ[i]? = some (some d)
  · obtain ⟨d, e⟩ := e
    obtain ⟨x, _, q⟩ := h.slot i d e
    exact Dat.mut q a ha
  · rw [(h.emp i fun d q => e ⟨d, q⟩).1] at ha
    simp at ha
theorem Sto.stay (h : Sto K F H0 Γ ρ σ H S R) (k : Keep S H H') {B : List Addr} (hb : ∀ a ∈ B, ¬ Av F S a) : Stay H H' [] B where
  tup := fun b xs q => k b _ q fun i hi => by have := h.mut i b hi; rw [q] at this; exact this
  frz := fun b o xs q => k b _ q fun i hi => by have := h.mut i b hi; rw [q] at this; exact this
  scr := fun b o xs q => k b _ q fun i hi => by have := h.mut i b hi; rw [q] at this; exact this
  own := fun b hb' => by simp at hb'
  res := fun b hb' o q => k b o q fun i hi => hb b hb' (.inr ⟨i, hi⟩)
theorem Sto.cong (h : Sto K F H0 Γ ρ σ H S R) (e : ∀ i, Γ.getD i 0 = Γ'.getD i 0) : Sto K F H0 Γ' ρ σ H S R :=
  ⟨h.same, h.len, fun i d q => by rw [← e i]; exact h.slot i d q, h.emp, h.new, h.nd, h.dj, h.rs, h.rf, h.sf, h.fd, fun i v q => ⟨(e i).symm.trans (h.pin i v q).1, (h.pin i v q).2⟩⟩
theorem Sto.set {i n : Nat} {d : D} {x : V} {A B : List Addr} (h : Sto K F H0 Γ ρ σ H S R) (hi : i < Γ.length ∨ n = 0 ∧ Γ.getD i 0 = 0) (hd : Dat K H d n x A B) (hb : ∀ a ∈ B, ¬ Av F S a) (nd : A.Nodup)
    (new : ∀ a ∈ A, H0 a = none) (nF : ∀ a ∈ A, ¬ F a) (nS : ∀ a ∈ A, ∀ j, a ∉ S j) (nR : ∀ a ∈ A, ∀ j, a ∉ R j) (nB : ∀ a ∈ A, a ∉ B) (hp : Γ.getD i 0 ≠ 99) :
    ∃ S' R', Sto K F H0 (Γ.set i n) (ρ.set i (some d)) (σ.set i (some x)) H S' R' ∧ (∀ j a, a ∈ S' j → a ∈ S j ∨ a ∈ A) := by
  have pin : ∀ j v, F.pin j = some v → (Γ.set i n).getD j 0 = 99 ∧ (σ.set i (some x))[j]? = some (some v) := fun j v q => by
    obtain ⟨p1, p2⟩ := h.pin j v q
    have hj : i ≠ j := fun z => hp (by rw [z]; exact p1)
    exact ⟨by rw [List.getD_eq_getElem?_getD, List.getElem?_set_ne hj, ← List.getD_eq_getElem?_getD]; exact p1, by rw [List.getElem?_set_ne hj]; exact p2⟩
  by_cases hl : i < ρ.length
  · refine ⟨fun j => if j = i then A else S j, fun j => if j = i then B else R j, ⟨h.same, by simp [h.len], fun j e q => ?_, fun j q => ?_, fun j a ha => ?_, fun j => ?_, fun j k hjk a ha hk => ?_, fun j k a ha hk => ?_, fun j a ha => ?_, fun j a ha => ?_, h.fd, pin⟩, fun j a ha => ?_⟩
    · by_cases hj : j = i
      · subst hj
        rw [List.getElem?_set_self hl] at q
        cases q
        refine ⟨x, by rw [List.getElem?_set_self (by rw [h.len]; exact hl)], ?_⟩
        rw [if_pos rfl, if_pos rfl]
        have eg : (Γ.set j n).getD j 0 = n := by
          rcases hi with hi | ⟨rfl, hi⟩
          · rw [List.getD_eq_getElem?_getD, List.getElem?_set_self hi]; rfl
          · rw [List.getD_eq_getElem?_getD] at hi ⊢
            by_cases hg : j < Γ.length
            · rw [List.getElem?_set_self hg]; rfl
            · rw [List.getElem?_eq_none (by simp; omega)]; rfl
        rw [eg]
        exact hd
      · rw [List.getElem?_set_ne (Ne.symm hj)] at q
        obtain ⟨y, e1, e2⟩ := h.slot j e q
        refine ⟨y, by rw [List.getElem?_set_ne (Ne.symm hj)]; exact e1, ?_⟩
        rw [if_neg hj, if_neg hj, show (Γ.set i n).getD j 0 = Γ.getD j 0 by rw [List.getD_eq_getElem?_getD, List.getD_eq_getElem?_getD, List.getElem?_set_ne (Ne.symm hj)]]
        exact e2
    · by_cases hj : j = i
      · subst hj
        exact absurd (List.getElem?_set_self hl) (q d)
      · rw [if_neg hj, if_neg hj]
        refine h.emp j fun e q' => q e ?_
        rw [List.getElem?_set_ne (Ne.symm hj)]
        exact q'
    · split at ha
      · exact new a ha
      · exact h.new j a ha
    · split
      · exact nd
      · exact h.nd j
    · split at ha
      · split at hk
        · omega
        · exact nS a ha k hk
      · split at hk
        · exact nS a hk j ha
        · exact h.dj j k hjk a ha hk
    · split at ha
      · split at hk
        · exact nB a hk ha
        · exact hb a ha (.inr ⟨k, hk⟩)
      · split at hk
        · exact nR a hk j ha
        · exact h.rs j k a ha hk
    · split at ha
      · exact fun z => hb a ha (.inl z)
      · exact h.rf j a ha
    · split at ha
      · exact nF a ha
      · exact h.sf j a ha
    · dsimp only at ha
      split at ha
      · exact .inr ha
      · exact .inl ha
  · have e1 : ρ.set i (some d) = ρ := List.set_eq_of_length_le (by omega)
    have e2 : σ.set i (some x) = σ := List.set_eq_of_length_le (by rw [h.len]; omega)
    rw [e1, e2]
    rw [e2] at pin
    refine ⟨S, R, ?_, fun j a ha => .inl ha⟩
    refine ⟨h.same, h.len, fun j e q => ?_, h.emp, h.new, h.nd, h.dj, h.rs, h.rf, h.sf, h.fd, pin⟩
    have hj : j ≠ i := fun z => by
      subst z
      rw [List.getElem?_eq_none (by omega)] at q
      cases q
    rw [show (Γ.set i n).getD j 0 = Γ.getD j 0 by rw [List.getD_eq_getElem?_getD, List.getD_eq_getElem?_getD, List.getElem?_set_ne (Ne.symm hj)]]
    exact h.slot j e q
theorem Sto.frz (h : Sto K F H0 Γ ρ σ H S R) (i : Nat) (hi : i < Γ.length) (hp : Γ.getD i 0 ≠ 99) : ∃ S' R', Sto K F H0 (Γ.set i 0) ρ σ H S' R' ∧ ∀ j a, a ∈ S' j → a ∈ S j := by
  have pin : ∀ j v, F.pin j = some v → (Γ.set i 0).getD j 0 = 99 ∧ σ[j]? = some (some v) := fun j v q => by
    obtain ⟨p1, p2⟩ := h.pin j v q
    have hj : i ≠ j := fun z => hp (by rw [z]; exact p1)
    exact ⟨by rw [List.getD_eq_getElem?_getD, List.getElem?_set_ne hj, ← List.getD_eq_getElem?_getD]; exact p1, p2⟩
  by_cases e : ∃ d, ρ[i]? = some (some d)
  · obtain ⟨d, e⟩ := e
    obtain ⟨x, e1, q⟩ := h.slot i d e
    obtain ⟨S1, R1, g, sl, hr⟩ := Dat.weak d _ 0 x _ _ (Nat.zero_le _) q
    obtain rfl : S1 = [] := Dat.noS g
    have eg : (Γ.set i 0).getD i 0 = 0 := by rw [List.getD_eq_getElem?_getD, List.getElem?_set_self hi]; rfl
    have eo : ∀ j, j ≠ i → (Γ.set i 0).getD j 0 = Γ.getD j 0 := fun j hj => by rw [List.getD_eq_getElem?_getD, List.getD_eq_getElem?_getD, List.getElem?_set_ne (Ne.symm hj)]
    have sub : ∀ j a, a ∈ (if j = i then [] else S j) → a ∈ S j := fun j a ha => by
      split at ha
      · simp at ha
      · exact ha
    have dis : ∀ a ∈ R1, ∀ j, a ∉ (if j = i then [] else S j) := fun a ha j hj => by
      split at hj
      · simp at hj
      · rename_i hji
        rcases hr a ha with z | z
        · exact h.dj i j (Ne.symm hji) a z hj
        · exact h.rs i j a z hj
    refine ⟨fun j => if j = i then [] else S j, fun j => if j = i then R1 else R j, ⟨h.same, h.len, fun j e' q' => ?_, fun j q' => ?_, fun j a ha => h.new j a (sub j a ha), fun j => ?_, fun j l hjl a ha hl => h.dj j l hjl a (sub j a ha) (sub l a hl), fun j l a ha hl => ?_, fun j a ha => ?_, fun j a ha => h.sf j a (sub j a ha), h.fd, pin⟩, sub⟩
    · by_cases hj : j = i
      · subst hj
        rw [e] at q'; cases q'
        rw [if_pos rfl, if_pos rfl, eg]
        exact ⟨x, e1, g⟩
      · rw [if_neg hj, if_neg hj, eo j hj]
        exact h.slot j e' q'
    · by_cases hj : j = i
      · subst hj
        exact absurd e (q' d)
      · rw [if_neg hj, if_neg hj]
        exact h.emp j q'
    · split
      · exact (h.nd i).sublist sl
      · exact h.nd j
    · split at ha
      · exact dis a ha l hl
      · exact h.rs j l a ha (sub l a hl)
    · split at ha
      · rcases hr a ha with ha | ha
        · exact h.sf i a ha
        · exact h.rf i a ha
      · exact h.rf j a ha
  · refine ⟨S, R, ⟨h.same, h.len, fun j e' q' => ?_, h.emp, h.new, h.nd, h.dj, h.rs, h.rf, h.sf, h.fd, pin⟩, fun _ _ z => z⟩
    have hj : j ≠ i := fun z => e ⟨e', z ▸ q'⟩
    rw [show (Γ.set i 0).getD j 0 = Γ.getD j 0 by rw [List.getD_eq_getElem?_getD, List.getD_eq_getElem?_getD, List.getElem?_set_ne (Ne.symm hj)]]
    exact h.slot j e' q'
end

def Res.out {α : Type} (m : Res α) (ρ : Rho) (f : α → Out) : Out := match m with
  | .ok a => f a
  | .exn c => .ex c ρ
  | .stuck => .stuck
@[simp] theorem Res.out_ok {α : Type} (a : α) (ρ : Rho) (f : α → Out) : (Res.ok a).out ρ f = f a := id rfl
@[simp] theorem Res.out_exn {α : Type} (c : Str) (ρ : Rho) (f : α → Out) : (Res.exn c : Res α).out ρ f = .ex c ρ := id rfl
@[simp] theorem Res.out_stuck {α : Type} (ρ : Rho) (f : α → Out) : (Res.stuck : Res α).out ρ f = .stuck := id rfl
def sSet (i : Nat) (m : Rho → Res D) : Rho → Out := fun ρ => (m ρ).out ρ fun d => .nx (ρ.set i (some d))
def sRet (m : Rho → Res D) : Rho → Out := fun ρ => (m ρ).out ρ fun d => .rt d
def sDo (m : Rho → Res D) : Rho → Out := fun ρ => (m ρ).out ρ fun _ => .nx ρ
def sIf (c : Rho → Res Bool) (a b : Rho → Out) : Rho → Out := fun ρ => (c ρ).out ρ fun k => if k = true then a ρ else b ρ
def Out.bind (o : Out) (f : Rho → Out) : Out := match o with
  | .nx ρ => f ρ
  | o => o
def sSeq (a b : Rho → Out) : Rho → Out := fun ρ => (a ρ).bind b
def sNil : Rho → Out := fun ρ => .nx ρ
def forL (f : D → Rho → Option Rho) (b : Rho → Out) : List D → Rho → Out
  | [], ρ => .nx ρ
  | d :: ds, ρ => match f d ρ with
    | some ρ' => (b ρ').bind (forL f b ds)
    | none => .stuck
def sFor (f : D → Rho → Option Rho) (it : Rho → Res (List D)) (b : Rho → Out) : Rho → Out := fun ρ => (it ρ).out ρ fun ds => forL f b ds ρ
section
variable {X : Cx} {W : WX} {n : Nat} {Γ Γ1 Γ2 : List Nat} {F : Fr} {S : Nat → List Addr} {H H' H0 : Hp} {σ : L2.St} {E : Ends} {ρ : Rho}
theorem PostS.ofR {α : Type} {Γ' : List Nat} {m : Res α} {R : Nat → List Addr} {Hc : Hp} {f : α → Out} (st : Sto X.K F H0 Γ ρ σ Hc S R)
    (h : PostS X W F H0 Γ' n S H E (m.out ρ f)) (sm : Same H Hc := by first | exact Same.refl _ | assumption) : PostX X W σ Hc (fun d => PostS X W F H0 Γ' n S H E (f d)) m := by
  cases m with
  | ok d => exact h
  | exn c =>
    refine fun C H' hc s => ?_
    obtain ⟨S', R', st', eS⟩ : ∃ S' R', Sto X.K F.un H0 [] ρ σ H' S' R' ∧ ∀ i, S' i = [] := by
      have st1 := st.grow s
      have q : ∀ i : Nat, ∃ R1 : List Addr, (∀ d, ρ[i]? = some (some d) → ∃ x, σ[i]? = some (some x) ∧ Dat X.K H' d 0 x [] R1) ∧ (∀ a ∈ R1, ¬ F a) ∧ ((∀ d, ρ[i]? ≠ some (some d)) → R1 = []) := fun i => by
        by_cases e : ∃ d, ρ[i]? = some (some d)
        · obtain ⟨d, e⟩ := e
          obtain ⟨x, e1, g⟩ := st1.slot i d e
          obtain ⟨S1, R1, g, sl, hr⟩ := Dat.weak d _ 0 x _ _ (Nat.zero_le _) g
          obtain rfl : S1 = [] := Dat.noS g
          refine ⟨R1, fun d' e' => ?_, fun a ha => ?_, fun z => absurd e (z d)⟩
          · rw [e] at e'; cases e'
            exact ⟨x, e1, g⟩
          · rcases hr a ha with ha | ha
            · exact st1.sf i a ha
            · exact st1.rf i a ha
        · exact ⟨[], fun d e' => absurd ⟨d, e'⟩ e, fun a z => by simp at z, fun _ => rfl⟩
      refine ⟨fun _ => [], fun i => Classical.choose (q i), ⟨st1.same, st1.len, fun i d e => ?_, fun i z => ?_, fun i a z => by simp at z, fun i => List.nodup_nil, fun i j _ a z => by simp at z, fun i j a _ z => by simp at z, fun i a ha => ?_, fun i a z => by simp at z, st1.fd, fun i v q => nomatch q⟩, fun i => rfl⟩
      · exact (Classical.choose_spec (q i)).1 d e
      · exact ⟨rfl, (Classical.choose_spec (q i)).2.2 z⟩
      · exact (Classical.choose_spec (q i)).2.1 a ha
    exact h C σ H' S' R' hc st' (Keep.of_same (sm.trans s)) fun i a ha => by rw [eS i] at ha; simp at ha
  | stuck => exact h
theorem rss_nil : RSs X W n Γ Γ [] sNil := by
  refine ⟨_, pss_nil, fun F H0 ρ σ H S R E st po => ?_⟩
  exact po σ H S R st Keep.refl Grow.refl
theorem rss_cons {st : Stmt} {rest : List Stmt} {m m' : Rho → Out} (h1 : RS X W n Γ Γ1 st m) (h2 : RSs X W n Γ1 Γ2 rest m') : RSs X W n Γ Γ2 (st :: rest) (sSeq m m') := by
  obtain ⟨ta, pa, qa⟩ := h1
  obtain ⟨tb, pb, qb⟩ := h2
  refine ⟨_, pss_cons pa pb, fun F H0 ρ σ H S R E st po => ?_⟩
  refine qa F H0 ρ σ H S R _ st ?_
  unfold sSeq at po
  cases e : m ρ with
  | nx ρ' =>
    rw [e] at po
    exact fun σ' H' S' R' st' k g => qb F H0 ρ' σ' H' S' R' E st' (PostS.later po k g)
  | rt d => rw [e] at po; exact po
  | ex c ρ' => rw [e] at po; exact po
  | stuck => rw [e] at po; exact po
theorem rss_one {st : Stmt} {m : Rho → Out} (h : RS X W n Γ Γ1 st m) : RSs X W n Γ Γ1 [st] m := by
  obtain ⟨t, p, q⟩ := h
  exact ⟨t, pss_one p, q⟩
theorem rss_frz {sts : List Stmt} {m : Rho → Out} (i : Nat) (h : RSs X W n (Γ.set i 0) Γ2 sts m) (hi : i < Γ.length := by decide) (hp : Γ.getD i 0 ≠ 99 := by decide) : RSs X W n Γ Γ2 sts m := by
  obtain ⟨t, p, q⟩ := h
  refine ⟨t, p, fun F H0 ρ σ H S R E st po => ?_⟩
  obtain ⟨S', R', st', sub⟩ := st.frz i hi hp
  exact q F H0 ρ σ H S' R' E st' (PostS.later po Keep.refl fun j a ha => .inl ⟨j, sub j a ha⟩)
theorem rss_fz {sts : List Stmt} {m : Rho → Out} (i : Nat) (h : RSs X W n Γ Γ1 sts m) (hi : i < Γ1.length := by decide) (hp : Γ1.getD i 0 ≠ 99 := by decide) (hΓ : Γ1.set i 0 = Γ2 := by rfl) : RSs X W n Γ Γ2 sts m := by
  subst hΓ
  obtain ⟨t, p, q⟩ := h
  refine ⟨t, p, fun F H0 ρ σ H S R E st po => q F H0 ρ σ H S R E st ?_⟩
  cases e : m ρ with
  | nx ρ' =>
    rw [e] at po
    refine fun σ' H' S' R' st' k g => ?_
    obtain ⟨S2, R2, st2, sub⟩ := st'.frz i hi hp
    exact po σ' H' S2 R2 st2 k fun j a ha => g j a (sub j a ha)
  | rt d => rw [e] at po; exact po
  | ex c ρ' => rw [e] at po; exact po
  | stuck => rw [e] at po; exact po
theorem rs_if {c : Expr} {a b : List Stmt} {pos : Pos} {mc : Rho → Res Bool} {ma mb : Rho → Out} (hc : RT X W Γ c mc) (ha : RSs X W n Γ Γ1 a ma) (hb : RSs X W n Γ Γ1 b mb) : RS X W n Γ Γ1 (.If c a b pos) (sIf mc ma mb) := by
  obtain ⟨tc, pc, qc⟩ := hc
  obtain ⟨ta, pa, qa⟩ := ha
  obtain ⟨tb, pb, qb⟩ := hb
  refine ⟨_, ps_if pc pa pb, fun F H0 ρ σ H S R E st po => ?_⟩
  refine qc F H0 ρ σ H S R _ st (PostT.iff.mpr ((PostS.ofR st po).imp fun d _ po H1 s1 => ?_))
  cases d with
  | true => exact iteT (qa F H0 ρ σ H1 S R E (st.grow s1) (PostS.later po (Keep.of_same s1) Grow.refl))
  | false => exact iteF (qb F H0 ρ σ H1 S R E (st.grow s1) (PostS.later po (Keep.of_same s1) Grow.refl))
theorem rs_ret {e : Expr} {pos : Pos} {m : Rho → Res D} (h : RE X W Γ n true e m) (hn : n < 1000 := by decide) : RS X W n Γ Γ1 (.Return (some e) pos) (sRet m) := by
  obtain ⟨t, p, q⟩ := h
  refine ⟨_, ps_ret p, fun F H0 ρ σ H S R E st po => ?_⟩
  refine q F H0 ρ σ H S R _ st (PostE.iff.mpr ((PostS.ofR st po).imp fun d _ po => ?_))
  intro x H1 A B s1 d1 v1 f1
  exact po.lo hn x H1 A B (st.same.trans s1) d1 ((f1 rfl).later st.same) fun a ha z => v1 a ha (.inl z)
theorem rs_retO {e : Expr} {pos : Pos} {i : Nat} (h : PE X e (tVar i)) (hn : Γ.getD i 0 = n := by rfl) (hn2 : n < 1000 := by decide) : RS X W n Γ Γ1 (.Return (some e) pos) (sRet (mVar i)) := by
  refine ⟨_, ps_ret h, fun F H0 ρ σ H S R E st po => ?_⟩
  unfold sRet mVar at po
  split at po
  · rename_i d e
    obtain ⟨x, e1, g⟩ := st.slot i d e
    rw [hn] at g
    exact ⟨x, e1, po.lo hn2 x H (S i) (R i) st.same g ⟨st.nd i, fun a ha => ⟨st.new i a ha, fun hr => st.rs i i a hr ha⟩⟩ (st.rf i)⟩
  · exact po.elim
theorem rs_set {i k : Nat} {x : Str} {e : Expr} {m : Rho → Res D} {pos pos' : Pos} (h : RE X W Γ k true e m) (hN : X.N.Nodup) (hx : Loc X.env.scope x) (hi : X.N[i]? = some x := by rfl) (hl : i < Γ.length := by decide)
    (hs : swapsWith e (some (.Name x pos')) pos.line X.env = pure false := by rfl) (hf : X.fn x = true ∨ X.env.scope.names.lookup x = some .local := by first | exact .inl rfl | exact .inr rfl | assumption) (hp : Γ.getD i 0 ≠ 99 := by decide) (hΓ : Γ.set i k = Γ1 := by rfl) : RS X W n Γ Γ1 (.Assign [.Name x pos'] e pos) (sSet i m) := by
  subst hΓ
  obtain ⟨t, p, q⟩ := h
  refine ⟨_, ps_set hN hi hx p hs hf, fun F H0 ρ σ H S R E st po => ?_⟩
  refine q F H0 ρ σ H S R _ st (PostE.iff.mpr ((PostS.ofR (f := fun d => .nx (ρ.set i (some d))) st po).imp fun d _ po => ?_))
  intro v H1 A B s1 d1 v1 f1
  obtain ⟨nd, nw⟩ := f1 rfl
  have st1 := st.grow s1
  obtain ⟨S', R', st2, gr⟩ := st1.set (i := i) (n := k) (.inl hl) d1 v1 nd (fun a ha => st.same.free (nw a ha).1) (fun a ha z => st.fd a z (nw a ha).1) (fun a ha j hj => st.domS j a hj (nw a ha).1) (fun a ha j hj => st.domR j a hj (nw a ha).1) (fun a ha hb => (nw a ha).2 hb) hp
  exact po _ H1 S' R' st2 (Keep.of_same s1) fun j a ha => (gr j a ha).imp (fun z => ⟨j, z⟩) fun z => (nw a z).1
end

end TW
-- TWLoop
namespace TW
open PySem PySem.Spec PyProof.Rows L2

def RG (X : Cx) (Γ : List Nat) (tg : Expr) (f : D → Rho → Option Rho) : Prop :=
  ∃ g, PG X tg g ∧ ∀ F H0 ρ σ H S R d x B ρ' (Q : L2.St → Hp → Prop), Sto X.K F H0 Γ ρ σ H S R → Dat X.K H d 0 x [] B → (∀ a ∈ B, ¬ Av F S a) → f d ρ = some ρ' → (∀ σ' R', Sto X.K F H0 Γ ρ' σ' H S R' → Q σ' H) → g x σ H Q
def tgN (i : Nat) : D → Rho → Option Rho := fun d ρ => some (ρ.set i (some d))
def tgNs : List Nat → List D → Rho → Option Rho
  | [], [], ρ => some ρ
  | i :: is, d :: ds, ρ => tgNs is ds (ρ.set i (some d))
  | _, _, _ => none
def tgT (is : List Nat) : D → Rho → Option Rho := fun d ρ => match d with
  | .tup ds => tgNs is ds ρ
  | _ => none
theorem Sto.set0 {K : PySem.W.Frag} {F : Fr} {H0 H : Hp} {Γ : List Nat} {ρ : Rho} {σ : L2.St} {S R : Nat → List Addr} {i : Nat} {d : D} {x : V} {B : List Addr} (h : Sto K F H0 Γ ρ σ H S R) (hi : Γ.getD i 0 = 0) (hd : Dat K H d 0 x [] B) (hb : ∀ a ∈ B, ¬ Av F S a) :
    ∃ R', Sto K F H0 Γ (ρ.set i (some d)) (σ.set i (some x)) H S R' := by
  have hs : S i = [] := by
    by_cases e : ∃ d, ρ[i]? = some (some d)
    · obtain ⟨d', e⟩ := e
      obtain ⟨y, _, g⟩ := h.slot i d' e
      rw [hi] at g
      exact Dat.noS g
    · exact (h.emp i fun d q => e ⟨d, q⟩).1
  have pin : ∀ j v, F.pin j = some v → Γ.getD j 0 = 99 ∧ (σ.set i (some x))[j]? = some (some v) := fun j v q => by
    obtain ⟨p1, p2⟩ := h.pin j v q
    have hj : i ≠ j := fun z => by subst z; omega
    exact ⟨p1, by rw [List.getElem?_set_ne hj]; exact p2⟩
  by_cases hl : i < ρ.length
  · refine ⟨fun j => if j = i then B else R j, ⟨h.same, by simp [h.len], fun j e q => ?_, fun j q => ?_, h.new, h.nd, h.dj, fun j k a ha hk => ?_, fun j a ha => ?_, h.sf, h.fd, pin⟩⟩
    · by_cases hj : j = i
      · subst hj
        rw [List.getElem?_set_self hl] at q
        cases q
        refine ⟨x, by rw [List.getElem?_set_self (by rw [h.len]; exact hl)], ?_⟩
        rw [if_pos rfl, hi, hs]
        exact hd
      · rw [List.getElem?_set_ne (Ne.symm hj)] at q
        obtain ⟨y, e1, e2⟩ := h.slot j e q
        refine ⟨y, by rw [List.getElem?_set_ne (Ne.symm hj)]; exact e1, ?_⟩
        rw [if_neg hj]
        exact e2
    · by_cases hj : j = i
      · subst hj
        exact absurd (List.getElem?_set_self hl) (q d)
      · rw [if_neg hj]
        refine h.emp j fun e q' => q e ?_
        rw [List.getElem?_set_ne (Ne.symm hj)]
        exact q'
    · split at ha
      · exact hb a ha (.inr ⟨k, hk⟩)
      · exact h.rs j k a ha hk
    · split at ha
      · exact fun z => hb a ha (.inl z)
      · exact h.rf j a ha
  · rw [show ρ.set i (some d) = ρ from List.set_eq_of_length_le (by omega), show σ.set i (some x) = σ from List.set_eq_of_length_le (by rw [h.len]; omega)]
    exact ⟨R, h⟩
section
variable {X : Cx} {Γ : List Nat} {pos : Pos}
theorem rg_n {i : Nat} {x : Str} (hN : X.N.Nodup) (hx : Loc X.env.scope x) (hi : X.N[i]? = some x := by rfl) (hz : Γ.getD i 0 = 0 := by rfl)
    (hf : X.fn x = true ∨ X.env.scope.names.lookup x = some .local := by first | exact .inl rfl | exact .inr rfl | assumption) : RG X Γ (.Name x pos) (tgN i) := by
  refine ⟨_, pg_name hN hi hx hf, fun F H0 ρ σ H S R d x B ρ' Q st hd hb e q => ?_⟩
  cases e
  obtain ⟨R', st'⟩ := st.set0 hz hd hb
  exact q _ R' st'
def RGs (X : Cx) (Γ : List Nat) (ts : List Expr) (is : List Nat) : Prop :=
  ∃ g, PGs X ts g ∧ ∀ F H0 ρ σ H S R ds xs B ρ' (Q : L2.St → Hp → Prop), Sto X.K F H0 Γ ρ σ H S R → Dats X.K H ds 0 xs [] B → (∀ a ∈ B, ¬ Av F S a) → tgNs is ds ρ = some ρ' → (∀ σ' R', Sto X.K F H0 Γ ρ' σ' H S R' → Q σ' H) → g xs σ H Q
theorem rgs_nil : RGs X Γ [] [] := by
  refine ⟨_, pgs_nil, fun F H0 ρ σ H S R ds xs B ρ' Q st hd hb e q => ?_⟩
  cases ds with
  | nil =>
    simp only [Dats] at hd
    cases e
    exact ⟨hd.1, q σ R st⟩
  | cons d r => cases e
theorem rgs_cons {e : Expr} {es : List Expr} {i : Nat} {is : List Nat} (h1 : RG X Γ e (tgN i)) (h2 : RGs X Γ es is) (hs : (assignEach (e :: es) X.env).map (·.2) = assign e X.env :: (assignEach es X.env).map (·.2) := by rfl) : RGs X Γ (e :: es) (i :: is) := by
  obtain ⟨g1, p1, q1⟩ := h1
  obtain ⟨g2, p2, q2⟩ := h2
  refine ⟨_, pgs_cons p1 p2 hs, fun F H0 ρ σ H S R ds xs B ρ' Q st hd hb e q => ?_⟩
  cases ds with
  | nil => cases e
  | cons d r =>
    unfold Dats at hd
    obtain ⟨x, xs', S1, S2, R1, R2, rfl, e0, rfl, d1, d2⟩ := hd
    obtain ⟨rfl, rfl⟩ := List.append_eq_nil_iff.mp e0.symm
    refine ⟨x, xs', rfl, q1 F H0 ρ σ H S R d x R1 _ _ st d1 (fun a ha => hb a (List.mem_append_left _ ha)) rfl fun σ1 R' st1 => ?_⟩
    exact q2 F H0 _ σ1 H S R' r xs' R2 ρ' Q st1 d2 (fun a ha => hb a (List.mem_append_right _ ha)) e q
theorem rg_t {es : List Expr} {k : Nat} {is : List Nat} {n : Nat} (hc : X.calm = true) (h : RGs X Γ es is) (hl : is.length = n := by rfl) (hn : (assignEach es X.env).length = n := by rfl) (hst : (assignEach es X.env).findIdx? (·.1) = none := by rfl) : RG X Γ (.Tuple es k pos) (tgT is) := by
  obtain ⟨g, p, q⟩ := h
  refine ⟨_, pg_tup hc p hn hst, fun F H0 ρ σ H S R d x B ρ' Q st hd hb e qq => ?_⟩
  cases d with
  | tup ds =>
    obtain ⟨a, xs, rfl, hq, dd⟩ := dat_tup0 hd
    have len : ∀ (is : List Nat) (ds : List D) (ρ ρ' : Rho), tgNs is ds ρ = some ρ' → ds.length = is.length := by
      intro is
      induction is with
      | nil => intro ds ρ ρ' e; cases ds with
        | nil => rfl
        | cons d r => cases e
      | cons i is ih => intro ds ρ ρ' e; cases ds with
        | nil => cases e
        | cons d r => simp [ih r _ ρ' e]
    exact ⟨a, xs, rfl, .of hq, by rw [dd.length, len is ds ρ ρ' e, hl], q F H0 ρ σ H S R ds xs B ρ' Q st dd hb e qq⟩
  | _ => cases e
end
def Iter (K : PySem.W.Frag) (J : It) (H : Hp) (B : List Addr) (ds : List D) : Prop :=
  ∀ H', Stay H H' [] B → ∀ i, (ds.length ≤ i → J.stop i H') ∧ ∀ d, ds[i]? = some d → J.go i H' ∧ ∀ x H3, J.yld i H' x H3 → Same H' H3 ∧ ∃ B', Dat K H3 d 0 x [] B' ∧ ∀ a ∈ B', a ∈ B
def RI (X : Cx) (W : WX) (Γ : List Nat) (tg it : Expr) (m : Rho → Res (List D)) : Prop :=
  ∃ wi, PI X tg it wi ∧ ∀ F H0 ρ σ H S R (Rk : It → Hp → Prop), Sto X.K F H0 Γ ρ σ H S R →
    PostX X W σ H (fun ds => ∀ J H' B, Same H H' → (∀ a ∈ B, ¬ Av F S a) → (∀ a ∈ B, H' a ≠ none) → Iter X.K J H' B ds → Rk J H') (m ρ) → wi σ H Rk
theorem PI.or {X : Cx} {tg it : Expr} {w1 w2 : TI} (h1 : PI X tg it w1) (h2 : PI X tg it w2) : PI X tg it (fun σ H R => w1 σ H R ∨ w2 σ H R) :=
  ⟨fun pins s σ H R I h => h.elim (h1.run pins s σ H R I) (h2.run pins s σ H R I)⟩
def iLoc : D → Option (List D)
  | .lst l => some l
  | .tup l => some l
  | .ftup l => some l
  | .scr l => some (l.map .int)
  | .str s => some (s.cps.toList.map fun c => .str ⟨#[c]⟩)
  | _ => none
def iAny (m : Rho → Res D) : Rho → Res (List D) := fun ρ => (m ρ).bind fun d => ofO (iLoc d)
def iR1 (m : Rho → Res D) : Rho → Res (List D) := fun ρ => (m ρ).bind fun d => match d with
  | .int j => if -(2 ^ 62) ≤ j ∧ j < 2 ^ 62 then .ok ((List.range j.toNat).map fun k : Nat => .int k) else .stuck
  | _ => .stuck
def iR2 (a b : Rho → Res D) : Rho → Res (List D) := fun ρ => (a ρ).bind fun x => (b ρ).bind fun y => match x, y with
  | .int i, .int j => if -(2 ^ 62) ≤ i ∧ i < 2 ^ 62 ∧ -(2 ^ 62) ≤ j ∧ j < 2 ^ 62 then .ok ((List.range (j - i).toNat).map fun k : Nat => .int (i + k)) else .stuck
  | _, _ => .stuck
section
variable {X : Cx} {W : WX} {Γ : List Nat} {tg e a b : Expr} {p pos : Pos} {m ma mb : Rho → Res D}
theorem iter_range {K : PySem.W.Frag} {H : Hp} {lo : Int} {n : Nat} : Iter K (Itr lo n) H [] ((List.range n).map fun k : Nat => D.int (lo + k)) := by
  intro H' _ i
  refine ⟨fun h => by (show n ≤ i); simpa using h, fun d e => ?_⟩
  rw [List.getElem?_map] at e
  by_cases hi : i < n
  · rw [List.getElem?_range hi] at e
    cases e
    refine ⟨hi, fun x H3 h => ?_⟩
    obtain ⟨rfl, rfl⟩ := h
    exact ⟨Same.refl _, [], dat_of_int 0, fun a z => z⟩
  · rw [List.getElem?_eq_none (by simpa using hi)] at e
    cases e
theorem ri_r1 (hm : X.mg "range" = none) (ha : RE X W Γ 0 true a ma) (hg : Gl X "range" := by rfl) (hs : starEach [a] X.env = [(false, eval a X.env)] := by rfl) (hs2 : starEach (a :: []) X.env = (false, eval a X.env) :: starEach [] X.env := by rfl) : RI X W Γ tg (.Call (.Name "range" p) [a] [] pos) (iR1 ma) := by
  obtain ⟨ta, pa, qa⟩ := ha
  refine ⟨_, pi_range1 hg hm (pa_cons pa pa_nil hs2) hs, fun F H0 ρ σ H S R Rk st po => ?_⟩
  refine qa F H0 ρ σ H S R _ st (PostE.iff.mpr (po.bind.imp fun d _ po => ?_))
  intro x H1 A B s1 d1 _ _
  cases d with
  | int j =>
    dsimp only at po
    by_cases hj : -(2 ^ 62) ≤ j ∧ j < 2 ^ 62
    · rw [if_pos hj] at po
      refine ⟨j, by rw [dat_int d1], hj.1, hj.2, po _ H1 [] s1 (fun a z => by simp at z) (fun a z => by simp at z) ?_⟩
      have := iter_range (K := X.K) (H := H1) (lo := 0) (n := j.toNat)
      simpa using this
    · rw [if_neg hj] at po
      exact po.elim
  | _ => exact po.elim
theorem iter_list {K : PySem.W.Frag} {H : Hp} {l : List D} {p : Addr} {xs : List V} {B : List Addr} (hp : H p = some (.lst xs)) (hd : Dats K H l 0 xs [] B) : Iter K (Itl K p) H (p :: B) l := by
  intro H' st i
  have hp' : SqL K H' p xs := .of (st.res p List.mem_cons_self _ hp)
  refine ⟨fun h => ⟨xs, hp', by rw [hd.length]; exact h⟩, fun d e => ?_⟩
  obtain ⟨x, S', R', ex, g, sl, r⟩ := hd.get e
  obtain rfl : S' = [] := Dat.noS g
  refine ⟨⟨xs, x, hp', ex⟩, fun y H3 h => ?_⟩
  obtain ⟨rfl, hy⟩ := h
  have := hy xs hp'
  rw [ex] at this
  cases this
  exact ⟨Same.refl _, R', Dat.stay _ 0 _ [] R' (st.mono (fun _ z => z) fun a ha => List.mem_cons_of_mem _ (r a ha)) g, fun a ha => List.mem_cons_of_mem _ (r a ha)⟩
theorem iter_tup {K : PySem.W.Frag} {H : Hp} {l : List D} {p : Addr} {xs : List V} {B : List Addr} (hp : H p = some (.tup xs)) (hd : Dats K H l 0 xs [] B) : Iter K (Itt K p) H B l := by
  intro H' st i
  have hp' : SqT K H' p xs := .of (st.tup p _ hp)
  refine ⟨fun h => ⟨xs, hp', by rw [hd.length]; exact h⟩, fun d e => ?_⟩
  obtain ⟨x, S', R', ex, g, sl, r⟩ := hd.get e
  obtain rfl : S' = [] := Dat.noS g
  refine ⟨⟨xs, x, hp', ex⟩, fun y H3 h => ?_⟩
  obtain ⟨rfl, hy⟩ := h
  have := hy xs hp'
  rw [ex] at this
  cases this
  exact ⟨Same.refl _, R', Dat.stay _ 0 _ [] R' (st.mono (fun _ z => z) fun a ha => r a ha) g, fun a ha => r a ha⟩
theorem iter_ftup {K : PySem.W.Frag} {H : Hp} {l : List D} {p : Addr} {xs : List V} {B : List Addr} (hp : ∃ o : Obj, o.dict = none ∧ H p = some (.frz o (.tup xs))) (hd : Dats K H l 0 xs [] B) : Iter K (Itt K p) H B l := by
  intro H' st i
  have hp' : SqT K H' p xs := sqt_frz (hp.imp fun o q => ⟨q.1, st.frz _ _ _ q.2⟩)
  refine ⟨fun h => ⟨xs, hp', by rw [hd.length]; exact h⟩, fun d e => ?_⟩
  obtain ⟨x, S', R', ex, g, sl, r⟩ := hd.get e
  obtain rfl : S' = [] := Dat.noS g
  refine ⟨⟨xs, x, hp', ex⟩, fun y H3 h => ?_⟩
  obtain ⟨rfl, hy⟩ := h
  have := hy xs hp'
  rw [ex] at this
  cases this
  exact ⟨Same.refl _, R', Dat.stay _ 0 _ [] R' (st.mono (fun _ z => z) fun a ha => r a ha) g, fun a ha => r a ha⟩
theorem iter_scr {K : PySem.W.Frag} {H : Hp} {l : List Int} {p : Addr} (hp : ScrAt K H p (l.map V.int)) : Iter K (Itl K p) H [] (l.map D.int) := by
  intro H' st i
  have hp' : SqL K H' p (l.map V.int) := ScrAt.sq (hp.imp (fun ⟨o, q⟩ => ⟨o, st.scr _ _ _ q⟩) id)
  refine ⟨fun h => ⟨_, hp', by simpa using h⟩, fun d e => ?_⟩
  rw [List.getElem?_map] at e
  cases ei : l[i]? with
  | none => rw [ei] at e; cases e
  | some c =>
    rw [ei] at e
    cases e
    have ex : (l.map V.int)[i]? = some (.int c) := by rw [List.getElem?_map, ei]; rfl
    refine ⟨⟨_, _, hp', ex⟩, fun y H3 h => ?_⟩
    obtain ⟨rfl, hy⟩ := h
    have := hy _ hp'
    rw [ex] at this
    cases this
    exact ⟨Same.refl _, [], dat_of_int 0, fun a z => z⟩
theorem iter_str {K : PySem.W.Frag} {H : Hp} {s : Str} : Iter K (Its s) H [] (s.cps.toList.map fun c => D.str ⟨#[c]⟩) := by
  intro H' st i
  refine ⟨fun h => by (show s.cps.size ≤ i); simpa using h, fun d e => ?_⟩
  rw [List.getElem?_map] at e
  cases ei : s.cps.toList[i]? with
  | none => rw [ei] at e; cases e
  | some c =>
    rw [ei] at e
    cases e
    have ei' : s.cps[i]? = some c := by rw [← Array.getElem?_toList]; exact ei
    have hi : i < s.cps.size := (Array.getElem?_eq_some_iff.mp ei').1
    refine ⟨hi, fun y H3 h => ?_⟩
    obtain ⟨rfl, c', e1, rfl⟩ := h
    rw [ei'] at e1
    cases e1
    exact ⟨Same.refl _, [], dat_of_str 0, fun a z => z⟩
theorem ri_any (ha : RE X W Γ 0 true e m) : RI X W Γ tg e (iAny m) := by
  obtain ⟨ta, pa, qa⟩ := ha
  refine ⟨_, PI.or (PI.or (pi_list pa) (pi_tup pa)) (pi_str pa), fun F H0 ρ σ H S R Rk st po => ?_⟩
  have key : ∀ (P : V → Hp → Prop) (hP : ∀ d x H1 B, m ρ = .ok d → Same H H1 → Dat X.K H1 d 0 x [] B → (∀ a ∈ B, ¬ Av F S a) → (∃ l, iLoc d = some l ∧ ∀ J H' B, Same H H' → (∀ a ∈ B, ¬ Av F S a) → (∀ a ∈ B, H' a ≠ none) → Iter X.K J H' B l → Rk J H') → P x H1), ta σ H P := fun P hP => by
    refine qa F H0 ρ σ H S R P st (PostE.iff.mpr (po.bind.imp fun d ed po => ?_))
    intro x H1 A B s1 d1 v1 _
    obtain rfl : A = [] := Dat.noS d1
    refine hP d x H1 B ed s1 d1 v1 ?_
    cases e : iLoc d with
    | none => rw [e] at po; exact po.elim
    | some l => rw [e] at po; exact ⟨l, rfl, po⟩
  cases em : m ρ with
  | stuck => unfold iAny at po; rw [em] at po; exact po.elim
  | exn c => exact .inl (.inl (key _ fun d x H1 B ed => by rw [em] at ed; cases ed))
  | ok d =>
    cases d with
    | lst l =>
      refine .inl (.inl (key _ fun d x H1 B ed s1 d1 v1 ⟨l', el, k⟩ => ?_))
      rw [em] at ed; cases ed; cases el
      obtain ⟨a, xs, R', rfl, q, rfl, hd⟩ := dat_lst0 d1
      refine ⟨a, rfl, ⟨xs, .of q⟩, k _ H1 (a :: R') s1 v1 (fun b hb => Dat.domR d1 b hb) (iter_list q hd)⟩
    | tup l =>
      refine .inl (.inr (key _ fun d x H1 B ed s1 d1 v1 ⟨l', el, k⟩ => ?_))
      rw [em] at ed; cases ed; cases el
      obtain ⟨a, xs, rfl, q, hd⟩ := dat_tup0 d1
      exact ⟨a, rfl, ⟨xs, .of q⟩, k _ H1 B s1 v1 (fun b hb => Dat.domR d1 b hb) (iter_tup q hd)⟩
    | ftup l =>
      refine .inl (.inr (key _ fun d x H1 B ed s1 d1 v1 ⟨l', el, k⟩ => ?_))
      rw [em] at ed; cases ed; cases el
      obtain ⟨a, xs, rfl, q, hd⟩ := dat_ftup0 d1
      exact ⟨a, rfl, ⟨xs, sqt_frz q⟩, k _ H1 B s1 v1 (fun b hb => Dat.domR d1 b hb) (iter_ftup q hd)⟩
    | scr l =>
      refine .inl (.inl (key _ fun d x H1 B ed s1 d1 v1 ⟨l', el, k⟩ => ?_))
      rw [em] at ed; cases ed; cases el
      unfold Dat at d1
      obtain ⟨⟨a, rfl, q⟩, _⟩ := d1
      exact ⟨a, rfl, ⟨_, q.sq⟩, k _ H1 [] s1 (fun a z => by simp at z) (fun a z => by simp at z) (iter_scr q)⟩
    | str s =>
      refine .inr (key _ fun d x H1 B ed s1 d1 v1 ⟨l', el, k⟩ => ?_)
      rw [em] at ed; cases ed; cases el
      exact ⟨s, dat_str d1, k _ H1 [] s1 (fun a z => by simp at z) (fun a z => by simp at z) iter_str⟩
    | _ => unfold iAny at po; rw [em] at po; exact po.elim
end

section
variable {X : Cx} {W : WX} {n : Nat} {Γ : List Nat} {F : Fr} {S : Nat → List Addr} {H H' H0 : Hp} {σ : L2.St} {E : Ends} {ρ : Rho}
theorem PostS.bind {Γ' : List Nat} {o : Out} {f : Rho → Out} (h : PostS X W F H0 Γ' n S H E (o.bind f)) {N : L2.St → Hp → Prop}
    (hN : ∀ ρ' σ' H' S' R', o = .nx ρ' → Sto X.K F H0 Γ ρ' σ' H' S' R' → Keep S H H' → Grow S H S' → N σ' H') : PostS X W F H0 Γ n S H { E with nx := N, ct := N, bk := E.nx } o := by
  cases o with
  | nx ρ' => exact fun σ' H' S' R' st k g => hN ρ' σ' H' S' R' rfl st k g
  | rt d => exact h
  | ex c ρ' => exact h
  | stuck => exact h
theorem rs_for {tg it : Expr} {body : List Stmt} {pos : Pos} {f : D → Rho → Option Rho} {mi : Rho → Res (List D)} {mb : Rho → Out} (hp : PassesOwn (model X.prog X.w) X.A X.env X.xe) (hc : X.calm = true) (hi : RI X W Γ tg it mi) (hg : RG X Γ tg f) (hb : RSs X W n Γ Γ body mb)
    (hs : ∀ x, foldedSetIterable it X.env x = pure x := by intro _; rfl) : RS X W n Γ Γ (.For tg it body [] pos) (sFor f mi mb) := by
  obtain ⟨wi, pi, qi⟩ := hi
  obtain ⟨g, pg, qg⟩ := hg
  obtain ⟨tb, pb, qb⟩ := hb
  refine ⟨_, ps_for hp hc pi pg pb hs, fun F H0 ρ σ H S R E st po => ?_⟩
  refine qi F H0 ρ σ H S R _ st ((PostS.ofR st po).imp fun ds _ po => ?_)
  intro J H1 B s1 v1 dm it1
  have st1 := st.grow s1
  have po1 := PostS.later po (Keep.of_same s1) (Grow.refl (S := S))
  refine ⟨fun i m σ' H' => ∃ ρ' S' R', Sto X.K F H0 Γ ρ' σ' H' S' R' ∧ Keep S H1 H' ∧ Grow S H1 S' ∧ PostS X W F H0 Γ n S' H' E (forL f mb (ds.drop i) ρ') ∧ m = ds.length - i ∧ i ≤ ds.length,
    ⟨ds.length, ρ, S, R, st1, Keep.refl, Grow.refl, by simpa using po1, by omega, Nat.zero_le _⟩, ?_⟩
  rintro i m σ' H' ⟨ρ', S', R', st', k', g', po', rfl, hi'⟩
  have stay : Stay H1 H' [] B := st1.stay k' v1
  have v' : ∀ a ∈ B, ¬ Av F S' a := fun a ha z => by
    rcases z with z | ⟨j, z⟩
    · exact v1 a ha (.inl z)
    · rcases g' j a z with ⟨l, z⟩ | z
      · exact v1 a ha (.inr ⟨l, z⟩)
      · exact dm a ha z
  by_cases hlt : i < ds.length
  · have ed : ds[i]? = some ds[i] := List.getElem?_eq_getElem hlt
    obtain ⟨go, yld⟩ := (it1 H' stay i).2 _ ed
    rw [List.drop_eq_getElem_cons hlt] at po'
    refine .inr ⟨go, fun σ2 H2 => ∃ m', m' < ds.length - i ∧ ∃ ρ' S' R', Sto X.K F H0 Γ ρ' σ2 H2 S' R' ∧ Keep S H1 H2 ∧ Grow S H1 S' ∧ PostS X W F H0 Γ n S' H2 E (forL f mb (ds.drop (i + 1)) ρ') ∧ m' = ds.length - (i + 1) ∧ i + 1 ≤ ds.length, fun _ _ h => h, fun x H3 hy => ?_⟩
    obtain ⟨s3, B', d3, sub⟩ := yld x H3 hy
    unfold forL at po'
    cases ef : f ds[i] ρ' with
    | none => rw [ef] at po'; exact po'.elim
    | some ρ2 =>
      rw [ef] at po'
      dsimp only at po'
      have k3 : Keep S' H' H3 := Keep.of_same s3
      refine qg F H0 ρ' σ' H3 S' R' ds[i] x B' ρ2 _ (st'.grow s3) d3 (fun a ha => v' a (sub a ha)) ef fun σ4 R4 st4 => ?_
      refine qb F H0 ρ2 σ4 H3 S' R4 _ st4 (PostS.bind (PostS.later po' k3 Grow.refl) fun ρ5 σ5 H5 S5 R5 e5 st5 k5 g5 => ?_)
      have k35 : Keep S' H' H5 := k3.trans Grow.refl k5
      have g35 : Grow S' H' S5 := Grow.trans Grow.refl k3 g5
      refine ⟨ds.length - (i + 1), by omega, ρ5, S5, R5, st5, k'.trans g' k35, g'.trans k' g35, ?_, rfl, hlt⟩
      rw [e5] at po'
      exact PostS.later po' k35 g35
  · have e : i = ds.length := by omega
    subst e
    refine .inl ⟨(it1 H' stay _).1 (Nat.le_refl _), ?_⟩
    rw [List.drop_length] at po'
    exact po' σ' H' S' R' st' Keep.refl Grow.refl
end
end TW
-- TWMut
namespace TW
open PySem PySem.Spec PyProof.Rows L2
def ixD (n : Nat) : D → Option Nat
  | .int i => ixN n i
  | _ => none
def getC : D → D → Option D
  | .lst l, i => (ixD l.length i).bind fun j => l[j]?
  | .tup l, i => (ixD l.length i).bind fun j => l[j]?
  | _, _ => none
def setC : D → D → D → Option D
  | .lst l, i, e => (ixD l.length i).map fun j => .lst (l.set j e)
  | .tup l, i, e => (ixD l.length i).map fun j => .tup (l.set j e)
  | _, _, _ => none
def getP : D → List D → Option D
  | d, [] => some d
  | d, i :: p => (getC d i).bind fun e => getP e p
def setP : D → List D → D → Option D
  | _, [], e => some e
  | d, i :: p, e => (getC d i).bind fun c => (setP c p e).bind fun c' => setC d i c'
def updP (d : D) (p : List D) (f : D → Option D) : Option D := (getP d p).bind fun e => (f e).bind fun e' => setP d p e'

section
variable {K : PySem.W.Frag} {H : Hp}
theorem Dats.focus : ∀ {ds : List D} {n : Nat} {xs : List V} {S R : List Addr} {j : Nat} {e : D}, Dats K H ds n xs S R → ds[j]? = some e →
    ∃ v Se Re P Q P' Q', xs[j]? = some v ∧ Dat K H e n v Se Re ∧ S = P ++ Se ++ Q ∧ R = P' ++ Re ++ Q' ∧
      ∀ H' e' Se' Re', Stay H H' (P ++ Q) (P' ++ Q') → Dat K H' e' n v Se' Re' → Dats K H' (ds.set j e') n xs (P ++ Se' ++ Q) (P' ++ Re' ++ Q')
  | [], _, _, _, _, _, _, h, e => by simp at e
  | d :: ds, n, _, _, _, 0, _, h, e => by
    simp only [Dats] at h
    obtain ⟨x, xs', S1, S2, R1, R2, rfl, rfl, rfl, h1, h2⟩ := h
    simp at e
    subst e
    refine ⟨x, S1, R1, [], S2, [], R2, rfl, h1, rfl, rfl, fun H' e' Se' Re' st g => ?_⟩
    show Dats K H' (e' :: ds) n (x :: xs') _ _
    exact Dats.cons g (Dats.stay _ _ _ _ _ st h2)
  | d :: ds, n, _, _, _, j + 1, _, h, e => by
    simp only [Dats] at h
    obtain ⟨x, xs', S1, S2, R1, R2, rfl, rfl, rfl, h1, h2⟩ := h
    obtain ⟨v, Se, Re, P, Q, P', Q', e1, g, rfl, rfl, k⟩ := Dats.focus (j := j) h2 (by simpa using e)
    refine ⟨v, Se, Re, S1 ++ P, Q, R1 ++ P', Q', by simpa using e1, g, by simp, by simp, fun H' e' Se' Re' st g' => ?_⟩
    show Dats K H' (d :: ds.set j e') n (x :: xs') _ _
    have h1' := Dat.stay _ _ _ _ _ (st.mono (fun b hb => by simp [hb]) fun b hb => by simp [hb]) h1
    have h2' := k H' e' Se' Re' (st.mono (fun b hb => by simp at hb ⊢; rcases hb with hb | hb <;> simp [hb]) fun b hb => by simp at hb ⊢; rcases hb with hb | hb <;> simp [hb]) g'
    simpa using Dats.cons h1' h2'
def Foc (K : PySem.W.Frag) (H : Hp) (d : D) (n : Nat) (x : V) (S R : List Addr) (p : List D) (e : D) (k : Nat) (v : V) (Se Re : List Addr) : Prop :=
  Dat K H e k v Se Re ∧ ∃ P Q P' Q', S = P ++ Se ++ Q ∧ R = P' ++ Re ++ Q' ∧
    ∀ H' e' Se' Re', Stay H H' (P ++ Q) (P' ++ Q') → Dat K H' e' k v Se' Re' → ∃ d', setP d p e' = some d' ∧ Dat K H' d' n x (P ++ Se' ++ Q) (P' ++ Re' ++ Q')
theorem Foc.nil {d : D} {n : Nat} {x : V} {S R : List Addr} (h : Dat K H d n x S R) : Foc K H d n x S R [] d n x S R :=
  ⟨h, [], [], [], [], by simp, by simp, fun H' e' Se' Re' _ g => ⟨e', rfl, by simpa using g⟩⟩
theorem setP_snoc : ∀ (p : List D) (d e : D) (i e' : D), getP d p = some e → setP d (p ++ [i]) e' = (setC e i e').bind fun c => setP d p c
  | [], d, e, i, e', h => by
    cases h
    show (getC d i).bind (fun c => (some e').bind fun c' => setC d i c') = _
    cases hc : getC d i with
    | some c =>
      show setC d i e' = (setC d i e').bind fun c => some c
      cases setC d i e' <;> rfl
    | none =>
      have : setC d i e' = none := by
        cases d with
        | lst l =>
          simp only [getC] at hc
          simp only [setC]
          cases hj : ixD l.length i with
          | none => rfl
          | some j =>
            rw [hj] at hc
            have : j < l.length := by
              cases i with
              | int z => exact (ixN_seq hj).2.1
              | _ => cases hj
            simp [List.getElem?_eq_getElem this] at hc
        | tup l =>
          simp only [getC] at hc
          simp only [setC]
          cases hj : ixD l.length i with
          | none => rfl
          | some j =>
            rw [hj] at hc
            have : j < l.length := by
              cases i with
              | int z => exact (ixN_seq hj).2.1
              | _ => cases hj
            simp [List.getElem?_eq_getElem this] at hc
        | _ => rfl
      rw [this]
      rfl
  | j :: p, d, e, i, e', h => by
    unfold getP at h
    cases hc : getC d j with
    | none => rw [hc] at h; cases h
    | some c =>
      rw [hc] at h
      show (getC d j).bind (fun c => (setP c (p ++ [i]) e').bind fun c' => setC d j c') = (setC e i e').bind fun x => (getC d j).bind fun c => (setP c p x).bind fun c' => setC d j c'
      rw [hc]
      simp only [Option.bind_some]
      rw [setP_snoc p c e i e' h]
      cases setC e i e' <;> rfl
theorem Foc.step {d e c : D} {n k : Nat} {x v : V} {S R Se Re : List Addr} {p : List D} {i : D} (h : Foc K H d n x S R p e (k + 1) v Se Re) (hp : getP d p = some e) (hc : getC e i = some c) :
    ∃ u Sc Rc, Foc K H d n x S R (p ++ [i]) c k u Sc Rc ∧ ∀ {Q : VK}, (∀ y B, Dat K H i 0 y [] B → Q u H → rIx K v y H Q) := by
  obtain ⟨hd, P, Q, P', Q', rfl, rfl, rep⟩ := h
  cases e with
  | lst l =>
    simp only [getC] at hc
    cases hj : ixD l.length i with
    | none => rw [hj] at hc; cases hc
    | some j =>
      rw [hj] at hc
      simp only [Option.bind_some] at hc
      unfold Dat at hd
      obtain ⟨a, xs, S', rfl, ha, rfl, dd⟩ := hd
      obtain ⟨u, Sc, Rc, P2, Q2, P3, Q3, e1, g, rfl, rfl, rep2⟩ := dd.focus hc
      refine ⟨u, Sc, Rc, ⟨g, P ++ a :: P2, Q2 ++ Q, P' ++ P3, Q3 ++ Q', by simp, by simp, fun H' e' Se' Re' st g' => ?_⟩, fun {Qv} y B hy q => ?_⟩
      · have st2 : Stay H H' (P2 ++ Q2) (P3 ++ Q3) := st.mono (fun b hb => by simp at hb ⊢; rcases hb with hb | hb <;> simp [hb]) fun b hb => by simp at hb ⊢; rcases hb with hb | hb <;> simp [hb]
        have ha' : H' a = some (.lst xs) := st.own a (by simp) _ ha
        have w := rep2 H' e' Se' Re' st2 g'
        obtain ⟨d', ed, gd⟩ := rep H' (.lst (l.set j e')) (a :: (P2 ++ Se' ++ Q2)) (P3 ++ Re' ++ Q3) (st.mono (fun b hb => by simp at hb ⊢; rcases hb with hb | hb <;> simp [hb]) fun b hb => by simp at hb ⊢; rcases hb with hb | hb <;> simp [hb]) (by unfold Dat; exact ⟨a, xs, _, rfl, ha', rfl, w⟩)
        refine ⟨d', ?_, by simpa using gd⟩
        rw [setP_snoc p d _ i e' hp]
        simp only [setC]
        rw [hj]
        exact ed
      · cases i with
        | int z =>
          exact .inl ⟨a, xs, z, u, rfl, dat_int hy, .of ha, atI_of (by rw [dd.length]; exact hj) e1, q⟩
        | _ => cases hj
  | tup l =>
    simp only [getC] at hc
    cases hj : ixD l.length i with
    | none => rw [hj] at hc; cases hc
    | some j =>
      rw [hj] at hc
      simp only [Option.bind_some] at hc
      unfold Dat at hd
      obtain ⟨a, xs, rfl, ha, dd⟩ := hd
      obtain ⟨u, Sc, Rc, P2, Q2, P3, Q3, e1, g, rfl, rfl, rep2⟩ := dd.focus hc
      refine ⟨u, Sc, Rc, ⟨g, P ++ P2, Q2 ++ Q, P' ++ P3, Q3 ++ Q', by simp, by simp, fun H' e' Se' Re' st g' => ?_⟩, fun {Qv} y B hy q => ?_⟩
      · have st2 : Stay H H' (P2 ++ Q2) (P3 ++ Q3) := st.mono (fun b hb => by simp at hb ⊢; rcases hb with hb | hb <;> simp [hb]) fun b hb => by simp at hb ⊢; rcases hb with hb | hb <;> simp [hb]
        have ha' : H' a = some (.tup xs) := st.tup a _ ha
        have w := rep2 H' e' Se' Re' st2 g'
        obtain ⟨d', ed, gd⟩ := rep H' (.tup (l.set j e')) (P2 ++ Se' ++ Q2) (P3 ++ Re' ++ Q3) (st.mono (fun b hb => by simp at hb ⊢; rcases hb with hb | hb <;> simp [hb]) fun b hb => by simp at hb ⊢; rcases hb with hb | hb <;> simp [hb]) (by unfold Dat; exact ⟨a, xs, rfl, ha', w⟩)
        refine ⟨d', ?_, by simpa using gd⟩
        rw [setP_snoc p d _ i e' hp]
        simp only [setC]
        rw [hj]
        exact ed
      · cases i with
        | int z =>
          exact .inr (.inl ⟨a, xs, z, u, rfl, dat_int hy, .of ha, atI_of (by rw [dd.length]; exact hj) e1, q⟩)
        | _ => cases hj
  | _ => cases hc
theorem Foc.same {H' : Hp} {d e : D} {n k : Nat} {x v : V} {S R Se Re : List Addr} {p : List D} (h : Foc K H d n x S R p e k v Se Re) (s : Same H H') : Foc K H' d n x S R p e k v Se Re := by
  obtain ⟨hd, P, Q, P', Q', e1, e2, rep⟩ := h
  refine ⟨hd.same s, P, Q, P', Q', e1, e2, fun H2 e' Se' Re' st g => rep H2 e' Se' Re' ⟨fun b xs q => st.tup b xs (s b _ q), fun b o xs q => st.frz b o xs (s b _ q), fun b o xs q => st.scr b o xs (s b _ q), fun b hb o q => st.own b hb o (s b _ q), fun b hb o q => st.res b hb o (s b _ q)⟩ g⟩
end

section
variable {K : PySem.W.Frag} {F : Fr} {H0 H : Hp} {Γ : List Nat} {ρ : Rho} {σ : L2.St} {S R : Nat → List Addr}
theorem Sto.upd {i : Nat} {a : Addr} {o : HO} {d d' : D} {x : V} {A B : List Addr} (h : Sto K F H0 Γ ρ σ H S R) (hd : ρ[i]? = some (some d)) (hx : σ[i]? = some (some x)) (ha : a ∈ S i) (g : Dat K (upd H a o) d' (Γ.getD i 0) x A B)
    (nd : A.Nodup) (hA : ∀ b ∈ A, b ∈ S i ∨ (H0 b = none ∧ ¬ F b ∧ (∀ j, b ∉ S j) ∧ ∀ j, b ∉ R j)) (hB : ∀ b ∈ B, b ∉ A ∧ ¬ F b ∧ ∀ j, j ≠ i → b ∉ S j) :
    Sto K F H0 Γ (ρ.set i (some d')) σ (upd H a o) (fun j => if j = i then A else S j) (fun j => if j = i then B else R j) := by
  have hl : i < ρ.length := (List.getElem?_eq_some_iff.mp hd).1
  have mu := h.mut i a ha
  have other : ∀ j, j ≠ i → Stay H (L2.upd H a o) (S j) (R j) := fun j hj => by
    refine ⟨fun b xs q => ?_, fun b ob xs q => ?_, fun b ob xs q => ?_, fun b hb u q => ?_, fun b hb u q => ?_⟩
    · rw [upd_ne (fun z => by subst z; rw [q] at mu; exact mu)]; exact q
    · rw [upd_ne (fun z => by subst z; rw [q] at mu; exact mu)]; exact q
    · rw [upd_ne (fun z => by subst z; rw [q] at mu; exact mu)]; exact q
    · rw [upd_ne (fun z => by subst z; exact h.dj j i hj _ hb ha)]; exact q
    · rw [upd_ne (fun z => by subst z; exact h.rs j i _ hb ha)]; exact q
  refine ⟨fun b u q => ?_, by simp [h.len], fun j e q => ?_, fun j q => ?_, fun j b hb => ?_, fun j => ?_, fun j k hjk b hb hk => ?_, fun j k b hb hk => ?_, fun j b hb => ?_, fun j b hb => ?_, fun b hb => ?_, h.pin⟩
  · rw [upd_ne (fun z => by subst z; rw [h.new i _ ha] at q; cases q)]
    exact h.same b u q
  · by_cases hj : j = i
    · subst hj
      rw [List.getElem?_set_self hl] at q
      cases q
      rw [if_pos rfl, if_pos rfl]
      exact ⟨x, hx, g⟩
    · rw [List.getElem?_set_ne (Ne.symm hj)] at q
      obtain ⟨y, e1, e2⟩ := h.slot j e q
      rw [if_neg hj, if_neg hj]
      exact ⟨y, e1, Dat.stay _ _ _ _ _ (other j hj) e2⟩
  · by_cases hj : j = i
    · subst hj
      exact absurd (List.getElem?_set_self hl) (q d')
    · rw [if_neg hj, if_neg hj]
      refine h.emp j fun e q' => q e ?_
      rw [List.getElem?_set_ne (Ne.symm hj)]
      exact q'
  · split at hb
    · rcases hA b hb with z | z
      · exact h.new i b z
      · exact z.1
    · exact h.new j b hb
  · split
    · exact nd
    · exact h.nd j
  · split at hb
    · split at hk
      · omega
      · rcases hA b hb with z | z
        · exact h.dj i k (by omega) b z hk
        · exact z.2.2.1 k hk
    · split at hk
      · rcases hA b hk with z | z
        · exact h.dj i j (by omega) b z hb
        · exact z.2.2.1 j hb
      · exact h.dj j k hjk b hb hk
  · split at hb
    · split at hk
      · exact (hB b hb).1 hk
      · exact (hB b hb).2.2 k (by assumption) hk
    · split at hk
      · rcases hA b hk with z | z
        · exact h.rs j i b hb z
        · exact z.2.2.2 j hb
      · exact h.rs j k b hb hk
  · split at hb
    · exact (hB b hb).2.1
    · exact h.rf j b hb
  · split at hb
    · rcases hA b hb with z | z
      · exact h.sf i b z
      · exact z.2.1
    · exact h.sf j b hb
  · unfold L2.upd
    split
    · simp
    · exact h.fd b hb
end
end TW
-- TWMut2
namespace TW
open PySem PySem.Spec PyProof.Rows L2

theorem Sto.node {K : PySem.W.Frag} {F : Fr} {H0 H : Hp} {Γ : List Nat} {ρ : Rho} {σ : L2.St} {S R : Nat → List Addr} {i k : Nat} {a : Addr} {o : HO} {d c e' : D} {x v : V} {A B S' Re S2 R2 : List Addr} {p : List D}
    (st : Sto K F H0 Γ ρ σ H S R) (hd : ρ[i]? = some (some d)) (hx : σ[i]? = some (some x)) (foc : Foc K H d (Γ.getD i 0) x (S i) (R i) p c k v (a :: S') Re) (g : Dat K (L2.upd H a o) e' k v (a :: S2) R2) (nd : (a :: S2).Nodup)
    (h2 : ∀ b ∈ S2, b ∈ S' ∨ b ∈ A) (nA : ∀ b ∈ A, H0 b = none ∧ ¬ F b ∧ (∀ j, b ∉ S j) ∧ ∀ j, b ∉ R j) (hR2 : ∀ b ∈ R2, b ∈ Re ∨ b ∈ B) (hB : ∀ b ∈ B, ¬ Av F S b ∧ b ∉ A) :
    ∃ d' S'' R'', setP d p e' = some d' ∧ Sto K F H0 Γ (ρ.set i (some d')) σ (L2.upd H a o) S'' R'' ∧ Keep S H (L2.upd H a o) ∧ ∀ j b, b ∈ S'' j → (∃ l, b ∈ S l) ∨ b ∈ A := by
  obtain ⟨hc, P, Q, P', Q', eS, eR, rep⟩ := foc
  have ha : a ∈ S i := by rw [eS]; simp
  have mu := st.mut i a ha
  have ndS := st.nd i
  rw [eS] at ndS
  have ndS' : P.Nodup ∧ (a :: S').Nodup ∧ Q.Nodup ∧ (∀ b ∈ P, b ∉ a :: S') ∧ (∀ b ∈ P, b ∉ Q) ∧ ∀ b ∈ a :: S', b ∉ Q := by
    obtain ⟨h1, h2, h3⟩ := List.nodup_append.mp ndS
    obtain ⟨h4, h5, h6⟩ := List.nodup_append.mp h1
    exact ⟨h4, h5, h2, fun b hb hb' => h6 b hb b hb' rfl, fun b hb hb' => h3 b (List.mem_append_left _ hb) b hb' rfl, fun b hb hb' => h3 b (List.mem_append_right _ hb) b hb' rfl⟩
  obtain ⟨nP, nS, nQ, dPS, dPQ, dSQ⟩ := ndS'
  have stay : Stay H (L2.upd H a o) (P ++ Q) (P' ++ Q') := by
    refine ⟨fun b xs q => ?_, fun b ob xs q => ?_, fun b ob xs q => ?_, fun b hb u q => ?_, fun b hb u q => ?_⟩
    · rw [upd_ne (fun z => by subst z; rw [q] at mu; exact mu)]; exact q
    · rw [upd_ne (fun z => by subst z; rw [q] at mu; exact mu)]; exact q
    · rw [upd_ne (fun z => by subst z; rw [q] at mu; exact mu)]; exact q
    · rw [upd_ne (fun z => ?_)]; exact q
      subst z
      rcases List.mem_append.mp hb with hb | hb
      · exact dPS _ hb List.mem_cons_self
      · exact dSQ _ List.mem_cons_self hb
    · rw [upd_ne (fun z => ?_)]; exact q
      subst z
      refine st.rs i i b ?_ ha
      rw [eR]
      rcases List.mem_append.mp hb with hb | hb <;> simp [hb]
  obtain ⟨d', ed, gd⟩ := rep _ e' (a :: S2) R2 stay g
  have inS : ∀ b ∈ a :: S2, b ∈ S i ∨ b ∈ A := fun b hb => by
    rcases List.mem_cons.mp hb with rfl | hb
    · exact .inl ha
    · rcases h2 b hb with hb | hb
      · left; rw [eS]; simp [hb]
      · exact .inr hb
  have notPQ : ∀ b ∈ a :: S2, b ∉ P ∧ b ∉ Q := fun b hb => by
    rcases List.mem_cons.mp hb with rfl | hb
    · exact ⟨fun z => dPS _ z List.mem_cons_self, dSQ _ List.mem_cons_self⟩
    · rcases h2 b hb with hb | hb
      · exact ⟨fun z => dPS _ z (List.mem_cons_of_mem _ hb), dSQ _ (List.mem_cons_of_mem _ hb)⟩
      · have n := (nA b hb).2.2.1 i
        rw [eS] at n
        exact ⟨fun z => n (by simp [z]), fun z => n (by simp [z])⟩
  refine ⟨d', _, _, ed, st.upd (A := P ++ (a :: S2) ++ Q) (B := P' ++ R2 ++ Q') hd hx ha gd ?_ (fun b hb => ?_) fun b hb => ?_, fun b u q hn => ?_, fun j b hb => ?_⟩
  · refine List.nodup_append.mpr ⟨List.nodup_append.mpr ⟨nP, nd, fun b hb b' hb' e => ?_⟩, nQ, fun b hb b' hb' e => ?_⟩
    · subst e; exact (notPQ b hb').1 hb
    · subst e
      rcases List.mem_append.mp hb with hb | hb
      · exact dPQ b hb hb'
      · exact (notPQ b hb).2 hb'
  · have : b ∈ P ∨ b ∈ a :: S2 ∨ b ∈ Q := by
      rcases List.mem_append.mp hb with hb | hb
      · rcases List.mem_append.mp hb with hb | hb
        · exact .inl hb
        · exact .inr (.inl hb)
      · exact .inr (.inr hb)
    rcases this with hb | hb | hb
    · left; rw [eS]; simp [hb]
    · exact (inS b hb).imp id (nA b)
    · left; rw [eS]; simp [hb]
  · have hb' : b ∈ R i ∨ b ∈ B := by
      rw [eR]
      rcases List.mem_append.mp hb with hb | hb
      · rcases List.mem_append.mp hb with hb | hb
        · left; simp [hb]
        · rcases hR2 b hb with hb | hb
          · left; simp [hb]
          · exact .inr hb
      · left; simp [hb]
    have key : ∀ z, z ∈ P ++ (a :: S2) ++ Q → z ∈ S i ∨ z ∈ A := fun z hz => by
      rcases List.mem_append.mp hz with hz | hz
      · rcases List.mem_append.mp hz with hz | hz
        · left; rw [eS]; simp [hz]
        · exact inS z hz
      · left; rw [eS]; simp [hz]
    rcases hb' with hb | hb
    · refine ⟨fun z => ?_, st.rf i b hb, fun j _ => st.rs i j b hb⟩
      rcases key b z with z | z
      · exact st.rs i i b hb z
      · exact (nA b z).2.2.2 i hb
    · refine ⟨fun z => ?_, fun z => (hB b hb).1 (.inl z), fun j _ z => (hB b hb).1 (.inr ⟨j, z⟩)⟩
      rcases key b z with z | z
      · exact (hB b hb).1 (.inr ⟨i, z⟩)
      · exact (hB b hb).2 z
  · rw [upd_ne (fun z => hn i (by subst z; exact ha))]
    exact q
  · split at hb
    · rcases List.mem_append.mp hb with hb | hb
      · rcases List.mem_append.mp hb with hb | hb
        · exact .inl ⟨i, by rw [eS]; simp [hb]⟩
        · exact (inS b hb).imp (fun z => ⟨i, z⟩) id
      · exact .inl ⟨i, by rw [eS]; simp [hb]⟩
    · exact .inl ⟨j, hb⟩

def RP (X : Cx) (W : WX) (Γ : List Nat) (i len : Nat) (e : Expr) (m : Rho → Res (List D)) : Prop :=
  ∃ t, PE X e t ∧ ∀ F H0 ρ σ H S R (Q : VK) d x, Sto X.K F H0 Γ ρ σ H S R → ρ[i]? = some (some d) → σ[i]? = some (some x) →
    PostX X W σ H (fun p => ∃ c, getP d p = some c ∧ ∀ v H' Se Re, Same H H' → Foc X.K H' d (Γ.getD i 0) x (S i) (R i) p c (Γ.getD i 0 - len) v Se Re → Q v H') (m ρ) → t σ H Q
def pNil : Rho → Res (List D) := fun _ => .ok []
def noX {α : Type} : Res α → Res α
  | .ok a => .ok a
  | _ => .stuck
@[simp] theorem noX_ok {α : Type} (a : α) : noX (.ok a) = .ok a := id rfl
def pSnoc (m : Rho → Res (List D)) (b : Rho → Res D) : Rho → Res (List D) := fun ρ => (m ρ).bind fun p => (noX (b ρ)).bind fun j => .ok (p ++ [j])
theorem PostX.noX {X : Cx} {W : WX} {σ : L2.St} {H : Hp} {α : Type} {ok : α → Prop} {m : Res α} (h : PostX X W σ H ok (TW.noX m)) : PostX X W σ H ok m := by
  cases m with
  | ok d => exact h
  | exn c => exact h.elim
  | stuck => exact h.elim
section
variable {X : Cx} {W : WX} {Γ : List Nat} {n i len : Nat} {e a b o : Expr} {pos pos' : Pos} {mp : Rho → Res (List D)} {mb me mi : Rho → Res D}
theorem rp_var (h : PE X e (tVar i)) : RP X W Γ i 0 e pNil := by
  refine ⟨_, h, fun F H0 ρ σ H S R Q d x st hd hx po => ?_⟩
  obtain ⟨c, ec, po⟩ := po
  cases ec
  obtain ⟨y, e1, g⟩ := st.slot i d hd
  rw [hx] at e1
  cases e1
  exact ⟨x, hx, po x H _ _ (Same.refl H) (Foc.nil g)⟩
def nApp (v : D) : D → Option D
  | .lst l => if l.length < sizeLine then some (.lst (l ++ [v])) else none
  | _ => none
def nSet (j v : D) : D → Option D
  | .lst l => (ixD l.length j).map fun k => .lst (l.set k v)
  | _ => none
def atS (i : Nat) (f : Rho → Out) : Rho → Out := fun ρ => match ρ[i]? with
  | some (some _) => f ρ
  | _ => .stuck
def mutO (i : Nat) (ρ : Rho) (p : List D) (f : D → Option D) : Out := match ρ[i]? with
  | some (some d) => match updP d p f with
    | some d' => .nx (ρ.set i (some d'))
    | none => .stuck
  | _ => .stuck
def sApp (i : Nat) (mp : Rho → Res (List D)) (me : Rho → Res D) : Rho → Out := atS i fun ρ => (mp ρ).out ρ fun p => (noX (me ρ)).out ρ fun v => mutO i ρ p (nApp v)
def sPut (i : Nat) (mp : Rho → Res (List D)) (mj me : Rho → Res D) : Rho → Out := atS i fun ρ => (me ρ).out ρ fun v => (mp ρ).out ρ fun p => (noX (mj ρ)).out ρ fun j => mutO i ρ p (nSet j v)
def sAug (i : Nat) (op : D → D → Option D) (mp : Rho → Res (List D)) (mj me : Rho → Res D) : Rho → Out := atS i fun ρ => (mp ρ).out ρ fun p => (noX (mj ρ)).out ρ fun j => (noX (me ρ)).out ρ fun v =>
  mutO i ρ p fun c => (gIx c j).bind fun u => (op u v).bind fun z => nSet j z c
theorem atS_ok {X : Cx} {W : WX} {n i : Nat} {Γ : List Nat} {F : Fr} {H0 H : Hp} {S : Nat → List Addr} {ρ : Rho} {f : Rho → Out} {E : Ends} (h : PostS X W F H0 Γ n S H E (atS i f ρ)) : ∃ d, ρ[i]? = some (some d) ∧ PostS X W F H0 Γ n S H E (f ρ) := by
  unfold atS at h
  split at h
  · rename_i d e
    exact ⟨d, e, h⟩
  · exact h.elim
theorem noX_out {X : Cx} {W : WX} {n : Nat} {Γ : List Nat} {F : Fr} {H0 H : Hp} {S : Nat → List Addr} {ρ : Rho} {α : Type} {m : Res α} {f : α → Out} {E : Ends} (h : PostS X W F H0 Γ n S H E ((noX m).out ρ f)) : ∃ v, m = .ok v ∧ PostS X W F H0 Γ n S H E (f v) := by
  cases m with
  | ok v => exact ⟨v, rfl, h⟩
  | exn c => exact h.elim
  | stuck => exact h.elim
theorem mutO_ok {X : Cx} {W : WX} {n i : Nat} {Γ : List Nat} {F : Fr} {H0 H : Hp} {S : Nat → List Addr} {ρ : Rho} {p : List D} {f : D → Option D} {E : Ends} (h : PostS X W F H0 Γ n S H E (mutO i ρ p f)) :
    ∃ d c c' d', ρ[i]? = some (some d) ∧ getP d p = some c ∧ f c = some c' ∧ setP d p c' = some d' ∧ PostS X W F H0 Γ n S H E (.nx (ρ.set i (some d'))) := by
  unfold mutO at h
  split at h
  · rename_i d ed
    unfold updP at h
    cases ec : getP d p with
    | none => rw [ec] at h; exact h.elim
    | some c =>
      rw [ec] at h
      simp only [Option.bind_some] at h
      cases ef : f c with
      | none => rw [ef] at h; exact h.elim
      | some c' =>
        rw [ef] at h
        simp only [Option.bind_some] at h
        cases es : setP d p c' with
        | none => rw [es] at h; exact h.elim
        | some d' => rw [es] at h; exact ⟨d, c, c', d', ed, ec, ef, es, h⟩
  · exact h.elim
theorem sub_stay {K : PySem.W.Frag} {H : Hp} {a : Addr} {o u : HO} {S R : List Addr} (ha : H a = some u) (mu : Mut (some u)) (hS : a ∉ S) (hR : a ∉ R) : Stay H (L2.upd H a o) S R := by
  have ne : ∀ {b w}, H b = some w → ¬ Mut (some w) → b ≠ a := fun q nm z => by subst z; rw [ha] at q; cases q; exact nm mu
  exact ⟨fun b xs q => by rw [upd_ne (ne q fun z => z)]; exact q, fun b ob xs q => by rw [upd_ne (ne q fun z => z)]; exact q, fun b ob xs q => by rw [upd_ne (ne q fun z => z)]; exact q,
    fun b hb w q => by rw [upd_ne (fun z => hS (by subst z; exact hb))]; exact q, fun b hb w q => by rw [upd_ne (fun z => hR (by subst z; exact hb))]; exact q⟩
theorem node_lst {K : PySem.W.Frag} {F : Fr} {H0 H : Hp} {Γ : List Nat} {ρ : Rho} {σ : L2.St} {S R : Nat → List Addr} {i k : Nat} {d : D} {l : List D} {x v : V} {Se Re : List Addr} {p : List D}
    (st : Sto K F H0 Γ ρ σ H S R) (foc : Foc K H d (Γ.getD i 0) x (S i) (R i) p (.lst l) (k + 1) v Se Re) :
    ∃ a xs S', v = .ref a ∧ H a = some (.lst xs) ∧ Se = a :: S' ∧ Dats K H l k xs S' Re ∧ a ∈ S i ∧ a ∉ S' ∧ a ∉ Re ∧ S'.Nodup ∧ (∀ b ∈ S', b ∈ S i) ∧ ∀ b ∈ Re, b ∈ R i := by
  obtain ⟨hc, P, Q, P', Q', eS, eR, _⟩ := foc
  unfold Dat at hc
  obtain ⟨a, xs, S', rfl, ha, rfl, dd⟩ := hc
  have ndS := st.nd i
  rw [eS] at ndS
  have nd2 : (a :: S').Nodup := (List.nodup_append.mp (List.nodup_append.mp ndS).1).2.1
  refine ⟨a, xs, S', rfl, ha, rfl, dd, by rw [eS]; simp, (List.nodup_cons.mp nd2).1, fun z => st.rs i i a (by rw [eR]; simp [z]) (by rw [eS]; simp), (List.nodup_cons.mp nd2).2, fun b hb => by rw [eS]; simp [hb], fun b hb => by rw [eR]; simp [hb]⟩
theorem Dats.put {K : PySem.W.Frag} {H : Hp} : ∀ {ds : List D} {n : Nat} {xs : List V} {S R : List Addr} {j : Nat} {e' : D} {y : V} {A B : List Addr}, Dats K H ds n xs S R → j < ds.length → Dat K H e' n y A B →
    ∃ S2 R2, Dats K H (ds.set j e') n (xs.set j y) S2 R2 ∧ (∀ b ∈ S2, b ∈ S ∨ b ∈ A) ∧ (S.Nodup → A.Nodup → (∀ b ∈ A, b ∉ S) → S2.Nodup) ∧ ∀ b ∈ R2, b ∈ R ∨ b ∈ B
  | [], _, _, _, _, _, _, _, _, _, h, hj, g => by simp at hj
  | d :: ds, n, _, _, _, 0, e', y, A, B, h, hj, g => by
    unfold Dats at h
    obtain ⟨x, xs', S1, S2, R1, R2, rfl, rfl, rfl, h1, h2⟩ := h
    refine ⟨A ++ S2, B ++ R2, Dats.cons g h2, fun b hb => ?_, fun n1 n2 n3 => ?_, fun b hb => ?_⟩
    · rcases List.mem_append.mp hb with hb | hb
      · exact .inr hb
      · exact .inl (List.mem_append_right _ hb)
    · exact List.nodup_append.mpr ⟨n2, (List.nodup_append.mp n1).2.1, fun b hb b' hb' e => by subst e; exact n3 b hb (List.mem_append_right _ hb')⟩
    · rcases List.mem_append.mp hb with hb | hb
      · exact .inr hb
      · exact .inl (List.mem_append_right _ hb)
  | d :: ds, n, _, _, _, j + 1, e', y, A, B, h, hj, g => by
    unfold Dats at h
    obtain ⟨x, xs', S1, S2, R1, R2, rfl, rfl, rfl, h1, h2⟩ := h
    obtain ⟨S3, R3, q, a1, a2, a3⟩ := Dats.put (j := j) h2 (by simpa using hj) g
    refine ⟨S1 ++ S3, R1 ++ R3, Dats.cons h1 q, fun b hb => ?_, fun n1 n2 n3 => ?_, fun b hb => ?_⟩
    · rcases List.mem_append.mp hb with hb | hb
      · exact .inl (List.mem_append_left _ hb)
      · exact (a1 b hb).imp (List.mem_append_right _) id
    · obtain ⟨m1, m2, m3⟩ := List.nodup_append.mp n1
      refine List.nodup_append.mpr ⟨m1, a2 m2 n2 fun b hb hb' => n3 b hb (List.mem_append_right _ hb'), fun b hb b' hb' e => ?_⟩
      subst e
      rcases a1 b hb' with z | z
      · exact m3 b hb b z rfl
      · exact n3 b z (List.mem_append_left _ hb)
    · rcases List.mem_append.mp hb with hb | hb
      · exact .inl (List.mem_append_left _ hb)
      · exact (a3 b hb).imp (List.mem_append_right _) id
theorem rs_app (hp : RP X W Γ i len o mp) (he : RE X W Γ (Γ.getD i 0 - len - 1) true e me) (hk : len < Γ.getD i 0 := by decide)
    (hbase : attributeBase o "append" X.env (eval o X.env) = eval o X.env := by rfl)
    (hfew : ((backTo pos (starEach (e :: []) X.env)).all (fun x => !x.1) && (backToKw pos (keywordEach [] X.env)).all (fun x => x.1.isSome)
      && decide ((e :: []).length + ([] : List Keyword).length + (if ([] : List Keyword).isEmpty then 0 else 1) < 30)) = true := by rfl)
    (hline : (pos'.endLine == pos.line) = true := by rfl) (hs : starEach (e :: []) X.env = (false, eval e X.env) :: starEach [] X.env := by rfl) (hplain : (backTo pos (starEach [] X.env)).any (·.1) = false := by rfl)
    {pos2 : Pos} (hw : swapsWith (.Call (.Attribute o "append" pos') [e] [] pos) none pos2.line X.env = pure false := by rfl) :
    RS X W n Γ Γ (.Expr (.Call (.Attribute o "append" pos') [e] [] pos) pos2) (sApp i mp me) := by
  obtain ⟨ta, pa, qa⟩ := hp
  obtain ⟨tb, pb, qb⟩ := he
  refine ⟨_, ps_expr (pe_bm PySem.F.plainAttrs_list PySem.F.slot_list_append PySem.F.type_list_append mt_append pa (pa_cons pb pa_nil hs) hbase hfew hline hs hplain) hw, fun F H0 ρ σ H S R E st po => ?_⟩
  obtain ⟨d, hd, po⟩ := atS_ok po
  · obtain ⟨x, hx, _⟩ := st.slot i d hd
    refine qa F H0 ρ σ H S R _ d x st hd hx ((PostS.ofR st po).imp fun p ep po => ?_)
    obtain ⟨v0, ev0, po0⟩ := noX_out po
    obtain ⟨d', c, c', d2, hd', hc, hf, hs', po2⟩ := mutO_ok po0
    rw [hd] at hd'
    cases hd'
    refine ⟨c, hc, fun v H1 Se Re s1 foc => ?_⟩
    unfold nApp at hf
    split at hf
    · rename_i l
      split at hf
      · rename_i hlen
        cases hf
        obtain ⟨kk, hkk⟩ : ∃ kk, Γ.getD i 0 - len = kk + 1 := ⟨Γ.getD i 0 - len - 1, by omega⟩
        rw [hkk] at foc
        obtain ⟨a, xs, S', rfl, ha, rfl, dd, haS, haS', haR, ndS', subS, subR⟩ := node_lst (st.grow s1) foc
        refine ⟨.inl ⟨rfl, _, .of ha⟩, ?_⟩
        have st1 := st.grow s1
        refine qb F H0 ρ σ H1 S R _ st1 ?_
        rw [ev0]
        intro y H2 A B s2 d2' v2 f2
        obtain ⟨nA, wA⟩ := f2 rfl
        have st2 := st1.grow s2
        have ha2 := s2 _ _ ha
        refine ⟨a, xs, y, rfl, rfl, ha2, by rw [dd.length]; exact hlen, ?_⟩
        have haA : a ∉ A := fun z => by rw [(wA a z).1] at ha; cases ha
        have haB : a ∉ B := fun z => v2 a z (.inr ⟨i, haS⟩)
        have hkk2 : Γ.getD i 0 - len - 1 = kk := by omega
        rw [hkk2] at d2'
        have g : Dat X.K (L2.upd H2 a (.lst (xs ++ [y]))) (.lst (l ++ [v0])) (kk + 1) (.ref a) (a :: (S' ++ A)) (Re ++ B) := by
          unfold Dat
          refine ⟨a, _, _, rfl, upd_same, rfl, Dats.append (Dats.stay _ _ _ _ _ (sub_stay (K := X.K) ha2 trivial haS' haR) (dd.same s2)) (Dats.one (Dat.stay _ _ _ _ _ (sub_stay (K := X.K) ha2 trivial haA haB) d2'))⟩
        obtain ⟨d3, S'', R'', ed, st3, kp, gr⟩ := st2.node (A := A) (B := B) hd hx (foc.same s2) g (by
            refine List.nodup_cons.mpr ⟨fun z => ?_, List.nodup_append.mpr ⟨ndS', nA, fun b hb b' hb' e => ?_⟩⟩
            · rcases List.mem_append.mp z with z | z
              · exact haS' z
              · exact haA z
            · subst e
              exact st1.domS i b (subS b hb) (wA b hb').1) (fun b hb => List.mem_append.mp hb) (fun b hb => ⟨st1.same.free (wA b hb).1, fun z => st1.fd b z (wA b hb).1, fun j z => st1.domS j b z (wA b hb).1, fun j z => st1.domR j b z (wA b hb).1⟩)
            (fun b hb => List.mem_append.mp hb) fun b hb => ⟨v2 b hb, fun z => (wA b z).2 hb⟩
        rw [hs'] at ed
        cases ed
        exact po2 σ _ S'' R'' st3 ((Keep.of_same (s1.trans s2)).trans Grow.refl kp) fun j b hb => (gr j b hb).imp id fun z => s1.free (wA b z).1
      · cases hf
    · cases hf
end
end TW
-- TWMut3
namespace TW
open PySem PySem.Spec PyProof.Rows L2

section
variable {X : Cx}
end
def gAddI : D → D → Option D
  | .int i, .int j => some (.int (i + j))
  | _, _ => none
section
variable {X : Cx} {W : WX} {Γ : List Nat} {n i len : Nat} {e a b o : Expr} {pos pos' : Pos} {mp : Rho → Res (List D)} {mb me mi : Rho → Res D}
def sAugN (i : Nat) (me : Rho → Res D) : Rho → Out := atS i fun ρ => (me ρ).out ρ fun v => (m2 gAddI (mVar i) (mC v) ρ).out ρ fun z => .nx (ρ.set i (some z))
end

def wipeR (ρ : Rho) : List Nat → Rho
  | [] => ρ
  | v :: vs => (wipeR ρ vs).set v none
def compL (f : D → Res (Option D)) : List D → Res (List D)
  | [] => .ok []
  | d :: ds => (noX (f d)).bind fun o => (compL f ds).bind fun r => .ok (o.toList ++ r)
def mLc (vs : List Nat) (f : D → Rho → Option Rho) (it : Rho → Res (List D)) (tt : Rho → Res Bool) (me : Rho → Res D) : Rho → Res D := fun ρ => (it ρ).bind fun ds =>
  if ds.length < sizeLine then (compL (fun d => match f d (wipeR ρ vs) with
    | some ρ' => (tt ρ').bind fun k => if k = true then (me ρ').bind fun v => .ok (some v) else .ok none
    | none => .stuck) ds).bind fun l => .ok (.lst l)
  else .stuck
def tYesM : Rho → Res Bool := fun _ => .ok true
theorem compL_append {f : D → Res (Option D)} : ∀ {ds es : List D} {l : List D}, compL f (ds ++ es) = .ok l → ∃ l1 l2, compL f ds = .ok l1 ∧ compL f es = .ok l2 ∧ l = l1 ++ l2
  | [], es, l, h => ⟨[], l, rfl, h, rfl⟩
  | d :: ds, es, l, h => by
    have h : ((noX (f d)).bind fun o => (compL f (ds ++ es)).bind fun r => Res.ok (o.toList ++ r)) = .ok l := h
    cases e1 : f d with
    | ok o =>
      rw [e1] at h
      simp only [noX_ok, Res.bind_ok] at h
      cases e2 : compL f (ds ++ es) with
      | ok r =>
        rw [e2] at h
        cases h
        obtain ⟨l1, l2, h1, h2, rfl⟩ := compL_append e2
        refine ⟨o.toList ++ l1, l2, ?_, h2, by simp⟩
        unfold compL
        rw [e1, h1]
        rfl
      | exn c => rw [e2] at h; cases h
      | stuck => rw [e2] at h; cases h
    | exn c => rw [e1] at h; cases h
    | stuck => rw [e1] at h; cases h
section
variable {K : PySem.W.Frag} {F : Fr} {H0 H : Hp} {Γ : List Nat} {ρ : Rho} {σ : L2.St} {S R : Nat → List Addr}
theorem Sto.wipe1 (h : Sto K F H0 Γ ρ σ H S R) (i : Nat) (hi : Γ.getD i 0 = 0) : ∃ R', Sto K F H0 Γ (ρ.set i none) (σ.set i none) H S R' := by
  have hs : S i = [] := by
    by_cases e : ∃ d, ρ[i]? = some (some d)
    · obtain ⟨d', e⟩ := e
      obtain ⟨y, _, g⟩ := h.slot i d' e
      rw [hi] at g
      exact Dat.noS g
    · exact (h.emp i fun d q => e ⟨d, q⟩).1
  have pin : ∀ j v, F.pin j = some v → Γ.getD j 0 = 99 ∧ (σ.set i none)[j]? = some (some v) := fun j v q => by
    obtain ⟨p1, p2⟩ := h.pin j v q
    have hj : i ≠ j := fun z => by subst z; omega
    exact ⟨p1, by rw [List.getElem?_set_ne hj]; exact p2⟩
  refine ⟨fun j => if j = i then [] else R j, ⟨h.same, by simp [h.len], fun j e q => ?_, fun j q => ?_, h.new, h.nd, h.dj, fun j k a ha hk => ?_, fun j a ha => ?_, h.sf, h.fd, pin⟩⟩
  · by_cases hj : j = i
    · subst hj
      by_cases hl : j < ρ.length
      · rw [List.getElem?_set_self hl] at q; cases q
      · rw [List.getElem?_eq_none (by simp; omega)] at q; cases q
    · rw [List.getElem?_set_ne (Ne.symm hj)] at q
      obtain ⟨y, e1, e2⟩ := h.slot j e q
      refine ⟨y, by rw [List.getElem?_set_ne (Ne.symm hj)]; exact e1, ?_⟩
      rw [if_neg hj]
      exact e2
  · by_cases hj : j = i
    · subst hj
      rw [if_pos rfl]
      exact ⟨hs, rfl⟩
    · rw [if_neg hj]
      refine h.emp j fun e q' => q e ?_
      rw [List.getElem?_set_ne (Ne.symm hj)]
      exact q'
  · split at ha
    · simp at ha
    · exact h.rs j k a ha hk
  · split at ha
    · simp at ha
    · exact h.rf j a ha
theorem Sto.wipe : ∀ (vs : List Nat), (∀ v ∈ vs, Γ.getD v 0 = 0) → Sto K F H0 Γ ρ σ H S R → ∃ R', Sto K F H0 Γ (wipeR ρ vs) (L2.wipe σ vs) H S R'
  | [], _, h => ⟨R, h⟩
  | v :: vs, hv, h => by
    obtain ⟨R1, h1⟩ := Sto.wipe vs (fun u hu => hv u (List.mem_cons_of_mem _ hu)) h
    exact h1.wipe1 v (hv v List.mem_cons_self)
end
def RGw (X : Cx) (Γ : List Nat) (vs : List Nat) (tg : Expr) (f : D → Rho → Option Rho) : Prop :=
  ∃ g, PG X tg g ∧ ∀ F H0 ρ σ H S R d x B ρ' (Q : L2.St → Hp → Prop), Sto X.K F H0 Γ ρ σ H S R → Dat X.K H d 0 x [] B → (∀ a ∈ B, ¬ Av F S a) → f d ρ = some ρ' → (∀ σ' R', Sto X.K F H0 Γ ρ' σ' H S R' → L2.wipe σ' vs = L2.wipe σ vs → Q σ' H) → g x σ H Q
theorem wipe_key {i : Nat} {v : Option V} : ∀ (vs : List Nat) (τ : L2.St), (L2.wipe (τ.set i v) vs).set i none = (L2.wipe τ vs).set i none := by
  intro vs
  induction vs with
  | nil => intro τ; unfold L2.wipe; rw [List.set_set]
  | cons w vs ih =>
    intro τ
    unfold L2.wipe
    by_cases ew : w = i
    · subst ew; rw [ih]
    · rw [List.set_comm _ _ ew, ih, List.set_comm _ _ ew]
theorem wipe_idem (σ : L2.St) : ∀ vs : List Nat, L2.wipe (L2.wipe σ vs) vs = L2.wipe σ vs
  | [] => rfl
  | v :: vs => by
    show (L2.wipe ((L2.wipe σ vs).set v none) vs).set v none = (L2.wipe σ vs).set v none
    rw [wipe_key, wipe_idem σ vs]
theorem wipe_set {σ : L2.St} {i : Nat} {v : Option V} : ∀ {vs : List Nat}, i ∈ vs → L2.wipe (σ.set i v) vs = L2.wipe σ vs
  | [], h => by simp at h
  | u :: vs, h => by
    unfold L2.wipe
    by_cases e : i = u
    · subst e
      exact wipe_key vs σ
    · rw [wipe_set ((List.mem_cons.mp h).resolve_left e)]
section
variable {X : Cx} {Γ : List Nat} {pos : Pos} {vs : List Nat}
theorem rgw_n {i : Nat} {x : Str} (hN : X.N.Nodup) (hx : Loc X.env.scope x) (hi : X.N[i]? = some x := by rfl) (hz : Γ.getD i 0 = 0 := by rfl) (hv : i ∈ vs := by decide)
    (hf : X.fn x = true ∨ X.env.scope.names.lookup x = some .local := by first | exact .inl rfl | exact .inr rfl | assumption) : RGw X Γ vs (.Name x pos) (tgN i) := by
  refine ⟨_, pg_name hN hi hx hf, fun F H0 ρ σ H S R d x B ρ' Q st hd hb e q => ?_⟩
  cases e
  obtain ⟨R', st'⟩ := st.set0 hz hd hb
  exact q _ R' st' (wipe_set hv)
end
abbrev W0 : WX := fun _ _ _ _ => False
def RTs (X : Cx) (W : WX) (Γ : List Nat) (es : List Expr) (m : Rho → Res Bool) : Prop :=
  ∃ t, PTs X es t ∧ ∀ F H0 ρ σ H S R Q, Sto X.K F H0 Γ ρ σ H S R → PostT X W σ H Q (m ρ) → t σ H Q
theorem rts_nil {X : Cx} {W : WX} {Γ : List Nat} : RTs X W Γ [] tYesM := ⟨_, pts_nil, fun F H0 ρ σ H S R Q st po => po H (Same.refl H)⟩
theorem rts_one {X : Cx} {W : WX} {Γ : List Nat} {c : Expr} {m : Rho → Res Bool} (h : RT X W Γ c m) : RTs X W Γ [c] m := by
  obtain ⟨t, p, q⟩ := h
  exact ⟨_, pts_one p, q⟩
section
variable {X : Cx} {W : WX} {Γ : List Nat} {n nr : Nat} {elt tg iter : Expr} {ifs : List Expr} {scope : Scope} {own : List (Str × Nat)} {pos : Pos} {f : D → Rho → Option Rho} {mi : Rho → Res (List D)} {tt : Rho → Res Bool} {me : Rho → Res D}
theorem lc_parts (hg : ∀ (s : Shared) (H : Hp) (C : Addr) (cl : List (Str × Addr)) (fp : List Addr), RGw (X.blk s H scope (compEnvC scope cl C X.env) fp) Γ (own.map (·.2)) tg f)
    (ht : ∀ (s : Shared) (H : Hp) (C : Addr) (cl : List (Str × Addr)) (fp : List Addr), RTs (X.blk s H scope (compEnvC scope cl C X.env) fp) W0 Γ ifs tt)
    (he : ∀ (s : Shared) (H : Hp) (C : Addr) (cl : List (Str × Addr)) (fp : List Addr), RE (X.blk s H scope (compEnvC scope cl C X.env) fp) W0 Γ n true elt me) :
    ∃ (g : TG) (t : TT) (te : TE), (∀ (s : Shared) (H : Hp) (C : Addr) (cl : List (Str × Addr)) (fp : List Addr), PG (X.blk s H scope (compEnvC scope cl C X.env) fp) tg g) ∧ (∀ (s : Shared) (H : Hp) (C : Addr) (cl : List (Str × Addr)) (fp : List Addr), PTs (X.blk s H scope (compEnvC scope cl C X.env) fp) ifs t) ∧
      (∀ (s : Shared) (H : Hp) (C : Addr) (cl : List (Str × Addr)) (fp : List Addr), PE (X.blk s H scope (compEnvC scope cl C X.env) fp) elt te) ∧
      (∀ F H0 ρ σ H S R d x B ρ' (Q : L2.St → Hp → Prop), Sto X.K F H0 Γ ρ σ H S R → Dat X.K H d 0 x [] B → (∀ a ∈ B, ¬ Av F S a) → f d ρ = some ρ' → (∀ σ' R', Sto X.K F H0 Γ ρ' σ' H S R' → L2.wipe σ' (own.map (·.2)) = L2.wipe σ (own.map (·.2)) → Q σ' H) → g x σ H Q) ∧
      (∀ F H0 ρ σ H S R Q b, Sto X.K F H0 Γ ρ σ H S R → tt ρ = .ok b → (∀ H', Same H H' → Q b H') → t σ H Q) ∧
      (∀ F H0 ρ σ H S R Q d, Sto X.K F H0 Γ ρ σ H S R → me ρ = .ok d → PostV X.K (Av F S) n true H Q d → te σ H Q) := by
  refine ⟨fun x σ H Q => ∀ s H' C cl fp, Classical.choose (hg s H' C cl fp) x σ H Q, fun σ H Q => ∀ s H' C cl fp, Classical.choose (ht s H' C cl fp) σ H Q, fun σ H Q => ∀ s H' C cl fp, Classical.choose (he s H' C cl fp) σ H Q,
    fun s H C cl fp => ⟨fun pins s1 σ H1 v u Q I r h => (Classical.choose_spec (hg s H C cl fp)).1.run pins s1 σ H1 v u Q I r (h s H C cl fp)⟩, fun s H C cl fp => ⟨fun pins s1 σ H1 Q I h => (Classical.choose_spec (ht s H C cl fp)).1.run pins s1 σ H1 Q I (h s H C cl fp)⟩,
    fun s H C cl fp => ⟨fun pins s1 σ H1 Q I h => (Classical.choose_spec (he s H C cl fp)).1.run pins s1 σ H1 Q I (h s H C cl fp)⟩,
    fun F H0 ρ σ H S R d x B ρ' Q st hd hb e q s H' C cl fp => (Classical.choose_spec (hg s H' C cl fp)).2 F H0 ρ σ H S R d x B ρ' Q st hd hb e q,
    fun F H0 ρ σ H S R Q b st e q s H' C cl fp => (Classical.choose_spec (ht s H' C cl fp)).2 F H0 ρ σ H S R Q st (by rw [e]; exact q),
    fun F H0 ρ σ H S R Q d st e q s H' C cl fp => (Classical.choose_spec (he s H' C cl fp)).2 F H0 ρ σ H S R Q st (by rw [e]; exact q)⟩
theorem lc_run {wi : TI} {g : TG} {t : TT} {te : TE} {vs : List Nat} {F : Fr} {H0 H : Hp} {ρ : Rho} {σ : L2.St} {S R : Nat → List Addr} {Q : VK} (hv : ∀ v ∈ vs, Γ.getD v 0 = 0)
    (qi : ∀ F H0 ρ σ H S R (Rk : It → Hp → Prop), Sto X.K F H0 Γ ρ σ H S R → PostX X W σ H (fun ds => ∀ J H' B, Same H H' → (∀ a ∈ B, ¬ Av F S a) → (∀ a ∈ B, H' a ≠ none) → Iter X.K J H' B ds → Rk J H') (mi ρ) → wi σ H Rk)
    (qg : ∀ F H0 ρ σ H S R d x B ρ' (Q : L2.St → Hp → Prop), Sto X.K F H0 Γ ρ σ H S R → Dat X.K H d 0 x [] B → (∀ a ∈ B, ¬ Av F S a) → f d ρ = some ρ' → (∀ σ' R', Sto X.K F H0 Γ ρ' σ' H S R' → L2.wipe σ' vs = L2.wipe σ vs → Q σ' H) → g x σ H Q)
    (qt : ∀ F H0 ρ σ H S R Q b, Sto X.K F H0 Γ ρ σ H S R → tt ρ = .ok b → (∀ H', Same H H' → Q b H') → t σ H Q)
    (qe : ∀ F H0 ρ σ H S R Q d, Sto X.K F H0 Γ ρ σ H S R → me ρ = .ok d → PostV X.K (Av F S) n true H Q d → te σ H Q)
    (st : Sto X.K F H0 Γ ρ σ H S R) (po : PostE X W (Av F S) (n + 1) true σ H Q (mLc vs f mi tt me ρ)) : tLc wi g t te vs σ H Q := by
  unfold mLc at po
  refine qi F H0 ρ σ H S R _ st ((PostE.iff.mp po).bind.imp fun ds eds po => ?_)
  intro J H1 B s1 v1 dm it1 L hL
  have st1 := st.grow s1
  by_cases hlen : ds.length < sizeLine
  · rw [if_pos hlen] at po
    generalize hfun : (fun d => match f d (wipeR ρ vs) with
      | some ρ' => (tt ρ').bind fun k => if k = true then (me ρ').bind fun v => Res.ok (some v) else Res.ok none
      | none => Res.stuck) = fn at po
    cases ec : compL fn ds with
    | stuck => rw [ec] at po; exact po.elim
    | exn c =>
      exfalso
      clear po
      have nx : ∀ (l : List D), compL fn l ≠ .exn c := by
        intro l
        induction l with
        | nil => intro z; cases z
        | cons d l ih =>
          intro z
          unfold compL at z
          cases e1 : fn d with
          | ok o =>
            rw [e1] at z
            simp only [noX_ok, Res.bind_ok] at z
            cases e2 : compL fn l with
            | ok r => rw [e2] at z; cases z
            | exn c' => rw [e2] at z; cases z; exact ih e2
            | stuck => rw [e2] at z; cases z
          | exn c' => rw [e1] at z; cases z
          | stuck => rw [e1] at z; cases z
      exact nx ds ec
    | ok res =>
      rw [ec] at po
      have po : PostV X.K (Av F S) (n + 1) true H Q (.lst res) := po
      refine ⟨fun i m H' => ∃ l1 xs A1 B1, compL fn (ds.take i) = .ok l1 ∧ H' L = some (.lst xs) ∧ Dats X.K H' l1 n xs A1 B1 ∧ (∀ a ∈ B1, ¬ Av F S a) ∧ A1.Nodup ∧ (∀ a ∈ A1, H1 a = none ∧ a ≠ L ∧ a ∉ B1) ∧ L ∉ B1 ∧ Same H1 H' ∧ xs.length ≤ i ∧ m = ds.length - i ∧ i ≤ ds.length,
        ⟨ds.length, [], [], [], [], rfl, upd_same, .nil, fun a z => by simp at z, List.nodup_nil, fun a z => by simp at z, by simp, same_new hL, Nat.le_refl _, by omega, Nat.zero_le _⟩, ?_⟩
      rintro i m H' ⟨l1, xs, A1, B1, el1, hLl, dl, vB, ndA, nA, nDB, sm, hxs, rfl, hi⟩
      have stay : Stay H1 H' [] B := Stay.of_same sm _ _
      by_cases hlt : i < ds.length
      · have ed : ds[i]? = some ds[i] := List.getElem?_eq_getElem hlt
        obtain ⟨go, yld⟩ := (it1 H' stay i).2 _ ed
        -- the mirror at this item
        have etake : ds.take (i + 1) = ds.take i ++ [ds[i]] := by rw [List.take_add_one, ed]; rfl
        have erest : ds = ds.take (i + 1) ++ ds.drop (i + 1) := (List.take_append_drop _ _).symm
        obtain ⟨r1, r2, hr1, hr2, er⟩ := compL_append (by rw [← erest]; exact ec : compL fn (ds.take (i + 1) ++ ds.drop (i + 1)) = .ok res)
        rw [etake] at hr1
        obtain ⟨q1, q2, hq1, hq2, eq⟩ := compL_append hr1
        rw [el1] at hq1
        cases hq1
        refine .inr ⟨go, fun H2 => ∃ l1 xs A1 B1, compL fn (ds.take (i + 1)) = .ok l1 ∧ H2 L = some (.lst xs) ∧ Dats X.K H2 l1 n xs A1 B1 ∧ (∀ a ∈ B1, ¬ Av F S a) ∧ A1.Nodup ∧ (∀ a ∈ A1, H1 a = none ∧ a ≠ L ∧ a ∉ B1) ∧ L ∉ B1 ∧ Same H1 H2 ∧ xs.length ≤ i + 1 ∧ i + 1 ≤ ds.length,
          fun H2 ⟨a1, a2, a3, a4, h1, h2, h3, h4, h5, h6, h7, h8, h9, h10⟩ => ⟨ds.length - (i + 1), by omega, a1, a2, a3, a4, h1, h2, h3, h4, h5, h6, h7, h8, h9, rfl, h10⟩, fun x H3 hy => ?_⟩
        obtain ⟨s3, B', d3, sub⟩ := yld x H3 hy
        -- the store within: what is made so far is not to be reached
        have sm3 : Same H1 H3 := sm.trans s3
        have new1 : ∀ a ∈ L :: A1, H1 a = none := fun a ha => by
          rcases List.mem_cons.mp ha with rfl | ha
          · exact hL
          · exact (nA a ha).1
        have dom3 : ∀ a ∈ L :: A1, H3 a ≠ none := fun a ha => by
          have : H' a ≠ none := by
            rcases List.mem_cons.mp ha with rfl | ha
            · rw [hLl]; simp
            · exact Dats.dom dl a ha
          cases q : H' a with
          | none => exact absurd q this
          | some o => rw [s3 a o q]; simp
        have stF : Sto X.K (F.plus (L :: A1)) H0 Γ ρ σ H3 S R :=
          (st1.grow sm3).more dom3 (fun a ha j hj => st1.domS j a hj (new1 a ha)) fun a ha j hj => st1.domR j a hj (new1 a ha)
        obtain ⟨Rw, stw⟩ := Sto.wipe vs hv stF
        have vB' : ∀ a ∈ B', ¬ Av (F.plus (L :: A1)) S a := fun a ha z => by
          rcases z with (z | z) | z
          · exact v1 a (sub a ha) (.inl z)
          · exact dm a (sub a ha) (new1 a z)
          · exact v1 a (sub a ha) (.inr z)
        -- the mirror's turn
        have hfd : ∃ o, fn ds[i] = .ok o ∧ q2 = o.toList := by
          unfold compL at hq2
          cases e1 : fn ds[i] with
          | ok o =>
            rw [e1] at hq2
            cases hq2
            exact ⟨o, rfl, by simp⟩
          | exn c => rw [e1] at hq2; cases hq2
          | stuck => rw [e1] at hq2; cases hq2
        obtain ⟨o, efn, eq2⟩ := hfd
        rw [← hfun] at efn
        dsimp only at efn
        cases ef : f ds[i] (wipeR ρ vs) with
        | none => rw [ef] at efn; cases efn
        | some ρ' =>
          rw [ef] at efn
          dsimp only at efn
          refine qg _ H0 _ _ H3 S Rw ds[i] x B' ρ' _ stw d3 vB' ef fun σ4 R4 st4 w4 => ?_
          refine ⟨w4.trans (wipe_idem σ vs), ?_⟩
          cases et : tt ρ' with
          | stuck => rw [et] at efn; cases efn
          | exn c => rw [et] at efn; cases efn
          | ok k =>
            rw [et] at efn
            simp only [Res.bind_ok] at efn
            refine qt _ H0 ρ' σ4 H3 S R4 _ k st4 et fun H4 s4 => ?_
            cases k with
            | false =>
              rw [if_neg Bool.false_ne_true] at efn
              cases efn
              refine iteF ⟨l1, xs, A1, B1, ?_, s4 _ _ (s3 _ _ hLl), (dl.same s3).same s4, vB, ndA, nA, nDB, sm3.trans s4, by omega, hlt⟩
              rw [etake, hr1, eq, eq2]
              simp
            | true =>
              rw [if_pos rfl] at efn
              cases em : me ρ' with
              | stuck => rw [em] at efn; cases efn
              | exn c => rw [em] at efn; cases efn
              | ok v =>
                rw [em] at efn
                cases efn
                refine iteT (qe _ H0 ρ' σ4 H4 S R4 _ v (st4.grow s4) em ?_)
                intro y H5 A2 B2 s5 d5 v5 f5
                obtain ⟨nd2, nw2⟩ := f5 rfl
                have s35 : Same H3 H5 := s4.trans s5
                have hL5 : H5 L = some (.lst xs) := s35 _ _ (s3 _ _ hLl)
                have dom4 : ∀ a, H3 a ≠ none → H4 a ≠ none := fun a h z => h (s4.free z)
                have LA2 : L ∉ A2 := fun z => dom4 L (dom3 L List.mem_cons_self) (nw2 L z).1
                have LB2 : L ∉ B2 := fun z => v5 L z (.inl (.inr List.mem_cons_self))
                have LA1 : L ∉ A1 := fun z => (nA L z).2.1 rfl
                refine ⟨xs, hL5, by omega, l1 ++ [v], xs ++ [y], A1 ++ A2, B1 ++ B2, ?_, upd_same, ?_, fun a ha => ?_, ?_, fun a ha => ?_, fun z => ?_, fun b u q => ?_, by simp; omega, hlt⟩
                · rw [etake, hr1, eq, eq2]; rfl
                · exact Dats.append (Dats.stay _ _ _ _ _ (sub_stay (K := X.K) hL5 trivial LA1 nDB) (((dl.same s3).same s4).same s5)) (Dats.one (Dat.stay _ _ _ _ _ (sub_stay (K := X.K) hL5 trivial LA2 LB2) d5))
                · rcases List.mem_append.mp ha with ha | ha
                  · exact vB a ha
                  · exact fun z => v5 a ha (z.imp .inl id)
                · refine List.nodup_append.mpr ⟨ndA, nd2, fun b hb b' hb' e => ?_⟩
                  subst e
                  exact dom4 b (dom3 b (List.mem_cons_of_mem _ hb)) (nw2 b hb').1
                · rcases List.mem_append.mp ha with ha | ha
                  · refine ⟨(nA a ha).1, (nA a ha).2.1, fun z => ?_⟩
                    rcases List.mem_append.mp z with z | z
                    · exact (nA a ha).2.2 z
                    · exact v5 a z (.inl (.inr (List.mem_cons_of_mem _ ha)))
                  · refine ⟨sm3.free (s4.free (nw2 a ha).1), fun z => LA2 (z ▸ ha), fun z => ?_⟩
                    rcases List.mem_append.mp z with z | z
                    · exact Dats.domR ((dl.same s3).same s4) a z (nw2 a ha).1
                    · exact (nw2 a ha).2 z
                · rcases List.mem_append.mp z with z | z
                  · exact nDB z
                  · exact LB2 z
                · rw [upd_ne (fun z => by subst z; rw [hL] at q; cases q)]
                  exact s35 _ _ (sm3 _ _ q)
      · have e : i = ds.length := by omega
        subst e
        refine .inl ⟨(it1 H' stay _).1 (Nat.le_refl _), ?_⟩
        rw [List.take_length, ec] at el1
        cases el1
        refine po (.ref L) H' (L :: A1) B1 (s1.trans sm) ?_ vB fun _ => ⟨List.nodup_cons.mpr ⟨fun z => (nA L z).2.1 rfl, ndA⟩, fun a ha => ?_⟩
        · unfold Dat
          exact ⟨L, xs, A1, rfl, hLl, rfl, dl⟩
        · rcases List.mem_cons.mp ha with rfl | ha
          · exact ⟨s1.free hL, nDB⟩
          · exact ⟨s1.free (nA a ha).1, (nA a ha).2.2⟩
  · rw [if_neg hlen] at po
    exact po.elim

theorem re_lc (hc : X.calm = true) (hN : X.N.Nodup) (hi : RI X W Γ tg iter mi) (ok : BlkOk X.N X.env.scope scope own) (hg : ∀ (s : Shared) (H : Hp) (C : Addr) (cl : List (Str × Addr)) (fp : List Addr), RGw (X.blk s H scope (compEnvC scope cl C X.env) fp) Γ (own.map (·.2)) tg f)
    (ht : ∀ (s : Shared) (H : Hp) (C : Addr) (cl : List (Str × Addr)) (fp : List Addr), RTs (X.blk s H scope (compEnvC scope cl C X.env) fp) W0 Γ ifs tt)
    (he : ∀ (s : Shared) (H : Hp) (C : Addr) (cl : List (Str × Addr)) (fp : List Addr), RE (X.blk s H scope (compEnvC scope cl C X.env) fp) W0 Γ n true elt me) (hv : ∀ v ∈ own.map (·.2), Γ.getD v 0 = 0 := by decide)
    (hs : ∀ x, foldedSetIterable iter X.env x = pure x := by intro _; rfl) : RE X W Γ (n + 1) true (.ListComp elt [⟨tg, iter, ifs, 0⟩] scope pos) (mLc (own.map (·.2)) f mi tt me) := by
  obtain ⟨wi, pi, qi⟩ := hi
  obtain ⟨g, t, te, pg, pt, pe, qg, qt, qe⟩ := lc_parts hg ht he
  exact ⟨_, pe_lc hc hN pi ok pg pt pe hs, fun F H0 ρ σ H S R Q st po => lc_run hv qi qg qt qe st po⟩
end
def callM (N : Nat) (b : Rho → Out) (ds : List D) : Res D := match b (ds.map some ++ List.replicate (N - ds.length) none) with
  | .rt d => .ok d
  | .nx _ => .ok .non
  | .ex c _ => .exn c
  | .stuck => .stuck
theorem Dats.slot {K : PySem.W.Frag} {H : Hp} {ds : List D} {xs : List V} {R : List Addr} (h : Dats K H ds 0 xs [] R) : ∀ (i : Nat) (d : D), ds[i]? = some d → ∃ x R', xs[i]? = some x ∧ Dat K H d 0 x [] R' ∧ ∀ a ∈ R', a ∈ R := fun i d e => by
  obtain ⟨x, S', R', e1, g, _, r⟩ := h.get e
  obtain rfl : S' = [] := Dat.noS g
  exact ⟨x, R', e1, g, r⟩
theorem mk_ok {P : Program} {w : World} {K : PySem.W.Frag} {mg : Str → Option Value} {base : Heap} {x qual : Str} {st : Stmt} {f : Addr} {fd : FuncData} {N ps : List Str} {k n ar : Nat} {m : Rho → Out} {Γ Γ' : List Nat}
    (F : Fun K x qual st f fd) (Sc : FnScope N ps (defScope st)) (har : ps.length = ar) (hz : ∀ v ∈ Γ, v = 0)
    (body : ∀ (cdv : Value) (A : Around) (outer : List Env) (s : Shared) (H : Hp) (E : XK), Room k (A.deeper (envOfC qual (defScope st) s.heap.objs.size f cdv)) →
      RSs (cxOf (L2.CX P w) P w K mg base N qual (defScope st) f cdv A outer s H E) (fun cls d _ H => E cls d H) n Γ Γ' (defBody st) m) (hn : n < 1000 := by decide) :
    FnOk P w K mg base (L2.CX P w) (k + 1) f fd ps (spM K mg n ar (callM N.length m)) := by
  refine F.okX Sc (fun vs H Q E h => by rw [h.1, har]) (fun cdv A outer s H vs Q E hr h => ?_)
  obtain ⟨t, p, q⟩ := body cdv A outer s H E hr
  refine ⟨t, p, ?_⟩
  obtain ⟨hl, ds, Fb, R, hF, hd, hR, po⟩ := h
  have hps : ps.length ≤ N.length := by have := congrArg List.length Sc.pre; rw [List.length_take] at this; omega
  have hds : ds.length = ar := by rw [← hd.length]; exact hl
  have gz : ∀ i, Γ.getD i 0 = 0 := fun i => by
    rw [List.getD_eq_getElem?_getD]
    cases e : Γ[i]? with
    | none => rfl
    | some v => exact hz v (List.mem_of_getElem? e)
  have slotq : ∀ i : Nat, ∃ R1 : List Addr, (∀ d, ds[i]? = some d → ∃ x, vs[i]? = some x ∧ Dat K H d 0 x [] R1) ∧ (∀ a ∈ R1, a ∈ R) ∧ (ds[i]? = none → R1 = []) := fun i => by
    cases e : ds[i]? with
    | none => exact ⟨[], ⟨(fun d z => nomatch z), (fun a z => nomatch z), (fun _ => rfl)⟩⟩
    | some d =>
      obtain ⟨x, R', e1, g, r⟩ := hd.slot i d e
      exact ⟨R', ⟨fun d' z => by cases z; exact ⟨x, e1, g⟩, r, fun z => by cases z⟩⟩
  have ρget : ∀ i d, (ds.map some ++ List.replicate (N.length - ds.length) none : Rho)[i]? = some (some d) → ds[i]? = some d := fun i d e => by
    by_cases hi : i < ds.length
    · rw [List.getElem?_append_left (by simpa using hi), List.getElem?_map] at e
      cases e2 : ds[i]? with
      | none => rw [e2] at e; cases e
      | some d' => rw [e2] at e; cases e; rfl
    · rw [List.getElem?_append_right (by simpa using hi), List.getElem?_replicate] at e
      split at e <;> cases e
  have st0 : Sto K ⟨Fb, fun _ => none⟩ H Γ (ds.map some ++ List.replicate (N.length - ds.length) none) (L2.start N vs) H (fun _ => []) (fun i => Classical.choose (slotq i)) := by
    refine ⟨Same.refl H, ?_, fun i d e => ?_, fun i z => ⟨rfl, (Classical.choose_spec (slotq i)).2.2 ?_⟩, fun i a z => by simp at z, fun i => List.nodup_nil, fun i j _ a z => by simp at z, fun i j a _ z => by simp at z, fun i a ha => ?_, fun i a z => by simp at z, hF, fun i v q => nomatch q⟩
    · unfold L2.start
      simp only [List.length_append, List.length_map, List.length_replicate]
      rw [hd.length]
    · have ed := ρget i d e
      obtain ⟨x, ex, g⟩ := (Classical.choose_spec (slotq i)).1 d ed
      have hi : i < vs.length := (List.getElem?_eq_some_iff.mp ex).1
      refine ⟨x, ?_, ?_⟩
      · unfold L2.start
        rw [List.getElem?_append_left (by simpa using hi), List.getElem?_map, ex]
        rfl
      · rw [gz i]
        exact g
    · cases e : ds[i]? with
      | none => rfl
      | some d =>
        have hi : i < ds.length := (List.getElem?_eq_some_iff.mp e).1
        refine absurd ?_ (z d)
        rw [List.getElem?_append_left (by simpa using hi), List.getElem?_map, e]
        rfl
    · exact hR a ((Classical.choose_spec (slotq i)).2.1 a ha)
  refine q ⟨Fb, fun _ => none⟩ H _ (L2.start N vs) H (fun _ => []) _ _ st0 ?_
  unfold callM at po
  cases eb : m (ds.map some ++ List.replicate (N.length - ds.length) none) with
  | nx ρ' =>
    rw [eb] at po
    intro σ' H' S' R' st' kp gr
    have sm : Same H H' := fun a o e => kp a o e fun i z => by simp at z
    exact po .non H' [] [] sm (dat_of_non n) (fun a z => by simp at z) fun _ => New.nil
  | rt d =>
    rw [eb] at po
    exact PostRt.of hn fun x H' A B s g nw hB => po x H' A B s g hB fun _ => nw
  | ex c ρ' =>
    rw [eb] at po
    intro C σ' H' S' R' hc st' _ _
    exact po C H' hc st'.same
  | stuck => rw [eb] at po; exact po
end TW
-- TWEnd
namespace TW
open PySem PySem.Spec PyProof.Rows L2

theorem Sto.drop {K : PySem.W.Frag} {F : Fr} {H0 H : Hp} {Γ : List Nat} {ρ : Rho} {σ : L2.St} {S R : Nat → List Addr} (h : Sto K F H0 Γ ρ σ H S R) (i : Nat) :
    Sto K F H0 Γ (ρ.set i none) σ H (fun j => if j = i then [] else S j) (fun j => if j = i then [] else R j) := by
  refine ⟨h.same, by simp [h.len], fun j e q => ?_, fun j q => ?_, fun j a ha => ?_, fun j => ?_, fun j k hjk a ha hk => ?_, fun j k a ha hk => ?_, fun j a ha => ?_, fun j a ha => ?_, h.fd, h.pin⟩
  · have hj : j ≠ i := fun z => by
      subst z
      by_cases hl : j < ρ.length
      · rw [List.getElem?_set_self hl] at q; cases q
      · rw [List.getElem?_eq_none (by simp; omega)] at q; cases q
    rw [List.getElem?_set_ne (Ne.symm hj)] at q
    rw [if_neg hj, if_neg hj]
    exact h.slot j e q
  · by_cases hj : j = i
    · rw [if_pos hj, if_pos hj]
      exact ⟨rfl, rfl⟩
    · rw [if_neg hj, if_neg hj]
      refine h.emp j fun e q' => q e ?_
      rw [List.getElem?_set_ne (Ne.symm hj)]
      exact q'
  · split at ha
    · simp at ha
    · exact h.new j a ha
  · split
    · exact List.nodup_nil
    · exact h.nd j
  · split at ha
    · simp at ha
    · split at hk
      · simp at hk
      · exact h.dj j k hjk a ha hk
  · split at ha
    · simp at ha
    · split at hk
      · simp at hk
      · exact h.rs j k a ha hk
  · split at ha
    · simp at ha
    · exact h.rf j a ha
  · split at ha
    · simp at ha
    · exact h.sf j a ha
def sAppMv (i : Nat) (mp : Rho → Res (List D)) (j : Nat) : Rho → Out := atS j (atS i fun ρ => (mp ρ).out ρ fun p => (mVar j ρ).out ρ fun v => mutO i (ρ.set j none) p (nApp v))
section
variable {X : Cx} {W : WX} {Γ : List Nat} {n i j len : Nat} {e o : Expr} {pos pos' : Pos} {mp : Rho → Res (List D)}
end

def spLaw (K : PySem.W.Frag) : Sp := fun vs H Q _ => ∃ (a : Addr) (ns : List Int), vs = [.ref a] ∧ ScrAt K H a (ns.map V.int) ∧ ns.length ≤ 63 ∧ (∀ z ∈ ns, Builtin.Int.intBits z ≤ 1048576) ∧ ∀ H', Q (.bl true) H'
theorem law_sp {K : PySem.W.Frag} {mg : Str → Option Value} {n : Nat} {m : List D → Res D} (h : ∀ ns : List Int, ns.length ≤ 63 → (∀ z ∈ ns, Builtin.Int.intBits z ≤ 1048576) → m [.scr ns] = .ok (.bl true)) (vs : List V) (H : Hp) (Q : VK) (E : XK) (q : spLaw K vs H Q E) : spM K mg n 1 m vs H Q E := by
  obtain ⟨a, ns, rfl, hs, hl, hb, q⟩ := q
  refine ⟨rfl, [.scr ns], fun _ => False, [], fun _ z => z.elim, ?_, (fun a z => nomatch z), ?_⟩
  · refine Dats.one ?_
    unfold Dat
    exact ⟨⟨a, rfl, hs⟩, rfl, rfl⟩
  · rw [h ns hl hb]
    intro x H' A B s g v f
    rw [dat_bl g]
    exact q H'
theorem scr_of {K : PySem.W.Frag} {H : Hp} {a : Addr} {ns : List Int} (h : Only H) (q : SqL K H a (ns.map V.int)) : ScrAt K H a (ns.map V.int) := by
  rcases q with (q | q) | q
  · rcases h a with z | ⟨o, xs, z⟩
    · rw [q] at z; cases z
    · rw [q] at z; cases z
  · exact .inl q
  · exact .inr q
theorem no_cx {P : Program} {w : World} {H : Hp} {s : Shared} {e : Value} {s' : Shared} (h : L2.CX P w [] H s (fun _ _ _ => False) e s') : False := by
  obtain ⟨_, _, _, _, _, _, _, _, _, _, _, _, z⟩ := h
  exact z
end TW
-- TWMore
namespace TW
open PySem PySem.Spec PyProof.Rows L2
def gNeg : D → Option D
  | .int i => some (.int (-i))
  | _ => none
section
variable {X : Cx} {W : WX} {Γ : List Nat} {n : Nat} {a b e : Expr} {pos : Pos} {ma mb : Rho → Res D}
end
end TW
-- TWZip
namespace TW
open PySem PySem.Spec PyProof.Rows L2

section
variable {K : PySem.W.Frag} {H : Hp}
end
section
variable {X : Cx} {W : WX} {Γ : List Nat} {a b : Expr} {p pos tpos : Pos} {elts : List Expr} {kk : Nat} {ma mb : Rho → Res D}
end
end TW
-- TWLend
namespace TW
open PySem PySem.Spec PyProof.Rows L2

def D.still : D → Bool
  | .tup l => l.all D.flat
  | d => d.flat
theorem Dats.still {K : PySem.W.Frag} {H : Hp} : ∀ {ds : List D} {n : Nat} {xs : List V} {S R : List Addr}, ds.all D.flat = true → Dats K H ds n xs S R → S = [] ∧ R = [] ∧ ∀ k, Dats K H ds k xs [] []
  | [], n, xs, S, R, _, h => by
    unfold Dats at h
    obtain ⟨rfl, rfl, rfl⟩ := h
    exact ⟨rfl, rfl, fun k => by unfold Dats; exact ⟨rfl, rfl, rfl⟩⟩
  | d :: ds, n, xs, S, R, f, h => by
    simp only [List.all_cons, Bool.and_eq_true] at f
    unfold Dats at h
    obtain ⟨x, xs', S1, S2, R1, R2, rfl, rfl, rfl, h1, h2⟩ := h
    obtain ⟨rfl, rfl, g1⟩ := h1.flat f.1
    obtain ⟨rfl, rfl, g2⟩ := Dats.still f.2 h2
    exact ⟨rfl, rfl, fun k => Dats.cons (g1 k) (g2 k)⟩
theorem Dat.still {K : PySem.W.Frag} {H : Hp} {d : D} {n : Nat} {x : V} {S R : List Addr} (f : d.still = true) (h : Dat K H d n x S R) : S = [] ∧ R = [] ∧ ∀ k, Dat K H d k x [] [] := by
  cases d with
  | tup l =>
    unfold Dat at h
    obtain ⟨a, xs, rfl, q, hd⟩ := h
    obtain ⟨rfl, rfl, g⟩ := Dats.still f hd
    exact ⟨rfl, rfl, fun k => by unfold Dat; exact ⟨a, xs, rfl, q, g _⟩⟩
  | _ => exact h.flat f
section
variable {X : Cx} {W : WX} {Γ : List Nat} {n nf k ar : Nat} {e : Expr} {es : List Expr} {x : Str} {p pos : Pos} {ma : Rho → Res (List D)} {m : List D → Res D}
end
end TW
-- TWSet
namespace TW
open PySem PySem.Spec PyProof.Rows L2
theorem units65 {k : Nat} {A : Around} (r : Room k A) : A.units + 65 < cLine := by have := r.un; omega
def sDead : Rho → Out := fun _ => .stuck
theorem rs_dead {X : Cx} {W : WX} {n : Nat} {Γ Γ' : List Nat} {st : Stmt} : RS X W n Γ Γ' st sDead :=
  ⟨fun _ _ _ => False, ⟨fun _ _ _ _ _ _ h => h.elim⟩, fun _ _ _ _ _ _ _ _ _ h => h⟩
def strsOf : List D → Option (List Str)
  | [] => some []
  | .str i :: r => (strsOf r).map fun l => i :: l
  | _ :: _ => none
@[simp] theorem strsOf_map (ss : List Str) : strsOf (ss.map D.str) = some ss := by
  induction ss with
  | nil => rfl
  | cons a l ih => simp [strsOf, ih]
theorem dats_strs {K : PySem.W.Frag} {H : Hp} : ∀ {ds : List D} {ss : List Str} {n : Nat} {xs : List V} {A B : List Addr}, strsOf ds = some ss → Dats K H ds n xs A B → xs = ss.map V.str
  | [], _, _, _, _, _, e, h => by cases e; simp only [Dats] at h; rw [h.1]; rfl
  | d :: ds, _, _, _, _, _, e, h => by
    unfold Dats at h
    obtain ⟨x, xs', S1, S2, R1, R2, rfl, rfl, rfl, h1, h2⟩ := h
    cases d with
    | str i =>
      simp only [strsOf, Option.map_eq_some_iff] at e
      obtain ⟨l, e, rfl⟩ := e
      rw [dat_str h1, dats_strs e h2]; rfl
    | _ => cases e
def gIn (d e : D) : Option D := match e with
  | .lst l => (toPy d).bind fun p => (toPys l).bind fun q => if SeqAt.shaped p = true ∧ SeqAt.shaped (.list q) = true then some (.bl (q.any fun z => PyData.eqv z p)) else none
  | .tup l => match d with
    | .str z => (strsOf l).map fun ss => .bl (ss.any (· == z))
    | _ => none
  | .ftup l => match d with
    | .str z => (strsOf l).map fun ss => .bl (ss.any (· == z))
    | _ => none
  | .str t => match d with
    | .str ⟨⟨[c]⟩⟩ => some (.bl (decide (c ∈ t.cps.toList)))
    | _ => none
  | .dK ks vs => (lookD (.dK ks vs) d).map fun o => .bl o.isSome
  | .dT ks vs => (lookD (.dT ks vs) d).map fun o => .bl o.isSome
  | _ => none
def gNin (d e : D) : Option D := (gIn d e).bind fun z => match z with
  | .bl b => some (.bl (!b))
  | _ => none
def rInAll (K : PySem.W.Frag) (k : Bool) : R2 := fun x y H Q => ((∃ d ds, Dp K H x d ∧ Dp K H y (.list ds) ∧ SeqAt.shaped d = true ∧ SeqAt.shaped (.list ds) = true ∧ Q (.bl (if k = true then ds.any (fun z => PyData.eqv z d) else !ds.any (fun z => PyData.eqv z d))) H) ∨ rInDict k x y H Q) ∨
  (∃ (c : Nat) (z : Str), x = .str ⟨#[c]⟩ ∧ y = .str z ∧ Q (.bl (if k = true then decide (c ∈ z.cps.toList) else !decide (c ∈ z.cps.toList))) H) ∨ rIn K (!k) x y H Q
theorem op_inAll {X : Cx} (hu : X.A.units + 65 < cLine) : OpR X (compareOp .In) (rInAll X.K true) := OpR.or (OpR.or (fun pins s σ H x y v u Q I rx ry ⟨d, ds, h⟩ => op_inD hu pins s σ H x y v u Q I rx ry ⟨d, ds, h⟩) (op_inDict (by omega))) (OpR.or (fun pins s σ H x y v u Q I rx ry ⟨c, z, h⟩ => op_in_sign pins s σ H x y v u Q I rx ry ⟨c, z, h⟩) op_in_seq)
theorem op_ninAll {X : Cx} (hu : X.A.units + 65 < cLine) : OpR X (compareOp .NotIn) (rInAll X.K false) := OpR.or (OpR.or (fun pins s σ H x y v u Q I rx ry ⟨d, ds, h⟩ => op_notInD hu pins s σ H x y v u Q I rx ry ⟨d, ds, h⟩) (op_notInDict (by omega))) (OpR.or (fun pins s σ H x y v u Q I rx ry ⟨c, z, h⟩ => op_notIn_sign pins s σ H x y v u Q I rx ry ⟨c, z, h⟩) op_notIn_seq)
section
variable {K : PySem.W.Frag}
theorem inV_str (z : Str) : ∀ ss : List Str, inV (.str z) (ss.map V.str) = ss.any (· == z)
  | [] => rfl
  | a :: l => by
    have := inV_str z l
    unfold inV at this ⊢
    rw [List.map_cons, List.any_cons, List.any_cons, this]; rfl
theorem all_flat_strs (ys : List Str) : (ys.map V.str).all flatV = true := by
  rw [List.all_map]
  exact List.all_eq_true.mpr fun _ _ => rfl
theorem in_all (k : Bool) {x y : V} {d e : D} {b : Bool} {H : Hp} {B1 B2 : List Addr} {Q : VK} (h1 : Dat K H d 0 x [] B1) (h2 : Dat K H e 0 y [] B2) (ez : gIn d e = some (.bl b)) (q : Q (.bl (if k = true then b else !b)) H) : rInAll K k x y H Q := by
  have tup : ∀ (l : List D) (p : Addr) (xs : List V) (B : List Addr) (z : Str), y = .ref p → SqT K H p xs → Dats K H l 0 xs [] B → x = .str z → ((strsOf l).map fun ss => D.bl (ss.any (· == z))) = some (.bl b) → rInAll K k x y H Q := by
    intro l p xs B z ey sq hd ex e
    obtain ⟨ss, e1, e2⟩ := Option.map_eq_some_iff.mp e
    cases e2
    rw [dats_strs e1 hd] at sq
    refine .inr (.inr ⟨p, _, ey, .inr sq, by rw [ex]; rfl, all_flat_strs ss, ?_⟩)
    rw [ex, inV_str]
    cases k <;> exact q
  unfold gIn at ez
  cases e with
  | lst l =>
    dsimp only at ez
    cases ep : toPy d with
    | none => rw [ep] at ez; cases ez
    | some p =>
      cases eq : toPys l with
      | none => rw [ep, eq] at ez; cases ez
      | some ps =>
        rw [ep, eq] at ez
        simp only [Option.bind_some] at ez
        split at ez
        · rename_i hs
          cases ez
          refine .inl (.inl ⟨p, ps, h1.dp ep, h2.dp (by simp [toPy, eq]), hs.1, hs.2, ?_⟩)
          cases k <;> exact q
        · cases ez
  | tup l =>
    obtain ⟨p, xs, ey, sq, hd⟩ := dat_tup0 h2
    cases d with
    | str z => exact tup l p xs _ z ey (.of sq) hd (dat_str h1) ez
    | _ => cases ez
  | ftup l =>
    obtain ⟨p, xs, ey, sq, hd⟩ := dat_ftup0 h2
    cases d with
    | str z => exact tup l p xs _ z ey (sqt_frz sq) hd (dat_str h1) ez
    | _ => cases ez
  | str t =>
    dsimp only at ez
    split at ez
    · rename_i c
      cases ez
      refine .inr (.inl ⟨c, t, dat_str h1, dat_str h2, ?_⟩)
      cases k <;> exact q
    · cases ez
  | dK ks vs =>
    obtain ⟨o, e1, e2⟩ := Option.map_eq_some_iff.mp (show ((lookD (.dK ks vs) d).map fun o => D.bl o.isSome) = some (.bl b) from ez)
    cases e2
    obtain ⟨a, r, rfl, g, f⟩ := look_at h2 h1 e1
    refine .inl (.inr ⟨a, r, rfl, g, ?_⟩)
    have : r.isSome = o.isSome := by
      cases o with
      | none => rw [show r = none from f]; rfl
      | some z => obtain ⟨v, _, _, rfl, _⟩ := f; rfl
    rw [this]
    exact q
  | dT ks vs =>
    obtain ⟨o, e1, e2⟩ := Option.map_eq_some_iff.mp (show ((lookD (.dT ks vs) d).map fun o => D.bl o.isSome) = some (.bl b) from ez)
    cases e2
    obtain ⟨a, r, rfl, g, f⟩ := look_at h2 h1 e1
    refine .inl (.inr ⟨a, r, rfl, g, ?_⟩)
    have : r.isSome = o.isSome := by
      cases o with
      | none => rw [show r = none from f]; rfl
      | some z => obtain ⟨v, _, _, rfl, _⟩ := f; rfl
    rw [this]
    exact q
  | _ => cases ez
theorem gIn_bl {d e z : D} (h : gIn d e = some z) : ∃ b, z = .bl b := by
  unfold gIn at h
  cases e with
  | lst l =>
    dsimp only at h
    obtain ⟨p, _, h⟩ := Option.bind_eq_some_iff.mp h
    obtain ⟨q, _, h⟩ := Option.bind_eq_some_iff.mp h
    split at h
    · cases h; exact ⟨_, rfl⟩
    · cases h
  | tup l =>
    cases d with
    | str z => obtain ⟨_, _, rfl⟩ := Option.map_eq_some_iff.mp h; exact ⟨_, rfl⟩
    | _ => cases h
  | ftup l =>
    cases d with
    | str z => obtain ⟨_, _, rfl⟩ := Option.map_eq_some_iff.mp h; exact ⟨_, rfl⟩
    | _ => cases h
  | str t =>
    dsimp only at h
    split at h
    · cases h; exact ⟨_, rfl⟩
    · cases h
  | dK ks vs => obtain ⟨_, _, rfl⟩ := Option.map_eq_some_iff.mp h; exact ⟨_, rfl⟩
  | dT ks vs => obtain ⟨_, _, rfl⟩ := Option.map_eq_some_iff.mp h; exact ⟨_, rfl⟩
  | _ => cases h
theorem bf_in : BinF K (rInAll K true) gIn := by
  intro x y d e z H B1 B2 Q h1 h2 ez po
  obtain ⟨b, rfl⟩ := gIn_bl ez
  exact in_all true h1 h2 ez (po rfl _ dat_of_bl)
theorem bf_nin : BinF K (rInAll K false) gNin := by
  intro x y d e z H B1 B2 Q h1 h2 ez po
  obtain ⟨y', e1, e2⟩ := Option.bind_eq_some_iff.mp ez
  obtain ⟨b, rfl⟩ := gIn_bl e1
  cases e2
  exact in_all false h1 h2 e1 (po rfl _ dat_of_bl)
end
section
variable {X : Cx} {W : WX} {Γ : List Nat} {n n1 n2 : Nat} {f1 f2 : Bool} {a b : Expr} {p p2 q pos : Pos} {ma mb : Rho → Res D}
theorem rt_in (hu : X.A.units + 65 < cLine) (ha : RE X W Γ n1 f1 a ma) (hb : RE X W Γ n2 f2 b mb) (hm : behindInMarks .In b = false := by rfl) : RT X W Γ (.Compare a [.In] [b] pos) (mT (m2 gIn ma mb)) := rt_cmp (op_inAll hu) bf_in hm ha hb
theorem rt_nin (hu : X.A.units + 65 < cLine) (ha : RE X W Γ n1 f1 a ma) (hb : RE X W Γ n2 f2 b mb) (hm : behindInMarks .NotIn b = false := by rfl) : RT X W Γ (.Compare a [.NotIn] [b] pos) (mT (m2 gNin ma mb)) := rt_cmp (op_ninAll hu) bf_nin hm ha hb
theorem dats_ints {K : PySem.W.Frag} {H : Hp} : ∀ {ds : List D} {ns : List Int} {xs : List V} {B : List Addr}, intsOf ds = some ns → Dats K H ds 0 xs [] B → xs = ns.map V.int
  | [], ns, xs, B, e, h => by
    cases e
    unfold Dats at h
    exact h.1
  | d :: ds, ns, xs, B, e, h => by
    cases d with
    | int i =>
      unfold intsOf at e
      rw [Option.map_eq_some_iff] at e
      obtain ⟨r, e, rfl⟩ := e
      unfold Dats at h
      obtain ⟨x, xs', S1, S2, R1, R2, rfl, e0, rfl, h1, h2⟩ := h
      obtain ⟨rfl, rfl⟩ := List.append_eq_nil_iff.mp e0.symm
      obtain rfl := dat_int h1
      rw [dats_ints e h2]
      rfl
    | _ => cases e
end
end TW
-- TWRg
namespace TW
open PySem PySem.Spec PyProof.Rows L2
section
variable {X : Cx} {W : WX} {Γ : List Nat} {n : Nat} {a : Expr} {p p2 q pos : Pos} {ma : Rho → Res D}
end
end TW
-- TWGlob
namespace TW
open PySem PySem.Spec PyProof.Rows L2
inductive CstV : D → Value → Prop
  | int {i : Int} {u : Value} (r : RelV (.int i) u) : CstV (.int i) u
  | str {s : Str} {u : Value} (r : RelV (.str s) u) : CstV (.str s) u
def CstG (mg : Str → Option Value) (x : Str) (d : D) : Prop := ∃ u, mg x = some u ∧ CstV d u
theorem re_glob {X : Cx} {W : WX} {Γ : List Nat} {n : Nat} {x : Str} {d : D} {pos : Pos} (h : CstG X.mg x d) (hg : Gl X x := by rfl) (hd : (x == ("__debug__" : Str)) = false := by decide) : RE X W Γ n true (.Name x pos) (mC d) := by
  obtain ⟨u, hm, c⟩ := h
  cases c with
  | int r =>
    refine ⟨_, pe_glob hg hm r hd, fun F H0 ρ σ H S R Q st po => ?_⟩
    exact po _ H [] [] (Same.refl H) (dat_of_int n) (fun a z => by simp at z) fun _ => New.nil
  | str r =>
    refine ⟨_, pe_glob hg hm r hd, fun F H0 ρ σ H S R Q st po => ?_⟩
    exact po _ H [] [] (Same.refl H) (dat_of_str n) (fun a z => by simp at z) fun _ => New.nil
end TW
-- TWSetS
namespace TW
open PySem PySem.Spec PyProof.Rows L2
def addU (l : List Str) (z : Str) : List Str := if l.any (· == z) = true then l else l ++ [z]
def unlike (l : List Str) : List Str := l.foldl addU []
theorem addU_any (l : List Str) (z y : Str) : (addU l z).any (· == y) = (l.any (· == y) || decide (y = z)) := by
  unfold addU
  by_cases h : l.any (· == z) = true
  · rw [if_pos h]
    by_cases e : y = z
    · subst e; rw [h]; simp
    · simp [e]
  · rw [if_neg h, List.any_append]
    congr 1
    by_cases e : y = z
    · subst e; simp
    · have : (z == y) = false := beq_eq_false_iff_ne.mpr fun q => e q.symm
      simp [this, e]
theorem addU_length (l : List Str) (z : Str) : (addU l z).length = if l.any (· == z) = true then l.length else l.length + 1 := by
  unfold addU
  split <;> simp
theorem unlike_snoc (l : List Str) (z : Str) : unlike (l ++ [z]) = addU (unlike l) z := by unfold unlike; rw [List.foldl_append]; rfl
theorem unlike_le : ∀ l : List Str, (unlike l).length ≤ l.length := by
  have : ∀ (l m : List Str), (l.foldl addU m).length ≤ m.length + l.length := by
    intro l
    induction l with
    | nil => intro m; simp
    | cons z l ih =>
      intro m
      have := ih (addU m z)
      have := addU_length m z
      simp only [List.foldl_cons, List.length_cons]
      split at this <;> omega
  intro l
  have := this l []
  unfold unlike
  simpa using this
section
variable {pr : Program} {wd : World} {A : Around} {RR : Result → Shared → Prop} {it : Addr} {fp wr : List Addr} {GG : Array GenState → Array GenState → Prop} {m : Nat} {PP : Nat → Value → Prop} {SS : Nat → Shared → Prop}
theorem loop_texts (wk : WalksS pr wd A.in1 it fp wr GG m PP SS) (z : Addr) (hz : z ∉ fp) (l : List Str) (hm : l.length = m) (hb : m + 1 < scanBound)
    (at' : ∀ i v, PP i v → ∃ t, v = .str (l.getD i Str.empty) t) : ∀ (left i : Nat) (s : Shared), m - i = left → i ≤ m → SS i s →
      s.heap.SetOf (PySem.strKind pr wd) z (fun y => (unlike (l.take i)).any (· == y)) (unlike (l.take i)).length →
      (∀ s2, Moved (z :: wr) GG s s2 → s2.heap.SetOf (PySem.strKind pr wd) z (fun y => (unlike l).any (· == y)) (unlike l).length → RR (.ok (.ret .none)) s2) →
      codeAny (model pr wd) A (.builtin "set.update.loop" ⟨[.ref z, .ref it], []⟩) RR s := by
  have zw : z ∉ wr := fun q => hz (wk.sub _ q)
  have more : ∀ b ∈ wr, b ∈ z :: wr := fun b q => List.mem_cons_of_mem _ q
  intro left
  induction left with
  | zero =>
    intro i s e1 e2 here set go
    obtain rfl : i = m := by omega
    refine codeAny_builtin PyProof.Rows.F.entry_set_update_loop ?_
    rw [Around.under_plainId PyProof.Rows.F.plain_set_update_loop _]
    refine wpAny_bind (m := pyNext (.ref it)) (wk.done s _ _ here fun s2 mv => ?_)
    refine wpAny_pure (go s2 (mv.mono more) ?_)
    rw [← hm, List.take_length] at set
    obtain ⟨o, es, ep, t, ho, q⟩ := set
    exact ⟨o, es, ep, t, mv.heap z _ zw ho, q⟩
  | succ left ih =>
    intro i s e1 e2 here set go
    have lt : i < m := by omega
    refine codeAny_builtin PyProof.Rows.F.entry_set_update_loop ?_
    rw [Around.under_plainId PyProof.Rows.F.plain_set_update_loop _]
    refine wpAny_bind (m := pyNext (.ref it)) (wk.item i s _ _ lt here fun v s2 hv here2 mv => ?_)
    obtain ⟨t, rfl⟩ := at' i v hv
    have set2 : s2.heap.SetOf (PySem.strKind pr wd) z (fun y => (unlike (l.take i)).any (· == y)) (unlike (l.take i)).length := by
      obtain ⟨o, es, ep, tb, ho, q⟩ := set
      exact ⟨o, es, ep, tb, mv.heap z _ zw ho, q⟩
    have room : (unlike (l.take i)).length + 1 < scanBound := by
      have := unlike_le (l.take i)
      rw [List.length_take] at this
      omega
    have il : i < l.length := by omega
    have eg : l.getD i Str.empty = l[i] := by rw [List.getD_eq_getElem?_getD, List.getElem?_eq_getElem il]; rfl
    have et : l.take (i + 1) = l.take i ++ [l.getD i Str.empty] := by rw [eg, List.take_add_one, List.getElem?_eq_getElem il]; rfl
    refine wpAny_bind (m := holding [Value.str (l.getD i Str.empty) t] (setAdd z (.str (l.getD i Str.empty) t))) (wpAny_holding ?_)
    unfold setAdd
    refine wpAny_holding (wpAny_bind ((PySem.strKind pr wd).pyHash (k := l.getD i Str.empty) (strKind_is _ _ _ _) ?_))
    refine wpAny_setAddHashed_of (knd := PySem.strKind pr wd) (s := { s2 with toks := s2.toks + 1 }) (strKind_is _ _ _ _) rfl set2 room fun h2 but set3 => ?_
    have set4 : h2.SetOf (PySem.strKind pr wd) z (fun y => (unlike (l.take (i + 1))).any (· == y)) (unlike (l.take (i + 1))).length :=
      SetOf_congr set3 (fun y => by rw [et, unlike_snoc, addU_any]) (by rw [et, unlike_snoc, addU_length])
    refine wpAny_pure ⟨plainId_quiet PyProof.Rows.F.plain_set_update_loop _, ih (i + 1) _ (by omega) lt (wk.frame _ s2 _ _ here2 (Nat.le_succ _) fun b q o e => ?_) set4 fun s3 mv2 q => ?_⟩
    · rw [but.2 b fun c : b = z => hz (c ▸ q)]; exact e
    · refine go s3 (Moved.trans wk.gtrans ((mv.mono more).then_heap (Nat.le_succ _) fun b o hb e => ?_) mv2) q
      rw [but.2 b fun c : b = z => hb (c ▸ List.mem_cons_self)]; exact e
end
section
variable {pr : Program} {wd : World} {A : Around} {EE : Value → Shared → Prop} {s : Shared}
set_option maxHeartbeats 3200000 in
theorem call_set_texts {a : Addr} {items : Array Value} {l : List Str} {Q : Value → Shared → Prop} (noH : A.handled = none) (isl : s.heap.IsList a items) (are : PyProof.Rows.StrsAre items.toList l) (hb : l.length + 1 < scanBound)
    (q : ∀ (h2 : Heap) (tk : Nat), h2.SetOf (PySem.strKind pr wd) s.heap.objs.size (fun y => (unlike l).any (· == y)) (unlike l).length →
      (∀ b o, b < s.heap.objs.size → s.heap.get? b = some o → h2.get? b = some o) → Q (.ref s.heap.objs.size) { s with heap := h2, toks := tk }) :
    wpAny (model pr wd) A (call (.type "set") [.ref a]) Q EE s := by
  obtain ⟨cc, tl, hmro⟩ := PySem.F.called_set.mro
  have hmade := PySem.F.called_set.made
  have hsub := PySem.F.called_set.sub
  refine wpAny_call (codeAny_of_tree (wpAny_pure ⟨Code.quiet_builtin _ (by decide +kernel), codeAny_builtin PySem.F.entry_type_call ?_⟩))
  rw [Around.under_plain (weight_type_call_type "set" [.ref a] []) rfl]
  have k1 := PySem.F.called_set.notType
  have k2 := PySem.F.called_set.canCreate
  have k3 := PySem.F.typeCall_set_1 (.ref a)
  repeat (any_goals (first | assumption | wp_step))
  refine codeAny_mono (code_set_new_1 (.ref a) (E := EE) (Q₁ := fun u s1 => ∃ led : Bool, u = .ref s.heap.objs.size ∧ s1 = { s with heap := s.heap.push { cls := .type "set", dict := none, data := .set #[] 0 (.fresh 0 0 led) } }) fun led => ⟨led, rfl, rfl⟩) fun r s1 hr => ?_
  cases r with
  | error e => exact hr
  | ok fl =>
    cases fl with
    | ret u =>
      obtain ⟨led, rfl, rfl⟩ := hr
      have got : (s.heap.push { cls := .type "set", dict := none, data := .set #[] 0 (.fresh 0 0 led) }).get? s.heap.objs.size = some { cls := .type "set", dict := none, data := .set #[] 0 (.fresh 0 0 led) } := Heap.get?_push_size _ rfl
      have kind : Shared.TypeIs { s with heap := s.heap.push { cls := .type "set", dict := none, data := .set #[] 0 (.fresh 0 0 led) } } (.ref s.heap.objs.size) "set" := ⟨_, got, rfl⟩
      have k4 := PySem.F.called_set.init.lookup
      have k5 := PySem.F.called_set.init.bind (.ref s.heap.objs.size)
      repeat (any_goals (first | assumption | wp_step))
      refine codeAny_mono (codeAny_call_builtin (R := wants (fun r s2 => r = .none ∧ ∃ h2 tk, s2 = { s with heap := h2, toks := tk } ∧ h2.SetOf (PySem.strKind pr wd) s.heap.objs.size (fun y => (unlike l).any (· == y)) (unlike l).length ∧
          (∀ b o, b < s.heap.objs.size → s.heap.get? b = some o → h2.get? b = some o)) EE) PySem.F.called_set.init.plain PySem.F.entry_set_init (check_set_init_1 kind ?_)) fun r2 s2 hr2 => ?_
      · obtain ⟨ob, hob, hc, nn, hd⟩ := isl
        obtain ⟨c1, c2, c3, c4⟩ := ob
        simp only at hc hd
        subst hc hd
        have hob2 : (s.heap.push { cls := .type "set", dict := none, data := .set #[] 0 (.fresh 0 0 led) }).get? a = some { cls := .type "list", dict := c2, data := .seq items nn, slots := c4 } := Heap.get?_push_of_some _ hob
        have k6 := PySem.F.sub_list_set
        have k7 := PySem.F.sub_list_frozenset
        have k8 : (Value.type "list" == Value.type "dict") = false := by decide
        have isl2 : (s.heap.push { cls := .type "set", dict := none, data := .set #[] 0 (.fresh 0 0 led) }).IsList a items := ⟨_, hob2, rfl, nn, rfl⟩
        unfold Builtin.«set.__init__» noKeywords Builtin.Frozenset.updateFrom
        generalize hPI : pyIter = PI
        wp_walk
        subst hPI
        refine wpAny_pyIter_list isl2 (wpAny_bind (wpAny_runValue ?_))
        have lt : a < s.heap.objs.size := Heap.lt_size hob
        have noH3 : A.in1.in1.in1.handled = none := by simp [noH]
        have ne : a ≠ (s.heap.push { cls := .type "set", dict := none, data := .set #[] 0 (.fresh 0 0 led) }).objs.size := by
          rw [Heap.size_push]; exact Nat.ne_of_lt (Nat.lt_succ_of_lt lt)
        have apart : s.heap.objs.size ∉ [(s.heap.push { cls := .type "set", dict := none, data := .set #[] 0 (.fresh 0 0 led) }).objs.size, a] := by
          rw [Heap.size_push]
          intro z
          rcases List.mem_cons.mp z with z | z
          · exact Nat.ne_of_lt (Nat.lt_succ_self _) z
          · exact Nat.ne_of_gt lt (List.mem_singleton.mp z)
        have hsz : l.length = items.size := by rw [← StrsAre.len_eq are, Array.length_toList]
        have val : ∀ (i : Nat) (v : Value), items[i]? = some v → ∃ t, v = .str (l.getD i Str.empty) t := fun i v e => SS.strs_at are i v (by rw [Array.getElem?_toList]; exact e)
        refine loop_texts ((Walks.list noH3 _ a ne items).toS) s.heap.objs.size apart l hsz (by rw [← hsz]; exact hb) val (items.size - 0) 0 _ (by omega) (Nat.zero_le _) ⟨⟨_, Heap.get?_push_size _ rfl, rfl, rfl⟩, (isl2.push _)⟩ ?st ?go
        case st =>
          have g2 : ((s.heap.push { cls := .type "set", dict := none, data := .set #[] 0 (.fresh 0 0 led) }).push { cls := .type "list_iterator", data := .fields #[.ref a, .int 0 0] }).get? s.heap.objs.size
              = some { cls := .type "set", dict := none, data := .set #[] 0 (.fresh 0 0 led) } := Heap.get?_push_of_some _ got
          exact SetOf_congr ((setObjOf_fresh (knd := PySem.strKind pr wd) led).setOf g2 (by unfold scanBound; omega)) (fun _ => rfl) rfl
        case go =>
          intro s3 mv st3
          obtain ⟨h3, g3, d3, t3, o3⟩ := s3
          have eg : g3 = s.gens := mv.gens
          have ed : d3 = s.drawn := mv.drawn
          have eo : o3 = s.os := mv.os
          subst eg ed eo
          refine wpAny_pure ?_
          show wpAny _ _ (ret Value.none) _ _ _
          refine wpAny_pure ⟨rfl, h3, t3, rfl, st3, fun b o hb e => ?_⟩
          refine mv.heap b o ?_ (Heap.get?_push_of_some _ (Heap.get?_push_of_some _ e))
          rw [Heap.size_push]
          intro z
          rcases List.mem_cons.mp z with z | z
          · exact Nat.ne_of_lt hb z
          · exact Nat.ne_of_lt (Nat.lt_succ_of_lt hb) (List.mem_singleton.mp z)
      · cases r2 with
        | error e => exact hr2
        | ok f2 =>
          cases f2 with
          | ret r =>
            obtain ⟨rfl, h2, tk, rfl, st2, kp⟩ := hr2
            repeat (any_goals (first | assumption | wp_step))
            exact q _ _ st2 kp
          | _ => exact hr2.elim
    | _ => exact hr.elim
end
def tLenSetT (K : PySem.W.Frag) (ta : TE) : TE := fun σ H Q => ta σ H fun x H1 => ∃ (p : Addr) (l : List Str), x = .ref p ∧ SqL K H1 p (l.map V.str) ∧ l.length ≤ 4000 ∧ Q (.int (unlike l).length) H1
theorem pe_lenSetT {X : Cx} {a : Expr} {ta : TE} {p p2 q pos : Pos} (hg : Gl X "len") (hm : X.mg "len" = none) (hg2 : Gl X "set") (hm2 : X.mg "set" = none) (ha : PE X a ta) (hc : X.calm = true := by rfl)
    (na : starEach [a] X.env = (false, eval a X.env) :: starEach [] X.env := by rfl) : PE X (.Call (.Name "len" p) [.Call (.Name "set" p2) [a] [] q] [] pos) (tLenSetT X.K ta) := by
  refine ⟨fun pins s σ H Q I h => Call_ (ld_blt I hg hm boot_len ?_)⟩
  refine PyProof.Rows.callWith_builtin1 (PyProof.Rows.args_cons (Call_ (ld_blt I hg2 hm2 boot_set ?_)) rfl) rfl rfl
  refine PyProof.Rows.callWith_type1 (PyProof.Rows.args_cons (thn (ha.run pins s σ H _ I h) fun v s1 ⟨x, H1, I1, r1, w⟩ => PyProof.Rows.args_nil ?_) na) na rfl
  obtain ⟨u, l, rfl, sq, hl, w⟩ := w
  cases r1
  obtain ⟨its, r, pl, _⟩ := I1.list sq
  refine call_set_texts (I1.ok.hd hc) pl.isList (by simpa using strsAre_of r) (by unfold scanBound; omega) fun h2 tk st kp => PyProof.Rows.args_nil ?_
  obtain ⟨o, es, ep, t, ho, hex, hd, _, _, _, hf, hn⟩ := st
  have I2 : Inv X pins σ H1 { s1 with heap := h2, toks := tk } := I1.kept fun b o e => kp b o (Heap.lt_size e) e
  have := unlike_le l
  exact call_len_set ho hex hd hf (by rw [hn]; omega) ⟨.int (unlike l).length, H1, I2.tok _, ⟨_, by rw [hn]⟩, w⟩
end TW
-- TWMeth
namespace TW
open PySem PySem.Spec PyProof.Rows L2

theorem PE.or {X : Cx} {e : Expr} {t1 t2 : TE} (h1 : PE X e t1) (h2 : PE X e t2) : PE X e (fun σ H Q => t1 σ H Q ∨ t2 σ H Q) :=
  ⟨fun pins s σ H Q I h => h.elim (h1.run pins s σ H Q I) (h2.run pins s σ H Q I)⟩
section
variable {X : Cx}
def tTM (r : V → List V → Hp → VK → Prop) (to : TE) (t : TA) : TE := fun σ H Q => to σ H fun x H1 => (∃ (p : Addr) (xs : List V) (o : Obj), x = .ref p ∧ o.dict = none ∧ H1 p = some (.frz o (.tup xs))) ∧ t σ H1 fun xs H2 => r x xs H2 Q
theorem pe_tm {o e : Expr} {es : List Expr} {to : TE} {t : TA} {name : Str} {apos cpos : Pos} {id : String} {r : V → List V → Hp → VK → Prop} (pa : PlainAttrs "tuple") (slot : Slot "tuple" name id) (hty : typeOf (.builtin id) = pure (.type "method_descriptor")) (hm : MtR X id r) (ho : PE X o to) (ha : PA X (e :: es) t)
    (hbase : attributeBase o name X.env (eval o X.env) = eval o X.env := by rfl)
    (hfew : ((backTo cpos (starEach (e :: es) X.env)).all (fun x => !x.1) && (backToKw cpos (keywordEach [] X.env)).all (fun x => x.1.isSome) && decide ((e :: es).length + ([] : List Keyword).length + (if ([] : List Keyword).isEmpty then 0 else 1) < 30)) = true := by rfl)
    (hline : (apos.endLine == cpos.line) = true := by rfl) (hs : starEach (e :: es) X.env = (false, eval e X.env) :: starEach es X.env := by rfl) (hplain : (backTo cpos (starEach es X.env)).any (·.1) = false := by rfl) :
    PE X (.Call (.Attribute o name apos) (e :: es) [] cpos) (tTM r to t) := by
  refine ⟨fun pins s σ H Q I h => wpAny_Call_method_late hbase hfew hline rfl (thn (ho.run pins s σ H _ I h) fun v s1 w => ?_)⟩
  obtain ⟨x, H1, I1, r1, ⟨p, xs, ob, rfl, hdn, hp⟩, q1⟩ := w
  cases r1
  obtain ⟨hget, _⟩ := I1.hok p _ hp
  obtain ⟨its, rv, pl, hlen⟩ := I1.tuple (a := p) (xs := xs) (.inl (.inr ⟨ob, hp⟩))
  refine ⟨"tuple", id, pa, slot, hty, pl.typeIs, fun a e => ?_, ?_⟩
  · cases e
    exact ⟨ob, hget, hdn⟩
  have hA := ha.run cpos pins s1 σ H1 _ I1 q1
  rw [hs] at hA ⊢
  refine Calls.callWith_builtin (by show (false || (backTo cpos (starEach es X.env)).any fun x => x.1) = false; rw [hplain]; rfl) (Calls.evalArgs_plain ?_)
  exact thn hA fun us s2 ⟨vs, H2, I2, r2, q2⟩ => hm pins s2 σ H2 (.ref p) vs (.ref p) us Q I2 rfl r2 q2
end
def mMeth (g : D → D → Option D) (mo me : Rho → Res D) : Rho → Res D := fun ρ => (mo ρ).bind fun x => (noX (me ρ)).bind fun y => ofO (g x y)
@[simp] theorem mMeth_eq {g : D → D → Option D} {mo me : Rho → Res D} {ρ : Rho} : mMeth g mo me ρ = (mo ρ).bind fun x => (noX (me ρ)).bind fun y => ofO (g x y) := id rfl
def MetV (K : PySem.W.Frag) (r : V → List V → Hp → VK → Prop) (g : D → D → Option D) (n : Nat) (P : D → Prop) : Prop :=
  ∀ x y d e z H B1 B2 (Q : VK), P d → Dat K H d 0 x [] B1 → Dat K H e 0 y [] B2 → g d e = some z → (∀ v H' A, Same H H' → Dat K H' z n v A [] → A.Nodup → (∀ a ∈ A, H a = none) → Q v H') → r x [y] H Q
section
variable {X : Cx} {W : WX} {Γ : List Nat} {n : Nat} {o e : Expr} {mo me : Rho → Res D} {g : D → D → Option D} {r : V → List V → Hp → VK → Prop} {C : V → Hp → Prop} {P : D → Prop}
theorem meth_run {to : TE} {te : TA} {F : Fr} {H0 : Hp} {ρ : Rho} {σ : L2.St} {H : Hp} {S R : Nat → List Addr} {Q : VK}
    (qo : ∀ F H0 ρ σ H S R Q, Sto X.K F H0 Γ ρ σ H S R → PostX X W σ H (fun d => ∀ x H' B, Same H H' → Dat X.K H' d 0 x [] B → Q x H') (mo ρ) → to σ H Q)
    (qe : ∀ F H0 ρ σ H S R Q, Sto X.K F H0 Γ ρ σ H S R → PostX X W σ H (fun ds => ∀ xs H' B, Same H H' → Dats X.K H' ds 0 xs [] B → Q xs H') (mA1 me mA0 ρ) → te σ H Q)
    (hC : ∀ d x H B, P d → Dat X.K H d 0 x [] B → C x H) (hv : MetV X.K r g n P) (hP : ∀ d e z, mo ρ = .ok d → g d e = some z → P d) (st : Sto X.K F H0 Γ ρ σ H S R) (po : PostE X W (Av F S) n true σ H Q (mMeth g mo me ρ)) :
    to σ H fun x H1 => C x H1 ∧ te σ H1 fun xs H2 => r x xs H2 Q := by
  refine qo F H0 ρ σ H S R _ st ((PostE.iff.mp po).bind.imp fun d ed po => ?_)
  intro x H1 B1 s1 d1
  obtain ⟨y, ey, z, ez, po⟩ : ∃ y, me ρ = .ok y ∧ ∃ z, g d y = some z ∧ PostV X.K (Av F S) n true H Q z := by
    cases h : me ρ with
    | ok y =>
      rw [h] at po
      obtain ⟨z, ez, po⟩ := PostE.ofO (PostE.iff.mpr po)
      exact ⟨y, rfl, z, ez, po⟩
    | exn c => rw [h] at po; exact po.elim
    | stuck => rw [h] at po; exact po.elim
  have hp := hP d y z ed ez
  refine ⟨hC d x H1 B1 hp d1, qe F H0 ρ σ H1 S R _ (st.grow s1) ?_⟩
  have : mA1 me mA0 ρ = .ok [y] := by show (me ρ).bind _ = _; rw [ey]; rfl
  rw [this]
  intro xs H2 B2 s2 d2
  obtain ⟨v, rfl, d2'⟩ := dats1 d2
  refine hv x v d y z H2 B1 B2 Q hp (d1.same s2) d2' ez fun u H' A s3 gz nd nw => po u H' A [] ((s1.trans s2).trans s3) gz (fun a z => by simp at z) fun _ => ⟨nd, fun a ha => ⟨(s1.trans s2).free (nw a ha), by simp⟩⟩
end
def gIndex (d e : D) : Option D := match d, e with
  | .lst l, .int k => (intsOf l).bind fun ns => (ns.findIdx? (· == k)).map fun j : Nat => .int j
  | .lst l, .str z => (strsOf l).bind fun ss => (ss.findIdx? (· == z)).map fun j : Nat => .int j
  | .ftup l, .str z => (strsOf l).bind fun ss => (ss.findIdx? (· == z)).map fun j : Nat => .int j
  | _, _ => none
def D.isLst : D → Prop
  | .lst _ => True
  | _ => False
def D.isFt : D → Prop
  | .ftup _ => True
  | _ => False
section
variable {K : PySem.W.Frag}
theorem first_int {ns : List Int} {k : Int} {j : Nat} (h : ns.findIdx? (· == k) = some j) : (ns.map V.int)[j]? = some (.int k) ∧ ∀ (m : Nat) (z : V), m < j → (ns.map V.int)[m]? = some z → eqV z (.int k) = false := by
  obtain ⟨hj, e, hno⟩ := List.findIdx?_eq_some_iff_getElem.mp h
  refine ⟨by rw [List.getElem?_map, List.getElem?_eq_getElem hj, eq_of_beq e]; rfl, fun m z hm ez => ?_⟩
  rw [List.getElem?_map, List.getElem?_eq_getElem (by omega)] at ez
  cases ez
  show (ns[m] == k) = false
  simpa using hno m hm
theorem first_str {ns : List Str} {k : Str} {j : Nat} (h : ns.findIdx? (· == k) = some j) : ns[j]? = some k ∧ ∀ m, m < j → ns[m]? ≠ some k := by
  obtain ⟨hj, e, hno⟩ := List.findIdx?_eq_some_iff_getElem.mp h
  refine ⟨by rw [List.getElem?_eq_getElem hj, eq_of_beq e], fun m hm ez => ?_⟩
  rw [List.getElem?_eq_getElem (by omega)] at ez
  have := hno m hm
  simp at ez this
  exact this ez
theorem flat_ints (ns : List Int) : (ns.map V.int).all flatV = true := by
  rw [List.all_map]
  exact List.all_eq_true.mpr fun _ _ => rfl
theorem mv_indexL {n : Nat} : MetV K (rIndex K) gIndex n D.isLst := by
  intro x y d e z H B1 B2 Q hp h1 h2 ez po
  cases d with
  | lst l =>
    obtain ⟨a, xs, R', rfl, q, rfl, hd⟩ := dat_lst0 h1
    cases e with
    | int k =>
      obtain ⟨ns, e1, e2⟩ := Option.bind_eq_some_iff.mp (show ((intsOf l).bind fun ns => (ns.findIdx? (· == k)).map fun j : Nat => D.int j) = some z from ez)
      obtain ⟨j, e3, rfl⟩ := Option.map_eq_some_iff.mp e2
      obtain ⟨f1, f2⟩ := first_int e3
      rw [dats_ints e1 hd] at q
      exact ⟨a, _, .int k, j, .int k, rfl, by rw [dat_int h2], .of q, rfl, flat_ints ns, f1, beq_self_eq_true k, f2, po _ H [] (Same.refl H) (dat_of_int n) List.nodup_nil (fun a z => by simp at z)⟩
    | str k =>
      obtain ⟨ns, e1, e2⟩ := Option.bind_eq_some_iff.mp (show ((strsOf l).bind fun ns => (ns.findIdx? (· == k)).map fun j : Nat => D.int j) = some z from ez)
      obtain ⟨j, e3, rfl⟩ := Option.map_eq_some_iff.mp e2
      obtain ⟨f1, f2⟩ := first_str e3
      rw [dats_strs e1 hd] at q
      refine ⟨a, _, .str k, j, .str k, rfl, by rw [dat_str h2], .of q, rfl, flat_strs ns, by rw [List.getElem?_map, f1]; rfl, beq_self_eq_true k, fun m z hm ez => ?_, po _ H [] (Same.refl H) (dat_of_int n) List.nodup_nil (fun a z => by simp at z)⟩
      rw [List.getElem?_map] at ez
      cases em : ns[m]? with
      | none => rw [em] at ez; cases ez
      | some u =>
        rw [em] at ez
        cases ez
        exact beq_eq_false_iff_ne.mpr fun q => f2 m hm (by rw [em, q])
    | _ => cases ez
  | _ => exact hp.elim
theorem mv_indexT {n : Nat} : MetV K (fun x xs H Q => ∃ p, ∃ ys : List Str, ∃ z j, x = .ref p ∧ xs = [.str z] ∧ SqT K H p (ys.map V.str) ∧ ys[j]? = some z ∧ (∀ m, m < j → ys[m]? ≠ some z) ∧ Q (.int (j : Nat)) H) gIndex n D.isFt := by
  intro x y d e z H B1 B2 Q hp h1 h2 ez po
  cases d with
  | ftup l =>
    obtain ⟨a, xs, rfl, q, hd⟩ := dat_ftup0 h1
    cases e with
    | str k =>
      obtain ⟨ns, e1, e2⟩ := Option.bind_eq_some_iff.mp (show ((strsOf l).bind fun ns => (ns.findIdx? (· == k)).map fun j : Nat => D.int j) = some z from ez)
      obtain ⟨j, e3, rfl⟩ := Option.map_eq_some_iff.mp e2
      obtain ⟨f1, f2⟩ := first_str e3
      rw [dats_strs e1 hd] at q
      exact ⟨a, ns, k, j, rfl, by rw [dat_str h2], sqt_frz q, f1, f2, po _ H [] (Same.refl H) (dat_of_int n) List.nodup_nil (fun a z => by simp at z)⟩
    | _ => cases ez
  | _ => exact hp.elim
theorem ty_lst {d : D} {x : V} {H : Hp} {B : List Addr} (p : d.isLst) (h : Dat K H d 0 x [] B) : tyV K "list" x H := by
  cases d with
  | lst l =>
    obtain ⟨a, xs, R', rfl, q, _⟩ := dat_lst0 h
    exact .inl ⟨rfl, xs, .of q⟩
  | _ => exact p.elim
theorem ty_ft {d : D} {x : V} {H : Hp} {B : List Addr} (p : d.isFt) (h : Dat K H d 0 x [] B) : ∃ (p : Addr) (xs : List V) (o : Obj), x = .ref p ∧ o.dict = none ∧ H p = some (.frz o (.tup xs)) := by
  cases d with
  | ftup l =>
    obtain ⟨a, xs, rfl, ⟨o, h1, h2⟩, _⟩ := dat_ftup0 h
    exact ⟨a, xs, o, rfl, h1, h2⟩
  | _ => exact p.elim
end
section
variable {X : Cx} {W : WX} {Γ : List Nat} {n : Nat} {o e : Expr} {mo me : Rho → Res D} {apos cpos : Pos}
theorem re_seqM {name : Str} {idL idT : String} {rL rT : V → List V → Hp → VK → Prop} {g : D → D → Option D} (sL : Slot "list" name idL) (tL : typeOf (.builtin idL) = pure (.type "method_descriptor")) (mL : MtR X idL rL) (sT : Slot "tuple" name idT) (tT : typeOf (.builtin idT) = pure (.type "method_descriptor")) (mT : MtR X idT rT)
    (vL : MetV X.K rL g n D.isLst) (vT : MetV X.K rT g n D.isFt) (hg : ∀ d e z, g d e = some z → d.isLst ∨ d.isFt) (ho : RB X W Γ o mo) (he : RB X W Γ e me)
    (hbase : attributeBase o name X.env (eval o X.env) = eval o X.env) (hfew : ((backTo cpos (starEach [e] X.env)).all (fun x => !x.1) && (backToKw cpos (keywordEach [] X.env)).all (fun x => x.1.isSome) && decide ([e].length + ([] : List Keyword).length + (if ([] : List Keyword).isEmpty then 0 else 1) < 30)) = true)
    (hline : (apos.endLine == cpos.line) = true) (hs : starEach (e :: []) X.env = (false, eval e X.env) :: starEach [] X.env) (hplain : (backTo cpos (starEach [] X.env)).any (·.1) = false) :
    RE X W Γ n true (.Call (.Attribute o name apos) [e] [] cpos) (mMeth g mo me) := by
  obtain ⟨to, po', qo⟩ := ho
  obtain ⟨te, pe', qe⟩ := rab_cons (es := []) he rab_nil hs
  refine ⟨_, PE.or (pe_bm PySem.F.plainAttrs_list sL tL mL po' pe' hbase hfew hline hs hplain) (pe_tm PySem.F.plainAttrs_tuple sT tT mT po' pe' hbase hfew hline hs hplain), fun F H0 ρ σ H S R Q st po => ?_⟩
  by_cases hd : ∃ d, mo ρ = .ok d ∧ d.isFt
  · obtain ⟨d, ed, hd⟩ := hd
    exact .inr (meth_run qo qe (fun d x H B p h => ty_ft p h) vT (fun d' e z q _ => by rw [ed] at q; cases q; exact hd) st po)
  · exact .inl (meth_run qo qe (fun d x H B p h => ty_lst p h) vL (fun d' e z q ez => (hg d' e z ez).resolve_right fun w => hd ⟨d', q, w⟩) st po)
theorem gIndex_ty {d e z : D} (h : gIndex d e = some z) : d.isLst ∨ d.isFt := by
  cases d with
  | lst l => exact .inl trivial
  | ftup l => exact .inr trivial
  | _ => cases e <;> cases h
theorem re_index (ho : RB X W Γ o mo) (he : RB X W Γ e me)
    (hbase : attributeBase o "index" X.env (eval o X.env) = eval o X.env := by rfl) (hfew : ((backTo cpos (starEach [e] X.env)).all (fun x => !x.1) && (backToKw cpos (keywordEach [] X.env)).all (fun x => x.1.isSome) && decide ([e].length + ([] : List Keyword).length + (if ([] : List Keyword).isEmpty then 0 else 1) < 30)) = true := by rfl)
    (hline : (apos.endLine == cpos.line) = true := by rfl) (hs : starEach (e :: []) X.env = (false, eval e X.env) :: starEach [] X.env := by rfl) (hplain : (backTo cpos (starEach [] X.env)).any (·.1) = false := by rfl) :
    RE X W Γ n true (.Call (.Attribute o "index" apos) [e] [] cpos) (mMeth gIndex mo me) :=
  re_seqM PySem.F.slot_list_index PySem.F.type_list_index mt_index PySem.F.slot_tuple_index PySem.F.type_tuple_index mt_tup_index mv_indexL mv_indexT (fun _ _ _ => gIndex_ty) ho he hbase hfew hline hs hplain
end
end TW
-- TWText
namespace TW
open PySem PySem.Spec PyProof.Rows L2
def joinO (a : Str) (ys : List Str) : Option D := if (ys.map (·.length)).sum + ys.length * a.length ≤ 16777216 then some (.str (Txt.join a ys)) else none
def gJoin (d e : D) : Option D := match d, e with
  | .str a, .lst l => (strsOf l).bind (joinO a)
  | .str a, .tup l => (strsOf l).bind (joinO a)
  | .str a, .ftup l => (strsOf l).bind (joinO a)
  | _, _ => none
section
variable {K : PySem.W.Frag}
end
section
variable {X : Cx} {W : WX} {Γ : List Nat} {n : Nat} {o e : Expr} {mo me : Rho → Res D} {apos cpos : Pos}
end
section
variable {K : PySem.W.Frag}
end
section
variable {X : Cx} {W : WX} {Γ : List Nat} {n : Nat} {e a : Expr} {es : List Expr} {p p2 q pos : Pos} {ma : Rho → Res (List D)} {me : Rho → Res D}
def gLenSetT : D → Option D
  | .lst l => (strsOf l).bind fun ss => if ss.length ≤ 4000 then some (.int (unlike ss).length) else none
  | _ => none
theorem re_lenSetT (hm : X.mg "len" = none) (hm2 : X.mg "set" = none) (ha : RB X W Γ a me) (hg : Gl X "len" := by rfl) (hg2 : Gl X "set" := by rfl) (hc : X.calm = true := by rfl)
    (na : starEach [a] X.env = (false, eval a X.env) :: starEach [] X.env := by rfl) : RE X W Γ n true (.Call (.Name "len" p) [.Call (.Name "set" p2) [a] [] q] [] pos) (m1 gLenSetT me) := by
  obtain ⟨ta, pa, qa⟩ := ha
  refine ⟨_, pe_lenSetT hg hm hg2 hm2 pa hc na, fun F H0 ρ σ H S R Q st po => ?_⟩
  refine qa F H0 ρ σ H S R _ st ((PostE.iff.mp po).bind.imp fun d _ po => ?_)
  intro x H1 B s1 d1
  obtain ⟨z, ez, po⟩ := PostE.ofO (PostE.iff.mpr po)
  cases d with
  | lst l =>
    obtain ⟨ss, e1, e2⟩ := Option.bind_eq_some_iff.mp (show ((strsOf l).bind fun ss => if ss.length ≤ 4000 then some (D.int (unlike ss).length) else none) = some z from ez)
    split at e2
    · rename_i hl
      cases e2
      obtain ⟨u, xs, R', rfl, q, _, hd⟩ := dat_lst0 d1
      rw [dats_strs e1 hd] at q
      exact ⟨u, ss, rfl, .of q, hl, PostV.flat (PostV.later po s1) rfl dat_of_int⟩
    · cases e2
  | _ => cases ez
end
def rTupF (K : PySem.W.Frag) : List V → Hp → VK → Prop := fun xs H Q => ∃ p ys, xs = [.ref p] ∧ SqL K H p ys ∧ ∀ l o, H l = none → o.dict = none → Q (.ref l) (upd H l (.frz o (.tup ys)))
theorem call_tupF {X : Cx} : CallR X (.type "tuple") (rTupF X.K) := by
  intro pins s σ H xs us Q I r h
  obtain ⟨p, ys, rfl, sq, q⟩ := h
  obtain ⟨u, rfl, rx⟩ := vals1 r
  cases rx
  obtain ⟨its, rv, pl, hz⟩ := I.list sq
  have hlen := rv.length
  refine call_tuple_list pl.isList (fun h2 kp => ?_) (by simp only [List.size_toArray] <;> omega)
  have I1 : Inv X pins σ H { s with heap := h2 } := I.kept (t' := s.toks) kp
  refine ⟨.ref h2.objs.size, _, I1.laid (o := .frz { cls := .type "tuple", data := .seq its.toArray } (.tup ys)) (t' := s.toks) (fun b o e => Heap.get?_push_of_some _ e) (Nat.le_refl _) ⟨Heap.get?_push_size _ rfl, hz, its, rv, IsTup.new _ _⟩, rfl, q _ _ (I1.hok.fresh (Nat.le_refl _)) rfl⟩
def gTupF : List D → Option D
  | [.lst l] => some (.ftup l)
  | _ => none
theorem new_ftup {K : PySem.W.Frag} {Z : Addr → Prop} {H : Hp} {Q : VK} {ds : List D} {xs : List V} {B : List Addr} {p : Addr} {o : Obj} {n : Nat} (po : PostV K Z n true H Q (.ftup ds)) (hp : H p = none) (ho : o.dict = none) (hd : Dats K H ds (n - 1) xs [] B) (hb : ∀ a ∈ B, ¬ Z a) : Q (.ref p) (upd H p (.frz o (.tup xs))) := by
  refine po (.ref p) _ [] B (same_new hp) ?_ hb fun _ => New.nil
  unfold Dat
  exact ⟨p, xs, rfl, ⟨o, ho, upd_same⟩, hd.same (same_new hp)⟩
theorem cv_tupF {K : PySem.W.Frag} {n : Nat} (hn : n ≤ 1 := by decide) : CallV K (rTupF K) gTupF n := by
  intro Z vs ds z H B Q hz h hb ez po
  have e0 : n - 1 = 0 := by omega
  unfold gTupF at ez
  split at ez
  · cases ez
    obtain ⟨v, rfl, h9⟩ := dats1 h
    obtain ⟨a, xs, R', rfl, q, rfl, hd⟩ := dat_lst0 h9
    exact ⟨a, xs, rfl, .of q, fun l o hl ho => new_ftup po hl ho (B := R') (by rw [e0]; exact hd) fun b hb' => hb b (List.mem_cons_of_mem _ hb')⟩
  · cases ez
section
variable {X : Cx} {W : WX} {Γ : List Nat} {n : Nat} {e a : Expr} {es : List Expr} {p p2 q pos : Pos} {ma : Rho → Res (List D)} {me : Rho → Res D}
theorem re_tupleF (hm : X.mg "tuple" = none) (ha : RA X W Γ 0 true [e] ma) (hn : n ≤ 1 := by decide) (hg : Gl X "tuple" := by rfl)
    (he : starEach (e :: []) X.env = (false, eval e X.env) :: starEach [] X.env := by rfl) (hpl : (backTo pos (starEach [] X.env)).any (·.1) = false := by rfl) : RE X W Γ n true (.Call (.Name "tuple" p) [e] [] pos) (mL gTupF ma) := re_callT call_tupF (cv_tupF hn) hm boot_tuple ha hg (by decide) (by decide) he hpl
end
end TW
-- TWDict
namespace TW
open PySem PySem.Spec PyProof.Rows L2
section
variable {X : Cx} {W : WX} {Γ : List Nat} {n : Nat} {a b : Expr} {pos : Pos} {ma mb : Rho → Res D}
theorem re_dK0 : RE X W Γ n true (.Dict [] [] pos) (mC (.dK [] [])) := by
  refine ⟨_, pe_dnewK, fun F H0 ρ σ H S R Q st po p hp => ?_⟩
  cases n with
  | zero =>
    refine po (.ref p) _ [] [p] (same_new hp) ?_ (fun a ha z => ?_) fun _ => New.nil
    · unfold Dat
      exact ⟨p, [], [], rfl, .of upd_same, rfl, rfl, rfl, .nil⟩
    · simp at ha; subst ha; exact st.avd _ z hp
  | succ n =>
    refine po (.ref p) _ [p] [] (same_new hp) ?_ (fun a z => by simp at z) fun _ => ⟨by simp, fun a z => by simp at z; rw [z]; exact ⟨hp, by simp⟩⟩
    show Dat X.K _ (.dK [] []) (n + 1) _ _ _
    unfold Dat
    exact ⟨p, [], [], rfl, upd_same, rfl, rfl, .nil⟩
theorem re_dT0 : RE X W Γ n true (.Dict [] [] pos) (mC (.dT [] [])) := by
  refine ⟨_, pe_dnewT, fun F H0 ρ σ H S R Q st po p hp => ?_⟩
  cases n with
  | zero =>
    refine po (.ref p) _ [] [p] (same_new hp) ?_ (fun a ha z => ?_) fun _ => New.nil
    · unfold Dat
      exact ⟨p, [], [], rfl, .of upd_same, rfl, rfl, rfl, .nil⟩
    · simp at ha; subst ha; exact st.avd _ z hp
  | succ n =>
    refine po (.ref p) _ [p] [] (same_new hp) ?_ (fun a z => by simp at z) fun _ => ⟨by simp, fun a z => by simp at z; rw [z]; exact ⟨hp, by simp⟩⟩
    show Dat X.K _ (.dT [] []) (n + 1) _ _ _
    unfold Dat
    exact ⟨p, [], [], rfl, upd_same, rfl, rfl, .nil⟩
end
def putL {κ : Type} [DecidableEq κ] (ks : List κ) (vs : List D) (k : κ) (v : D) : List κ × List D := match ks.idxOf? k with
  | some i => (ks, vs.set i v)
  | none => (ks ++ [k], vs ++ [v])
def putD (d k v : D) : Option D := match d with
  | .dK ks vs => if ks.length < sizeLine then (keyD k).map fun k => .dK (putL ks vs k v).1 (putL ks vs k v).2 else none
  | .dT ks vs => match k with
    | .tup l => if ks.length < sizeLine then (keysD l).map fun k => .dT (putL ks vs k v).1 (putL ks vs k v).2 else none
    | _ => none
  | _ => none
theorem putK_keys {κ : Type} [DecidableEq κ] (k : κ) (y : V) : ∀ (ws : List (κ × V)), (ws.map (·.1)).Nodup → putK ws k y = match (ws.map (·.1)).idxOf? k with
    | some i => (ws.map (·.1)).zip ((ws.map (·.2)).set i y)
    | none => ws ++ [(k, y)] := by
  intro ws nd
  have rep : ∀ ws : List (κ × V), (ws.map (·.1)).Nodup → ∀ i, (ws.map (·.1)).idxOf? k = some i → ws.map (fun kv => if kv.1 = k then (kv.1, y) else kv) = (ws.map (·.1)).zip ((ws.map (·.2)).set i y) := by
    intro ws
    induction ws with
    | nil => intro _ i h; simp at h
    | cons w ws ih =>
      intro nd i h
      rw [List.map_cons, List.nodup_cons] at nd
      rw [List.map_cons, List.idxOf?_cons] at h
      by_cases e : w.1 = k
      · simp only [e, beq_self_eq_true, if_true] at h
        cases h
        have : ws.map (fun kv => if kv.1 = k then (kv.1, y) else kv) = ws := by
          have : ∀ kv ∈ ws, (if kv.1 = k then (kv.1, y) else kv) = kv := fun kv hkv => if_neg fun q => nd.1 (by rw [e, ← q]; exact List.mem_map_of_mem hkv)
          rw [List.map_congr_left this, List.map_id']
        simp only [List.map_cons, if_pos e, this, List.set_cons_zero, List.zip_cons_cons]
        congr 1
        exact (List.zip_of_prod rfl rfl).symm ▸ rfl
      · have ne : (w.1 == k) = false := beq_eq_false_iff_ne.mpr e
        simp only [ne, if_false, Bool.false_eq_true, Option.map_eq_some_iff] at h
        obtain ⟨j, hj, rfl⟩ := h
        simp only [List.map_cons, if_neg e, List.set_cons_succ, List.zip_cons_cons]
        rw [ih nd.2 j hj]
  unfold putK
  cases q : (ws.map (·.1)).idxOf? k with
  | none =>
    have : ¬ k ∈ ws.map (·.1) := List.idxOf?_eq_none_iff.mp q
    rw [if_neg]
    simp only [List.any_eq_true, decide_eq_true_eq, not_exists, not_and]
    intro w hw e
    exact this (e ▸ List.mem_map_of_mem hw)
  | some i =>
    have : k ∈ ws.map (·.1) := by
      by_cases h : k ∈ ws.map (·.1)
      · exact h
      · rw [List.idxOf?_eq_none_iff.mpr h] at q; cases q
    rw [if_pos]
    · exact rep ws nd i q
    · simp only [List.any_eq_true, decide_eq_true_eq]
      obtain ⟨w, hw, e⟩ := List.mem_map.mp this
      exact ⟨w, hw, e⟩
theorem put_dats {κ : Type} [DecidableEq κ] {K : PySem.W.Frag} {H : Hp} {ws : List (κ × V)} {vs : List D} {n : Nat} {S R A B : List Addr} {k : κ} {v : D} {y : V} (h : Dats K H vs n (ws.map (·.2)) S R) (g : Dat K H v n y A B) (nd : (ws.map (·.1)).Nodup) :
    (putK ws k y).map (·.1) = (putL (ws.map (·.1)) vs k v).1 ∧ ∃ S2 R2, Dats K H (putL (ws.map (·.1)) vs k v).2 n ((putK ws k y).map (·.2)) S2 R2 ∧ (∀ b ∈ S2, b ∈ S ∨ b ∈ A) ∧ (S.Nodup → A.Nodup → (∀ b ∈ A, b ∉ S) → S2.Nodup) ∧ ∀ b ∈ R2, b ∈ R ∨ b ∈ B := by
  rw [putK_keys k y ws nd]
  unfold putL
  have hlen := h.length
  cases q : (ws.map (·.1)).idxOf? k with
  | none =>
    refine ⟨by simp, S ++ A, R ++ B, ?_, fun b hb => List.mem_append.mp hb, fun n1 n2 n3 => List.nodup_append.mpr ⟨n1, n2, fun a ha b hb e => n3 b hb (e ▸ ha)⟩, fun b hb => List.mem_append.mp hb⟩
    dsimp only
    rw [List.map_append]
    exact h.append (Dats.one g)
  | some i =>
    have hi : i < ws.length := by
      have := (List.idxOf?_eq_some_iff.mp q).1
      simpa using this
    obtain ⟨S2, R2, a1, a2, a3, a4⟩ := Dats.put (j := i) h (by rw [← hlen, List.length_map]; exact hi) g
    refine ⟨by dsimp only; rw [List.map_fst_zip (by simp)], S2, R2, ?_, a2, a3, a4⟩
    dsimp only
    rw [List.map_snd_zip (by simp)]
    exact a1
def rSetDN : TSet := fun o i v H Q => (∃ a kvs k, o = .ref a ∧ H a = some (.dK kvs) ∧ i = kV k ∧ kvs.length < sizeLine ∧ ((kvs.map (·.1)).Nodup → Q (L2.upd H a (.dK (putK kvs k v))))) ∨
  ∃ a kvs k b, o = .ref a ∧ H a = some (.dT kvs) ∧ i = .ref b ∧ H b = some (.tup (k.map kV)) ∧ kvs.length < sizeLine ∧ ((kvs.map (·.1)).Nodup → Q (L2.upd H a (.dT (putK kvs k v))))
theorem paired_keys {α β γ : Type} {R : γ × α → γ × β → Prop} {l : List (γ × α)} {m : List (γ × β)} (h : Paired R l m) (e : ∀ p q, R p q → p.1 = q.1) : l.map (·.1) = m.map (·.1) := by
  induction h with
  | nil => rfl
  | cons h t ih => rw [List.map_cons, List.map_cons, e _ _ h, ih]
theorem set_dictN {X : Cx} (hu : X.A.units + 1 < cLine) : PSet X rSetDN := by
  intro pins s σ H o i v ov iv u Q I ro ri rv h
  rcases h with ⟨a, kvs, k, rfl, e, rfl, hl, q⟩ | ⟨a, kvs, k, b, rfl, e, rfl, eb, hl, q⟩
  · obtain ⟨_, _, vs, rel, _, _, _, _, _, _, _, _, nd⟩ := dk_of I.hok e
    rw [← rel.keys] at nd
    exact set_dict hu pins s σ H (.ref a) (kV k) v ov iv u Q I ro ri rv ⟨a, _, rfl, DPut.k e hl, q nd⟩
  · obtain ⟨_, _, xs, rel, o, es, ep, _, _, _, _, nd⟩ := (show ObjOk X.prog X.w H s.heap a (.dT kvs) from I.hok a _ e)
    have ek := paired_keys rel fun _ _ z => z.1
    rw [← ek] at nd
    exact set_dict hu pins s σ H (.ref a) (.ref b) v ov iv u Q I ro ri rv ⟨a, _, rfl, DPut.t e eb hl, q nd⟩
def sPutD (i : Nat) (mp : Rho → Res (List D)) (mj me : Rho → Res D) : Rho → Out := atS i fun ρ => (me ρ).out ρ fun v => (mp ρ).out ρ fun p => (noX (mj ρ)).out ρ fun j => mutO i ρ p fun c => putD c j v
@[simp] theorem sPutD_eq {i : Nat} {mp : Rho → Res (List D)} {mj me : Rho → Res D} {ρ : Rho} : sPutD i mp mj me ρ = atS i (fun ρ => (me ρ).out ρ fun v => (mp ρ).out ρ fun p => (noX (mj ρ)).out ρ fun j => mutO i ρ p fun c => putD c j v) ρ := id rfl
section
variable {X : Cx} {W : WX} {Γ : List Nat} {n i len : Nat} {e a b o : Expr} {pos pos' : Pos} {mp : Rho → Res (List D)} {mb me mi : Rho → Res D}
theorem rs_putD (hu : X.A.units + 1 < cLine) (hp : RP X W Γ i len o mp) (hj : RE X W Γ 0 true b mi) (he : RE X W Γ (Γ.getD i 0 - len - 1) true e me) (hk : len < Γ.getD i 0 := by decide)
    (ha : ∀ v, assign (.Subscript o b pos') X.env v = (do
      let ov ← holding [v] (eval o X.env)
      let iv ← holding [v, ov] (eval b X.env)
      standAt pos'
      holding [v, ov, iv] (setItem ov iv v)
      release [v, ov, iv] []) := by intro _; rfl)
    (hs : swapsWithSole [.Subscript o b pos'] e pos.line X.env = pure false := by rfl) (hw : swappedStores [.Subscript o b pos'] e X.env = pure none := by rfl)
    (h1 : (assignEach [.Subscript o b pos'] X.env).map (·.2) = [assign (.Subscript o b pos') X.env] := by rfl) :
    RS X W n Γ Γ (.Assign [.Subscript o b pos'] e pos) (sPutD i mp mi me) := by
  obtain ⟨ta, pa, qa⟩ := hp
  obtain ⟨tb, pb, qb⟩ := he
  obtain ⟨tc, pc, qc⟩ := hj
  refine ⟨_, ps_asg pb (pg_sub pa pc (set_dictN hu) ha) hs hw h1, fun F H0 ρ σ H S R E st po => ?_⟩
  obtain ⟨d, hd, po⟩ := atS_ok po
  obtain ⟨x, hx, _⟩ := st.slot i d hd
  refine qb F H0 ρ σ H S R _ st (PostE.iff.mpr ((PostS.ofR st po).imp fun v0 ev po => ?_))
  intro y H1 A B s1 d1 v1 f1
  have wA := f1 rfl
  have st1 := st.grow s1
  refine qa F H0 ρ σ H1 S R _ d x st1 hd hx ((PostS.ofR st1 po).imp fun p ep po => ?_)
  obtain ⟨j0, ej0, po0⟩ := noX_out po
  obtain ⟨d', c, c', d2, hd', hc, hf, hs', po2⟩ := mutO_ok po0
  rw [hd] at hd'
  cases hd'
  refine ⟨c, hc, fun v H2 Se Re s2 foc => ?_⟩
  obtain ⟨kk, hkk⟩ : ∃ kk, Γ.getD i 0 - len = kk + 1 := ⟨Γ.getD i 0 - len - 1, by omega⟩
  rw [hkk] at foc
  have hkk2 : Γ.getD i 0 - len - 1 = kk := by omega
  rw [hkk2] at d1
  have st2 := st1.grow s2
  refine qc F H0 ρ σ H2 S R _ st2 ?_
  rw [ej0]
  intro u H3 A3 B3 s3 d3 _ _
  obtain rfl : A3 = [] := Dat.noS d3
  have st3 := st2.grow s3
  have s13 := s2.trans s3
  have foc3 := foc.same s3
  obtain ⟨hcd, P, Q', P', Q'', eS, eR, rep⟩ := id foc3
  have ndS := st3.nd i
  rw [eS] at ndS
  have key : ∀ (aa : Addr) (S' : List Addr), Se = aa :: S' → aa ∈ S i ∧ aa ∉ S' ∧ aa ∉ Re ∧ S'.Nodup ∧ ∀ b ∈ S', b ∈ S i := fun aa S' e => by
    subst e
    have nd2 : (aa :: S').Nodup := (List.nodup_append.mp (List.nodup_append.mp ndS).1).2.1
    exact ⟨by rw [eS]; simp, (List.nodup_cons.mp nd2).1, fun z => st3.rs i i aa (by rw [eR]; simp [z]) (by rw [eS]; simp), (List.nodup_cons.mp nd2).2, fun b hb => by rw [eS]; simp [hb]⟩
  have fin : ∀ (aa : Addr) (S' : List Addr) (o' : HO) (S2 R2 : List Addr), Se = aa :: S' → Dat X.K (L2.upd H3 aa o') c' (kk + 1) v (aa :: S2) R2 → (∀ b ∈ S2, b ∈ S' ∨ b ∈ A) → S2.Nodup → aa ∉ S2 → (∀ b ∈ R2, b ∈ Re ∨ b ∈ B) → E.nx σ (L2.upd H3 aa o') := by
    intro aa S' o' S2 R2 eSe g h2 nd na hR
    subst eSe
    obtain ⟨d3', S'', R'', ed, st4, kp, gr⟩ := st3.node (A := A) (B := B) hd hx foc3 g (List.nodup_cons.mpr ⟨na, nd⟩) h2 (fun b hb => ⟨st.same.free (wA.2 b hb).1, fun z => st.fd b z (wA.2 b hb).1, fun j z => st.domS j b z (wA.2 b hb).1, fun j z => st.domR j b z (wA.2 b hb).1⟩) hR fun b hb => ⟨v1 b hb, fun z => (wA.2 b z).2 hb⟩
    rw [hs'] at ed
    cases ed
    exact po2 σ _ S'' R'' st4 ((Keep.of_same (s1.trans s13)).trans Grow.refl kp) fun j b hb => (gr j b hb).imp id fun z => (wA.2 b z).1
  have d1' := d1.same s13
  unfold putD at hf
  cases c with
  | dK ks vs =>
    dsimp only at hf
    split at hf
    · rename_i hl
      obtain ⟨k, ek, rfl⟩ := Option.map_eq_some_iff.mp hf
      unfold Dat at hcd
      obtain ⟨aa, ws, S', rfl, haa, rfl, eSe, dd⟩ := hcd
      obtain ⟨haS, haS', haR, ndS', subS⟩ := key aa S' eSe
      have haA : aa ∉ A := fun z => st.domS i aa haS (wA.2 aa z).1
      have haB : aa ∉ B := fun z => v1 aa z (.inr ⟨i, haS⟩)
      refine .inl ⟨aa, ws, k, rfl, haa, dat_key d3 ek, by rw [← List.length_map (as := ws) (·.1)]; exact hl, fun nd => ?_⟩
      obtain ⟨p1, S2, R2, p2, p3, p4, p5⟩ := put_dats (k := k) dd d1' nd
      have na : aa ∉ S2 := fun z => (p3 aa z).elim haS' haA
      have nR : aa ∉ R2 := fun z => (p5 aa z).elim haR haB
      refine fin aa S' _ S2 R2 eSe ?_ p3 (p4 ndS' wA.1 fun b hb hb' => st.domS i b (subS b hb') (wA.2 b hb).1) na p5
      unfold Dat
      exact ⟨aa, _, S2, rfl, upd_same, p1, rfl, Dats.stay _ _ _ _ _ (sub_stay (K := X.K) haa trivial na nR) p2⟩
    · cases hf
  | dT ks vs =>
    dsimp only at hf
    cases j0 with
    | tup l =>
      dsimp only at hf
      split at hf
      · rename_i hl
        obtain ⟨k, ek, rfl⟩ := Option.map_eq_some_iff.mp hf
        unfold Dat at hcd
        obtain ⟨aa, ws, S', rfl, haa, rfl, eSe, dd⟩ := hcd
        obtain ⟨haS, haS', haR, ndS', subS⟩ := key aa S' eSe
        have haA : aa ∉ A := fun z => st.domS i aa haS (wA.2 aa z).1
        have haB : aa ∉ B := fun z => v1 aa z (.inr ⟨i, haS⟩)
        obtain ⟨bb, xs, rfl, hbb, hl2⟩ := dat_tup0 d3
        obtain rfl := dats_keys hl2 ek
        refine .inr ⟨aa, ws, k, bb, rfl, haa, rfl, hbb, by rw [← List.length_map (as := ws) (·.1)]; exact hl, fun nd => ?_⟩
        obtain ⟨p1, S2, R2, p2, p3, p4, p5⟩ := put_dats (k := k) dd d1' nd
        have na : aa ∉ S2 := fun z => (p3 aa z).elim haS' haA
        have nR : aa ∉ R2 := fun z => (p5 aa z).elim haR haB
        refine fin aa S' _ S2 R2 eSe ?_ p3 (p4 ndS' wA.1 fun b hb hb' => st.domS i b (subS b hb') (wA.2 b hb).1) na p5
        unfold Dat
        exact ⟨aa, _, S2, rfl, upd_same, p1, rfl, Dats.stay _ _ _ _ _ (sub_stay (K := X.K) haa trivial na nR) p2⟩
      · cases hf
    | _ => cases hf
  | _ => cases hf
end
def mD1 (a b : Rho → Res D) : Rho → Res D := fun ρ => (a ρ).bind fun k => (b ρ).bind fun v => ofO ((keyD k).map fun k => .dK [k] [v])
@[simp] theorem mD1_eq {a b : Rho → Res D} {ρ : Rho} : mD1 a b ρ = (a ρ).bind fun k => (b ρ).bind fun v => ofO ((keyD k).map fun k => .dK [k] [v]) := id rfl
end TW
-- TWPop
namespace TW
open PySem PySem.Spec PyProof.Rows L2
def sAsg (f : D → Rho → Option Rho) (m : Rho → Res D) : Rho → Out := fun ρ => (m ρ).out ρ fun d => match f d ρ with
  | some ρ' => .nx ρ'
  | none => .stuck
@[simp] theorem sAsg_eq {f : D → Rho → Option Rho} {m : Rho → Res D} {ρ : Rho} : sAsg f m ρ = (m ρ).out ρ fun d => match f d ρ with
  | some ρ' => .nx ρ'
  | none => .stuck := id rfl
@[simp] theorem tgT_tup {is : List Nat} {ds : List D} {ρ : Rho} : tgT is (.tup ds) ρ = tgNs is ds ρ := id rfl
@[simp] theorem tgNs_cons {i : Nat} {is : List Nat} {d : D} {ds : List D} {ρ : Rho} : tgNs (i :: is) (d :: ds) ρ = tgNs is ds (ρ.set i (some d)) := id rfl
@[simp] theorem tgNs_nil {ρ : Rho} : tgNs [] [] ρ = some ρ := id rfl
section
variable {X : Cx} {W : WX} {Γ : List Nat} {n i j len : Nat} {e o tg : Expr} {pos pos' : Pos} {m : Rho → Res D} {f : D → Rho → Option Rho}
theorem rs_asg (he : RE X W Γ 0 true e m) (hg : RG X Γ tg f) (hs : swapsWithSole [tg] e pos.line X.env = pure false := by rfl) (hw : swappedStores [tg] e X.env = pure none := by rfl)
    (h1 : (assignEach [tg] X.env).map (·.2) = [assign tg X.env] := by rfl) : RS X W n Γ Γ (.Assign [tg] e pos) (sAsg f m) := by
  obtain ⟨te, pe, qe⟩ := he
  obtain ⟨g, pg, qg⟩ := hg
  refine ⟨_, ps_asg pe pg hs hw h1, fun F H0 ρ σ H S R E st po => ?_⟩
  refine qe F H0 ρ σ H S R _ st (PostE.iff.mpr ((PostS.ofR st po).imp fun d _ po => ?_))
  intro x H1 A B s1 d1 v1 _
  obtain rfl : A = [] := Dat.noS d1
  cases ef : f d ρ with
  | none => rw [ef] at po; exact po.elim
  | some ρ' =>
    rw [ef] at po
    exact qg F H0 ρ σ H1 S R d x B ρ' _ (st.grow s1) d1 v1 ef fun σ' R' st' => po σ' H1 S R' st' (Keep.of_same s1) Grow.refl
end
theorem Dats.reverse {K : PySem.W.Frag} {H : Hp} : ∀ {ds : List D} {n : Nat} {xs : List V} {S R : List Addr}, Dats K H ds n xs S R → ∃ S2 R2, Dats K H ds.reverse n xs.reverse S2 R2 ∧ S2.Perm S ∧ ∀ a ∈ R2, a ∈ R
  | [], _, _, _, _, h => by
    simp only [Dats] at h
    obtain ⟨rfl, rfl, rfl⟩ := h
    exact ⟨[], [], .nil, .refl _, fun _ z => z⟩
  | d :: ds, n, _, _, _, h => by
    unfold Dats at h
    obtain ⟨x, xs', S1, S2, R1, R2, rfl, rfl, rfl, h1, h2⟩ := h
    obtain ⟨S3, R3, g, p, r⟩ := Dats.reverse h2
    refine ⟨S3 ++ S1, R3 ++ R1, by rw [List.reverse_cons, List.reverse_cons]; exact g.append (Dats.one h1), (p.append_right S1).trans List.perm_append_comm, fun a ha => ?_⟩
    rcases List.mem_append.mp ha with ha | ha
    · exact List.mem_append_right _ (r a ha)
    · exact List.mem_append_left _ ha
theorem Dats.init {K : PySem.W.Frag} {H : Hp} : ∀ {ds : List D} {n : Nat} {xs : List V} {S R : List Addr}, Dats K H ds n xs S R → ∃ S2 R2, Dats K H ds.dropLast n xs.dropLast S2 R2 ∧ S2.Sublist S ∧ ∀ a ∈ R2, a ∈ R
  | [], _, _, _, _, h => by
    simp only [Dats] at h
    obtain ⟨rfl, rfl, rfl⟩ := h
    exact ⟨[], [], .nil, .refl _, fun _ z => z⟩
  | [d], n, _, _, _, h => by
    unfold Dats at h
    obtain ⟨x, xs', S1, S2, R1, R2, rfl, rfl, rfl, h1, h2⟩ := h
    simp only [Dats] at h2
    obtain ⟨rfl, _, _⟩ := h2
    exact ⟨[], [], .nil, List.nil_sublist _, fun _ z => by simp at z⟩
  | d :: e :: ds, n, _, _, _, h => by
    unfold Dats at h
    obtain ⟨x, xs', S1, S2, R1, R2, rfl, rfl, rfl, h1, h2⟩ := h
    obtain ⟨S3, R3, g, p, r⟩ := Dats.init h2
    have hl := h2.length
    obtain ⟨y, ys, rfl⟩ : ∃ y ys, xs' = y :: ys := by
      cases xs' with
      | nil => simp at hl
      | cons y ys => exact ⟨y, ys, rfl⟩
    refine ⟨S1 ++ S3, R1 ++ R3, Dats.cons h1 g, p.append_left S1 |>.trans (.refl _), fun a ha => ?_⟩
    rcases List.mem_append.mp ha with ha | ha
    · exact List.mem_append_left _ ha
    · exact List.mem_append_right _ (r a ha)
theorem Dats.erase {K : PySem.W.Frag} {H : Hp} : ∀ {ds : List D} {n : Nat} {xs : List V} {S R : List Addr} (k : Nat), Dats K H ds n xs S R → ∃ S2 R2, Dats K H (ds.eraseIdx k) n (xs.eraseIdx k) S2 R2 ∧ S2.Sublist S ∧ ∀ a ∈ R2, a ∈ R
  | [], _, _, _, _, k, h => by
    simp only [Dats] at h
    obtain ⟨rfl, rfl, rfl⟩ := h
    exact ⟨[], [], by simpa using Dats.nil, .refl _, fun _ z => z⟩
  | d :: ds, n, _, _, _, 0, h => by
    unfold Dats at h
    obtain ⟨x, xs', S1, S2, R1, R2, rfl, rfl, rfl, h1, h2⟩ := h
    exact ⟨S2, R2, by simpa using h2, List.sublist_append_right _ _, fun a z => List.mem_append_right _ z⟩
  | d :: ds, n, _, _, _, k + 1, h => by
    unfold Dats at h
    obtain ⟨x, xs', S1, S2, R1, R2, rfl, rfl, rfl, h1, h2⟩ := h
    obtain ⟨S3, R3, g, p, r⟩ := Dats.erase k h2
    refine ⟨S1 ++ S3, R1 ++ R3, by simpa using Dats.cons h1 g, p.append_left S1, fun a ha => ?_⟩
    rcases List.mem_append.mp ha with ha | ha
    · exact List.mem_append_left _ ha
    · exact List.mem_append_right _ (r a ha)
def sMut (i : Nat) (mp : Rho → Res (List D)) (f : D → Option D) : Rho → Out := atS i fun ρ => (mp ρ).out ρ fun p => mutO i ρ p f
@[simp] theorem sMut_eq {i : Nat} {mp : Rho → Res (List D)} {f : D → Option D} {ρ : Rho} : sMut i mp f ρ = atS i (fun ρ => (mp ρ).out ρ fun p => mutO i ρ p f) ρ := id rfl
section
variable {X : Cx} {W : WX} {Γ : List Nat} {n i j len : Nat} {e o o2 tg : Expr} {pos pos' apos cpos apos2 cpos2 pos2 : Pos} {mp mp2 : Rho → Res (List D)} {me : Rho → Res D}
end
section
variable {K : PySem.W.Frag} {F : Fr} {H0 H : Hp} {Γ : List Nat} {ρ : Rho} {σ : L2.St} {S R : Nat → List Addr}
end
section
variable {X : Cx} {W : WX} {Γ : List Nat} {n i j len : Nat} {e o o2 tg : Expr} {pos pos' apos cpos apos2 cpos2 pos2 : Pos} {mp mp2 : Rho → Res (List D)} {me : Rho → Res D} {m : Rho → Option (D × Rho)} {f : D → Rho → Option Rho}
end
section
variable {X : Cx} {W : WX} {Γ : List Nat} {n : Nat} {tg e a b c : Expr} {p pos : Pos} {ma mb mc : Rho → Res D} {mes : Rho → Res (List D)}
end
end TW
-- TWTry
namespace TW
open PySem PySem.Spec PyProof.Rows L2
def ExcG (K : PySem.W.Frag) (mg : Str → Option Value) (x : Str) : Prop :=
  ∃ C, PySem.W.excIn K C [.type "ValueError", .type "Exception", .type "BaseException", .type "object"] "ValueError.__new__" = true ∧ mg x = some (.ref C) ∧ PySem.W.keepIn K (.ref C) = true ∧ PySem.W.subIn K (.ref C) (.type "BaseException") = some true ∧ PySem.W.typeIn K (.ref C) = some (.type "type")
def sRaise (c : Str) : Rho → Out := fun ρ => .ex c ρ
@[simp] theorem sRaise_eq {c : Str} {ρ : Rho} : sRaise c ρ = .ex c ρ := id rfl
section
variable {X : Cx} {W : WX} {n : Nat} {Γ Γ1 : List Nat}
theorem rs_raise {x m : Str} {j : Nat} {p p2 pos pos' : Pos} (hc : X.calm = true) (G : ExcG X.K X.mg x) (tk : Takes X W) (hg : Gl X x := by rfl) (hdb : (x == ("__debug__" : Str)) = false := by decide) :
    RS X W n Γ Γ1 (.Raise (some (.Call (.Name x p) [.Constant (.str m) j p2] [] pos)) none pos') (sRaise x) := by
  obtain ⟨C, xP, gP, kP, bP, tP⟩ := G
  refine ⟨_, ps_raise hc tk (pmk_own PySem.F.excBase_ValueError xP gP kP (raises_own bP tP) hg hdb), fun F H0 ρ σ H S R E st po => ?_⟩
  exact (PostS.ofR (m := (Res.exn x : Res D)) (f := fun _ => .stuck) st po) C H gP (Same.refl H)
def sTry (cs : List (Str × Bool)) (mb : Rho → Out) (ms : Str → Rho → Out) : Rho → Out := fun ρ => match mb ρ with
  | .ex c ρ' => match cs.lookup c with
    | some true => ms c ρ'
    | some false => .ex c ρ'
    | none => .stuck
  | o => o
def CatG (K : PySem.W.Frag) (mg : Str → Option Value) (x : Str) (cs : List (Str × Bool)) : Prop :=
  ∃ T, mg x = some (.ref T) ∧ ∀ c b, cs.lookup c = some b → ∀ C, mg c = some (.ref C) → PySem.W.exmOne K (.ref C) (.ref T) = some b
theorem Sto.nopin {K : PySem.W.Frag} {F : Fr} {H0 H : Hp} {ρ : Rho} {σ : L2.St} {S R : Nat → List Addr} (st : Sto K F H0 Γ ρ σ H S R) (hz : ∀ v ∈ Γ, v ≠ 99) : F.un = F := by
  have : F.pin = fun _ => none := by
    funext i
    cases e : F.pin i with
    | none => rfl
    | some v =>
      have h := (st.pin i v e).1
      rw [List.getD_eq_getElem?_getD] at h
      cases e2 : Γ[i]? with
      | none => rw [e2] at h; cases h
      | some g =>
        rw [e2] at h
        exact absurd h (hz g (List.mem_of_getElem? e2))
  cases F with
  | mk no pin => simp only at this; subst this; rfl
theorem zeros_get (h1 : ∀ v ∈ Γ1, v = 0) (i : Nat) : ([] : List Nat).getD i 0 = Γ1.getD i 0 := by
  rw [List.getD_eq_getElem?_getD, List.getD_eq_getElem?_getD]
  cases e : Γ1[i]? with
  | none => rfl
  | some v => rw [h1 v (List.mem_of_getElem? e)]; rfl
end
theorem catG_one {K : PySem.W.Frag} {mg : Str → Option Value} {T c : Str} {b : Bool} {A C : Addr} (h : mg T = some (.ref A)) (hc : mg c = some (.ref C)) (e : PySem.W.exmOne K (.ref C) (.ref A) = some b) : CatG K mg T [(c, b)] := by
  refine ⟨A, h, fun c' b' hl C' hC => ?_⟩
  simp only [List.lookup] at hl
  split at hl
  · rename_i q
    have q := eq_of_beq q
    subst q
    cases hl
    rw [hc] at hC
    cases hC
    exact e
  · cases hl
@[simp] theorem sTry_eq {cs : List (Str × Bool)} {mb : Rho → Out} {ms : Str → Rho → Out} {ρ : Rho} : sTry cs mb ms ρ = match mb ρ with
  | .ex c ρ' => match cs.lookup c with
    | some true => ms c ρ'
    | some false => .ex c ρ'
    | none => .stuck
  | o => o := id rfl
end TW
-- TWDisp
namespace TW
open PySem PySem.Spec PyProof.Rows L2
section
variable {X : Cx} {W : WX} {Γ : List Nat} {a b : Expr} {pos : Pos} {ma mb : Rho → Res D}
end
end TW
-- TWLendN
namespace TW
open PySem PySem.Spec PyProof.Rows L2
def D.shal : Nat → D → Bool
  | n + 1, .lst l => l.all (D.shal n)
  | _, d => d.flat
def mShal (n : Nat) (m : Rho → Res D) : Rho → Res D := fun ρ => (m ρ).bind fun d => if d.shal n then .ok d else .stuck
@[simp] theorem mShal_eq {n : Nat} {m : Rho → Res D} {ρ : Rho} : mShal n m ρ = (m ρ).bind fun d => if d.shal n then .ok d else .stuck := id rfl
section
variable {X : Cx} {W : WX} {Γ : List Nat} {nf k ar : Nat} {e : Expr} {es : List Expr} {x : Str} {p pos : Pos} {ma : Rho → Res (List D)} {m : List D → Res D}
end
end TW
-- TWRevD
namespace TW
open PySem PySem.Spec PyProof.Rows L2
theorem avd_of {K : PySem.W.Frag} {F : Fr} {H0 : Hp} {Γ : List Nat} {ρ : Rho} {σ : L2.St} {H : Hp} {S R : Nat → List Addr} (st : Sto K F H0 Γ ρ σ H S R) : ∀ a, Av F S a → H a ≠ none := fun a z => st.avd a z
section
variable {X : Cx} {W : WX} {Γ : List Nat} {n : Nat} {a : Expr} {p1 p2 p3 pos p q : Pos} {k : Nat} {ma : Rho → Res D} {mm : Rho → Res (List D)}
end
def keyToD : Key → D
  | .inl i => .int i
  | .inr s => .str s
def gListDT : List D → Option D
  | [.dT ks _] => some (.lst (ks.map fun k => .tup (k.map keyToD)))
  | _ => none
theorem dats_keyD {K : PySem.W.Frag} {H : Hp} {n : Nat} : ∀ k : List Key, Dats K H (k.map keyToD) n (k.map kV) [] []
  | [] => Dats.nil
  | .inl i :: k => Dats.cons (S1 := []) (R1 := []) (S2 := []) (R2 := []) (dat_of_int n) (dats_keyD k)
  | .inr s :: k => Dats.cons (S1 := []) (R1 := []) (S2 := []) (R2 := []) (dat_of_str n) (dats_keyD k)
theorem dats_isKeys {K : PySem.W.Frag} {H : Hp} {kvs : List (List Key × V)} {bs : List Addr} (h : IsKeys H kvs bs) : Dats K H (kvs.map fun p => .tup (p.1.map keyToD)) 0 (bs.map V.ref) [] [] := by
  unfold IsKeys at h
  induction h with
  | nil => exact Dats.nil
  | cons h t ih =>
    refine Dats.cons (S1 := []) (R1 := []) (S2 := []) (R2 := []) ?_ ih
    unfold Dat
    exact ⟨_, _, rfl, h, dats_keyD _⟩
theorem cv_listDT {K : PySem.W.Frag} {n : Nat} (hn : n ≤ 1 := by decide) : CallV K (fun xs H Q => ∃ d kvs, xs = [V.ref d] ∧ Rd H d (.dT kvs) ∧ ∀ p bs, H p = none → IsKeys H kvs bs → Q (.ref p) (L2.upd H p (.lst (bs.map V.ref)))) gListDT n := by
  intro Z vs ds z H B Q hz h hb ez po
  have e0 : n - 1 = 0 := by omega
  unfold gListDT at ez
  split at ez
  · cases ez
    obtain ⟨v, rfl, h9⟩ := dats1 h
    unfold Dat at h9
    obtain ⟨a, ws, R', rfl, q, rfl, _⟩ := h9
    refine ⟨a, ws, rfl, q, fun p bs hp ik => new_lst po hp (B := []) ?_ (fun a z => by simp at z) hz⟩
    rw [e0]
    have := dats_isKeys (K := K) ik
    rw [List.map_map]
    exact this
  · cases ez
section
variable {X : Cx} {W : WX} {Γ : List Nat} {n : Nat} {e : Expr} {p pos : Pos} {ma : Rho → Res (List D)}
theorem still_all {K : PySem.W.Frag} {H : Hp} : ∀ {ds : List D} {n : Nat} {xs : List V} {S R : List Addr}, ds.all D.still = true → Dats K H ds n xs S R → R = []
  | [], _, _, _, _, _, h => by
    unfold Dats at h
    exact h.2.2
  | d :: ds, _, _, _, _, f, h => by
    simp only [List.all_cons, Bool.and_eq_true] at f
    unfold Dats at h
    obtain ⟨x, xs', S1, S2, R1, R2, rfl, rfl, rfl, h1, h2⟩ := h
    rw [(h1.still f.1).2.1, still_all f.2 h2]; rfl
theorem keys_still (ks : List (List Key)) : (ks.map fun k => (.tup (k.map keyToD) : D)).all D.still = true := by
  rw [List.all_eq_true]
  intro d hd
  obtain ⟨k, _, rfl⟩ := List.mem_map.mp hd
  show (k.map keyToD).all D.flat = true
  rw [List.all_eq_true]
  intro d hd
  obtain ⟨z, _, rfl⟩ := List.mem_map.mp hd
  cases z <;> rfl
theorem re_listDTB (hc : X.calm = true) (hm : X.mg "list" = none) (ha : RAB X W Γ [e] ma) (hn : n ≤ 1 := by decide) (hg : Gl X "list" := by rfl)
    (he : starEach (e :: []) X.env = (false, eval e X.env) :: starEach [] X.env := by rfl) (hpl : (backTo pos (starEach [] X.env)).any (·.1) = false := by rfl) : RE X W Γ n true (.Call (.Name "list" p) [e] [] pos) (mL gListDT ma) := by
  refine RE.w (n := 1) ?_ hn
  obtain ⟨ta, pa, qa⟩ := ha
  refine ⟨_, pe_callTy (call_list_dT hc) hg hm boot_list pa (by decide) (by decide) he hpl, fun F H0 ρ σ H S R Q st po => ?_⟩
  refine qa F H0 ρ σ H S R _ st ((PostE.iff.mp po).bind.imp fun d _ po => ?_)
  intro xs H1 B s1 d1
  obtain ⟨z, ez, po⟩ := PostA.ofO po
  refine cv_listDT (n := 1) (Nat.le_refl 1) (fun _ => False) xs d z H1 B Q (fun _ z => z.elim) d1 (fun _ _ z => z) ez ?_
  intro v H' A' B' s2 d2 _ nw
  unfold gListDT at ez
  split at ez
  · cases ez
    have d3 := d2
    unfold Dat at d3
    obtain ⟨a, ys, S', rfl, q, rfl, hd⟩ := d3
    obtain rfl := still_all (keys_still _) hd
    exact PostV.later po s1 _ H' _ [] s2 d2 (fun a z => by simp at z) nw
  · cases ez
end
end TW
-- TWTryAs
namespace TW
open PySem PySem.Spec PyProof.Rows L2
theorem boot_ValueError : bootBuiltins "ValueError" = some (.type "ValueError") := by decide +kernel
def ExcK (K : PySem.W.Frag) (mg : Str → Option Value) (c : Str) : Prop := ∃ D, mg c = some (.ref D) ∧ ExcC K D
def TstG (K : PySem.W.Frag) (mg : Str → Option Value) (c T : Str) (b : Bool) : Prop :=
  ∃ D v u, mg c = some (.ref D) ∧ ClsV v u ∧ (mg T = some u ∨ (mg T = none ∧ bootBuiltins T = some u ∧ T ≠ "__name__")) ∧ RelV v u ∧ PySem.W.kitOne K (.ref D) u = some b
theorem tstG_own {K : PySem.W.Frag} {mg : Str → Option Value} {c T : Str} {b : Bool} {D C : Addr} (hc : mg c = some (.ref D)) (hT : mg T = some (.ref C)) (h : PySem.W.kitOne K (.ref D) (.ref C) = some b) : TstG K mg c T b :=
  ⟨D, .ref C, .ref C, hc, .own C, .inl hT, rfl, h⟩
theorem tstG_blt {K : PySem.W.Frag} {mg : Str → Option Value} {c T : Str} {U : String} {b : Bool} {D : Addr} (hc : mg c = some (.ref D)) (hT : mg T = none) (hb : bootBuiltins T = some (.type U)) (hn : T ≠ "__name__") (h : PySem.W.kitOne K (.ref D) (.type U) = some b) : TstG K mg c T b :=
  ⟨D, .ty U, .type U, hc, .ty U, .inr ⟨hT, hb, hn⟩, rfl, h⟩
theorem kit_self {K : PySem.W.Frag} {D : Addr} : PySem.W.kitOne K (.ref D) (.ref D) = some true := if_pos (by simp)
theorem kit_ref {K : PySem.W.Frag} {D C : Addr} {b : Bool} (hd : PySem.W.hasDictIn K C = true) (ht : PySem.W.typeIn K (.ref C) = some (.type "type")) (h : PySem.W.subIn K (.ref D) (.ref C) = some b) (hne : (D == C) = false) : PySem.W.kitOne K (.ref D) (.ref C) = some b := by
  obtain ⟨cd, hc, _⟩ := PySem.W.any_some hd
  have e1 : ((PySem.W.clsIn K C).isSome && PySem.W.typeIn K (.ref C) == some (.type "type")) = true := by rw [hc, ht] <;> rfl
  have e2 : ¬ ((Value.ref D == Value.ref C) = true) := fun z => by
    have := Value.ref.inj (beq_iff_eq.mp z)
    subst this
    simp at hne
  unfold PySem.W.kitOne
  rw [if_neg e2]
  show (if ((PySem.W.clsIn K C).isSome && PySem.W.typeIn K (.ref C) == some (.type "type")) = true then PySem.W.subIn K (.ref D) (.ref C) else none) = some b
  rw [if_pos e1]
  exact h
theorem kit_typ {K : PySem.W.Frag} {D : Addr} {U : String} {b : Bool} (hm : PySem.W.kitMeta U = true) (h : PySem.W.subIn K (.ref D) (.type U) = some b) : PySem.W.kitOne K (.ref D) (.type U) = some b := by
  unfold PySem.W.kitOne
  rw [if_neg (by simp)]
  show (if PySem.W.kitMeta U = true then PySem.W.subIn K (.ref D) (.type U) else none) = some b
  rw [if_pos hm]
  exact h
def rIsET (K : PySem.W.Frag) (D a : Addr) : List V → Hp → VK → Prop := fun xs H Q => ∃ (tp : Addr) (cs : List V) (us : List Value) (b : Bool), xs = [.ref a, .ref tp] ∧ H tp = some (.tup cs) ∧ Paired ClsV cs us ∧ PySem.W.kitAny K (.ref D) us = some b ∧ Q (.bl b) H
theorem call_isET {X : Cx} {a D : Addr} {oe : Obj} {pn : List (Addr × Obj)} (C : ExcC X.K D) (hz : Zc (.ref D) none oe) (hf : ∃ vs, oe.data = .fields vs) : CallR (X.suite a ((a, oe) :: pn)) (.builtin "isinstance") (rIsET X.K D a) := by
  intro pins s σ H xs us Q I r h
  obtain ⟨tp, cs, ws, b, rfl, hT, k, e, q⟩ := h
  obtain ⟨u1, u2, rfl, r1, r2⟩ := vals2 r
  cases (show u1 = Value.ref a from r1)
  cases (show u2 = Value.ref tp from r2)
  obtain ⟨hget, _⟩ := I.pin (a, oe) (List.mem_append.mpr (.inl List.mem_cons_self))
  obtain ⟨vs, hv⟩ := hf
  have J : PySem.W.InstAt s.heap a oe D none := by
    obtain ⟨oc, od, oda, osl⟩ := oe
    obtain ⟨h1, h2⟩ := hz
    dsimp only at h1 h2 hv
    subst h1 h2 hv
    exact ⟨hget, rfl, rfl, trivial⟩
  obtain ⟨_, its, rv, o, h1, h2, n, h3⟩ := (show ObjOk X.prog X.w H s.heap tp (.tup cs) from I.hok tp _ hT)
  have e3 := ClsV.all k rv
  subst e3
  obtain ⟨oc, od, dt, sl⟩ := o
  simp only at h2 h3
  subst h2 h3
  exact PySem.W.kia_tup (PySem.W.handS_kitx_exc C.hg C.hk C.hs C.hd C.ha C.hn C.ht C.hm) I.kIn J h1 e (fun z => nomatch z) fun tk => ⟨.bl b, H, I.kept (t' := tk) fun _ _ z => z, rfl, q⟩
def REp (i : Nat) (a : Addr) (X : Cx) (W : WX) (Γ : List Nat) (n : Nat) (fr : Bool) (e : Expr) (m : Rho → Res D) : Prop :=
  ∃ t, PE X e t ∧ ∀ F H0 ρ σ H S R Q, F.pin i = some (.ref a) → Sto X.K F H0 Γ ρ σ H S R → PostE X W (Av F S) n fr σ H Q (m ρ) → t σ H Q
def RAp (i : Nat) (a : Addr) (X : Cx) (W : WX) (Γ : List Nat) (n : Nat) (fr : Bool) (es : List Expr) (m : Rho → Res (List D)) : Prop :=
  ∃ t, PA X es t ∧ ∀ F H0 ρ σ H S R Q, F.pin i = some (.ref a) → Sto X.K F H0 Γ ρ σ H S R → PostA X W (Av F S) n fr σ H Q (m ρ) → t σ H Q
def RSp (i : Nat) (a : Addr) (X : Cx) (W : WX) (n : Nat) (Γ Γ' : List Nat) (st : Stmt) (m : Rho → Out) : Prop :=
  ∃ t, PS X st t ∧ ∀ F H0 ρ σ H S R E, F.pin i = some (.ref a) → Sto X.K F H0 Γ ρ σ H S R → PostS X W F H0 Γ' n S H E (m ρ) → t E σ H
def RSsp (i : Nat) (a : Addr) (X : Cx) (W : WX) (n : Nat) (Γ Γ' : List Nat) (st : List Stmt) (m : Rho → Out) : Prop :=
  ∃ t, PSs X st t ∧ ∀ F H0 ρ σ H S R E, F.pin i = some (.ref a) → Sto X.K F H0 Γ ρ σ H S R → PostS X W F H0 Γ' n S H E (m ρ) → t E σ H
section
variable {X : Cx} {W : WX} {Γ Γ1 Γ2 : List Nat} {n i k : Nat} {a : Addr} {fr : Bool} {e : Expr} {es : List Expr} {m me : Rho → Res D} {mes : Rho → Res (List D)} {p p2 pos pos' : Pos}
theorem rap_nil : RAp i a X W Γ n true [] mA0 := by
  refine ⟨_, pa_nil, fun F H0 ρ σ H S R Q _ st po => ?_⟩
  exact po [] H [] [] (Same.refl H) .nil (fun a z => by simp at z) fun _ => New.nil
theorem rap_cons (he : REp i a X W Γ n true e me) (hes : RAp i a X W Γ n true es mes) (hs : starEach (e :: es) X.env = (false, eval e X.env) :: starEach es X.env := by rfl) : RAp i a X W Γ n true (e :: es) (mA1 me mes) := by
  obtain ⟨ta, pa, qa⟩ := he
  obtain ⟨tb, pb, qb⟩ := hes
  refine ⟨_, pa_cons pa pb hs, fun F H0 ρ σ H S R Q hp st po => ?_⟩
  refine qa F H0 ρ σ H S R _ hp st (PostE.iff.mpr ((PostA.iff.mp po).bind.imp fun d _ po => ?_))
  intro x H1 A B s1 d1 v1 f1
  obtain ⟨n1, w1⟩ := f1 rfl
  refine qb (F.plus A) H0 ρ σ H1 S R _ hp ((st.grow s1).more (fun a ha => Dat.dom d1 a ha) (fun a ha i hi => st.domS i a hi (w1 a ha).1) fun a ha i hi => st.domR i a hi (w1 a ha).1) (PostA.iff.mpr (po.bind.later s1 fun ds _ po => ?_))
  intro xs H2 A' B' s2 d2 v2 f2
  refine po (x :: xs) H2 (A ++ A') (B ++ B') (s1.trans s2) (.cons (d1.same s2) d2) (fun a ha => ?_) fun _ => ?_
  · rcases List.mem_append.mp ha with ha | ha
    · exact v1 a ha
    · exact fun z => v2 a ha (z.imp .inl id)
  · obtain ⟨n2, w2⟩ := f2 rfl
    refine ⟨List.nodup_append.mpr ⟨n1, n2, fun a ha b hb e => ?_⟩, fun a ha => ?_⟩
    · subst e
      exact Dat.dom d1 a ha (w2 a hb).1
    · rcases List.mem_append.mp ha with ha | ha
      · refine ⟨(w1 a ha).1, fun hB => ?_⟩
        rcases List.mem_append.mp hB with hB | hB
        · exact (w1 a ha).2 hB
        · exact v2 a hB (.inl (.inr ha))
      · refine ⟨s1.free (w2 a ha).1, fun hB => ?_⟩
        rcases List.mem_append.mp hB with hB | hB
        · exact Dat.domR d1 a hB (w2 a ha).1
        · exact (w2 a ha).2 hB
theorem rep_lst (he : RAp i a X W Γ n true es mes) : REp i a X W Γ (n + 1) true (.List es pos) (mL gLst mes) := by
  obtain ⟨ta, pa, qa⟩ := he
  refine ⟨_, pe_lst pa, fun F H0 ρ σ H S R Q hp st po => ?_⟩
  refine qa F H0 ρ σ H S R _ hp st (PostA.iff.mpr ((PostE.iff.mp po).bind.imp fun d _ po => ?_))
  intro xs H1 A B s1 d1 v1 f1
  obtain ⟨z, ez, po⟩ := PostA.ofO po
  unfold gLst at ez
  split at ez
  · rename_i hl
    cases ez
    obtain ⟨nd, nw⟩ := f1 rfl
    refine ⟨by rw [d1.length]; exact hl, fun p hp => ?_⟩
    refine po (.ref p) _ (p :: A) B (s1.trans (same_new hp)) ?_ v1 fun _ => ⟨List.nodup_cons.mpr ⟨fun z => Dats.dom d1 p z hp, nd⟩, fun a ha => ?_⟩
    · unfold Dat
      exact ⟨p, xs, A, rfl, upd_same, rfl, d1.same (same_new hp)⟩
    · rcases List.mem_cons.mp ha with rfl | ha
      · exact ⟨s1.free hp, fun hB => Dats.domR d1 _ hB hp⟩
      · exact nw a ha
  · cases ez
theorem rep_w (h : REp i a X W Γ n true e m) (hk : k ≤ n) : REp i a X W Γ k true e m := by
  obtain ⟨t, p, q⟩ := h
  refine ⟨t, p, fun F H0 ρ σ H S R Q hp st po => q F H0 ρ σ H S R Q hp st ?_⟩
  cases e : m ρ with
  | stuck => rw [e] at po; exact po
  | exn c => rw [e] at po; exact po
  | ok d =>
    rw [e] at po
    refine fun x H' A B s d' v f => ?_
    obtain ⟨A', B', g, snd, sl, hb, ap⟩ := Dat.weakS hk d'
    obtain ⟨nd, new⟩ := f rfl
    refine po x H' A' B' s g (fun a ha => ?_) fun _ => ⟨snd nd, fun a ha => ⟨(new a (sl a ha)).1, ap nd (fun a ha => (new a ha).2) a ha⟩⟩
    rcases hb a ha with ha | ha
    · exact fun z => st.avd a z (new a ha).1
    · exact v a ha
theorem rsp_set {j : Nat} {x : Str} (h : REp i a X W Γ k true e m) (hN : X.N.Nodup) (hx : Loc X.env.scope x) (hi : X.N[j]? = some x := by rfl) (hl : j < Γ.length := by decide)
    (hs : swapsWith e (some (.Name x pos')) pos.line X.env = pure false := by rfl) (hf : X.fn x = true ∨ X.env.scope.names.lookup x = some .local := by first | exact .inl rfl | exact .inr rfl | assumption) (hp : Γ.getD j 0 ≠ 99 := by decide) (hΓ : Γ.set j k = Γ1 := by rfl) : RSp i a X W n Γ Γ1 (.Assign [.Name x pos'] e pos) (sSet j m) := by
  subst hΓ
  obtain ⟨t, p, q⟩ := h
  refine ⟨_, ps_set hN hi hx p hs hf, fun F H0 ρ σ H S R E hpin st po => ?_⟩
  refine q F H0 ρ σ H S R _ hpin st (PostE.iff.mpr ((PostS.ofR (f := fun d => .nx (ρ.set j (some d))) st po).imp fun d _ po => ?_))
  intro v H1 A B s1 d1 v1 f1
  obtain ⟨nd, nw⟩ := f1 rfl
  have st1 := st.grow s1
  obtain ⟨S', R', st2, gr⟩ := st1.set (i := j) (n := k) (.inl hl) d1 v1 nd (fun a ha => st.same.free (nw a ha).1) (fun a ha z => st.fd a z (nw a ha).1) (fun a ha j hj => st.domS j a hj (nw a ha).1) (fun a ha j hj => st.domR j a hj (nw a ha).1) (fun a ha hb => (nw a ha).2 hb) hp
  exact po _ H1 S' R' st2 (Keep.of_same s1) fun j a ha => (gr j a ha).imp (fun z => ⟨j, z⟩) fun z => (nw a z).1
theorem rssp_one {st : Stmt} {m : Rho → Out} (h : RSp i a X W n Γ Γ1 st m) : RSsp i a X W n Γ Γ1 [st] m := by
  obtain ⟨t, p, q⟩ := h
  exact ⟨t, pss_one p, q⟩
end
def PCs (X : Cx) (c : Str) (es : List Expr) (bs : List Bool) : Prop := ∃ D vs us t, X.mg c = some (.ref D) ∧ Paired ClsV vs us ∧ PySem.W.kitAny X.K (.ref D) us = some (bs.any id) ∧ vs.length = bs.length ∧ PA X es t ∧ ∀ σ H Q, Q vs H → t σ H Q
theorem pe_tst {X : Cx} {c T : Str} {b : Bool} {p : Pos} (h : TstG X.K X.mg c T b) (hg : Gl X T := by rfl) (hd : (T == ("__debug__" : Str)) = false := by decide) : ∃ D v u, X.mg c = some (.ref D) ∧ ClsV v u ∧ PySem.W.kitOne X.K (.ref D) u = some b ∧ PE X (.Name T p) (tC v) := by
  obtain ⟨D, v, u, hc, k, hm, r, e⟩ := h
  refine ⟨D, v, u, hc, k, e, ?_⟩
  rcases hm with hm | ⟨hm, hv, hn⟩
  · exact pe_glob hg hm r hd
  · exact pe_bltn hg hm hv r hn hd
theorem pcs_nil {X : Cx} {c : Str} {D : Addr} (hc : X.mg c = some (.ref D)) : PCs X c [] [] := ⟨D, [], [], _, hc, .nil, rfl, rfl, pa_nil, fun _ _ _ h => h⟩
theorem pcs_cons {X : Cx} {c T : Str} {b : Bool} {p : Pos} {es : List Expr} {bs : List Bool} (h : TstG X.K X.mg c T b) (r : PCs X c es bs) (hg : Gl X T := by rfl) (hd : (T == ("__debug__" : Str)) = false := by decide)
    (hs : starEach (.Name T p :: es) X.env = (false, eval (.Name T p) X.env) :: starEach es X.env := by rfl) : PCs X c (.Name T p :: es) (b :: bs) := by
  obtain ⟨D, v, u, hc, k, e, pe⟩ := pe_tst (p := p) h hg hd
  obtain ⟨D', vs, us, t, hc', ks, e', hl, pa, q⟩ := r
  rw [hc] at hc'
  cases hc'
  refine ⟨D, v :: vs, u :: us, _, hc, .cons k ks, ?_, by simp [hl], pa_cons pe pa hs, fun σ H Q h => ?_⟩
  · refine kitAny_cons e (fun hb => ?_) (fun hb => ?_)
    · subst hb; simpa using e'
    · subst hb; rfl
  · exact q σ H _ h
section
variable {X : Cx} {W : WX} {Γ : List Nat} {n i : Nat} {a : Addr} {oe : Obj} {pn : List (Addr × Obj)} {C : Addr} {c : Str} {p p2 p3 pos : Pos}
theorem rep_isE {x : Expr} {T : Str} {b : Bool} (hz : Zc (.ref C) none oe) (hf : ∃ vs, oe.data = .fields vs) (hC : X.mg c = some (.ref C)) (hK : ExcK X.K X.mg c) (hT : TstG X.K X.mg c T b) (hm : X.mg "isinstance" = none) (hv : PE (X.suite a ((a, oe) :: pn)) x (tVar i)) (hg : Gl X "isinstance" := by rfl) (hgT : Gl X T := by rfl) (hdT : (T == ("__debug__" : Str)) = false := by decide)
    (he : starEach (x :: [.Name T p2]) X.env = (false, eval x X.env) :: starEach [.Name T p2] X.env := by rfl) (he2 : starEach (.Name T p2 :: []) X.env = (false, eval (.Name T p2) X.env) :: starEach [] X.env := by rfl) (hpl : (backTo pos (starEach [.Name T p2] X.env)).any (·.1) = false := by rfl) :
    REp i a (X.suite a ((a, oe) :: pn)) W Γ n true (.Call (.Name "isinstance" p) [x, .Name T p2] [] pos) (mC (.bl b)) := by
  obtain ⟨D, v, u, hc, k, e, pe⟩ := pe_tst (X := X.suite a ((a, oe) :: pn)) (p := p2) hT hgT hdT
  obtain ⟨D', hc', ex⟩ := hK
  have hc : X.mg c = some (.ref D) := hc
  rw [hC] at hc hc'
  cases hc
  cases hc'
  refine ⟨_, pe_callB (call_isE ex hz hf) hg hm boot_isinstance (pa_cons hv (pa_cons pe pa_nil he2) he) (by decide) (by decide) he hpl, fun F H0 ρ σ H S R Q hp st po => ?_⟩
  have hs := (st.pin i _ hp).2
  exact ⟨_, hs, v, u, b, rfl, fun w r => k.eq r, e, PostV.flat po rfl dat_of_bl⟩
theorem rep_isET {x : Expr} {es : List Expr} {bs : List Bool} {b : Bool} {j} (hz : Zc (.ref C) none oe) (hf : ∃ vs, oe.data = .fields vs) (hC : X.mg c = some (.ref C)) (hK : ExcK X.K X.mg c) (hT : PCs (X.suite a ((a, oe) :: pn)) c es bs) (hm : X.mg "isinstance" = none) (hv : PE (X.suite a ((a, oe) :: pn)) x (tVar i)) (hb : bs.any id = b := by rfl) (hl : bs.length ≤ sizeLine := by decide) (hg : Gl X "isinstance" := by rfl)
    (he : starEach (x :: [.Tuple es j p2]) X.env = (false, eval x X.env) :: starEach [.Tuple es j p2] X.env := by rfl) (he2 : starEach (.Tuple es j p2 :: []) X.env = (false, eval (.Tuple es j p2) X.env) :: starEach [] X.env := by rfl) (hpl : (backTo pos (starEach [.Tuple es j p2] X.env)).any (·.1) = false := by rfl) :
    REp i a (X.suite a ((a, oe) :: pn)) W Γ n true (.Call (.Name "isinstance" p) [x, .Tuple es j p2] [] pos) (mC (.bl b)) := by
  subst hb
  obtain ⟨D, vs, us, t, hc, k, e, hlen, pa, qa⟩ := hT
  obtain ⟨D', hc', ex⟩ := hK
  have hc : X.mg c = some (.ref D) := hc
  rw [hC] at hc hc'
  cases hc
  cases hc'
  refine ⟨_, pe_callB (call_isET ex hz hf) hg hm boot_isinstance (pa_cons hv (pa_cons (pe_tup pa) pa_nil he2) he) (by decide) (by decide) he hpl, fun F H0 ρ σ H S R Q hp st po => ?_⟩
  have hs := (st.pin i _ hp).2
  refine ⟨_, hs, ?_⟩
  refine qa σ H _ ⟨by omega, fun q hq => ?_⟩
  refine ⟨q, vs, us, _, rfl, upd_same, k, e, ?_⟩
  exact po (.bl _) _ [] [] (same_new hq) (dat_of_bl _) (fun a z => by simp at z) fun _ => New.nil
end
section
variable {K : PySem.W.Frag} {F : Fr} {H0 H : Hp} {Γ : List Nat} {ρ : Rho} {σ : L2.St} {S R : Nat → List Addr}
theorem getD_set_ne {i j : Nat} {v : Nat} (h : j ≠ i) : (Γ.set i v).getD j 0 = Γ.getD j 0 := by
  rw [List.getD_eq_getElem?_getD, List.getD_eq_getElem?_getD, List.getElem?_set_ne (Ne.symm h)]
theorem Sto.jpin (h : Sto K F H0 Γ ρ σ H S R) (i : Nat) (v : V) (hp : ∀ j, F.pin j = none) (hi : i < Γ.length) (hl : i < ρ.length) :
    Sto K ⟨F.no, fun j => if j = i then some v else none⟩ H0 (Γ.set i 99) (ρ.set i (some .junk)) (σ.set i (some v)) H (fun j => if j = i then [] else S j) (fun j => if j = i then [] else R j) := by
  refine ⟨h.same, by simp [h.len], fun j e q => ?_, fun j q => ?_, fun j a ha => ?_, fun j => ?_, fun j k hjk a ha hk => ?_, fun j k a ha hk => ?_, fun j a ha => ?_, fun j a ha => ?_, h.fd, fun j w q => ?_⟩
  · by_cases hj : j = i
    · subst hj
      rw [List.getElem?_set_self hl] at q
      cases q
      exact ⟨v, by rw [List.getElem?_set_self (by rw [h.len]; exact hl)], by simp [Dat]⟩
    · rw [List.getElem?_set_ne (Ne.symm hj)] at q
      obtain ⟨y, e1, e2⟩ := h.slot j e q
      refine ⟨y, by rw [List.getElem?_set_ne (Ne.symm hj)]; exact e1, ?_⟩
      rw [if_neg hj, if_neg hj, getD_set_ne hj]
      exact e2
  · by_cases hj : j = i
    · rw [if_pos hj, if_pos hj]; exact ⟨rfl, rfl⟩
    · rw [if_neg hj, if_neg hj]
      refine h.emp j fun e q' => q e ?_
      rw [List.getElem?_set_ne (Ne.symm hj)]
      exact q'
  · try dsimp only at ha
    split at ha
    · simp at ha
    · exact h.new j a ha
  · try dsimp only
    split
    · exact List.nodup_nil
    · exact h.nd j
  · try dsimp only at ha hk
    split at ha
    · simp at ha
    · split at hk
      · simp at hk
      · exact h.dj j k hjk a ha hk
  · try dsimp only at ha hk
    split at ha
    · simp at ha
    · split at hk
      · simp at hk
      · exact h.rs j k a ha hk
  · try dsimp only at ha
    split at ha
    · simp at ha
    · exact h.rf j a ha
  · try dsimp only at ha
    split at ha
    · simp at ha
    · exact h.sf j a ha
  · try dsimp only at q
    split at q
    · rename_i hj
      cases q
      subst hj
      exact ⟨by rw [List.getD_eq_getElem?_getD, List.getElem?_set_self hi]; rfl, by rw [List.getElem?_set_self (by rw [h.len]; exact hl)]⟩
    · cases q
theorem Sto.jgone {Γ1 : List Nat} {i : Nat} (h : Sto K ⟨F.no, F.pin⟩ H0 (Γ1.set i 99) ρ σ H S R) : ∃ S' R', Sto K F.un H0 Γ1 (ρ.set i none) (σ.set i none) H S' R' ∧ ∀ j a, a ∈ S' j → a ∈ S j := by
  refine ⟨fun j => if j = i then [] else S j, fun j => if j = i then [] else R j, ⟨h.same, by simp [h.len], fun j e q => ?_, fun j q => ?_, fun j a ha => ?_, fun j => ?_, fun j k hjk a ha hk => ?_, fun j k a ha hk => ?_, fun j a ha => ?_, fun j a ha => ?_, h.fd, fun j w q => ?_⟩, fun j a ha => ?_⟩
  · by_cases hj : j = i
    · subst hj
      by_cases hl : j < ρ.length
      · rw [List.getElem?_set_self hl] at q; cases q
      · rw [List.getElem?_eq_none (by simp; omega)] at q; cases q
    · rw [List.getElem?_set_ne (Ne.symm hj)] at q
      obtain ⟨y, e1, e2⟩ := h.slot j e q
      refine ⟨y, by rw [List.getElem?_set_ne (Ne.symm hj)]; exact e1, ?_⟩
      rw [if_neg hj, if_neg hj, ← getD_set_ne (Γ := Γ1) (v := 99) hj]
      exact e2
  · by_cases hj : j = i
    · rw [if_pos hj, if_pos hj]; exact ⟨rfl, rfl⟩
    · rw [if_neg hj, if_neg hj]
      refine h.emp j fun e q' => q e ?_
      rw [List.getElem?_set_ne (Ne.symm hj)]
      exact q'
  · try dsimp only at ha
    split at ha
    · simp at ha
    · exact h.new j a ha
  · try dsimp only
    split
    · exact List.nodup_nil
    · exact h.nd j
  · try dsimp only at ha hk
    split at ha
    · simp at ha
    · split at hk
      · simp at hk
      · exact h.dj j k hjk a ha hk
  · try dsimp only at ha hk
    split at ha
    · simp at ha
    · split at hk
      · simp at hk
      · exact h.rs j k a ha hk
  · try dsimp only at ha
    split at ha
    · simp at ha
    · exact h.rf j a ha
  · try dsimp only at ha
    split at ha
    · simp at ha
    · exact h.sf j a ha
  · cases q
  · try dsimp only at ha
    split at ha
    · simp at ha
    · exact ha
end
def sTryA (i : Nat) (c0 : Str) (mb ms : Rho → Out) : Rho → Out := fun ρ => match mb ρ with
  | .ex c ρ' => if c = c0 ∧ i < ρ'.length then match ms (ρ'.set i (some .junk)) with
    | .nx ρ'' => .nx (ρ''.set i none)
    | .rt d => .rt d
    | _ => .stuck
    else .stuck
  | o => o
@[simp] theorem sTryA_eq {i : Nat} {c0 : Str} {mb ms : Rho → Out} {ρ : Rho} : sTryA i c0 mb ms ρ = match mb ρ with
  | .ex c ρ' => if c = c0 ∧ i < ρ'.length then match ms (ρ'.set i (some .junk)) with
    | .nx ρ'' => .nx (ρ''.set i none)
    | .rt d => .rt d
    | _ => .stuck
    else .stuck
  | o => o := id rfl
section
variable {X : Cx} {W : WX} {n : Nat} {Γ Γ1 : List Nat}
theorem rs_tryA {T x c0 : Str} {i : Nat} {body suite : List Stmt} {b₀ : Stmt} {np pos pos' : Pos} {mb ms : Rho → Out} (G : CatG X.K X.mg T [(c0, true)]) (tk : Takes X W)
    (hb : ∀ (W' : WX) (pn : List (Addr × Obj)) (xe : Value → Shared → Prop), Takes (X.tr pn xe) W' → PassesOwn (model X.prog X.w) X.A X.env xe → RSs (X.tr pn xe) W' n Γ Γ1 body mb)
    (hsu : ∀ (a : Addr) (oe : Obj) (pn : List (Addr × Obj)) (C : Addr), Zc (.ref C) none oe → (∃ vs, oe.data = .fields vs) → X.mg c0 = some (.ref C) → RSsp i a (X.suite a ((a, oe) :: pn)) W n (Γ1.set i 99) (Γ1.set i 99) (b₀ :: suite) ms)
    (hN : X.N.Nodup) (hz : ∀ v ∈ Γ, v ≠ 99 := by decide) (h1 : ∀ v ∈ Γ1, v = 0 := by decide) (hl : i < Γ1.length := by decide) (hi : X.N[i]? = some x := by rfl) (hln : X.env.kindOf x = some .local := by rfl) (hs : X.stack = X.env :: X.outer := by rfl) (hf : X.env.frame = some X.env.locals := by rfl) (hg : Gl X T := by rfl) (hdb : (T == ("__debug__" : Str)) = false := by decide) (hn : n < 1000 := by decide) :
    RS X W n Γ Γ1 (.Try body [.ExceptHandler (some (.Name T np)) (some x) (b₀ :: suite) pos'] [] [] pos) (sTryA i c0 mb ms) := by
  obtain ⟨CT, gT, cat⟩ := G
  refine ⟨_, ps_try_as (c := .ref CT) (i := i) (tb := fun W' E σ H => ∃ F H0 ρ S R, Sto X.K F H0 Γ ρ σ H S R ∧ PostS X W' F H0 Γ1 n S H E (mb ρ))
    (ts := fun a cls d E σ H => ∃ C F H0 ρ S R, cls = .ref C ∧ d = none ∧ X.mg c0 = some (.ref C) ∧ F.pin i = some (.ref a) ∧ Sto X.K F H0 (Γ1.set i 99) ρ σ H S R ∧ PostS X W F H0 (Γ1.set i 99) n S H E (ms ρ)) hs hf hN hi hln ⟨hg, hdb, .inl gT⟩ tk (fun W' pn xe tk' ps => ?_) (fun a oe cls d pn hzc hfl => ?_), fun F H0 ρ σ H S R E st po => ?_⟩
  · obtain ⟨t, p, q⟩ := hb W' pn xe tk' ps
    exact ⟨fun pins s σ H D I ⟨F, H0, ρ, S, R, st, po⟩ => p.run pins s σ H D I (q F H0 ρ σ H S R D st po)⟩
  · refine ⟨fun pins s σ H D I ⟨C, F, H0, ρ, S, R, e1, e2, hc, hpin, st, po⟩ => ?_⟩
    subst e1 e2
    obtain ⟨t, p, q⟩ := hsu a oe pn C hzc hfl hc
    exact p.run pins s σ H D I (q F H0 ρ σ H S R D hpin st po)
  · refine ⟨F, H0, ρ, S, R, st, ?_⟩
    unfold sTryA at po
    cases em : mb ρ with
    | nx ρ' => rw [em] at po; exact po
    | rt d => rw [em] at po; exact po
    | stuck => rw [em] at po; exact po
    | ex c ρ' =>
      rw [em] at po
      dsimp only at po
      intro C σ' H' S' R' hc st' kp gr
      have hF := st.nopin hz
      split at po
      · rename_i hcl
        obtain ⟨rfl, hlr⟩ := hcl
        refine ⟨true, cat c true (by simp [List.lookup]) C hc, fun _ a ha => ?_, fun hb => by cases hb⟩
        rw [hF] at st'
        have st1 := st'.cong (zeros_get h1)
        have pn0 : ∀ j, F.pin j = none := fun j => by rw [← hF]; rfl
        have st2 := st1.jpin i (.ref a) pn0 hl hlr
        refine ⟨C, _, H0, _, _, _, rfl, rfl, hc, if_pos rfl, st2, ?_⟩
        have sub : ∀ j b, b ∈ (fun j => if j = i then [] else S' j) j → b ∈ S' j := fun j b hb => by
          dsimp only at hb
          split at hb
          · simp at hb
          · exact hb
        cases es : ms (ρ'.set i (some .junk)) with
        | nx ρ'' =>
          rw [es] at po
          intro σ2 H2 S2 R2 st3 k3 g3
          obtain ⟨S4, R4, st4, sub4⟩ := st3.jgone (F := ⟨F.no, fun j => if j = i then some (.ref a) else none⟩)
          have eF : (Fr.un ⟨F.no, fun j => if j = i then some (V.ref a) else none⟩) = F := hF
          rw [eF] at st4
          have kk : Keep S H H2 := fun b o hb hn => by
            refine k3 b o (kp b o hb hn) fun j hj => ?_
            rcases gr j b (sub j b hj) with ⟨l, z⟩ | z
            · exact hn l z
            · rw [hb] at z; cases z
          refine po _ H2 S4 R4 st4 kk fun j b hb => ?_
          rcases g3 j b (sub4 j b hb) with ⟨l, z⟩ | z
          · exact gr l b (sub l b z)
          · cases hb : H b with
            | none => exact .inr rfl
            | some o =>
              by_cases hq : ∃ l, b ∈ S l
              · exact .inl hq
              · rw [kp b o hb fun l hl => hq ⟨l, hl⟩] at z; cases z
        | rt d => rw [es] at po; exact PostRt.of hn fun x H' A B s g nw hB => PostRt.lo po hn x H' A B s g nw hB
        | ex c ρ'' => rw [es] at po; exact po.elim
        | stuck => rw [es] at po; exact po.elim
      · exact po.elim
end
def sDoM (m : Rho → Option (D × Rho)) : Rho → Out := fun ρ => match m ρ with
  | some r => .nx r.2
  | none => .stuck
@[simp] theorem sDoM_eq {m : Rho → Option (D × Rho)} {ρ : Rho} : sDoM m ρ = match m ρ with
  | some r => .nx r.2
  | none => .stuck := id rfl
end TW
-- TWForD
namespace TW
open PySem PySem.Spec PyProof.Rows L2
structure Trd (H H' : Hp) (S : List Addr) : Prop where
  lst : ∀ b xs, H b = some (.lst xs) → H' b = some (.lst xs)
  tup : ∀ b xs, H b = some (.tup xs) → H' b = some (.tup xs)
  ft : ∀ b o xs, H b = some (.frz o (.tup xs)) → H' b = some (.frz o (.tup xs))
  fl : ∀ b o xs, H b = some (.frz o (.lst xs)) → H' b = some (.frz o (.lst xs))
  rK : ∀ b ws, Rd H b (.dK ws) → Rd H' b (.dK ws)
  rT : ∀ b ws, Rd H b (.dT ws) → Rd H' b (.dT ws)
  oK : ∀ b ∈ S, ∀ ws, H b = some (.dK ws) → H' b = some (.dK ws)
  oT : ∀ b ∈ S, ∀ ws, H b = some (.dT ws) → H' b = some (.dT ws)
  oI : ∀ b C dx fs, H b = some (.ins C dx fs) → H' b = some (.ins C dx fs)
  oO : ∀ b x, H b = some (.own x) → H' b = some (.own x)
  fx : ∀ b o φ, H b = some (.frz o (.ext φ)) → H' b = some (.frz o (.ext φ))
theorem Trd.mono {H H' : Hp} {S S' : List Addr} (h : Trd H H' S) (hs : ∀ b ∈ S', b ∈ S) : Trd H H' S' := ⟨h.lst, h.tup, h.ft, h.fl, h.rK, h.rT, fun b hb => h.oK b (hs b hb), fun b hb => h.oT b (hs b hb), h.oI, h.oO, h.fx⟩
section
variable {K : PySem.W.Frag} {H H' : Hp}
mutual
theorem Dat.trd : ∀ (d : D) (n : Nat) (v : V) (S R : List Addr), Trd H H' S → Dat K H d n v S R → Dat K H' d n v S R
  | .non, _, _, _, _, _, h => by simpa [Dat] using h
  | .bl b, _, _, _, _, _, h => by simpa [Dat] using h
  | .int i, _, _, _, _, _, h => by simpa [Dat] using h
  | .str s, _, _, _, _, _, h => by simpa [Dat] using h
  | .junk, _, _, _, _, _, h => by simpa [Dat] using h
  | .nul es, _, _, _, _, st, h => by
    simp only [Dat] at h ⊢
    obtain ⟨e1, a, e2, ⟨o, q, g⟩, e3⟩ := h
    exact ⟨e1, a, e2, ⟨o, st.fx _ _ _ q, g⟩, e3⟩
  | .ins C h t, 0, v, S, R, st, e => by
    simp only [Dat] at e ⊢
    obtain ⟨a, dx, x, y, R1, R2, rfl, q, qd, rfl, rfl, h1, h2⟩ := e
    exact ⟨a, dx, x, y, R1, R2, rfl, st.oI _ _ _ _ q, st.oO _ _ qd, rfl, rfl, Dat.trd h 0 x [] R1 st h1, Dat.trd t 0 y [] R2 st h2⟩
  | .ins C h t, n + 1, v, S, R, st, e => by
    simp only [Dat] at e ⊢
    obtain ⟨a, dx, x, y, S1, S2, R1, R2, rfl, q, qd, rfl, rfl, h1, h2⟩ := e
    exact ⟨a, dx, x, y, S1, S2, R1, R2, rfl, st.oI _ _ _ _ q, st.oO _ _ qd, rfl, rfl,
      Dat.trd h n x S1 R1 (st.mono fun b z => List.mem_cons_of_mem _ (List.mem_append_left _ z)) h1,
      Dat.trd t n y S2 R2 (st.mono fun b z => List.mem_cons_of_mem _ (List.mem_append_right _ z)) h2⟩
  | .scr l, _, _, _, _, st, h => by
    simp only [Dat] at h ⊢
    obtain ⟨⟨a, e, q⟩, h⟩ := h
    exact ⟨⟨a, e, q.imp (fun ⟨o, q⟩ => ⟨o, st.fl _ _ _ q⟩) id⟩, h⟩
  | .lst ds, 0, v, S, R, st, h => by
    simp only [Dat] at h ⊢
    obtain ⟨a, xs, R', rfl, q, rfl, rfl, hd⟩ := h
    exact ⟨a, xs, R', rfl, st.lst _ _ q, rfl, rfl, Dats.trd ds 0 xs [] R' st hd⟩
  | .lst ds, n + 1, v, S, R, st, h => by
    simp only [Dat] at h ⊢
    obtain ⟨a, xs, S', rfl, q, rfl, hd⟩ := h
    exact ⟨a, xs, S', rfl, st.lst _ _ q, rfl, Dats.trd ds n xs S' R (st.mono fun b z => List.mem_cons_of_mem _ z) hd⟩
  | .tup ds, n, v, S, R, st, h => by
    simp only [Dat] at h ⊢
    obtain ⟨a, xs, rfl, q, hd⟩ := h
    exact ⟨a, xs, rfl, st.tup _ _ q, Dats.trd ds (n - 1) xs S R st hd⟩
  | .ftup ds, n, v, S, R, st, h => by
    simp only [Dat] at h ⊢
    obtain ⟨a, xs, rfl, q, hd⟩ := h
    exact ⟨a, xs, rfl, q.imp fun o q => ⟨q.1, st.ft _ _ _ q.2⟩, Dats.trd ds (n - 1) xs S R st hd⟩
  | .dK ks ds, 0, v, S, R, st, h => by
    simp only [Dat] at h ⊢
    obtain ⟨a, ws, R', rfl, q, hk, rfl, rfl, hd⟩ := h
    exact ⟨a, ws, R', rfl, st.rK _ _ q, hk, rfl, rfl, Dats.trd ds 0 _ [] R' st hd⟩
  | .dK ks ds, n + 1, v, S, R, st, h => by
    simp only [Dat] at h ⊢
    obtain ⟨a, ws, S', rfl, q, hk, rfl, hd⟩ := h
    exact ⟨a, ws, S', rfl, st.oK _ List.mem_cons_self _ q, hk, rfl, Dats.trd ds n _ S' R (st.mono fun b z => List.mem_cons_of_mem _ z) hd⟩
  | .dT ks ds, 0, v, S, R, st, h => by
    simp only [Dat] at h ⊢
    obtain ⟨a, ws, R', rfl, q, hk, rfl, rfl, hd⟩ := h
    exact ⟨a, ws, R', rfl, st.rT _ _ q, hk, rfl, rfl, Dats.trd ds 0 _ [] R' st hd⟩
  | .dT ks ds, n + 1, v, S, R, st, h => by
    simp only [Dat] at h ⊢
    obtain ⟨a, ws, S', rfl, q, hk, rfl, hd⟩ := h
    exact ⟨a, ws, S', rfl, st.oT _ List.mem_cons_self _ q, hk, rfl, Dats.trd ds n _ S' R (st.mono fun b z => List.mem_cons_of_mem _ z) hd⟩
theorem Dats.trd : ∀ (ds : List D) (n : Nat) (xs : List V) (S R : List Addr), Trd H H' S → Dats K H ds n xs S R → Dats K H' ds n xs S R
  | [], _, _, _, _, _, h => by simpa [Dats] using h
  | d :: ds, n, xs, S, R, st, h => by
    simp only [Dats] at h ⊢
    obtain ⟨x, xs', S1, S2, R1, R2, rfl, rfl, rfl, h1, h2⟩ := h
    exact ⟨x, xs', S1, S2, R1, R2, rfl, rfl, rfl, Dat.trd d n x S1 R1 (st.mono fun b z => List.mem_append_left _ z) h1, Dats.trd ds n xs' S2 R2 (st.mono fun b z => List.mem_append_right _ z) h2⟩
end
def IsDic : HO → Prop
  | .dK _ => True
  | .dT _ => True
  | _ => False
theorem trd_lock {a : Addr} {u : HO} {od : Obj} {S : List Addr} (hu : IsDic u) (h : H a = some u) (hS : a ∉ S) : Trd H (L2.upd H a (.frz od u)) S := by
  have nd : ∀ {b o}, H b = some o → ¬ IsDic o → b ≠ a := fun {b o} e hn z => by subst z; rw [h] at e; cases e; exact hn hu
  refine ⟨fun b xs e => ?_, fun b xs e => ?_, fun b o xs e => ?_, fun b o xs e => ?_, fun b ws e => ?_, fun b ws e => ?_, fun b hb ws e => ?_, fun b hb ws e => ?_, fun b C dx fs e => ?_, fun b x e => ?_, fun b o φ e => ?_⟩
  · rw [upd_ne (nd e id)]; exact e
  · rw [upd_ne (nd e id)]; exact e
  · rw [upd_ne (nd e id)]; exact e
  · rw [upd_ne (nd e id)]; exact e
  · rcases e with e | ⟨o, e⟩
    · by_cases hb : b = a
      · subst hb; rw [h] at e; cases e; exact .inr ⟨od, upd_same⟩
      · exact .inl (by rw [upd_ne hb]; exact e)
    · exact .inr ⟨o, by rw [upd_ne (nd e id)]; exact e⟩
  · rcases e with e | ⟨o, e⟩
    · by_cases hb : b = a
      · subst hb; rw [h] at e; cases e; exact .inr ⟨od, upd_same⟩
      · exact .inl (by rw [upd_ne hb]; exact e)
    · exact .inr ⟨o, by rw [upd_ne (nd e id)]; exact e⟩
  · rw [upd_ne (fun z : b = a => hS (by rw [← z]; exact hb))]; exact e
  · rw [upd_ne (fun z : b = a => hS (by rw [← z]; exact hb))]; exact e
  · rw [upd_ne (nd e id)]; exact e
  · rw [upd_ne (nd e id)]; exact e
  · rw [upd_ne (nd e id)]; exact e
theorem trd_unlock {a : Addr} {u : HO} {od : Obj} {S : List Addr} (hu : IsDic u) (h : H a = some (.frz od u)) : Trd H (L2.upd H a u) S := by
  have nd : ∀ {b o}, H b = some o → (∀ o' u', o = .frz o' u' → ¬ IsDic u') → b ≠ a := fun {b o} e hn z => by subst z; rw [h] at e; cases e; exact hn _ _ rfl hu
  refine ⟨fun b xs e => ?_, fun b xs e => ?_, fun b o xs e => ?_, fun b o xs e => ?_, fun b ws e => ?_, fun b ws e => ?_, fun b hb ws e => ?_, fun b hb ws e => ?_, fun b C dx fs e => ?_, fun b x e => ?_, fun b o φ e => ?_⟩
  · rw [upd_ne (nd e (fun _ _ z => nomatch z))]; exact e
  · rw [upd_ne (nd e (fun _ _ z => nomatch z))]; exact e
  · rw [upd_ne (nd e (fun _ _ z => by cases z; exact id))]; exact e
  · rw [upd_ne (nd e (fun _ _ z => by cases z; exact id))]; exact e
  · rcases e with e | ⟨o, e⟩
    · exact .inl (by rw [upd_ne (nd e (fun _ _ z => nomatch z))]; exact e)
    · by_cases hb : b = a
      · subst hb; rw [h] at e; cases e; exact .inl upd_same
      · exact .inr ⟨o, by rw [upd_ne hb]; exact e⟩
  · rcases e with e | ⟨o, e⟩
    · exact .inl (by rw [upd_ne (nd e (fun _ _ z => nomatch z))]; exact e)
    · by_cases hb : b = a
      · subst hb; rw [h] at e; cases e; exact .inl upd_same
      · exact .inr ⟨o, by rw [upd_ne hb]; exact e⟩
  · rw [upd_ne (nd e (fun _ _ z => nomatch z))]; exact e
  · rw [upd_ne (nd e (fun _ _ z => nomatch z))]; exact e
  · rw [upd_ne (nd e (fun _ _ z => nomatch z))]; exact e
  · rw [upd_ne (nd e (fun _ _ z => nomatch z))]; exact e
  · rw [upd_ne (nd e (fun _ _ z => by cases z; exact id))]; exact e
theorem Sto.trd {F : Fr} {H0 H0' : Hp} {Γ : List Nat} {ρ : Rho} {σ : L2.St} {S R : Nat → List Addr} (h : Sto K F H0 Γ ρ σ H S R) (t : ∀ i, Trd H H' (S i)) (s : Same H0' H') (n : ∀ i, ∀ a ∈ S i, H0' a = none) (f : ∀ a, F a → H' a ≠ none) : Sto K F H0' Γ ρ σ H' S R :=
  ⟨s, h.len, fun i d e => let ⟨x, e1, e2⟩ := h.slot i d e; ⟨x, e1, Dat.trd d _ x _ _ (t i) e2⟩, h.emp, n, h.nd, h.dj, h.rs, h.rf, h.sf, f, h.pin⟩
end
def dicKeys : D → Option (List D)
  | .dT ks _ => some (ks.map fun k => .tup (k.map keyToD))
  | .dK ks _ => some (ks.map keyToD)
  | _ => none
def outX : Out → Out
  | .ex _ _ => .stuck
  | o => o
def sForD (i : Nat) (f : D → Rho → Option Rho) (b : Rho → Out) : Rho → Out := fun ρ => match ρ[i]? with
  | some (some d) => match dicKeys d with
    | some ds => outX (forL f b ds ρ)
    | none => .stuck
  | _ => .stuck
section
variable {X : Cx} {W : WX} {n : Nat} {Γ : List Nat}
theorem for_core {F : Fr} {S R : Nat → List Addr} {H1 H0 : Hp} {σ : L2.St} {E : Ends} {ρ : Rho} {J : It} {B : List Addr} {ds : List D} {wi : TI} {g : TG} {tb : TS} {f : D → Rho → Option Rho} {mb : Rho → Out}
    (qg : ∀ F H0 ρ σ H S R d x B ρ' (Q : L2.St → Hp → Prop), Sto X.K F H0 Γ ρ σ H S R → Dat X.K H d 0 x [] B → (∀ a ∈ B, ¬ Av F S a) → f d ρ = some ρ' → (∀ σ' R', Sto X.K F H0 Γ ρ' σ' H S R' → Q σ' H) → g x σ H Q)
    (qb : ∀ F H0 ρ σ H S R E, Sto X.K F H0 Γ ρ σ H S R → PostS X W F H0 Γ n S H E (mb ρ) → tb E σ H)
    (hwi : ∀ Rk : It → Hp → Prop, Rk J H1 → wi σ H1 Rk) (st1 : Sto X.K F H0 Γ ρ σ H1 S R) (v1 : ∀ a ∈ B, ¬ Av F S a) (dm : ∀ a ∈ B, H1 a ≠ none) (it1 : Iter X.K J H1 B ds) (po1 : PostS X W F H0 Γ n S H1 E (forL f mb ds ρ)) : tFor wi g tb E σ H1 := by
  refine hwi _ ?_
  refine ⟨fun i m σ' H' => ∃ ρ' S' R', Sto X.K F H0 Γ ρ' σ' H' S' R' ∧ Keep S H1 H' ∧ Grow S H1 S' ∧ PostS X W F H0 Γ n S' H' E (forL f mb (ds.drop i) ρ') ∧ m = ds.length - i ∧ i ≤ ds.length,
    ⟨ds.length, ρ, S, R, st1, Keep.refl, Grow.refl, by simpa using po1, by omega, Nat.zero_le _⟩, ?_⟩
  rintro i m σ' H' ⟨ρ', S', R', st', k', g', po', rfl, hi'⟩
  have stay : Stay H1 H' [] B := st1.stay k' v1
  have v' : ∀ a ∈ B, ¬ Av F S' a := fun a ha z => by
    rcases z with z | ⟨j, z⟩
    · exact v1 a ha (.inl z)
    · rcases g' j a z with ⟨l, z⟩ | z
      · exact v1 a ha (.inr ⟨l, z⟩)
      · exact dm a ha z
  by_cases hlt : i < ds.length
  · have ed : ds[i]? = some ds[i] := List.getElem?_eq_getElem hlt
    obtain ⟨go, yld⟩ := (it1 H' stay i).2 _ ed
    rw [List.drop_eq_getElem_cons hlt] at po'
    refine .inr ⟨go, fun σ2 H2 => ∃ m', m' < ds.length - i ∧ ∃ ρ' S' R', Sto X.K F H0 Γ ρ' σ2 H2 S' R' ∧ Keep S H1 H2 ∧ Grow S H1 S' ∧ PostS X W F H0 Γ n S' H2 E (forL f mb (ds.drop (i + 1)) ρ') ∧ m' = ds.length - (i + 1) ∧ i + 1 ≤ ds.length, fun _ _ h => h, fun x H3 hy => ?_⟩
    obtain ⟨s3, B', d3, sub⟩ := yld x H3 hy
    unfold forL at po'
    cases ef : f ds[i] ρ' with
    | none => rw [ef] at po'; exact po'.elim
    | some ρ2 =>
      rw [ef] at po'
      dsimp only at po'
      have k3 : Keep S' H' H3 := Keep.of_same s3
      refine qg F H0 ρ' σ' H3 S' R' ds[i] x B' ρ2 _ (st'.grow s3) d3 (fun a ha => v' a (sub a ha)) ef fun σ4 R4 st4 => ?_
      refine qb F H0 ρ2 σ4 H3 S' R4 _ st4 (PostS.bind (PostS.later po' k3 Grow.refl) fun ρ5 σ5 H5 S5 R5 e5 st5 k5 g5 => ?_)
      have k35 : Keep S' H' H5 := k3.trans Grow.refl k5
      have g35 : Grow S' H' S5 := Grow.trans Grow.refl k3 g5
      refine ⟨ds.length - (i + 1), by omega, ρ5, S5, R5, st5, k'.trans g' k35, g'.trans k' g35, ?_, rfl, hlt⟩
      rw [e5] at po'
      exact PostS.later po' k35 g35
  · have e : i = ds.length := by omega
    subst e
    refine .inl ⟨(it1 H' stay _).1 (Nat.le_refl _), ?_⟩
    rw [List.drop_length] at po'
    exact po' σ' H' S' R' st' Keep.refl Grow.refl
theorem lock_post {F : Fr} {S R : Nat → List Addr} {H H0 : Hp} {σ : L2.St} {E : Ends} {ρ : Rho} {a : Addr} {u : HO} {od : Obj} {o : Out} (hu : IsDic u) (st : Sto X.K F H0 Γ ρ σ H S R) (h : H a = some u) (hS : ∀ j, a ∉ S j) (hF : ¬ F a) (po : PostS X W F H0 Γ n S H E (outX o)) (hn : n < 1000 := by assumption) :
    PostS X W F (L2.upd H0 a (.frz od u)) Γ n S (L2.upd H a (.frz od u)) ⟨fun σ' H' => H' a = some (.frz od u) ∧ E.nx σ' (L2.upd H' a u), fun v H' => H' a = some (.frz od u) ∧ E.rt v (L2.upd H' a u), fun σ' H' => H' a = some (.frz od u) ∧ E.bk σ' (L2.upd H' a u), fun σ' H' => H' a = some (.frz od u) ∧ E.ct σ' (L2.upd H' a u)⟩ o := by
  have sameBack : ∀ {H' : Hp}, Same (L2.upd H0 a (.frz od u)) H' → Same H0 (L2.upd H' a u) := fun {H'} s b x e => by
    by_cases hb : b = a
    · subst hb
      have := st.same _ _ e
      rw [h] at this
      cases this
      exact upd_same
    · rw [upd_ne hb]
      exact s b x (by rw [upd_ne hb]; exact e)
  cases o with
  | nx ρ' =>
    intro σ' H' S' R' st' kp gr
    have ha : H' a = some (.frz od u) := kp a _ upd_same hS
    refine ⟨ha, po σ' (L2.upd H' a u) S' R' (st'.trd (fun i => trd_unlock hu ha) (sameBack st'.same) (fun i b hb => ?_) (fun b hb => ?_)) (fun b x e hn => ?_) (fun i b hb => ?_)⟩
    · have := st'.new i b hb
      by_cases hb2 : b = a
      · subst hb2; rw [upd_same] at this; cases this
      · rw [upd_ne hb2] at this; exact this
    · by_cases hb2 : b = a
      · subst hb2; rw [upd_same]; simp
      · rw [upd_ne hb2]; exact st'.fd b hb
    · by_cases hb2 : b = a
      · subst hb2; rw [h] at e; cases e; exact upd_same
      · rw [upd_ne hb2]; exact kp b x (by rw [upd_ne hb2]; exact e) hn
    · rcases gr i b hb with z | z
      · exact .inl z
      · by_cases hb2 : b = a
        · subst hb2; rw [upd_same] at z; cases z
        · rw [upd_ne hb2] at z; exact .inr z
  | rt d =>
    refine PostRt.of hn fun x H' A B s d1 nw av => ?_
    have po := PostRt.lo po hn
    have ha : H' a = some (.frz od u) := s a _ upd_same
    refine ⟨ha, po x (L2.upd H' a u) A B (sameBack s) (Dat.trd d n x A B (trd_unlock hu ha) d1) ⟨nw.1, fun b hb => ⟨?_, (nw.2 b hb).2⟩⟩ av⟩
    have := (nw.2 b hb).1
    by_cases hb2 : b = a
    · subst hb2; rw [upd_same] at this; cases this
    · rw [upd_ne hb2] at this; exact this
  | ex c ρ' => exact po.elim
  | stuck => exact po.elim
theorem lock_sto {F : Fr} {S R : Nat → List Addr} {H H0 : Hp} {σ : L2.St} {ρ : Rho} {a : Addr} {u : HO} {od : Obj} (hu : IsDic u) (st : Sto X.K F H0 Γ ρ σ H S R) (h : H a = some u) (hS : ∀ j, a ∉ S j) : Sto X.K F (L2.upd H0 a (.frz od u)) Γ ρ σ (L2.upd H a (.frz od u)) S R := by
  refine st.trd (fun i => trd_lock hu h (hS i)) (fun b x e => ?_) (fun i b hb => ?_) (fun b hb => ?_)
  · by_cases hb : b = a
    · subst hb; rw [upd_same] at e ⊢; exact e
    · rw [upd_ne hb] at e ⊢; exact st.same b x e
  · rw [upd_ne (fun z : b = a => hS i (by rw [← z]; exact hb))]
    exact st.new i b hb
  · by_cases hb2 : b = a
    · subst hb2; rw [upd_same]; simp
    · rw [upd_ne hb2]; exact st.fd b hb
end
@[simp] theorem sForD_eq {i : Nat} {f : D → Rho → Option Rho} {b : Rho → Out} {ρ : Rho} : sForD i f b ρ = match ρ[i]? with
  | some (some d) => match dicKeys d with
    | some ds => outX (forL f b ds ρ)
    | none => .stuck
  | _ => .stuck := id rfl
end TW
-- TWMv
namespace TW
open PySem PySem.Spec PyProof.Rows L2
def sMv (i j : Nat) : Rho → Out := fun ρ => match ρ[j]? with
  | some (some d) => .nx ((ρ.set j none).set i (some d))
  | _ => .stuck
@[simp] theorem sMv_eq {i j : Nat} {ρ : Rho} : sMv i j ρ = match ρ[j]? with
  | some (some d) => .nx ((ρ.set j none).set i (some d))
  | _ => .stuck := id rfl
end TW
-- TWEnum
namespace TW
open PySem PySem.Spec
open AutoSeq1 (wpAny_loadPart')
theorem meets_enumT (l : Addr) (items : Array Value) (n : Nat) (dct : Option Addr) (sl : Array (Option Value)) :
    Meets (Builtin.«enumerate.__new__» ⟨[.type "enumerate", .ref l], []⟩) (fun _ R s => s.heap.get? l = some { cls := .type "tuple", dict := dct, data := .seq items n, slots := sl } ∧
      R (.ok (.ret (.ref (s.heap.push { cls := .type "tuple_iterator", data := .fields #[.ref l, .int 0 0] }).objs.size)))
        { s with heap := (s.heap.push { cls := .type "tuple_iterator", data := .fields #[.ref l, .int 0 0] }).push { cls := .type "enumerate", data := .fields #[.none, .bool false, .ref s.heap.objs.size, rawInt 0, .none, .none] } }) :=
  .of_wp fun prog w A R s h => by
    obtain ⟨hp, g, d, tk, os⟩ := s; obtain ⟨hl, h⟩ := h
    have hsub := sub_enumerate
    have hL : Heap.IsTuple (Shared.heap ⟨hp, g, d, tk, os⟩) l items := ⟨_, hl, rfl, n, rfl⟩
    wp_walk using wpAny_loadPart' hl
    refine wpAny_stack_any fun st => wpAny_pure ?_
    split
    · rename_i c _ _ _ _ _
      cases (c == Value.type "enumerate")
      · wp_walk using wpAny_loadPart' hl, wpAny_pyIter_tuple hL
        exact ⟨_, rfl, h⟩
      · wp_walk using wpAny_loadPart' hl, wpAny_pyIter_tuple hL
        exact ⟨_, rfl, h⟩
    · wp_walk using wpAny_loadPart' hl, wpAny_pyIter_tuple hL
      exact ⟨_, rfl, h⟩
section
variable {prog : Program} {w : World} {A : Around} {E : Value → Shared → Prop} {s : Shared}
theorem call_enumT {l : Addr} {items : Array Value} {Q : Value → Shared → Prop} (hL : s.heap.IsTuple l items)
    (h : ∀ h', IsEnum h' (s.heap.objs.size + 1) s.heap.objs.size 0 .none → h'.IsTupleIter s.heap.objs.size l 0 → h'.objs.size = s.heap.objs.size + 2 →
      (∀ b o, s.heap.get? b = some o → h'.get? b = some o) → Q (.ref (s.heap.objs.size + 1)) { s with heap := h' }) :
    wpAny (model prog w) A (call (.type "enumerate") [.ref l]) Q E s := by
  obtain ⟨⟨c, dct, dt, sl⟩, hl, hc, n, hd⟩ := hL
  replace hc : c = .type "tuple" := hc
  replace hd : dt = .seq items n := hd
  subst hc hd
  refine callType_new F.called_enumerate (by decide) (F.typeCall_enumerate_1 _) (F.newCall_enumerate_1 _) (fun obj => F.args_object_init_2 obj _) F.entry_enumerate_new
    (meets_enumT l items n dct sl) ⟨hl, ?_⟩
  have hz : (s.heap.push { cls := .type "tuple_iterator", data := .fields #[.ref l, .int 0 0] }).objs.size = s.heap.objs.size + 1 := Heap.size_push ..
  show _ ∧ _
  rw [hz]
  have he : IsEnum ((s.heap.push { cls := .type "tuple_iterator", data := .fields #[.ref l, .int 0 0] }).push
      { cls := .type "enumerate", data := .fields #[.none, .bool false, .ref s.heap.objs.size, rawInt 0, .none, .none] }) (s.heap.objs.size + 1) s.heap.objs.size 0 .none := by
    have := Heap.get?_push_size (s.heap.push { cls := .type "tuple_iterator", data := .fields #[.ref l, .int 0 0] })
      (o := { cls := .type "enumerate", data := .fields #[.none, .bool false, .ref s.heap.objs.size, rawInt 0, .none, .none] }) rfl
    rw [hz] at this; exact this
  refine ⟨⟨_, he, rfl⟩, h _ he ⟨_, Heap.get?_push_of_some _ (Heap.get?_push_size _ rfl), rfl, rfl⟩ (by rw [Heap.size_push, hz]) fun b o x => Heap.get?_push_of_some _ (Heap.get?_push_of_some _ x)⟩
end
open PyProof.Rows L2
def IteT (K : PySem.W.Frag) (a : Addr) : It :=
  ⟨fun i H => ∃ (xs : List V) (x : V), SqT K H a xs ∧ xs[i]? = some x, fun i H v H' => ∃ T x, v = .ref T ∧ H T = none ∧ H' = upd H T (.tup [.int (i : Nat), x]) ∧ ∀ xs, SqT K H a xs → xs[i]? = some x, fun i H => ∃ xs : List V, SqT K H a xs ∧ xs.length ≤ i⟩
theorem turn_enumT {P : Program} {w : World} {K : PySem.W.Frag} {elts : List Expr} {kk : Nat} {tpos : Pos} (a e it : Addr) (hae : a ≠ it) (hae2 : a ≠ e) :
    Turn P w K (.Tuple elts kk tpos) (IteT K a) [e, it] e (fun i h => (∃ old, IsEnum h e it ((i : Nat) : Int) old) ∧ h.IsTupleIter it a i ∧ e ≠ it) where
  mem := by simp
  obj := fun i h st b hb => by
    obtain ⟨⟨old, he⟩, ⟨o, ho, hc, hd⟩, _⟩ := st
    have e' : b = e ∨ b = it := by simpa using hb
    rcases e' with z | z
    · rw [z]; exact ⟨_, he, fun v q => nomatch q⟩
    · rw [z]; exact ⟨o, ho, fun v q => by rw [hd] at q; cases q⟩
  keep := fun i h h' st k => let ⟨⟨old, he⟩, hi, hne⟩ := st; ⟨⟨old, k e (by simp) _ he⟩, hi.at fun o q => k it (by simp) o q, hne⟩
  item := by
    intro X hP hw hK hc i pins s σ H E I hf st hg
    subst hP hw hK
    obtain ⟨⟨old, he⟩, hit, hne⟩ := st
    obtain ⟨xs, x, hq, hx⟩ := hg
    obtain ⟨its, rv, p, hz⟩ := I.tuple hq
    obtain ⟨u, hu, ru⟩ := rv.get hx
    have hel : e < s.heap.objs.size := Heap.lt_size he
    have hil : it < s.heap.objs.size := by obtain ⟨_, q, _⟩ := hit; exact Heap.lt_size q
    have hlt : i < its.length := (List.getElem?_eq_some_iff.mp hu).1
    have D : Draws X.prog X.w X.A.in1 it [it, a] its.toArray.size (fun i v => its.toArray[i]? = some v) (fun i h => h.IsTupleIter it a i ∧ h.IsTuple a its.toArray) := Draws.tuple (A := X.A.in1) (I.ok.hd hc) it a hae its.toArray
    refine wpAny_pyNext_enum_itemD D he ⟨hit, show s.heap.IsTuple a its.toArray from p⟩ (by simpa using hlt) hne (fun z => by
      rcases List.mem_cons.mp z with z | z
      · exact hne z
      · exact hae2 (List.mem_singleton.mp z).symm) fun x' h' tk hx' ho st' hT hsz hk => ?_
    have ex : x' = u := by
      have : its[i]? = some x' := by simpa using hx'
      rw [hu] at this
      exact (Option.some.inj this).symm
    subst ex
    have hit' := st'.1
    refine ⟨_, rfl, wpAny_letOwnedTupleGo_enum (s := { s with heap := h', toks := tk + 1 }) ho fun h'' he' sb => ?_⟩
    have hT2 : h''.get? s.heap.objs.size = some { cls := .type "tuple", data := .seq #[.int i tk, x'] } := (sb.2 _ (Nat.ne_of_gt hel)).trans hT
    have new : ObjOk X.prog X.w (upd H s.heap.objs.size (.tup [.int (i : Nat), x])) h'' s.heap.objs.size (.tup [.int (i : Nat), x]) :=
      ⟨by show 2 ≤ sizeLine; decide, [.int i tk, x'], .cons ⟨_, rfl⟩ (.cons ru .nil), ⟨_, hT2, rfl, _, rfl⟩⟩
    have I1 : Inv X pins σ (upd H s.heap.objs.size (.tup [.int (i : Nat), x])) { s with heap := h'', toks := tk + 1 } :=
      I.turnedNew (ch := [e, it]) (fun b ob hb q => (sb.2 b (fun z => hb (by simp [z]))).trans (hk b ob (fun z => hb (by simp [z])) (fun z => hb (by simp [z])) q)) hf (Nat.le_refl _) new
    refine ⟨.ref s.heap.objs.size, _, I1, rfl, ⟨_, x, rfl, I.hok.fresh (Nat.le_refl _), rfl, fun ys hy => by rw [I.tuple_inj hy hq]; exact hx⟩, ⟨⟨x', ?_⟩, hit'.at fun o q => (sb.2 it (Ne.symm hne)).trans q, hne⟩, fun b hb => ?_⟩
    · have e1 : ((i + 1 : Nat) : Int) = (i : Int) + 1 := by omega
      rw [e1]; exact he'
    · have hb' : b < s.heap.objs.size := by
        have e' : b = e ∨ b = it := by simpa using hb
        rcases e' with z | z
        · rw [z]; exact hel
        · rw [z]; exact hil
      rw [upd_ne (Nat.ne_of_lt hb')]
      exact (hf b hb).1
  done := by
    intro X hP hw hK hc i pins s σ H E I hf st hg
    subst hP hw hK
    obtain ⟨⟨old, he⟩, hit, hne⟩ := st
    obtain ⟨xs, hq, hx⟩ := hg
    obtain ⟨its, rv, p, hz⟩ := I.tuple hq
    obtain ⟨f0, f1, f2, f3, f4, f5⟩ := hf it (by simp)
    have hl := rv.length
    have hT : s.TypeIs (.ref e) "enumerate" := ⟨_, he, rfl⟩
    unfold pyNext
    refine wpAny_bind (wpAny_attempt (wpAny_callSpecial?_slot (name := Str.ofString "__next__") hT F.slot_enumerate_next
      (wpAny_call_entry F.slot_enumerate_next hT F.entry_enumerate_next ?_ (F.args_enumerate_next_1 _))))
    show wpAny _ _ (field (.ref e) 2 >>= _) _ _ _
    refine wpAny_bind (wpAny_field he rfl (x := .ref it) rfl ?_)
    refine wpAny_bind (wpAny_nextOf_tuple_end (A := X.A.in1) (I.ok.hd hc) hit (show s.heap.IsTuple a its.toArray from p) (by simp; omega) fun h' x he' hx' => ?_)
    obtain ⟨o, ho, hc⟩ := hx'
    refine wpAny_bind (wpAny_isInstance (T := "StopIteration") (b := true) ⟨o, ho, hc⟩ isSubtype_stop ?_)
    exact wpAny_pure ⟨rfl, I.turned (t' := s.toks) (fun b o hb q => he' b o hb q) f0 f1 f3 f4 f5⟩
  self := fun A i s Q E st h => let ⟨⟨_, he⟩, _⟩ := st; wpAny_pyIter_enum he h
def iEnumT (K : PySem.W.Frag) (ta : TA) : TI := fun σ H R => ta σ H fun vs H1 => ∃ a xs, vs = [.ref a] ∧ SqT K H1 a xs ∧ R (IteT K a) H1
theorem pi_enumT {X : Cx} {e : Expr} {ta : TA} {p pos tpos : Pos} {elts : List Expr} {kk : Nat} (hg : Gl X "enumerate") (hm : X.mg "enumerate" = none) (ha : PA X [e] ta) (hs : starEach [e] X.env = [(false, eval e X.env)] := by rfl) :
    PI X (.Tuple elts kk tpos) (.Call (.Name "enumerate" p) [e] [] pos) (iEnumT X.K ta) := by
  refine ⟨fun pins s σ H R I h => ?_⟩
  refine Call_ (ld_blt I hg hm boot_enumerate (PyProof.Rows.callWith_type1 (thn (ha.run pos pins s σ H _ I h) fun us s1 ⟨vs, H1, I1, r1, q1⟩ => ?_) hs rfl))
  obtain ⟨a, xs, ex, hq, q⟩ := q1
  subst ex
  cases r1 with
  | cons r rr =>
    cases rr
    cases r
    obtain ⟨its, rv, p', hz⟩ := I1.tuple hq
    have hal : a < s1.heap.objs.size := by obtain ⟨o, e, _⟩ := p'; exact Heap.lt_size e
    refine call_enumT (show s1.heap.IsTuple a its.toArray from p') fun h' he hit hsz hk => wpAny_pyIter_enum he ?_
    have I2 : Inv X pins σ H1 { s1 with heap := h' } := I1.kept (t' := s1.toks) hk
    refine ⟨s1.heap.objs.size + 1, [s1.heap.objs.size + 1, s1.heap.objs.size], _, _, H1, rfl, I2, turn_enumT a (s1.heap.objs.size + 1) s1.heap.objs.size (Nat.ne_of_lt hal) (Nat.ne_of_lt (Nat.lt_succ_of_lt hal)), ⟨⟨.none, he⟩, hit, Nat.succ_ne_self _⟩, fun b hb => ?_, q⟩
    have e' : b = s1.heap.objs.size + 1 ∨ b = s1.heap.objs.size := by simpa using hb
    have hle : s1.heap.objs.size ≤ b := by
      rcases e' with z | z
      · rw [z]; exact Nat.le_add_right _ _
      · rw [z]; exact Nat.le_refl _
    exact I1.fpOk hle (I1.hok.fresh hle)
def enumL : Nat → List D → List D
  | _, [] => []
  | i, d :: ds => .tup [.int i, d] :: enumL (i + 1) ds
theorem enumL_get : ∀ {l : List D} {k i : Nat}, (enumL k l)[i]? = l[i]?.map fun d => .tup [.int (k + i : Nat), d]
  | [], k, i => by simp [enumL]
  | d :: l, k, 0 => by simp [enumL]
  | d :: l, k, i + 1 => by
    show (enumL (k + 1) l)[i]? = _
    rw [enumL_get, List.getElem?_cons_succ, show k + 1 + i = k + (i + 1) by omega]
theorem enumL_len : ∀ {l : List D} {k : Nat}, (enumL k l).length = l.length
  | [], _ => rfl
  | _ :: l, k => by show (enumL (k + 1) l).length + 1 = _; rw [enumL_len]; rfl
def iSqE : D → Option (List D)
  | .lst l => some (enumL 0 l)
  | .tup l => some (enumL 0 l)
  | .ftup l => some (enumL 0 l)
  | _ => none
def iEnumM (m : Rho → Res D) : Rho → Res (List D) := fun ρ => (m ρ).bind fun d => ofO (iSqE d)
@[simp] theorem iEnumM_eq {m : Rho → Res D} {ρ : Rho} : iEnumM m ρ = (m ρ).bind fun d => ofO (iSqE d) := id rfl
@[simp] theorem iSqE_lst {l : List D} : iSqE (.lst l) = some (enumL 0 l) := id rfl
@[simp] theorem iSqE_tup {l : List D} : iSqE (.tup l) = some (enumL 0 l) := id rfl
@[simp] theorem iSqE_ftup {l : List D} : iSqE (.ftup l) = some (enumL 0 l) := id rfl
theorem enum_item {K : PySem.W.Frag} {H H' : Hp} {l : List D} {xs : List V} {B R : List Addr} {i : Nat} {d : D} (hd : Dats K H l 0 xs [] B) (st : Stay H H' [] R) (hBR : ∀ a ∈ B, a ∈ R) (e : (enumL 0 l)[i]? = some d) :
    ∃ x, xs[i]? = some x ∧ ∀ T y, H' T = none → xs[i]? = some y → Same H' (L2.upd H' T (.tup [.int (i : Nat), y])) ∧ ∃ B', Dat K (L2.upd H' T (.tup [.int (i : Nat), y])) d 0 (.ref T) [] B' ∧ ∀ a ∈ B', a ∈ R := by
  rw [enumL_get] at e
  cases el : l[i]? with
  | none => rw [el] at e; cases e
  | some d0 =>
    rw [el] at e
    cases e
    obtain ⟨x, S', R', ex, g, sl, r⟩ := hd.get el
    obtain rfl : S' = [] := Dat.noS g
    refine ⟨x, ex, fun T y hT hy => ⟨same_new hT, R', ?_, fun a ha => hBR a (r a ha)⟩⟩
    rw [ex] at hy
    cases hy
    have g' : Dat K (L2.upd H' T (.tup [.int (i : Nat), x])) d0 0 x [] R' := (Dat.stay _ 0 _ [] R' (st.mono (fun _ z => z) fun a ha => hBR a (r a ha)) g).same (same_new hT)
    unfold Dat
    refine ⟨T, _, rfl, upd_same, ?_⟩
    rw [Nat.zero_add]
    exact Dats.cons (S1 := []) (R1 := []) (dat_of_int 0) (Dats.one g')
theorem iter_enumT {K : PySem.W.Frag} {H : Hp} {l : List D} {p : Addr} {xs : List V} {B : List Addr} (hp : ∀ H' : Hp, Stay H H' [] B → SqT K H' p xs) (hd : Dats K H l 0 xs [] B) : Iter K (IteT K p) H B (enumL 0 l) := by
  intro H' st i
  have hp' := hp H' st
  refine ⟨fun h => ⟨xs, hp', by rw [hd.length]; rw [enumL_len] at h; exact h⟩, fun d e => ?_⟩
  obtain ⟨x, ex, q⟩ := enum_item hd st (fun _ z => z) e
  refine ⟨⟨xs, x, hp', ex⟩, fun y H3 h => ?_⟩
  obtain ⟨T, z, rfl, hT, rfl, hz⟩ := h
  exact q T z hT (hz xs hp')
theorem iter_enumL {K : PySem.W.Frag} {H : Hp} {l : List D} {p : Addr} {xs : List V} {B : List Addr} (hp : H p = some (.lst xs)) (hd : Dats K H l 0 xs [] B) : Iter K (Ite K p) H (p :: B) (enumL 0 l) := by
  intro H' st i
  have hp' : SqL K H' p xs := .of (st.res p List.mem_cons_self _ hp)
  refine ⟨fun h => ⟨xs, hp', by rw [hd.length]; rw [enumL_len] at h; exact h⟩, fun d e => ?_⟩
  obtain ⟨x, ex, q⟩ := enum_item hd st (fun _ z => List.mem_cons_of_mem _ z) e
  refine ⟨⟨xs, x, hp', ex⟩, fun y H3 h => ?_⟩
  obtain ⟨T, z, rfl, hT, rfl, hz⟩ := h
  exact q T z hT (hz xs hp')
section
variable {X : Cx} {W : WX} {Γ : List Nat} {e : Expr} {p pos tpos : Pos} {elts : List Expr} {kk : Nat} {m : Rho → Res D}
theorem ri_enum (hm : X.mg "enumerate" = none) (he : RE X W Γ 0 true e m) (hg : Gl X "enumerate" := by rfl) (hs : starEach [e] X.env = [(false, eval e X.env)] := by rfl) (hs2 : starEach (e :: []) X.env = (false, eval e X.env) :: starEach [] X.env := by rfl) :
    RI X W Γ (.Tuple elts kk tpos) (.Call (.Name "enumerate" p) [e] [] pos) (iEnumM m) := by
  obtain ⟨ta, pa, qa⟩ := he
  refine ⟨_, PI.or (pi_enum hg hm (pa_cons pa pa_nil hs2) hs) (pi_enumT hg hm (pa_cons pa pa_nil hs2) hs), fun F H0 ρ σ H S R Rk st po => ?_⟩
  have key : ∀ (P : V → Hp → Prop) (hP : ∀ d x H1 B, m ρ = .ok d → Same H H1 → Dat X.K H1 d 0 x [] B → (∀ a ∈ B, ¬ Av F S a) → (∃ l, iSqE d = some l ∧ ∀ J H' B, Same H H' → (∀ a ∈ B, ¬ Av F S a) → (∀ a ∈ B, H' a ≠ none) → Iter X.K J H' B l → Rk J H') → P x H1), ta σ H P := fun P hP => by
    refine qa F H0 ρ σ H S R P st (PostE.iff.mpr (po.bind.imp fun d ed po => ?_))
    intro x H1 A B s1 d1 v1 _
    obtain rfl : A = [] := Dat.noS d1
    refine hP d x H1 B ed s1 d1 v1 ?_
    cases e : iSqE d with
    | none => rw [e] at po; exact po.elim
    | some l => rw [e] at po; exact ⟨l, rfl, po⟩
  cases em : m ρ with
  | stuck => unfold iEnumM at po; rw [em] at po; exact po.elim
  | exn c => exact .inl (key _ fun d x H1 B ed => by rw [em] at ed; cases ed)
  | ok d =>
    cases d with
    | lst l =>
      refine .inl (key _ fun d x H1 B ed s1 d1 v1 ⟨l', el, k⟩ => ?_)
      rw [em] at ed; cases ed; cases el
      obtain ⟨a, xs, R', rfl, q, rfl, hd⟩ := dat_lst0 d1
      exact ⟨a, xs, rfl, .of q, k _ H1 (a :: R') s1 v1 (fun b hb => Dat.domR d1 b hb) (iter_enumL q hd)⟩
    | tup l =>
      refine .inr (key _ fun d x H1 B ed s1 d1 v1 ⟨l', el, k⟩ => ?_)
      rw [em] at ed; cases ed; cases el
      obtain ⟨a, xs, rfl, q, hd⟩ := dat_tup0 d1
      exact ⟨a, xs, rfl, .of q, k _ H1 B s1 v1 (fun b hb => Dat.domR d1 b hb) (iter_enumT (fun H' st => .of (st.tup a _ q)) hd)⟩
    | ftup l =>
      refine .inr (key _ fun d x H1 B ed s1 d1 v1 ⟨l', el, k⟩ => ?_)
      rw [em] at ed; cases ed; cases el
      obtain ⟨a, xs, rfl, q, hd⟩ := dat_ftup0 d1
      exact ⟨a, xs, rfl, sqt_frz q, k _ H1 B s1 v1 (fun b hb => Dat.domR d1 b hb) (iter_enumT (fun H' st => sqt_frz (q.imp fun o q => ⟨q.1, st.frz a _ _ q.2⟩)) hd)⟩
    | _ => unfold iEnumM at po; rw [em] at po; exact po.elim
end
end TW
-- TWDictC
namespace TW
open PySem PySem.Spec PyProof.Rows L2
def eqF : D → D → Bool
  | .int i, .int j => i == j
  | .str s, .str t => s == t
  | .bl a, .bl b => a == b
  | .non, .non => true
  | _, _ => false
def eqFs : List D → List D → Bool
  | [], [] => true
  | a :: l, b :: m => eqF a b && eqFs l m
  | _, _ => false
section
variable {K : PySem.W.Frag}
end
section
variable {X : Cx} {W : WX} {Γ : List Nat} {n : Nat} {a b e : Expr} {p pos : Pos} {ma mb : Rho → Res D} {mes : Rho → Res (List D)}
end
end TW
-- TWStep
namespace TW
open PySem PySem.Spec PyProof.Rows L2
open PySem.W (krv_pick)
theorem pick_one (items : Array Value) : slicePick items none none (some 1) = items := by
  have e : slicePick items none none (some 1) = slicePick items none none none := rfl
  rw [e, show items = items.toList.toArray from (Array.toArray_toList).symm, slicePick_cut]
  show ((items.toList.drop 0).take (items.toList.length - 0)).toArray = _
  rw [List.drop_zero, Nat.sub_zero, List.take_length]
def tStepL (K : PySem.W.Frag) (te : TE) (ts : TO) : TE := fun σ H Q => te σ H fun x H1 => ∃ a xs, x = .ref a ∧ SqL K H1 a xs ∧ ts σ H1 fun o H2 => SqL K H2 a xs ∧ ((o = some (-1) ∧ ∀ p, H2 p = none → Q (.ref p) (upd H2 p (.lst xs.reverse))) ∨ (o = some 1 ∧ ∀ p, H2 p = none → Q (.ref p) (upd H2 p (.lst xs))))
theorem pe_stepL {X : Cx} {e es : Expr} {te : TE} {ts : TO} {p3 pos : Pos} (he : PE X e te) (hst : PO X (some es) ts) : PE X (.Subscript e (.Slice none none (some es) p3) pos) (tStepL X.K te ts) := by
  refine ⟨fun pins s σ H Q I h => ?_⟩
  refine Subscript_ (thn (he.run pins s σ H _ I h) fun v s1 ⟨x, H1, I1, r1, q1⟩ => ?_)
  obtain ⟨a, xs, ex, hx, q⟩ := q1
  subst ex
  cases r1
  refine wpAny_Slice (thn (po_none.run pins s1 σ H1 (fun o H2 => o = none ∧ H2 = H1) I1 ⟨rfl, rfl⟩) fun vl s2 ⟨l, H2, I2, pl, el, e2⟩ => ?_)
  subst el e2
  refine thn (po_none.run pins s2 σ H2 (fun o H3 => o = none ∧ H3 = H2) I2 ⟨rfl, rfl⟩) fun vu s3 ⟨u, H3, I3, pu, eu, e3⟩ => ?_
  subst eu e3
  refine thn (hst.run pins s3 σ H3 _ I3 q) fun vs s4 ⟨o, H4, I4, ps, hx4, hq⟩ => ?_
  have I5 : Inv X pins σ H4 { s4 with heap := s4.heap.push { cls := .type "slice", data := .fields #[vl, vu, vs] } } := I4.kept (t' := s4.toks) fun b ob q => Heap.get?_push_of_some _ q
  obtain ⟨its, r, ht, hz⟩ := I5.list hx4
  have hlen := r.length
  show wpAny (model X.prog X.w) X.A (subscriptTail e (.Slice none none (some es) p3) (.ref a) (.ref s4.heap.objs.size)) (EP X pins σ Q) X.xe { s4 with heap := s4.heap.push { cls := .type "slice", data := .fields #[vl, vu, vs] } }
  refine tail_any (ops := [.ref a, .ref s4.heap.objs.size]) ht.isList.typeIs (PySem.slot_list_getitem.lookup) ?_ (by with_unfolding_all rfl)
  rcases hq with ⟨rfl, q⟩ | ⟨rfl, q⟩
  · refine wpAny_getItem_list_slice ht.isList (Heap.IsSliceOf.new _ vl vu vs) pl pu ps (by decide) ?_ (by rw [List.size_toArray]; omega)
    rw [PySem.W.krv_pick]
    refine ⟨.ref _, _, I5.laid (t' := s4.toks) (o := .lst xs.reverse) (fun b ob q => Heap.get?_push_of_some _ q) (Nat.le_refl _) ?_, rfl, q _ (I5.hok.fresh (Nat.le_refl _))⟩
    exact ⟨by rw [List.length_reverse]; exact hz, _, 0, r.reverse, Heap.get?_push_size _ rfl⟩
  · refine wpAny_getItem_list_slice ht.isList (Heap.IsSliceOf.new _ vl vu vs) pl pu ps (by decide) ?_ (by rw [List.size_toArray]; omega)
    rw [pick_one]
    refine ⟨.ref _, _, I5.laid (t' := s4.toks) (o := .lst xs) (fun b ob q => Heap.get?_push_of_some _ q) (Nat.le_refl _) ?_, rfl, q _ (I5.hok.fresh (Nat.le_refl _))⟩
    exact ⟨hz, its, 0, r, Heap.get?_push_size _ rfl⟩
def gStepL : D → D → Option D
  | .lst l, .int s => if s = 1 then some (.lst l) else if s = -1 then some (.lst l.reverse) else none
  | _, _ => none
def stepF (d : D) (r : Res D) : Res D := match d with
  | .lst l => r.bind fun s => ofO (gStepL (.lst l) s)
  | _ => .stuck
@[simp] theorem stepF_lst {l : List D} {r : Res D} : stepF (.lst l) r = r.bind fun s => ofO (gStepL (.lst l) s) := id rfl
def mStepL (ma ms : Rho → Res D) : Rho → Res D := fun ρ => (ma ρ).bind fun d => stepF d (ms ρ)
@[simp] theorem mStepL_eq {ma ms : Rho → Res D} {ρ : Rho} : mStepL ma ms ρ = (ma ρ).bind fun d => stepF d (ms ρ) := id rfl
section
variable {X : Cx} {W : WX} {Γ : List Nat} {n : Nat} {a es : Expr} {p3 pos : Pos} {ma ms : Rho → Res D}
theorem re_stepL (ha : RE X W Γ 0 true a ma) (hs : RE X W Γ 0 true es ms) (hn : n ≤ 1 := by decide) : RE X W Γ n true (.Subscript a (.Slice none none (some es) p3) pos) (mStepL ma ms) := by
  obtain ⟨ta, pa, qa⟩ := ha
  obtain ⟨ts, ps, qs⟩ := hs
  refine ⟨_, pe_stepL pa (po_some ps), fun F H0 ρ σ H S R Q st po => ?_⟩
  refine qa F H0 ρ σ H S R _ st (PostE.iff.mpr ((PostE.iff.mp po).bind.imp fun d _ po => ?_))
  intro x H1 A B s1 d1 v1 _
  obtain rfl : A = [] := Dat.noS d1
  cases d with
  | lst l =>
    obtain ⟨b, xs, R', rfl, q, rfl, hd⟩ := dat_lst0 d1
    have st1 := st.grow s1
    refine ⟨b, xs, rfl, .of q, ?_⟩
    rw [stepF_lst] at po
    refine qs F H0 ρ σ H1 S R _ st1 (PostE.iff.mpr (po.bind.later s1 fun f _ po => ?_))
    intro y H2 A2 B2 s2 d2 v2 _
    obtain ⟨z, ez, po⟩ := PostE.ofO (PostE.iff.mpr po)
    have q2 : H2 b = some (.lst xs) := s2 _ _ q
    have e0 : n - 1 = 0 := by omega
    have hd2 : Dats X.K H2 l 0 xs [] R' := Dats.same hd s2
    have st2 := st1.grow s2
    cases f with
    | int i =>
      obtain rfl := dat_int d2
      refine ⟨i, rfl, .of q2, ?_⟩
      change (if i = 1 then some (D.lst l) else if i = -1 then some (D.lst l.reverse) else none) = some z at ez
      by_cases h1 : i = 1
      · subst h1
        rw [if_pos rfl] at ez
        cases ez
        exact .inr ⟨rfl, fun p hp => new_lst (PostV.later po (s1.trans s2)) hp (B := R') (by rw [e0]; exact hd2) (fun c hc => v1 c (List.mem_cons_of_mem _ hc)) (avd_of st2)⟩
      · rw [if_neg h1] at ez
        by_cases h2 : i = -1
        · subst h2
          rw [if_pos rfl] at ez
          cases ez
          obtain ⟨S2, R2, g, p, r⟩ := hd2.reverse
          have hS : S2 = [] := p.eq_nil
          subst hS
          exact .inl ⟨rfl, fun p hp => new_lst (PostV.later po (s1.trans s2)) hp (B := R2) (by rw [e0]; exact g) (fun c hc => v1 c (List.mem_cons_of_mem _ (r c hc))) (avd_of st2)⟩
        · rw [if_neg h2] at ez; cases ez
    | _ => cases ez
  | _ => exact po.elim
end
def dicItems : D → Option (List D)
  | .dK ks vs => some ((ks.zip vs).map fun p => .tup [keyToD p.1, p.2])
  | _ => none
def sForDI (i : Nat) (f : D → Rho → Option Rho) (b : Rho → Out) : Rho → Out := fun ρ => match ρ[i]? with
  | some (some d) => match dicItems d with
    | some ds => outX (forL f b ds ρ)
    | none => .stuck
  | _ => .stuck
theorem sForDI_nx {i : Nat} {f : D → Rho → Option Rho} {b : Rho → Out} {ρ ρ' : Rho} {d : D} {ds : List D} (h : ρ[i]? = some (some d)) (hd : dicItems d = some ds) (e : forL f b ds ρ = .nx ρ') : sForDI i f b ρ = .nx ρ' := by
  unfold sForDI; rw [h]; dsimp only; rw [hd]; dsimp only; rw [e]; rfl
theorem iter_items {K : PySem.W.Frag} {H : Hp} {a : Addr} {o : Obj} {ws : List (Key × V)} {vs : List D} {B : List Addr} (h : H a = some (.frz o (.dK ws))) (hd : Dats K H vs 0 (ws.map (·.2)) [] B) : Iter K (Iti a o ws) H (a :: B) (((ws.map (·.1)).zip vs).map fun p => .tup [keyToD p.1, p.2]) := by
  intro H' st i
  have h' := st.res a (by simp) _ h
  have hlen : (((ws.map (·.1)).zip vs).map fun p => D.tup [keyToD p.1, p.2]).length = ws.length := by
    have := hd.length
    simp only [List.length_map] at this
    simp [← this]
  refine ⟨fun hl => ⟨h', by rw [hlen] at hl; exact hl⟩, fun d e => ?_⟩
  have hi : i < ws.length := by
    have := (List.getElem?_eq_some_iff.mp e).1
    rw [hlen] at this
    exact this
  have ew : ws[i]? = some ws[i] := List.getElem?_eq_getElem hi
  have hvl : vs.length = ws.length := by
    have := hd.length
    simp only [List.length_map] at this
    exact this.symm
  obtain ⟨z, hz⟩ : ∃ z, vs[i]? = some z := ⟨_, List.getElem?_eq_getElem (by omega)⟩
  rw [List.getElem?_map, List.getElem?_zip_eq_some.mpr (show (ws.map (·.1))[i]? = some ((ws[i]).1, z).1 ∧ vs[i]? = some ((ws[i]).1, z).2 from ⟨by rw [List.getElem?_map, ew]; rfl, hz⟩)] at e
  cases e
  refine ⟨⟨h', hi⟩, fun x H3 hy => ?_⟩
  obtain ⟨T, k, v, e1, rfl, hT, rfl⟩ := hy
  rw [ew] at e1
  have e1' := Option.some.inj e1
  obtain ⟨x, S', R', ex, g, sl, r⟩ := hd.get hz
  obtain rfl : S' = [] := Dat.noS g
  rw [List.getElem?_map, ew] at ex
  cases ex
  refine ⟨same_new hT, R', ?_, fun b hb => List.mem_cons_of_mem _ (r b hb)⟩
  have g' := (Dat.stay _ 0 _ [] R' (st.mono (fun _ z => z) fun b hb => List.mem_cons_of_mem _ (r b hb)) g).same (same_new (o := .tup [kV k, v]) hT)
  rw [e1'] at g' ⊢
  unfold Dat
  refine ⟨T, _, rfl, upd_same, Dats.cons (S1 := []) (R1 := []) ?_ (Dats.one g')⟩
  cases k with
  | inl z => exact dat_of_int 0
  | inr z => exact dat_of_str 0
section
variable {X : Cx} {W : WX} {n : Nat} {Γ : List Nat}
theorem rs_forDI {it : Expr} {elts : List Expr} {kk : Nat} {tpos apos cpos : Pos} {body : List Stmt} {pos : Pos} {i : Nat} {f : D → Rho → Option Rho} {mb : Rho → Out} (hp : PassesOwn (model X.prog X.w) X.A X.env X.xe) (hc : X.calm = true) (hv : PE X it (tVar i)) (hg : RG X Γ (.Tuple elts kk tpos) f) (hb : RSs X W n Γ Γ body mb) (hi : Γ.getD i 0 = 0 := by rfl)
    (hbase : attributeBase it "items" X.env (eval it X.env) = eval it X.env := by rfl) (hline : (apos.endLine == cpos.line) = true := by rfl)
    (hs : ∀ x, foldedSetIterable (.Call (.Attribute it "items" apos) [] [] cpos) X.env x = pure x := by intro _; rfl) (hn : n < 1000 := by decide) : RS X W n Γ Γ (.For (.Tuple elts kk tpos) (.Call (.Attribute it "items" apos) [] [] cpos) body [] pos) (sForDI i f mb) := by
  obtain ⟨g, pg, qg⟩ := hg
  obtain ⟨tb, pb, qb⟩ := hb
  have P := ps_for (pos := pos) hp hc (pi_items (elts := elts) (kk := kk) (tpos := tpos) (apos := apos) (cpos := cpos) hv hbase hline) pg pb hs
  have PL := ps_lock P
  refine ⟨fun E σ H => tFor (iItems (tVar i)) g tb E σ H ∨ tLock (tFor (iItems (tVar i)) g tb) E σ H, ⟨fun pins s σ H E I h => h.elim (P.run pins s σ H E I) (PL.run pins s σ H E I)⟩, fun F H0 ρ σ H S R E st po => ?_⟩
  unfold sForDI at po
  cases e1 : ρ[i]? with
  | none => rw [e1] at po; exact po.elim
  | some od =>
    cases od with
    | none => rw [e1] at po; exact po.elim
    | some d =>
      rw [e1] at po
      dsimp only at po
      obtain ⟨x, hx, q⟩ := st.slot i d e1
      rw [hi] at q
      have outx : ∀ o : Out, PostS X W F H0 Γ n S H E (outX o) → PostS X W F H0 Γ n S H E o := fun o h => by
        cases o with
        | ex c ρ' => exact h.elim
        | _ => exact h
      cases d with
      | dK ks vs =>
        unfold Dat at q
        obtain ⟨a, ws, R', rfl, hr, rfl, hS, hR, hd⟩ := q
        have core : ∀ (H0 H : Hp) (E : Ends) (o : Obj), Sto X.K F H0 Γ ρ σ H S R → H a = some (.frz o (.dK ws)) → Dats X.K H vs 0 (ws.map (·.2)) [] R' → PostS X W F H0 Γ n S H E (forL f mb (((ws.map (·.1)).zip vs).map fun p => .tup [keyToD p.1, p.2]) ρ) → tFor (iItems (tVar i)) g tb E σ H := fun H0 H E o st hf hd po => by
          have va : ∀ b ∈ a :: R', ¬ Av F S b := fun b hb z => by
            rw [← hR] at hb
            exact z.elim (st.rf i b hb) fun ⟨j, z⟩ => st.rs i j b hb z
          have vd : ∀ b ∈ a :: R', H b ≠ none := fun b hb => by
            rcases List.mem_cons.mp hb with rfl | hb
            · rw [hf]; simp
            · exact Dats.domR hd b hb
          exact for_core (B := a :: R') qg qb (fun Rk h => ⟨_, hx, a, o, ws, rfl, hf, h⟩) st va vd (iter_items hf hd) po
        have haR : a ∈ R i := by rw [hR]; simp
        have haS : ∀ j, a ∉ S j := fun j z => st.rs i j a haR z
        have po : PostS X W F H0 Γ n S H E (outX (forL f mb (((ws.map (·.1)).zip vs).map fun p => .tup [keyToD p.1, p.2]) ρ)) := po
        rcases hr with hr | ⟨o, hr⟩
        · refine .inr ⟨a, .dK ws, hr, trivial, fun od => ?_⟩
          refine core _ _ _ od (lock_sto trivial st hr haS) upd_same (Dats.trd _ _ _ _ _ (trd_lock trivial hr (by simp)) hd) (lock_post trivial st hr haS (st.rf i a haR) po)
        · exact .inl (core _ _ _ o st hr hd (outx _ po))
      | _ => exact po.elim
end
end TW
-- TWEqT
namespace TW
open PySem PySem.Spec PyProof.Rows L2
section
variable {prog : Program} {w : World} {K : Type} [DecidableEq K] {knd : HeapKind prog w K} {A : Around} {E : Value → Shared → Prop} {s : Shared}
end
section
variable {X : Cx} {W : WX} {Γ : List Nat} {n n1 n2 : Nat} {f1 f2 : Bool} {a b : Expr} {pos : Pos} {ma mb : Rho → Res D}
end
end TW
-- TWClrD
namespace TW
open PySem PySem.Spec PyProof.Rows L2
section
variable {X : Cx} {W : WX} {Γ : List Nat} {n i len : Nat} {o : Expr} {apos cpos pos2 : Pos} {mp : Rho → Res (List D)}
end
end TW
-- TWRec
namespace TW
open PySem PySem.Spec PyProof.Rows L2
section
variable {X : Cx} {W : WX} {Γ : List Nat} {n : Nat} {a b : Expr} {es : List Expr} {pos : Pos} {ma mb : Rho → Res D} {mes : Rho → Res (List D)}
end
end TW
-- TWTake
namespace TW
open PySem PySem.Spec PyProof.Rows L2
def D.shalF : Nat → Nat → D → Bool
  | f + 1, n + 1, .lst l => l.all (D.shalF f n)
  | f + 1, n, .tup l => l.all (D.shalF f (n - 1))
  | f + 1, n, .ftup l => l.all (D.shalF f (n - 1))
  | f + 1, n + 1, .dT _ l => l.all (D.shalF f n)
  | _, _, d => d.flat
def D.sha (n : Nat) (d : D) : Bool := D.shalF 8 n d
def mSha (n : Nat) (m : Rho → Res D) : Rho → Res D := fun ρ => (m ρ).bind fun d => if d.sha n then .ok d else .stuck
@[simp] theorem mSha_eq {n : Nat} {m : Rho → Res D} {ρ : Rho} : mSha n m ρ = (m ρ).bind fun d => if d.sha n then .ok d else .stuck := id rfl
section
variable {X : Cx} {W : WX} {Γ Γ' Γ1 : List Nat} {n i j len : Nat} {e : Expr} {m : Rho → Res D} {mp : Rho → Res (List D)} {pos pos' : Pos}
def sTake (i j : Nat) (mp : Rho → Res (List D)) : Rho → Out := atS j fun ρ => (mp ρ).out ρ fun p => match ρ[j]? with
  | some (some d) => (match getP d p, setP d p .junk with
    | some c, some d' => .nx ((ρ.set j (some d')).set i (some c))
    | _, _ => .stuck)
  | _ => .stuck
@[simp] theorem sTake_eq {i j : Nat} {mp : Rho → Res (List D)} {ρ : Rho} : sTake i j mp ρ = atS j (fun ρ => (mp ρ).out ρ fun p => match ρ[j]? with
  | some (some d) => (match getP d p, setP d p .junk with
    | some c, some d' => .nx ((ρ.set j (some d')).set i (some c))
    | _, _ => .stuck)
  | _ => .stuck) ρ := id rfl
def sRetT (i j : Nat) : Rho → Out := fun ρ => match ρ[i]?, ρ[j]? with
  | some (some a), some (some b) => .rt (.tup [a, b])
  | _, _ => .stuck
@[simp] theorem sRetT_eq {i j : Nat} {ρ : Rho} : sRetT i j ρ = match ρ[i]?, ρ[j]? with
  | some (some a), some (some b) => .rt (.tup [a, b])
  | _, _ => .stuck := id rfl
end
section
variable {X : Cx} {W : WX} {Γ : List Nat} {n nr : Nat} {elt tg iter : Expr} {ifs : List Expr} {scope : Scope} {own : List (Str × Nat)} {pos : Pos} {f : D → Rho → Option Rho} {mi : Rho → Res (List D)} {tt : Rho → Res Bool} {me : Rho → Res D}
end
end TW
-- TWOwn
namespace TW
open PySem PySem.Spec PyProof.Rows L2
section
variable {K : PySem.W.Frag} {F : Fr} {H0 H H' : Hp} {Γ : List Nat} {ρ ρ' : Rho} {σ σ' : L2.St} {S R : Nat → List Addr}
theorem Sto.less {A : List Addr} (h : Sto K (F.plus A) H0 Γ ρ σ H S R) : Sto K F H0 Γ ρ σ H S R :=
  ⟨h.same, h.len, h.slot, h.emp, h.new, h.nd, h.dj, h.rs, fun i a ha z => h.rf i a ha (.inl z), fun i a ha z => h.sf i a ha (.inl z), fun a z => h.fd a (.inl z), h.pin⟩
end
def sForO (i : Nat) (f : D → Rho → Option Rho) (mb : Rho → Out) : Rho → Out := fun ρ => match ρ[i]? with
  | some (some (.lst l)) => if l.all D.flat = true then (match forL f mb l (ρ.set i (some .junk)) with
    | .nx ρ' => .nx (ρ'.set i (some (.lst l)))
    | .rt d => .rt d
    | _ => .stuck) else .stuck
  | _ => .stuck
@[simp] theorem sForO_eq {i : Nat} {f : D → Rho → Option Rho} {mb : Rho → Out} {ρ : Rho} : sForO i f mb ρ = match ρ[i]? with
  | some (some (.lst l)) => if l.all D.flat = true then (match forL f mb l (ρ.set i (some .junk)) with
    | .nx ρ' => .nx (ρ'.set i (some (.lst l)))
    | .rt d => .rt d
    | _ => .stuck) else .stuck
  | _ => .stuck := id rfl
section
variable {X : Cx} {W : WX} {n : Nat} {Γ : List Nat}
end
def sUnp (i j : Nat) (m : Rho → Res D) : Rho → Out := fun ρ => (m ρ).out ρ fun d => match d with
  | .tup [a, b] => .nx ((ρ.set i (some a)).set j (some b))
  | _ => .stuck
@[simp] theorem sUnp_eq {i j : Nat} {m : Rho → Res D} {ρ : Rho} : sUnp i j m ρ = (m ρ).out ρ fun d => match d with
  | .tup [a, b] => .nx ((ρ.set i (some a)).set j (some b))
  | _ => .stuck := id rfl
section
variable {X : Cx} {W : WX} {Γ Γ1 : List Nat} {n k i j : Nat} {e : Expr} {m : Rho → Res D} {pos p1 p2 pt : Pos}
def sAppT (i : Nat) (me : Rho → Res D) (j1 j2 : Nat) : Rho → Out := fun ρ => match ρ[i]?, ρ[j1]?, ρ[j2]?, me ρ with
  | some (some (.lst l)), some (some d1), some (some d2), .ok v => if v.flat = true ∧ l.length < sizeLine then .nx (((ρ.set j1 none).set j2 none).set i (some (.lst (l ++ [.tup [v, d1, d2]])))) else .stuck
  | _, _, _, _ => .stuck
@[simp] theorem sAppT_eq {i j1 j2 : Nat} {me : Rho → Res D} {ρ : Rho} : sAppT i me j1 j2 ρ = match ρ[i]?, ρ[j1]?, ρ[j2]?, me ρ with
  | some (some (.lst l)), some (some d1), some (some d2), .ok v => if v.flat = true ∧ l.length < sizeLine then .nx (((ρ.set j1 none).set j2 none).set i (some (.lst (l ++ [.tup [v, d1, d2]])))) else .stuck
  | _, _, _, _ => .stuck := id rfl
end
end TW
-- TWCompX
set_option maxHeartbeats 2000000
namespace PySem
namespace TWX
open HandSPX
section
variable {M : Model} {A : Around} {E : Value → Shared → Prop} {s : Shared} {Z : Obj → Prop} {base : Heap} {env : Env} {outer l : List Env} {L e : Addr}
end
end TWX
end PySem
namespace TW
open PySem PySem.Spec PyProof.Rows L2
section
variable {X : Cx}
end
section
variable {X : Cx} {W : WX}
end
section
variable {X : Cx} {W : WX} {Γ : List Nat} {n : Nat} {elt tg iter : Expr} {scope : Scope} {own : List (Str × Nat)} {pos : Pos} {f : D → Rho → Option Rho} {mi : Rho → Res (List D)} {me : Rho → Res D}
end
end TW
-- TWFresh
namespace TW
open PySem PySem.Spec PyProof.Rows L2
def FT (H : Hp) (b : Addr) : Prop := ∃ o xs, H b = some (.frz o (.tup xs))
open Classical in
noncomputable def bareH (H : Hp) : Hp := fun b => if FT H b then none else H b
open Classical in
noncomputable def mergeH (H H1 : Hp) : Hp := fun b => if FT H b then H b else H1 b
section
variable {H H1 : Hp} {b : Addr}
theorem bare_ft (h : FT H b) : bareH H b = none := if_pos h
theorem bare_ne (h : ¬ FT H b) : bareH H b = H b := if_neg h
theorem merge_ft (h : FT H b) : mergeH H H1 b = H b := if_pos h
theorem merge_ne (h : ¬ FT H b) : mergeH H H1 b = H1 b := if_neg h
theorem bare_some {u : HO} (h : bareH H b = some u) : H b = some u ∧ ¬ FT H b := by
  by_cases f : FT H b
  · rw [bare_ft f] at h; cases h
  · rw [bare_ne f] at h; exact ⟨h, f⟩
theorem not_ft {u : HO} (h : H b = some u) (hu : ∀ o xs, u ≠ .frz o (.tup xs)) : ¬ FT H b := fun ⟨o, xs, e⟩ => by
  rw [h] at e
  exact hu o xs (Option.some.inj e)
theorem bare_of {u : HO} (h : H b = some u) (hu : ∀ o xs, u ≠ .frz o (.tup xs)) : bareH H b = some u := by rw [bare_ne (not_ft h hu)]; exact h
theorem bare_none (h : H b = none) : bareH H b = none := by
  by_cases f : FT H b
  · exact bare_ft f
  · rw [bare_ne f]; exact h
end
section
variable {P : Program} {w : World} {H H1 : Hp} {h h' : Heap}
theorem hok_bare (x : HOk P w H h) : HOk P w (bareH H) h := fun b u e => by
  obtain ⟨e, f⟩ := bare_some e
  exact (x b u e).stay (fun _ _ _ q => q) (fun c q => bare_of q fun o xs z => nomatch z) fun c xs q => bare_of q fun o xs z => nomatch z
theorem hok_merge {fs : List Addr} (x : HOk P w H h) (keep : ∀ b o, h.get? b = some o → bareH H b = none → b ∉ fs → h'.get? b = some o) (hf : ∀ b ∈ fs, H b = none) (x1 : HOk P w H1 h') (hn : ∀ b, FT H b → H1 b = none) : HOk P w (mergeH H H1) h' := fun b u e => by
  have up : ∀ c v, H1 c = some v → mergeH H H1 c = some v := fun c v q => by
    rw [merge_ne fun f => by rw [hn c f] at q; cases q]; exact q
  by_cases f : FT H b
  · rw [merge_ft f] at e
    obtain ⟨o, xs, q⟩ := f
    rw [q] at e
    cases e
    obtain ⟨g1, g2⟩ := x b _ q
    have k := keep b o g1 (bare_ft ⟨o, xs, q⟩) fun z => by rw [hf b z] at q; cases q
    refine ⟨k, ?_⟩
    obtain ⟨z, its, r, ob, e, c⟩ := (show ObjOk P w H h b (.tup xs) from g2)
    rw [g1] at e
    cases e
    exact ⟨z, its, r, o, k, c⟩
  · rw [merge_ne f] at e
    exact (x1 b u e).stay (fun _ _ _ q => q) (fun c q => up c _ q) fun c xs q => up c _ q
theorem un_merge {fs : List Addr} (x : HOk P w H h) (un : Un fs [] (bareH H) H1 h h') : Un fs [] H (mergeH H H1) h h' where
  keep := fun b o q n hb hx => un.keep b o q (bare_none n) hb hx
  slot := fun b o q n hb hx => un.slot b o q (bare_none n) hb hx
  free := fun b o q n hx => by
    rw [merge_ne fun ⟨o, xs, e⟩ => by rw [n] at e; cases e]
    exact un.free b o q (bare_none n) hx
  there := un.there
  tups := fun b xs q => by
    rw [merge_ne (not_ft q fun o xs z => nomatch z)]
    exact un.tups b xs (bare_of q fun o xs z => nomatch z)
  frzs := fun b o u q => by
    by_cases f : FT H b
    · rw [merge_ft f]; exact q
    · rw [merge_ne f]
      exact un.frzs b o u (by rw [bare_ne f]; exact q)
  tbls := fun b ps q => by
    obtain ⟨more, e⟩ := un.tbls b ps (bare_of q fun o xs z => nomatch z)
    exact ⟨more, by rw [merge_ne (not_ft q fun o xs z => nomatch z)]; exact e⟩
theorem un_new {fs : List Addr} (x : HOk P w H h) (un : Un fs [] (bareH H) H1 h h') : ∀ b, FT H b → H1 b = none := fun b ⟨o, xs, e⟩ =>
  un.free b o (x b _ e).1 (bare_ft ⟨o, xs, e⟩) (by simp)
end
section
variable {P : Program} {w : World} {K : PySem.W.Frag} {mg : Str → Option Value} {base : Heap} {k : Nat} {f : Addr} {fd : FuncData} {ps : List Str} {sp : Sp}
theorem FnOk.fresh (F : FnOk P w K mg base (L2.CX P w) k f fd ps sp) : FnOk P w K mg base (L2.CX P w) k f fd ps
    (fun vs H Q _ => sp vs (bareH H) (fun x H1 => (∀ b, FT H b → H1 b = none) → Q x (mergeH H H1)) fun _ _ _ => False) where
  len := fun vs H Q E h => F.len vs _ _ _ h
  run := fun A outer s H args us vs Q E hr he hb hv hs => by
    have he' : Env0 P w K mg base A outer s (bareH H) := ⟨he.frames, he.mod, fun b o q => ⟨(he.bs b o q).1, bare_none (he.bs b o q).2⟩, he.bsz, he.funs, fun b q => bare_none (he.frf b q), hok_bare he.hok, he.bare⟩
    refine codeAny_mono (F.run A outer s (bareH H) args us vs _ _ hr he' hb hv hs) fun r s' hq => ?_
    cases r with
    | error e =>
      obtain ⟨_, _, _, _, _, _, _, _, _, _, _, _, z⟩ := (show L2.CX P w outer (bareH H) s (fun _ _ _ => False) e s' from hq)
      exact z.elim
    | ok fl =>
      cases fl with
      | ret u =>
        obtain ⟨v, H1, os, ag, un, hok, rv, q⟩ := (show CE outer P w (bareH H) s _ u s' from hq)
        have hn := un_new he.hok un
        refine (show CE outer P w H s Q u s' from ⟨v, mergeH H H1, os, ag, un_merge he.hok un, hok_merge he.hok (fun b o q n hb => un.keep b o q n hb (by simp)) he.frf hok hn, rv, q hn⟩)
      | next => exact False.elim hq
      | brk => exact False.elim hq
      | cont => exact False.elim hq
end
mutual
def D.noFt : D → Bool
  | .ftup _ => false
  | .ins _ _ _ => false
  | .nul _ => false
  | .lst l => D.noFts l
  | .tup l => D.noFts l
  | .dK _ l => D.noFts l
  | .dT _ l => D.noFts l
  | _ => true
def D.noFts : List D → Bool
  | [] => true
  | d :: ds => d.noFt && D.noFts ds
end
section
variable {K : PySem.W.Frag} {H H' : Hp}
mutual
theorem Dat.noft (hh : ∀ b u, H b = some u → (∀ o xs, u ≠ .frz o (.tup xs)) → H' b = some u) : ∀ (d : D) (n : Nat) (v : V) (S R : List Addr), d.noFt = true → Dat K H d n v S R → Dat K H' d n v S R
  | .non, _, _, _, _, _, h => by simpa [Dat] using h
  | .bl b, _, _, _, _, _, h => by simpa [Dat] using h
  | .int i, _, _, _, _, _, h => by simpa [Dat] using h
  | .str s, _, _, _, _, _, h => by simpa [Dat] using h
  | .junk, _, _, _, _, _, h => by simpa [Dat] using h
  | .ins C h t, n, v, S, R, g, e => by cases g
  | .nul _, n, v, S, R, g, e => by cases g
  | .scr l, _, _, _, _, _, h => by
    simp only [Dat] at h ⊢
    obtain ⟨⟨a, e, q⟩, h⟩ := h
    exact ⟨⟨a, e, q.imp (fun ⟨o, q⟩ => ⟨o, hh _ _ q fun o xs z => nomatch z⟩) id⟩, h⟩
  | .lst ds, 0, v, S, R, g, h => by
    simp only [Dat] at h ⊢
    obtain ⟨a, xs, R', rfl, q, rfl, rfl, hd⟩ := h
    exact ⟨a, xs, R', rfl, hh _ _ q (fun o xs z => nomatch z), rfl, rfl, Dats.noft hh ds 0 xs [] R' g hd⟩
  | .lst ds, n + 1, v, S, R, g, h => by
    simp only [Dat] at h ⊢
    obtain ⟨a, xs, S', rfl, q, rfl, hd⟩ := h
    exact ⟨a, xs, S', rfl, hh _ _ q (fun o xs z => nomatch z), rfl, Dats.noft hh ds n xs S' R g hd⟩
  | .tup ds, n, v, S, R, g, h => by
    simp only [Dat] at h ⊢
    obtain ⟨a, xs, rfl, q, hd⟩ := h
    exact ⟨a, xs, rfl, hh _ _ q (fun o xs z => nomatch z), Dats.noft hh ds (n - 1) xs S R g hd⟩
  | .ftup ds, n, v, S, R, g, h => by cases g
  | .dK ks ds, 0, v, S, R, g, h => by
    simp only [Dat] at h ⊢
    obtain ⟨a, ws, R', rfl, q, hk, rfl, rfl, hd⟩ := h
    exact ⟨a, ws, R', rfl, q.imp (fun q => hh _ _ q fun o xs z => nomatch z) (fun ⟨o, q⟩ => ⟨o, hh _ _ q fun o xs z => nomatch z⟩), hk, rfl, rfl, Dats.noft hh ds 0 _ [] R' g hd⟩
  | .dK ks ds, n + 1, v, S, R, g, h => by
    simp only [Dat] at h ⊢
    obtain ⟨a, ws, S', rfl, q, hk, rfl, hd⟩ := h
    exact ⟨a, ws, S', rfl, hh _ _ q (fun o xs z => nomatch z), hk, rfl, Dats.noft hh ds n _ S' R g hd⟩
  | .dT ks ds, 0, v, S, R, g, h => by
    simp only [Dat] at h ⊢
    obtain ⟨a, ws, R', rfl, q, hk, rfl, rfl, hd⟩ := h
    exact ⟨a, ws, R', rfl, q.imp (fun q => hh _ _ q fun o xs z => nomatch z) (fun ⟨o, q⟩ => ⟨o, hh _ _ q fun o xs z => nomatch z⟩), hk, rfl, rfl, Dats.noft hh ds 0 _ [] R' g hd⟩
  | .dT ks ds, n + 1, v, S, R, g, h => by
    simp only [Dat] at h ⊢
    obtain ⟨a, ws, S', rfl, q, hk, rfl, hd⟩ := h
    exact ⟨a, ws, S', rfl, hh _ _ q (fun o xs z => nomatch z), hk, rfl, Dats.noft hh ds n _ S' R g hd⟩
theorem Dats.noft (hh : ∀ b u, H b = some u → (∀ o xs, u ≠ .frz o (.tup xs)) → H' b = some u) : ∀ (ds : List D) (n : Nat) (xs : List V) (S R : List Addr), D.noFts ds = true → Dats K H ds n xs S R → Dats K H' ds n xs S R
  | [], _, _, _, _, _, h => by simpa [Dats] using h
  | d :: ds, n, xs, S, R, g, h => by
    simp only [D.noFts, Bool.and_eq_true] at g
    simp only [Dats] at h ⊢
    obtain ⟨x, xs', S1, S2, R1, R2, rfl, rfl, rfl, h1, h2⟩ := h
    exact ⟨x, xs', S1, S2, R1, R2, rfl, rfl, rfl, Dat.noft hh d n x S1 R1 g.1 h1, Dats.noft hh ds n xs' S2 R2 g.2 h2⟩
end
end
def mNoFt (m : List D → Res D) : List D → Res D := fun ds => if D.noFts ds = true then m ds else .stuck
def PostN (K : PySem.W.Frag) (Z : Addr → Prop) (n : Nat) (H : Hp) (Q : VK) (d : D) : Prop :=
  ∀ x H' A B Hs, Same H H' → Dat K Hs d n x A B → Same Hs H' → (∀ b, FT Hs b → H b = none) → (∀ a ∈ B, ¬ Z a) → New H A B → Q x H'
def spN (K : PySem.W.Frag) (n ar : Nat) (m : List D → Res D) : Sp := fun vs H Q E => vs.length = ar ∧ ∃ (ds : List D) (F : Addr → Prop) (R : List Addr), (∀ a, F a → H a ≠ none) ∧ Dats K H ds 0 vs [] R ∧ (∀ a ∈ R, ¬ F a) ∧
  match mNoFt m ds with
  | .ok d => PostN K F n H Q d
  | _ => False
section
variable {P : Program} {w : World} {K : PySem.W.Frag} {mg : Str → Option Value} {base : Heap} {k n ar : Nat} {f : Addr} {fd : FuncData} {ps : List Str} {m : List D → Res D}
theorem spN_of (F : FnOk P w K mg base (L2.CX P w) k f fd ps (spM K mg n ar m)) : FnOk P w K mg base (L2.CX P w) k f fd ps (spN K n ar m) := by
  refine (FnOk.fresh F).imp fun vs H Q E h => ?_
  obtain ⟨hl, ds, Fb, R, hF, hd, hR, po⟩ := h
  unfold mNoFt at po
  by_cases g : D.noFts ds = true
  case neg => rw [if_neg g] at po; exact po.elim
  rw [if_pos g] at po
  cases em : m ds with
  | exn c => rw [em] at po; exact po.elim
  | stuck => rw [em] at po; exact po.elim
  | ok d =>
    rw [em] at po
    dsimp only at po
    refine ⟨hl, ds, fun a => Fb a ∧ bareH H a ≠ none, R, fun a ha => ha.2, Dats.noft (fun b u q hu => bare_of q hu) ds 0 vs [] R g hd, fun a ha z => hR a ha z.1, ?_⟩
    rw [em]
    intro x H1 A B sm dd hB nw hn
    have up : Same H1 (mergeH H H1) := fun c v q => by rw [merge_ne fun z => by rw [hn c z] at q; cases q]; exact q
    refine po x (mergeH H H1) A B H1 (fun b u q => ?_) dd up (fun b q => ?_) (fun a ha z => ?_) ?_
    · by_cases z : FT H b
      · rw [merge_ft z]; exact q
      · rw [merge_ne z]
        exact sm b u (by rw [bare_ne z]; exact q)
    · -- a known tuple of the answer is new
      by_cases z : FT H b
      · obtain ⟨o, xs, e⟩ := q
        rw [hn b z] at e; cases e
      · cases e : H b with
        | none => rfl
        | some u =>
          have e1 := sm b u (by rw [bare_ne z]; exact e)
          obtain ⟨o, xs, e2⟩ := q
          rw [e1] at e2
          exact absurd ⟨o, xs, by rw [e]; exact e2⟩ z
    · have ha' := Dat.domR dd a ha
      refine hB a ha ⟨z, fun e => ?_⟩
      by_cases q : FT H a
      · exact ha' (hn a q)
      · rw [bare_ne q] at e
        exact hF a z e
    · obtain ⟨nd, nw⟩ := nw rfl
      refine ⟨nd, fun a ha => ⟨?_, (nw a ha).2⟩⟩
      by_cases q : FT H a
      · exact absurd (hn a q) (Dat.dom dd a ha)
      · have := (nw a ha).1
        rw [bare_ne q] at this
        exact this
end
structure FnN (P : Program) (w : World) (K : PySem.W.Frag) (mg : Str → Option Value) (base : Heap) (x : Str) (k n ar : Nat) (m : List D → Res D) : Prop where
  ex : ∃ (f : Addr) (fd : FuncData) (ps : List Str), FnOk P w K mg base (L2.CX P w) k f fd ps (spN K n ar m) ∧ mg x = some (.ref f) ∧ PySem.W.keepIn K (.ref f) = true ∧ Binds K fd ps []
theorem FnG.n {P : Program} {w : World} {K : PySem.W.Frag} {mg : Str → Option Value} {base : Heap} {x : Str} {k n ar : Nat} {m : List D → Res D} (h : FnG P w K mg base x k n ar m) : FnN P w K mg base x k n ar m := by
  obtain ⟨f, fd, ps, F, r⟩ := h.ex
  exact ⟨f, fd, ps, spN_of F, r⟩
end TW
-- TWTab
namespace TW
open PySem PySem.Spec PyProof.Rows L2
section
variable {X : Cx} {pins : List (Addr × Obj)} {σ : L2.St} {H : Hp} {s : Shared} {b : Addr} {ob : Obj} {xs : List V}
end
def rowK : D → Option (List Key)
  | .ftup l => keysD l
  | _ => none
theorem set_self {α : Type} {l : List α} {i : Nat} {v : α} (h : l[i]? = some v) : l.set i v = l := by
  refine List.ext_getElem? fun j => ?_
  by_cases hj : j = i
  · subst hj
    rw [List.getElem?_set_self (List.getElem?_eq_some_iff.mp h).1, h]
  · rw [List.getElem?_set_ne (Ne.symm hj)]
theorem keys_dats {K : PySem.W.Frag} {H : Hp} {n : Nat} : ∀ {l : List D} {ks : List Key}, keysD l = some ks → Dats K H l n (ks.map kV) [] []
  | [], _, e => by cases e; exact Dats.nil
  | d :: l, ks, e => by
    unfold keysD at e
    obtain ⟨k, e1, e2⟩ := Option.bind_eq_some_iff.mp e
    obtain ⟨r, e3, rfl⟩ := Option.map_eq_some_iff.mp e2
    refine Dats.cons (S1 := []) (R1 := []) (S2 := []) (R2 := []) ?_ (keys_dats e3)
    cases d with
    | int i => cases e1; exact dat_of_int n
    | str s => cases e1; exact dat_of_str n
    | _ => cases e1
section
variable {K : PySem.W.Frag} {F : Fr} {H0 H H' : Hp} {Γ : List Nat} {ρ : Rho} {σ : L2.St} {S R : Nat → List Addr}
theorem rows_at {rows : List D} {n : Nat} {p : V} {A B : List Addr} (hr : ∀ d ∈ rows, rowK d ≠ none) (h : Dat K H (.lst rows) (n + 1) p A B) :
    ∃ (a : Addr) (bs : List Addr), p = .ref a ∧ H a = some (.lst (bs.map V.ref)) ∧ bs.length = rows.length ∧ ∀ (i : Nat) (b : Addr), bs[i]? = some b → ∃ d k o, rows[i]? = some d ∧ rowK d = some k ∧ o.dict = none ∧ H b = some (.frz o (.tup (k.map kV))) := by
  simp only [Dat] at h
  obtain ⟨a, xs, S', rfl, q, rfl, hd⟩ := h
  have key : ∀ {rows : List D} {xs : List V} {A B : List Addr}, (∀ d ∈ rows, rowK d ≠ none) → Dats K H rows n xs A B → ∃ bs : List Addr, xs = bs.map V.ref ∧ bs.length = rows.length ∧ ∀ (i : Nat) (b : Addr), bs[i]? = some b → ∃ d k o, rows[i]? = some d ∧ rowK d = some k ∧ o.dict = none ∧ H b = some (.frz o (.tup (k.map kV))) := by
    intro rows
    induction rows with
    | nil =>
      intro xs A B _ h
      simp only [Dats] at h
      exact ⟨[], h.1, rfl, fun i b e => by simp at e⟩
    | cons d ds ih =>
      intro xs A B hr h
      simp only [Dats] at h
      obtain ⟨x, xs', S1, S2, R1, R2, rfl, rfl, rfl, h1, h2⟩ := h
      obtain ⟨bs, rfl, hl, hb⟩ := ih (fun d hd => hr d (List.mem_cons_of_mem _ hd)) h2
      have hk := hr d List.mem_cons_self
      cases d with
      | ftup l =>
        simp only [Dat] at h1
        obtain ⟨b, ys, rfl, ⟨o, od, e⟩, hds⟩ := h1
        cases ek : keysD l with
        | none => exact absurd ek hk
        | some k =>
          have ey := dats_keys hds ek
          subst ey
          refine ⟨b :: bs, rfl, by simp [hl], fun i c ec => ?_⟩
          cases i with
          | zero =>
            cases ec
            exact ⟨_, k, o, rfl, ek, od, e⟩
          | succ i => exact hb i c ec
      | _ => exact absurd rfl hk
  obtain ⟨bs, rfl, hl, hb⟩ := key hr hd
  exact ⟨a, bs, rfl, q, hl, hb⟩
end
section
variable {X : Cx} {W : WX} {Γ : List Nat} {n nf k ar t x : Nat} {e e1 o b : Expr} {es : List Expr} {fx xn : Str} {p p1 pos pos' pos0 pos2 : Pos} {ma : Rho → Res (List D)} {me : Rho → Res D} {m : List D → Res D}
end
end TW
-- TWGetF
namespace TW
open PySem PySem.Spec PyProof.Rows L2
section
variable {X : Cx} {pins : List (Addr × Obj)} {σ : L2.St} {H : Hp} {s : Shared} {a b : Addr} {d : V} {r : Value} {A : Around} {E : Value → Shared → Prop} {kvs : List (List Key × V)} {k : List Key}
end
def gGetF : D → D → D → Option D
  | .dT ks vs, .ftup l, z => (keysD l).bind fun k => if ((lookK ks vs k).getD z).flat = true then some ((lookK ks vs k).getD z) else none
  | _, _, _ => none
def D.isDT : D → Bool
  | .dT _ _ => true
  | _ => false
def mGetF (mo me mf : Rho → Res D) : Rho → Res D := fun ρ => (mo ρ).bind fun d => if d.isDT = true then (me ρ).bind fun e => (mf ρ).bind fun z => ofO (gGetF d e z) else .stuck
@[simp] theorem mGetF_eq {mo me mf : Rho → Res D} {ρ : Rho} : mGetF mo me mf ρ = (mo ρ).bind fun d => if d.isDT = true then (me ρ).bind fun e => (mf ρ).bind fun z => ofO (gGetF d e z) else .stuck := id rfl
section
variable {X : Cx} {W : WX} {Γ : List Nat} {n : Nat} {o e f : Expr} {apos cpos : Pos} {mo me mf : Rho → Res D}
end
end TW
-- TWKeyF
namespace TW
open PySem PySem.Spec PyProof.Rows L2
section
variable {X : Cx} {W : WX} {Γ : List Nat} {n n1 n2 : Nat} {f1 f2 : Bool} {a b : Expr} {pos : Pos} {ma mb : Rho → Res D}
end
end TW
-- TWDue
namespace TW
open PySem PySem.Spec PyProof.Rows L2
section
variable {K : PySem.W.Frag} {H H' : Hp}
mutual
theorem Dat.noft2 {a : Addr} {wa : List (List Key × V)} (ha : H a = some (.dT wa)) (hh : ∀ b u, H b = some u → b ≠ a → (∀ o xs, u ≠ .frz o (.tup xs)) → H' b = some u) : ∀ (d : D) (n : Nat) (v : V) (S R : List Addr), d.noFt = true → a ∉ S → a ∉ R → Dat K H d n v S R → Dat K H' d n v S R
  | .non, _, _, _, _, _, _, _, h => by simpa [Dat] using h
  | .bl b, _, _, _, _, _, _, _, h => by simpa [Dat] using h
  | .int i, _, _, _, _, _, _, _, h => by simpa [Dat] using h
  | .str s, _, _, _, _, _, _, _, h => by simpa [Dat] using h
  | .junk, _, _, _, _, _, _, _, h => by simpa [Dat] using h
  | .ins _ _ _, _, _, _, _, g, _, _, _ => by cases g
  | .nul _, _, _, _, _, g, _, _, _ => by cases g
  | .scr l, _, _, _, _, _, _, _, h => by
    simp only [Dat] at h ⊢
    obtain ⟨⟨b, e, q⟩, h⟩ := h
    exact ⟨⟨b, e, q.imp (fun ⟨o, q⟩ => ⟨o, hh _ _ q (fun z => by rw [z, ha] at q; cases q) fun o xs z => nomatch z⟩) id⟩, h⟩
  | .lst ds, 0, v, S, R, g, hS, hR, h => by
    simp only [Dat] at h ⊢
    obtain ⟨b, xs, R', rfl, q, rfl, rfl, hd⟩ := h
    exact ⟨b, xs, R', rfl, hh _ _ q (fun z => hR (by rw [z]; exact List.mem_cons_self)) (fun o xs z => nomatch z), rfl, rfl, Dats.noft2 ha hh ds 0 xs [] R' g hS (fun z => hR (List.mem_cons_of_mem _ z)) hd⟩
  | .lst ds, n + 1, v, S, R, g, hS, hR, h => by
    simp only [Dat] at h ⊢
    obtain ⟨b, xs, S', rfl, q, rfl, hd⟩ := h
    exact ⟨b, xs, S', rfl, hh _ _ q (fun z => hS (by rw [z]; exact List.mem_cons_self)) (fun o xs z => nomatch z), rfl, Dats.noft2 ha hh ds n xs S' R g (fun z => hS (List.mem_cons_of_mem _ z)) hR hd⟩
  | .tup ds, n, v, S, R, g, hS, hR, h => by
    simp only [Dat] at h ⊢
    obtain ⟨b, xs, rfl, q, hd⟩ := h
    exact ⟨b, xs, rfl, hh _ _ q (fun z => by rw [z, ha] at q; cases q) (fun o xs z => nomatch z), Dats.noft2 ha hh ds (n - 1) xs S R g hS hR hd⟩
  | .ftup ds, n, v, S, R, g, _, _, h => by cases g
  | .dK ks ds, 0, v, S, R, g, hS, hR, h => by
    simp only [Dat] at h ⊢
    obtain ⟨b, ws, R', rfl, q, hk, rfl, rfl, hd⟩ := h
    have hb : b ≠ a := fun z => hR (by rw [z]; exact List.mem_cons_self)
    exact ⟨b, ws, R', rfl, q.imp (fun q => hh _ _ q hb fun o xs z => nomatch z) (fun ⟨o, q⟩ => ⟨o, hh _ _ q hb fun o xs z => nomatch z⟩), hk, rfl, rfl, Dats.noft2 ha hh ds 0 _ [] R' g hS (fun z => hR (List.mem_cons_of_mem _ z)) hd⟩
  | .dK ks ds, n + 1, v, S, R, g, hS, hR, h => by
    simp only [Dat] at h ⊢
    obtain ⟨b, ws, S', rfl, q, hk, rfl, hd⟩ := h
    exact ⟨b, ws, S', rfl, hh _ _ q (fun z => hS (by rw [z]; exact List.mem_cons_self)) (fun o xs z => nomatch z), hk, rfl, Dats.noft2 ha hh ds n _ S' R g (fun z => hS (List.mem_cons_of_mem _ z)) hR hd⟩
  | .dT ks ds, 0, v, S, R, g, hS, hR, h => by
    simp only [Dat] at h ⊢
    obtain ⟨b, ws, R', rfl, q, hk, rfl, rfl, hd⟩ := h
    have hb : b ≠ a := fun z => hR (by rw [z]; exact List.mem_cons_self)
    exact ⟨b, ws, R', rfl, q.imp (fun q => hh _ _ q hb fun o xs z => nomatch z) (fun ⟨o, q⟩ => ⟨o, hh _ _ q hb fun o xs z => nomatch z⟩), hk, rfl, rfl, Dats.noft2 ha hh ds 0 _ [] R' g hS (fun z => hR (List.mem_cons_of_mem _ z)) hd⟩
  | .dT ks ds, n + 1, v, S, R, g, hS, hR, h => by
    simp only [Dat] at h ⊢
    obtain ⟨b, ws, S', rfl, q, hk, rfl, hd⟩ := h
    exact ⟨b, ws, S', rfl, hh _ _ q (fun z => hS (by rw [z]; exact List.mem_cons_self)) (fun o xs z => nomatch z), hk, rfl, Dats.noft2 ha hh ds n _ S' R g (fun z => hS (List.mem_cons_of_mem _ z)) hR hd⟩
theorem Dats.noft2 {a : Addr} {wa : List (List Key × V)} (ha : H a = some (.dT wa)) (hh : ∀ b u, H b = some u → b ≠ a → (∀ o xs, u ≠ .frz o (.tup xs)) → H' b = some u) : ∀ (ds : List D) (n : Nat) (xs : List V) (S R : List Addr), D.noFts ds = true → a ∉ S → a ∉ R → Dats K H ds n xs S R → Dats K H' ds n xs S R
  | [], _, _, _, _, _, _, _, h => by simpa [Dats] using h
  | d :: ds, n, xs, S, R, g, hS, hR, h => by
    simp only [D.noFts, Bool.and_eq_true] at g
    simp only [Dats] at h ⊢
    obtain ⟨x, xs', S1, S2, R1, R2, rfl, rfl, rfl, h1, h2⟩ := h
    exact ⟨x, xs', S1, S2, R1, R2, rfl, rfl, rfl, Dat.noft2 ha hh d n x S1 R1 g.1 (fun z => hS (List.mem_append_left _ z)) (fun z => hR (List.mem_append_left _ z)) h1, Dats.noft2 ha hh ds n xs' S2 R2 g.2 (fun z => hS (List.mem_append_right _ z)) (fun z => hR (List.mem_append_right _ z)) h2⟩
end
end
section
variable {K : PySem.W.Frag} {F : Fr} {H0 H H' : Hp} {Γ : List Nat} {ρ : Rho} {σ : L2.St} {S R : Nat → List Addr}
theorem Sto.junk {r : Nat} (st : Sto K F H0 Γ ρ σ H S R) (hz : Γ.getD r 0 = 0) (hd : ∃ d, ρ[r]? = some (some d)) : Sto K F H0 Γ (ρ.set r (some .junk)) σ H S (fun k => if k = r then [] else R k) := by
  obtain ⟨d, ed⟩ := hd
  obtain ⟨x, ex, g⟩ := st.slot r d ed
  rw [hz] at g
  have hS := Dat.noS g
  have hl : r < ρ.length := (List.getElem?_eq_some_iff.mp ed).1
  refine ⟨st.same, by simp [st.len], fun k e q => ?_, fun k q => ?_, st.new, st.nd, st.dj, fun k l c hc => ?_, fun k c hc => ?_, st.sf, st.fd, st.pin⟩
  · by_cases hk : k = r
    · subst hk
      rw [List.getElem?_set_self hl] at q
      cases q
      refine ⟨x, ex, ?_⟩
      rw [if_pos rfl, hS]
      simp [Dat]
    · rw [List.getElem?_set_ne (Ne.symm hk)] at q
      rw [if_neg hk]
      exact st.slot k e q
  · by_cases hk : k = r
    · subst hk
      exact absurd (List.getElem?_set_self hl) (q .junk)
    · rw [if_neg hk]
      refine st.emp k fun e w => q e ?_
      rw [List.getElem?_set_ne (Ne.symm hk)]
      exact w
  · split at hc
    · simp at hc
    · exact st.rs k l c hc
  · split at hc
    · simp at hc
    · exact st.rf k c hc
end
section
variable {X : Cx} {W : WX} {Γ Γ1 Γ2 : List Nat} {n nf k ar r c t j : Nat} {e e1 e2 e3 e4 o rb jb : Expr} {es : List Expr} {rest : List Stmt} {fx rn cn tn jn : Str} {p p1 p2 p3 p4 p5 pos q1 q2 q3 pos4 pos' pos0 pos2 pos6 : Pos} {ma : Rho → Res (List D)} {m2 m4 me : Rho → Res D} {m : List D → Res D} {mr : Rho → Out}
end
end TW
-- TWOwnA
namespace TW
open PySem PySem.Spec PyProof.Rows L2
def PostO (K : PySem.W.Frag) (F : Addr → Prop) (S : Nat → List Addr) (n : Nat) (H : Hp) (Q : VK) (d : D) : Prop :=
  ∀ x H' A B, (∀ c u, H c = some u → (∀ i, c ∉ S i) → H' c = some u) → Dat K H' d n x A B → (∀ a ∈ B, ¬ F a) → A.Nodup → (∀ a ∈ A, (H a = none ∨ ∃ i, a ∈ S i) ∧ a ∉ B) → Q x H'
structure ArgO (K : PySem.W.Frag) (F : Addr → Prop) (Γ : List Nat) (H : Hp) (vs : List V) (ds : List D) (S R : Nat → List Addr) : Prop where
  slot : ∀ i d, ds[i]? = some d → ∃ x, vs[i]? = some x ∧ Dat K H d (Γ.getD i 0) x (S i) (R i)
  emp : ∀ i, ds[i]? = none → S i = [] ∧ R i = []
  nd : ∀ i, (S i).Nodup
  dj : ∀ i j, i ≠ j → ∀ a ∈ S i, a ∉ S j
  rs : ∀ i j, ∀ a ∈ R i, a ∉ S j
  rf : ∀ i, ∀ a ∈ R i, ¬ F a
  sf : ∀ i, ∀ a ∈ S i, ¬ F a
  fd : ∀ a, F a → H a ≠ none
def spO (K : PySem.W.Frag) (Γ : List Nat) (n ar : Nat) (m : List D → Res D) : Sp := fun vs H Q E => vs.length = ar ∧ ∃ (ds : List D) (F : Addr → Prop) (S R : Nat → List Addr), ds.length = ar ∧ ArgO K F Γ H vs ds S R ∧
  match m ds with
  | .ok d => PostO K F S n H Q d
  | _ => False
theorem mk_okO {P : Program} {w : World} {K : PySem.W.Frag} {mg : Str → Option Value} {base : Heap} {x qual : Str} {st : Stmt} {f : Addr} {fd : FuncData} {N ps : List Str} {k n ar : Nat} {m : Rho → Out} {Γ Γ' : List Nat}
    (F : Fun K x qual st f fd) (Sc : FnScope N ps (defScope st)) (har : ps.length = ar)
    (body : ∀ (cdv : Value) (A : Around) (outer : List Env) (s : Shared) (H : Hp) (E : XK), Room k (A.deeper (envOfC qual (defScope st) s.heap.objs.size f cdv)) →
      RSs (cxOf (L2.CX P w) P w K mg base N qual (defScope st) f cdv A outer s H E) (fun cls d _ H => E cls d H) n Γ Γ' (defBody st) m) (hn : n < 1000 := by decide) :
    FnOk P w K mg base (L2.CX P w) (k + 1) f fd ps (spO K Γ n ar (callM N.length m)) := by
  refine F.okX Sc (fun vs H Q E h => by rw [h.1, har]) (fun cdv A outer s H vs Q E hr h => ?_)
  obtain ⟨t, p, q⟩ := body cdv A outer s H E hr
  refine ⟨t, p, ?_⟩
  obtain ⟨hl, ds, Fb, S, R, hds, ag, po⟩ := h
  have hps : ps.length ≤ N.length := by have := congrArg List.length Sc.pre; rw [List.length_take] at this; omega
  have ρget : ∀ i d, (ds.map some ++ List.replicate (N.length - ds.length) none : Rho)[i]? = some (some d) → ds[i]? = some d := fun i d e => by
    by_cases hi : i < ds.length
    · rw [List.getElem?_append_left (by simpa using hi), List.getElem?_map] at e
      cases e2 : ds[i]? with
      | none => rw [e2] at e; cases e
      | some d' => rw [e2] at e; cases e; rfl
    · rw [List.getElem?_append_right (by simpa using hi), List.getElem?_replicate] at e
      split at e <;> cases e
  let H0 : Hp := fun c => open Classical in if ∃ i, c ∈ S i then none else H c
  have h0n : ∀ c, (∃ i, c ∈ S i) → H0 c = none := fun c h => if_pos h
  have h0s : ∀ c, ¬ (∃ i, c ∈ S i) → H0 c = H c := fun c h => if_neg h
  have sm : Same H0 H := fun c u e => by
    by_cases z : ∃ i, c ∈ S i
    · rw [h0n c z] at e; cases e
    · rw [h0s c z] at e; exact e
  have back : ∀ H', Same H0 H' → ∀ c u, H c = some u → (∀ i, c ∉ S i) → H' c = some u := fun H' s c u e hc => s c u (by rw [h0s c fun ⟨i, z⟩ => hc i z]; exact e)
  have st0 : Sto K ⟨Fb, fun _ => none⟩ H0 Γ (ds.map some ++ List.replicate (N.length - ds.length) none) (L2.start N vs) H S R := by
    refine ⟨sm, ?_, fun i d e => ?_, fun i z => ag.emp i ?_, fun i a z => h0n a ⟨i, z⟩, ag.nd, ag.dj, ag.rs, ag.rf, ag.sf, ag.fd, fun i v q => by cases q⟩
    · unfold L2.start
      simp only [List.length_append, List.length_map, List.length_replicate]
      rw [hds, hl]
    · obtain ⟨x, ex, g⟩ := ag.slot i d (ρget i d e)
      have hi : i < vs.length := (List.getElem?_eq_some_iff.mp ex).1
      refine ⟨x, ?_, g⟩
      unfold L2.start
      rw [List.getElem?_append_left (by simpa using hi), List.getElem?_map, ex]
      rfl
    · cases e : ds[i]? with
      | none => rfl
      | some d =>
        have hi : i < ds.length := (List.getElem?_eq_some_iff.mp e).1
        refine absurd ?_ (z d)
        rw [List.getElem?_append_left (by simpa using hi), List.getElem?_map, e]
        rfl
  refine q ⟨Fb, fun _ => none⟩ H0 _ (L2.start N vs) H S R _ st0 ?_
  unfold callM at po
  cases eb : m (ds.map some ++ List.replicate (N.length - ds.length) none) with
  | nx ρ' =>
    rw [eb] at po
    intro σ' H' S' R' st' kp gr
    exact po .non H' [] [] (back H' st'.same) (dat_of_non n) (fun a z => by simp at z) List.nodup_nil fun a z => by simp at z
  | rt d =>
    rw [eb] at po
    refine PostRt.of hn fun x H' A B s g nw hB => ?_
    refine po x H' A B (back H' s) g hB nw.1 fun a ha => ⟨?_, (nw.2 a ha).2⟩
    have := (nw.2 a ha).1
    by_cases z : ∃ i, a ∈ S i
    · exact .inr z
    · rw [h0s a z] at this; exact .inl this
  | ex c ρ' => rw [eb] at po; exact po.elim
  | stuck => rw [eb] at po; exact po
structure FnO (P : Program) (w : World) (K : PySem.W.Frag) (mg : Str → Option Value) (base : Heap) (x : Str) (k : Nat) (Γ : List Nat) (n ar : Nat) (m : List D → Res D) : Prop where
  ex : ∃ (f : Addr) (fd : FuncData) (ps : List Str), FnOk P w K mg base (L2.CX P w) k f fd ps (spO K Γ n ar m) ∧ mg x = some (.ref f) ∧ PySem.W.keepIn K (.ref f) = true ∧ Binds K fd ps []
theorem FnO.mono {P : Program} {w : World} {K : PySem.W.Frag} {mg : Str → Option Value} {base : Heap} {x : Str} {j k n ar : Nat} {Γ : List Nat} {m : List D → Res D} (h : FnO P w K mg base x j Γ n ar m) (hk : j ≤ k) : FnO P w K mg base x k Γ n ar m := by
  obtain ⟨f, fd, ps, F, r⟩ := h.ex
  exact ⟨f, fd, ps, F.mono hk, r⟩
def RAO (X : Cx) (W : WX) (Γ ns : List Nat) (es : List Expr) (m : Rho → Res (List D)) : Prop :=
  (∀ ρ ds, m ρ = .ok ds → ds.length = es.length) ∧ ∃ t, PA X es t ∧ ∀ F H0 ρ σ H S R (Q : List V → Hp → Prop), Sto X.K F H0 Γ ρ σ H S R →
    (match m ρ with
    | .ok ds => ∀ xs H' S' R', Same H H' → xs.length = ds.length → ArgO X.K (Av F S) ns H' xs ds S' R' → (∀ i, ∀ a ∈ S' i, H a = none) → Q xs H'
    | .exn c => ∀ C H', X.mg c = some (.ref C) → Same H H' → W (.ref C) none σ H'
    | .stuck => False) → t σ H Q
section
variable {X : Cx} {W : WX} {Γ ns : List Nat} {n : Nat} {e : Expr} {es : List Expr} {me : Rho → Res D} {ma : Rho → Res (List D)}
theorem rao_nil : RAO X W Γ ns [] mA0 := by
  refine ⟨fun ρ ds h => by cases h; rfl, _, pa_nil, fun F H0 ρ σ H S R Q st po => ?_⟩
  exact po [] H (fun _ => []) (fun _ => []) (Same.refl H) rfl ⟨fun i d h => by simp at h, fun i _ => ⟨rfl, rfl⟩, fun i => List.nodup_nil, fun i j _ a h => by simp at h, fun i j a h => by simp at h, fun i a h => by simp at h, fun i a h => by simp at h, st.avd⟩ fun i a h => by simp at h
theorem rao_cons (he : RE X W Γ n true e me) (ha : RAO X W Γ ns es ma) (hs : starEach (e :: es) X.env = (false, eval e X.env) :: starEach es X.env := by rfl) : RAO X W Γ (n :: ns) (e :: es) (mA1 me ma) := by
  obtain ⟨ta, pa, qa⟩ := he
  obtain ⟨lb, tb, pb, qb⟩ := ha
  refine ⟨fun ρ ds h => ?_, _, pa_cons pa pb hs, fun F H0 ρ σ H S R Q st po => ?_⟩
  · unfold mA1 at h
    cases e1 : me ρ with
    | ok d =>
      rw [e1] at h
      cases e2 : ma ρ with
      | ok ds' => rw [e2] at h; cases h; simp [lb ρ ds' e2]
      | exn c => rw [e2] at h; cases h
      | stuck => rw [e2] at h; cases h
    | exn c => rw [e1] at h; cases h
    | stuck => rw [e1] at h; cases h
  · unfold mA1 at po
    refine qa F H0 ρ σ H S R _ st ?_
    cases e1 : me ρ with
    | exn c => rw [e1] at po; exact po
    | stuck => rw [e1] at po; exact po
    | ok d =>
      rw [e1] at po
      intro x H1 A B s1 d1 v1 f1
      obtain ⟨nd1, nw1⟩ := f1 rfl
      have st1 := (st.grow s1).more (A := A) (fun a ha => Dat.dom d1 a ha) (fun a ha i z => st.domS i a z (nw1 a ha).1) (fun a ha i z => st.domR i a z (nw1 a ha).1)
      refine qb (F.plus A) H0 ρ σ H1 S R _ st1 ?_
      cases e2 : ma ρ with
      | exn c => rw [e2] at po; exact fun C H' hc s2 => po C H' hc (s1.trans s2)
      | stuck => rw [e2] at po; exact po
      | ok ds =>
        rw [e2] at po
        have po : ∀ xs H' S' R', Same H H' → xs.length = (d :: ds).length → ArgO X.K (Av F S) (n :: ns) H' xs (d :: ds) S' R' → (∀ i, ∀ a ∈ S' i, H a = none) → Q xs H' := po
        intro xs H2 S2 R2 s2 hlen ag new2
        have hne : ∀ a, (F.plus A).no a ∨ (∃ i, a ∈ S i) → H1 a ≠ none := st1.avd
        refine po (x :: xs) H2 (fun i => match i with | 0 => A | i + 1 => S2 i) (fun i => match i with | 0 => B | i + 1 => R2 i) (s1.trans s2) (by simp [hlen]) ⟨fun i d' h => ?_, fun i h => ?_, fun i => ?_, fun i j hij a h1 h2 => ?_, fun i j a h1 h2 => ?_, fun i a h => ?_, fun i a h => ?_, ((st.grow s1).grow s2).avd⟩ fun i a h => ?_
        · cases i with
          | zero => cases h; exact ⟨x, rfl, d1.same s2⟩
          | succ i => exact ag.slot i d' h
        · cases i with
          | zero => cases h
          | succ i => exact ag.emp i h
        · cases i with
          | zero => exact nd1
          | succ i => exact ag.nd i
        · cases i with
          | zero =>
            cases j with
            | zero => exact hij rfl
            | succ j => exact Dat.dom d1 a h1 (new2 j a h2)
          | succ i =>
            cases j with
            | zero => exact Dat.dom d1 a h2 (new2 i a h1)
            | succ j => exact ag.dj i j (fun z => hij (by rw [z])) a h1 h2
        · cases i with
          | zero =>
            cases j with
            | zero => exact (nw1 a h2).2 h1
            | succ j => exact Dat.domR d1 a h1 (new2 j a h2)
          | succ i =>
            cases j with
            | zero => exact ag.rf i a h1 (.inl (.inr h2))
            | succ j => exact ag.rs i j a h1 h2
        · cases i with
          | zero => exact v1 a h
          | succ i => exact fun z => ag.rf i a h (z.elim (fun z => .inl (.inl z)) fun z => .inr z)
        · cases i with
          | zero => exact fun z => st.avd a z (nw1 a h).1
          | succ i => exact fun z => ag.sf i a h (z.elim (fun z => .inl (.inl z)) fun z => .inr z)
        · cases i with
          | zero => exact (nw1 a h).1
          | succ i => exact s1.free (new2 i a h)
end
section
variable {X : Cx} {W : WX} {Γ Γf : List Nat} {n nf k ar : Nat} {e : Expr} {es : List Expr} {x : Str} {p pos : Pos} {ma : Rho → Res (List D)} {m : List D → Res D}
end
section
variable {X : Cx} {W : WX} {Γ : List Nat} {n i k : Nat} {x : Str} {e : Expr} {p pos pos' pos2 : Pos}
end
end TW
-- TWEqN
namespace TW
open PySem PySem.Spec PyProof.Rows L2
section
variable {prog : Program} {w : World} {K : Type} [DecidableEq K] {knd : HeapKind prog w K} {A : Around} {E : Value → Shared → Prop} {s : Shared}
end
def eqM : D → D → Bool
  | .dK ks vs, .dK ks' vs' => decide (ks = ks') && decide ks.Nodup && eqFs vs vs'
  | _, _ => false
def eqMs : List D → List D → Bool
  | [], [] => true
  | d :: l, e :: m => eqM d e && eqMs l m
  | _, _ => false
def gNeTT (d e : D) : Option D := match d, e with
  | .dT ks vs, .dT ks' vs' => if ks = ks' ∧ ks.Nodup ∧ eqMs vs vs' = true then some (.bl false) else none
  | _, _ => none
section
variable {X : Cx} {W : WX} {Γ : List Nat} {n n1 n2 : Nat} {f1 f2 : Bool} {a b : Expr} {pos : Pos} {ma mb : Rho → Res D}
end
end TW
-- TWPutMv
namespace TW
open PySem PySem.Spec PyProof.Rows L2
section
variable {K : PySem.W.Frag} {F : Fr} {H0 H : Hp} {Γ : List Nat} {ρ : Rho} {σ : L2.St} {S R : Nat → List Addr}
theorem Sto.updT {a : Addr} {wa : List (List Key × V)} {o : HO} (st : Sto K F H0 Γ ρ σ H S R) (ha : H a = some (.dT wa)) (h0 : H0 a = none) (hS : ∀ j, a ∉ S j) (hR : ∀ j, a ∉ R j) : Sto K F H0 Γ ρ σ (L2.upd H a o) S R := by
  have ne : ∀ {c u}, H c = some u → (∀ w, u ≠ .dT w) → c ≠ a := fun {c u} e q z => by subst z; rw [ha] at e; exact q _ (Option.some.inj e).symm
  refine ⟨fun c u e => ?_, st.len, fun j d q => ?_, st.emp, st.new, st.nd, st.dj, st.rs, st.rf, st.sf, fun c hc z => ?_, st.pin⟩
  · rw [upd_ne (fun z => by rw [z, h0] at e; cases e)]
    exact st.same c u e
  · obtain ⟨x, e1, e2⟩ := st.slot j d q
    refine ⟨x, e1, Dat.stay d _ x (S j) (R j) ⟨fun c xs e => ?_, fun c o xs e => ?_, fun c o xs e => ?_, fun c hc o e => ?_, fun c hc o e => ?_⟩ e2⟩
    · rw [upd_ne (ne e fun w z => nomatch z)]; exact e
    · rw [upd_ne (ne e fun w z => nomatch z)]; exact e
    · rw [upd_ne (ne e fun w z => nomatch z)]; exact e
    · rw [upd_ne (fun z => hS j (by rw [← z]; exact hc))]; exact e
    · rw [upd_ne (fun z => hR j (by rw [← z]; exact hc))]; exact e
  · by_cases e : c = a
    · rw [e, upd_same] at z; cases z
    · rw [upd_ne e] at z; exact st.fd c hc z
end
def sPutMv (t : Nat) (mk : Rho → Res D) (y : Nat) : Rho → Out := fun ρ => match ρ[t]?, ρ[y]? with
  | some (some c), some (some v) => (match mk ρ with
    | .ok k => (match putD c k v with
      | some c' => if t ≠ y ∧ c.isDT = true then .nx ((ρ.set y none).set t (some c')) else .stuck
      | none => .stuck)
    | _ => .stuck)
  | _, _ => .stuck
section
variable {X : Cx} {W : WX} {Γ : List Nat} {n t y m : Nat} {e b o : Expr} {pos pos' : Pos} {mk : Rho → Res D}
theorem rs_putMv (hu : X.A.units + 1 < cLine) (ht : PE X o (tVar t)) (hb : RE X W Γ 0 true b mk) (hy : PE X e (tVar y)) (hΓt : Γ.getD t 0 = m + 1 := by rfl) (hΓy : Γ.getD y 0 = m := by rfl) (htl : t < Γ.length := by decide) (hp : Γ.getD t 0 ≠ 99 := by decide)
    (ha : ∀ v, assign (.Subscript o b pos') X.env v = (do
      let ov ← holding [v] (eval o X.env)
      let iv ← holding [v, ov] (eval b X.env)
      standAt pos'
      holding [v, ov, iv] (setItem ov iv v)
      release [v, ov, iv] []) := by intro _; rfl)
    (hs : swapsWithSole [.Subscript o b pos'] e pos.line X.env = pure false := by rfl) (hw : swappedStores [.Subscript o b pos'] e X.env = pure none := by rfl)
    (h1 : (assignEach [.Subscript o b pos'] X.env).map (·.2) = [assign (.Subscript o b pos') X.env] := by rfl) :
    RS X W n Γ Γ (.Assign [.Subscript o b pos'] e pos) (sPutMv t mk y) := by
  obtain ⟨tb, pb, qb⟩ := hb
  refine ⟨_, ps_asg hy (pg_sub ht pb (set_dictN hu) ha) hs hw h1, fun F H0 ρ σ H S R E st po => ?_⟩
  unfold sPutMv at po
  cases et : ρ[t]? with
  | none => rw [et] at po; exact po.elim
  | some ot =>
    cases ot with
    | none => rw [et] at po; exact po.elim
    | some c =>
      cases ey : ρ[y]? with
      | none => rw [et, ey] at po; exact po.elim
      | some oy =>
        cases oy with
        | none => rw [et, ey] at po; exact po.elim
        | some v =>
          rw [et, ey] at po
          dsimp only at po
          cases ek : mk ρ with
          | exn q => rw [ek] at po; exact po.elim
          | stuck => rw [ek] at po; exact po.elim
          | ok kd =>
            rw [ek] at po
            dsimp only at po
            cases ep : putD c kd v with
            | none => rw [ep] at po; exact po.elim
            | some c' =>
              rw [ep] at po
              dsimp only at po
              by_cases hc : t ≠ y ∧ c.isDT = true
              case neg => rw [if_neg hc] at po; exact po.elim
              rw [if_pos hc] at po
              obtain ⟨hty, hdt⟩ := hc
              obtain ⟨xt, hxt, gt⟩ := st.slot t c et
              obtain ⟨xy, hxy, gy⟩ := st.slot y v ey
              refine ⟨xy, hxy, xt, hxt, ?_⟩
              refine qb F H0 ρ σ H S R _ st ?_
              rw [ek]
              intro u H1 A1 B1 s1 d1 _ _
              obtain rfl : A1 = [] := Dat.noS d1
              have st1 := st.grow s1
              have gt1 := gt.same s1
              have gy1 := gy.same s1
              rw [hΓt] at gt1
              rw [hΓy] at gy1
              unfold putD at ep
              cases c with
              | dT ks vs =>
                cases kd with
                | tup l =>
                  dsimp only at ep
                  split at ep
                  case isFalse => cases ep
                  rename_i hl
                  obtain ⟨k, ekd, rfl⟩ := Option.map_eq_some_iff.mp ep
                  simp only [Dat] at gt1
                  obtain ⟨a, ws, S', rfl, haa, rfl, eSt, dd⟩ := gt1
                  obtain ⟨bb, xs, rfl, hbb, hl2⟩ := dat_tup0 d1
                  obtain rfl := dats_keys hl2 ekd
                  refine .inr ⟨a, ws, k, bb, rfl, haa, rfl, hbb, by rw [← List.length_map (as := ws) (·.1)]; exact hl, fun nd => ?_⟩
                  obtain ⟨p1, S2, R2, p2, p3, p4, p5⟩ := put_dats (k := k) dd gy1 nd
                  have aSt : a ∈ S t := by rw [eSt]; exact List.mem_cons_self
                  have sub : ∀ b ∈ S', b ∈ S t := fun b hb => by rw [eSt]; exact List.mem_cons_of_mem _ hb
                  have ndt := st1.nd t
                  rw [eSt] at ndt
                  have aS' : a ∉ S' := (List.nodup_cons.mp ndt).1
                  have aSy : a ∉ S y := st1.dj t y hty a aSt
                  have aR : ∀ j, a ∉ R j := fun j z => st1.rs j t a z aSt
                  have na : a ∉ S2 := fun z => (p3 a z).elim aS' aSy
                  have nR : a ∉ R2 := fun z => (p5 a z).elim (aR t) (aR y)
                  have h0a := st1.new t a aSt
                  have stD := ((st1.drop y).drop t).updT (o := .dT (putK ws k xy)) haa h0a (fun j z => by
                    split at z
                    · simp at z
                    · rename_i hj
                      split at z
                      · simp at z
                      · exact st1.dj t j (Ne.symm hj) a aSt z) (fun j z => by
                    split at z
                    · simp at z
                    · split at z
                      · simp at z
                      · exact aR j z)
                  have g : Dat X.K (L2.upd H1 a (.dT (putK ws k xy))) (.dT (putL (ws.map (·.1)) vs k v).1 (putL (ws.map (·.1)) vs k v).2) (m + 1) (.ref a) (a :: S2) R2 := by
                    unfold Dat
                    exact ⟨a, _, S2, rfl, upd_same, p1, rfl, Dats.stay _ _ _ _ _ (sub_stay (K := X.K) haa trivial na nR) p2⟩
                  have S2in : ∀ b ∈ S2, ∃ j, b ∈ S j := fun b hb => (p3 b hb).elim (fun z => ⟨t, sub b z⟩) fun z => ⟨y, z⟩
                  have R2in : ∀ b ∈ R2, ∃ j, b ∈ R j := fun b hb => (p5 b hb).elim (fun z => ⟨t, z⟩) fun z => ⟨y, z⟩
                  have Ain : ∀ b ∈ a :: S2, b ∈ S t ∨ b ∈ S y := fun b hb => by
                    rcases List.mem_cons.mp hb with rfl | hb
                    · exact .inl aSt
                    · exact (p3 b hb).imp (sub b) id
                  obtain ⟨S3, R3, st3, gr⟩ := stD.set (i := t) (n := m + 1) (A := a :: S2) (B := R2) (.inl htl) g (fun b hb z => by
                      obtain ⟨j, hj⟩ := R2in b hb
                      rcases z with z | ⟨l, z⟩
                      · exact st1.rf j b hj z
                      · try dsimp only at z
                        split at z
                        · simp at z
                        · split at z
                          · simp at z
                          · exact st1.rs j l b hj z) (List.nodup_cons.mpr ⟨na, p4 (List.nodup_cons.mp ndt).2 (st1.nd y) fun b hb hb' => st1.dj t y hty b (sub b hb') hb⟩) (fun b hb => by
                      rcases Ain b hb with z | z
                      · exact st1.new t b z
                      · exact st1.new y b z) (fun b hb z => by
                      rcases Ain b hb with w | w
                      · exact st1.sf t b w z
                      · exact st1.sf y b w z) (fun b hb j z => by
                      try dsimp only at z
                      split at z
                      · simp at z
                      · rename_i hjt
                        split at z
                        · simp at z
                        · rename_i hjy
                          rcases Ain b hb with w | w
                          · exact st1.dj t j (Ne.symm hjt) b w z
                          · exact st1.dj y j (Ne.symm hjy) b w z) (fun b hb j z => by
                      try dsimp only at z
                      split at z
                      · simp at z
                      · split at z
                        · simp at z
                        · rcases Ain b hb with w | w
                          · exact st1.rs j t b z w
                          · exact st1.rs j y b z w) (fun b hb z => by
                      obtain ⟨j, hj⟩ := R2in b z
                      rcases Ain b hb with w | w
                      · exact st1.rs j t b hj w
                      · exact st1.rs j y b hj w) hp
                  have e1 : ((ρ.set y none).set t none).set t (some (.dT (putL (ws.map (·.1)) vs k v).1 (putL (ws.map (·.1)) vs k v).2)) = (ρ.set y none).set t (some (.dT (putL (ws.map (·.1)) vs k v).1 (putL (ws.map (·.1)) vs k v).2)) := by rw [List.set_set]
                  have e2 : Γ.set t (m + 1) = Γ := by
                    refine set_self ?_
                    rw [List.getD_eq_getElem?_getD] at hΓt
                    cases q : Γ[t]? with
                    | none => rw [q] at hΓt; cases hΓt
                    | some v => rw [q] at hΓt; exact congrArg some hΓt
                  have e3 : σ.set t (some (V.ref a)) = σ := set_self hxt
                  rw [e1, e2, e3] at st3
                  refine po σ _ S3 R3 st3 (fun b u q hn => ?_) fun j b hb => ?_
                  · rw [upd_ne (fun z => hn t (by rw [z]; exact aSt))]
                    exact s1 b u q
                  · rcases gr j b hb with z | z
                    · try dsimp only at z
                      split at z
                      · simp at z
                      · split at z
                        · simp at z
                        · exact .inl ⟨j, z⟩
                    · rcases Ain b z with w | w
                      · exact .inl ⟨t, w⟩
                      · exact .inl ⟨y, w⟩
                | _ => cases ep
              | _ => cases hdt
end
end TW
-- TWRuin
namespace TW
open PySem PySem.Spec PyProof.Rows L2
def smallMenu : D → Bool
  | .dK ks _ => decide (ks.length ≤ 1000)
  | _ => false
def D.isS : D → Bool
  | .str _ => true
  | _ => false
def sRuin (h o c l : Nat) (me : Rho → Res D) : Rho → Out := fun ρ => match ρ[h]?, ρ[l]? with
  | some (some (.dT ks ds)), some (some (.lst os)) =>
    if (ds.all smallMenu = true ∧ os.all D.isS = true ∧ ks ≠ [] ∧ os ≠ []) ∧ (ks.length ≤ 1000 ∧ os.length ≤ 100) ∧ (h ≠ o ∧ h ≠ c ∧ h ≠ l ∧ o ≠ c ∧ l ≠ o ∧ l ≠ c) ∧ (o < ρ.length ∧ c < ρ.length) then
      (match me (((ρ.set h (some .junk)).set o (some .junk)).set c (some .junk)) with
      | .ok v => if v.flat = true then .nx (((ρ.set h (some .junk)).set o (some .junk)).set c (some .junk)) else .stuck
      | _ => .stuck)
    else .stuck
  | _, _ => .stuck
section
variable {K : PySem.W.Frag} {F : Fr} {H0 H H' : Hp} {Γ : List Nat} {ρ : Rho} {σ σ' : L2.St} {S R : Nat → List Addr}
theorem strs_at {os : List D} {xs : List V} {A B : List Addr} {n : Nat} (hs : os.all D.isS = true) (hd : Dats K H os n xs A B) : ∀ x ∈ xs, ∃ s : Str, x = .str s := by
  intro x hx
  obtain ⟨i, hi⟩ := List.mem_iff_getElem?.mp hx
  have hl := hd.length
  obtain ⟨d, ed⟩ : ∃ d, os[i]? = some d := ⟨_, List.getElem?_eq_getElem (by have := (List.getElem?_eq_some_iff.mp hi).1; omega)⟩
  obtain ⟨y, S', R', ey, g, _, _⟩ := hd.get ed
  rw [hi] at ey
  cases ey
  have sm := List.all_eq_true.mp hs d (List.mem_of_getElem? ed)
  cases d with
  | str s => exact ⟨s, dat_str g⟩
  | _ => cases sm
end
section
variable {X : Cx} {W : WX} {Γ : List Nat} {n h o c l : Nat} {eh eh2 eo2 ec2 el e : Expr} {on cn : Str} {p1 p2 pA pB pC pD pE : Pos} {me : Rho → Res D}
end
end TW
-- TWIo
namespace TW
open PySem PySem.Spec PyProof.Rows L2
section
variable {X : Cx} {W : WX} {Γ Γ1 : List Nat}
end
def PostIo (K : PySem.W.Frag) (F : Addr → Prop) (S : Nat → List Addr) (H : Hp) (Q : VK) (x0 : V) (d : D) : Prop :=
  ∃ v s, d = .tup [v, s] ∧ v.flat = true ∧ ∀ x H' A B, (∀ c u, H c = some u → (∀ i, c ∉ S i) → H' c = some u) → Dat K H' v 0 x [] [] → Dat K H' s 99 x0 A B → A.Nodup → (∀ a ∈ A, (H a = none ∨ ∃ i, a ∈ S i) ∧ a ∉ B) → (∀ a ∈ B, ¬ F a) → (∀ a ∈ A, ¬ F a) → Q x H'
def spI (K : PySem.W.Frag) (mg : Str → Option Value) (Γ : List Nat) (ar : Nat) (m : List D → Res D) : Sp := fun vs H Q E => vs.length = ar ∧ ∃ (ds : List D) (F : Addr → Prop) (S R : Nat → List Addr) (x0 : V), ds.length = ar ∧ vs[0]? = some x0 ∧ ArgO K F Γ H vs ds S R ∧
  match m ds with
  | .ok d => PostIo K F S H Q x0 d
  | .exn c => ∀ C H', mg c = some (.ref C) → Same H H' → E (.ref C) none H'
  | .stuck => False
structure FnI (P : Program) (w : World) (K : PySem.W.Frag) (mg : Str → Option Value) (base : Heap) (x : Str) (k : Nat) (Γ : List Nat) (ar : Nat) (m : List D → Res D) : Prop where
  ex : ∃ (f : Addr) (fd : FuncData) (ps : List Str), FnOk P w K mg base (L2.CX P w) k f fd ps (spI K mg Γ ar m) ∧ mg x = some (.ref f) ∧ PySem.W.keepIn K (.ref f) = true ∧ Binds K fd ps []
theorem FnI.mono {P : Program} {w : World} {K : PySem.W.Frag} {mg : Str → Option Value} {base : Heap} {x : Str} {j k ar : Nat} {Γ : List Nat} {m : List D → Res D} (h : FnI P w K mg base x j Γ ar m) (hk : j ≤ k) : FnI P w K mg base x k Γ ar m := by
  obtain ⟨f, fd, ps, F, r⟩ := h.ex
  exact ⟨f, fd, ps, F.mono hk, r⟩
section
variable {K : PySem.W.Frag} {F : Fr} {H0 H H' : Hp} {Γ : List Nat} {ρ : Rho} {σ : L2.St} {S R : Nat → List Addr}
theorem Sto.swap {i k : Nat} {d s : D} {x : V} {A B : List Addr} (h : Sto K F H0 Γ ρ σ H S R) (hi : ρ[i]? = some (some d)) (hx : σ[i]? = some (some x)) (fr : ∀ c u, H c = some u → c ∉ S i → H' c = some u)
    (hd : Dat K H' s k x A B) (hk : Γ.getD i 0 = k) (nd : A.Nodup) (hA : ∀ a ∈ A, H a = none ∨ a ∈ S i) (hAB : ∀ a ∈ A, a ∉ B) (hAF : ∀ a ∈ A, ¬ F a) (hBF : ∀ b ∈ B, ¬ F b) (hBS : ∀ b ∈ B, ∀ j, j ≠ i → b ∉ S j) :
    ∃ S' R', Sto K F H0 Γ (ρ.set i (some s)) σ H' S' R' ∧ Keep S H H' ∧ Grow S H S' := by
  have il : i < ρ.length := (List.getElem?_eq_some_iff.mp hi).1
  have same : Same H0 H' := fun c u e => fr c u (h.same c u e) fun z => by
    have := h.new i c z
    rw [this] at e; cases e
  have nAS : ∀ a ∈ A, ∀ j, j ≠ i → a ∉ S j := fun a ha j hj z => by
    rcases hA a ha with q | q
    · exact h.domS j a z q
    · exact h.dj i j (Ne.symm hj) a q z
  have nAR : ∀ a ∈ A, ∀ j, a ∉ R j := fun a ha j z => by
    rcases hA a ha with q | q
    · exact h.domR j a z q
    · exact h.rs j i a z q
  have mu : ∀ c, ¬ Mut (H c) → c ∉ S i := fun c hc z => hc (h.mut i c z)
  refine ⟨fun j => if j = i then A else S j, fun j => if j = i then B else R j, ⟨same, by simp [h.len], fun j e q => ?_, fun j q => ?_, fun j a ha => ?_, fun j => ?_, fun j l hjl a ha hl => ?_, fun j l a ha hl => ?_, fun j a ha => ?_, fun j a ha => ?_, fun a ha => ?_, h.pin⟩, fun a o e hn => fr a o e (hn i), fun j a ha => ?_⟩
  · by_cases hj : j = i
    · subst hj
      rw [List.getElem?_set_self il] at q
      cases q
      rw [if_pos rfl, if_pos rfl, hk]
      exact ⟨x, hx, hd⟩
    · rw [List.getElem?_set_ne (Ne.symm hj)] at q
      obtain ⟨y, e1, g⟩ := h.slot j e q
      rw [if_neg hj, if_neg hj]
      refine ⟨y, e1, Dat.stay e _ y (S j) (R j) ⟨fun b xs z => fr b _ z (mu b (by rw [z]; exact id)), fun b o xs z => fr b _ z (mu b (by rw [z]; exact id)), fun b o xs z => fr b _ z (mu b (by rw [z]; exact id)), fun b hb o z => fr b o z (h.dj j i hj b hb), fun b hb o z => fr b o z (h.rs j i b hb)⟩ g⟩
  · by_cases hj : j = i
    · subst hj
      exact absurd (List.getElem?_set_self il) (q s)
    · rw [if_neg hj, if_neg hj]
      refine h.emp j fun e q' => q e ?_
      rw [List.getElem?_set_ne (Ne.symm hj)]
      exact q'
  · split at ha
    · rcases hA a ha with z | z
      · exact h.same.free z
      · exact h.new i a z
    · exact h.new j a ha
  · split
    · exact nd
    · exact h.nd j
  · split at ha
    · rename_i hj
      split at hl
      · omega
      · rename_i hl'
        exact nAS a ha l hl' hl
    · rename_i hj
      split at hl
      · exact nAS a hl j hj ha
      · exact h.dj j l hjl a ha hl
  · split at ha
    · split at hl
      · exact hAB a hl ha
      · rename_i hl'
        exact hBS a ha l hl' hl
    · split at hl
      · exact nAR a hl j ha
      · exact h.rs j l a ha hl
  · split at ha
    · exact hBF a ha
    · exact h.rf j a ha
  · split at ha
    · exact hAF a ha
    · exact h.sf j a ha
  · cases q : H a with
    | none => exact absurd q (h.fd a ha)
    | some u => rw [fr a u q fun z => h.sf i a z ha]; simp
  · dsimp only at ha
    split at ha
    · rcases hA a ha with z | z
      · exact .inr z
      · exact .inl ⟨i, z⟩
    · exact .inl ⟨j, ha⟩
end
section
end
inductive OutI where
  | ok (v : D) (ρ : Rho) | exn (c : Str) (ρ : Rho) | stuck
def PostI (X : Cx) (W : WX) (F : Fr) (H0 : Hp) (Γ : List Nat) (S : Nat → List Addr) (H : Hp) (σ : L2.St) (Q : VK) : OutI → Prop
  | .ok v ρ' => v.flat = true ∧ ∀ x H' S' R', Dat X.K H' v 0 x [] [] → Sto X.K F H0 Γ ρ' σ H' S' R' → Keep S H H' → Grow S H S' → Q x H'
  | .exn c ρ' => ∀ C H' S' R', X.mg c = some (.ref C) → Sto X.K F H0 Γ ρ' σ H' S' R' → Keep S H H' → Grow S H S' → W (.ref C) none σ H'
  | .stuck => False
section
variable {X : Cx} {W : WX} {Γ : List Nat}
theorem PostI.later {F : Fr} {H0 H H' : Hp} {S S' : Nat → List Addr} {σ : L2.St} {Q : VK} {o : OutI} (h : PostI X W F H0 Γ S H σ Q o) (k : Keep S H H') (g : Grow S H S') : PostI X W F H0 Γ S' H' σ Q o := by
  cases o with
  | ok v ρ' => exact ⟨h.1, fun x H2 S2 R2 d st k' g' => h.2 x H2 S2 R2 d st (k.trans g k') (g.trans k g')⟩
  | exn c ρ' => exact fun C H2 S2 R2 hc st k' g' => h C H2 S2 R2 hc st (k.trans g k') (g.trans k g')
  | stuck => exact h
def OutI.out (o : OutI) (f : D → Rho → Out) : Out := match o with
  | .ok v ρ => f v ρ
  | .exn c ρ => .ex c ρ
  | .stuck => .stuck
theorem Sto.fall {F : Fr} {H0 H : Hp} {K : PySem.W.Frag} {ρ : Rho} {σ : L2.St} {S R : Nat → List Addr} (st : Sto K F H0 Γ ρ σ H S R) : ∃ S' R', Sto K F.un H0 [] ρ σ H S' R' ∧ ∀ i, S' i = [] := by
  have q : ∀ i : Nat, ∃ R1 : List Addr, (∀ d, ρ[i]? = some (some d) → ∃ x, σ[i]? = some (some x) ∧ Dat K H d 0 x [] R1) ∧ (∀ a ∈ R1, ¬ F a) ∧ ((∀ d, ρ[i]? ≠ some (some d)) → R1 = []) := fun i => by
    by_cases e : ∃ d, ρ[i]? = some (some d)
    · obtain ⟨d, e⟩ := e
      obtain ⟨x, e1, g⟩ := st.slot i d e
      obtain ⟨S1, R1, g, sl, hr⟩ := Dat.weak d _ 0 x _ _ (Nat.zero_le _) g
      obtain rfl : S1 = [] := Dat.noS g
      refine ⟨R1, fun d' e' => ?_, fun a ha => ?_, fun z => absurd e (z d)⟩
      · rw [e] at e'; cases e'
        exact ⟨x, e1, g⟩
      · rcases hr a ha with ha | ha
        · exact st.sf i a ha
        · exact st.rf i a ha
    · exact ⟨[], fun d e' => absurd ⟨d, e'⟩ e, fun a z => by simp at z, fun _ => rfl⟩
  refine ⟨fun _ => [], fun i => Classical.choose (q i), ⟨st.same, st.len, fun i d e => ?_, fun i z => ?_, fun i a z => by simp at z, fun i => List.nodup_nil, fun i j _ a z => by simp at z, fun i j a _ z => by simp at z, fun i a ha => ?_, fun i a z => by simp at z, st.fd, fun i v q => nomatch q⟩, fun i => rfl⟩
  · exact (Classical.choose_spec (q i)).1 d e
  · exact ⟨rfl, (Classical.choose_spec (q i)).2.2 z⟩
  · exact (Classical.choose_spec (q i)).2.1 a ha
theorem PostS.ofI {F : Fr} {H0 H : Hp} {Γ' : List Nat} {n : Nat} {E : Ends} {S : Nat → List Addr} {σ : L2.St} {o : OutI} {f : D → Rho → Out} {Q : VK} (h : PostS X W F H0 Γ' n S H E (o.out f))
    (ok : ∀ v ρ', o = .ok v ρ' → v.flat = true ∧ ∀ x H' S' R', Dat X.K H' v 0 x [] [] → Sto X.K F H0 Γ ρ' σ H' S' R' → Keep S H H' → Grow S H S' → Q x H') : PostI X W F H0 Γ S H σ Q o := by
  cases o with
  | ok v ρ' => exact ok v ρ' rfl
  | exn c ρ' =>
    intro C H' S' R' hc st k g
    obtain ⟨S2, R2, st2, e2⟩ := st.fall
    exact h C σ H' S2 R2 hc st2 k fun i a ha => by rw [e2 i] at ha; simp at ha
  | stuck => exact h
end
end TW
-- TWDesk
namespace TW
open PySem PySem.Spec PyProof.Rows L2
class DeskAt where
  C : Nat
section
variable [DeskAt] {X : Cx} {W : WX} {Γ : List Nat} {n : Nat} {e o value : Expr} {pos pos' apos : Pos} {me m : Rho → Res D}
theorem Sto.field {F : Fr} {H0 H H1 : Hp} {ρ : Rho} {σ : L2.St} {S R : Nat → List Addr} {i : Nat} {C : Nat} {h t v h' t' : D} {y x1 y1 x' y' : V} {a dx : Addr} {A B S1 S2 R1 R2 S1' S2' R1' R2' : List Addr} (st : Sto X.K F H0 Γ ρ σ H S R) (s1 : Same H H1) (hΓ : Γ.getD i 0 = 99)
    (hi : ρ[i]? = some (some (.ins C h t))) (hx : σ[i]? = some (some (.ref a))) (qa : H a = some (.ins C dx [("house", x1), ("table", y1)])) (qd : H dx = some (.own a)) (eS : S i = a :: (S1 ++ S2)) (eR : R i = dx :: (R1 ++ R2))
    (hv : Dat X.K H1 v 98 y A B) (vB : ∀ b ∈ B, ¬ Av F S b) (nA : New H A B)
    (hh : ∃ (So Ro : List Addr) (d : D) (w : V), Dat X.K H d 98 w So Ro ∧ (∀ b ∈ So, b ∈ S1 ++ S2) ∧ So.Nodup ∧ (∀ b ∈ Ro, b ∈ R1 ++ R2) ∧
      ((h' = v ∧ x' = y ∧ S1' = A ∧ R1' = B ∧ t' = d ∧ y' = w ∧ S2' = So ∧ R2' = Ro) ∨ (t' = v ∧ y' = y ∧ S2' = A ∧ R2' = B ∧ h' = d ∧ x' = w ∧ S1' = So ∧ R1' = Ro))) :
    ∃ S' R', Sto X.K F H0 Γ (ρ.set i (some (.ins C h' t'))) σ (L2.upd H1 a (.ins C dx [("house", x'), ("table", y')])) S' R' ∧ Keep S H (L2.upd H1 a (.ins C dx [("house", x'), ("table", y')])) ∧ Grow S H S' := by
  have aS : a ∈ S i := by rw [eS]; exact List.mem_cons_self
  have inS : ∀ b ∈ S1 ++ S2, b ∈ S i := fun b hb => by rw [eS]; exact List.mem_cons_of_mem _ hb
  have inR : ∀ b ∈ R1 ++ R2, b ∈ R i := fun b hb => by rw [eR]; exact List.mem_cons_of_mem _ hb
  have dR : dx ∈ R i := by rw [eR]; exact List.mem_cons_self
  have ndS := st.nd i
  rw [eS] at ndS
  have aN : a ∉ S1 ++ S2 := (List.nodup_cons.mp ndS).1
  have adx : a ≠ dx := fun z => by rw [← z, qa] at qd; cases qd
  have aA : a ∉ A := fun z => by have := (nA.2 a z).1; rw [qa] at this; cases this
  have aB : a ∉ B := fun z => vB a z (.inr ⟨i, aS⟩)
  have aR : a ∉ R1 ++ R2 := fun z => st.rs i i a (inR a z) aS
  have stay : ∀ (So Ro : List Addr), a ∉ So → a ∉ Ro → Stay H1 (L2.upd H1 a (.ins C dx [("house", x'), ("table", y')])) So Ro := fun So Ro h1 h2 => by
    have e1 := s1 a _ qa
    have ne : ∀ {b o}, H1 b = some o → (∀ c d f, o ≠ .ins c d f) → b ≠ a := fun {b o} q hn z => by rw [z, e1] at q; cases q; exact hn _ _ _ rfl
    exact ⟨fun b xs q => by rw [upd_ne (ne q fun _ _ _ z => nomatch z)]; exact q, fun b o xs q => by rw [upd_ne (ne q fun _ _ _ z => nomatch z)]; exact q, fun b o xs q => by rw [upd_ne (ne q fun _ _ _ z => nomatch z)]; exact q,
      fun b hb o q => by rw [upd_ne (fun z => h1 (by rw [← z]; exact hb))]; exact q, fun b hb o q => by rw [upd_ne (fun z => h2 (by rw [← z]; exact hb))]; exact q⟩
  obtain ⟨So, Ro, d, w, gd, hSo, ndSo, hRo, hcase⟩ := hh
  have gv := Dat.stay _ _ _ _ _ (stay A B aA aB) hv
  have gd := Dat.stay _ _ _ _ _ (stay So Ro (fun z => aN (hSo a z)) (fun z => aR (hRo a z))) (gd.same s1)
  have hnew : ∀ b ∈ A, b ∉ So := fun b hb z => st.domS i b (inS b (hSo b z)) (nA.2 b hb).1
  have fin : ∀ (P Q' : List Addr), Dat X.K (L2.upd H1 a (.ins C dx [("house", x'), ("table", y')])) (.ins C h' t') 99 (.ref a) (a :: P) (dx :: Q') → P.Nodup → (∀ b ∈ P, b ∈ A ∨ b ∈ So) → (∀ b ∈ Q', b ∈ B ∨ b ∈ Ro) →
      ∃ S' R', Sto X.K F H0 Γ (ρ.set i (some (.ins C h' t'))) σ (L2.upd H1 a (.ins C dx [("house", x'), ("table", y')])) S' R' ∧ Keep S H (L2.upd H1 a (.ins C dx [("house", x'), ("table", y')])) ∧ Grow S H S' := fun P Q' g ndP hP hQ => by
    refine st.swap hi hx (fun c u e hn => ?_) g hΓ (List.nodup_cons.mpr ⟨fun z => ?_, ndP⟩) (fun b hb => ?_) (fun b hb hbq => ?_) (fun b hb z => ?_) (fun b hb z => ?_) (fun b hb j hj z => ?_)
    · rw [upd_ne (fun z => hn (by rw [z]; exact aS))]; exact s1 c u e
    · rcases hP a z with z | z
      · exact aA z
      · exact aN (hSo a z)
    · rcases List.mem_cons.mp hb with rfl | hb
      · exact .inr aS
      · rcases hP b hb with z | z
        · exact .inl (nA.2 b z).1
        · exact .inr (inS b (hSo b z))
    · rcases List.mem_cons.mp hbq with rfl | hbq
      · rcases List.mem_cons.mp hb with z | hb
        · exact adx z.symm
        · rcases hP _ hb with z | z
          · have := (nA.2 _ z).1
            rw [qd] at this; cases this
          · exact st.rs i i _ dR (inS _ (hSo _ z))
      · rcases List.mem_cons.mp hb with rfl | hb
        · rcases hQ _ hbq with z | z
          · exact aB z
          · exact aR (hRo _ z)
        · rcases hP b hb with z | z
          · rcases hQ b hbq with z' | z'
            · exact (nA.2 b z).2 z'
            · exact st.domR i b (inR b (hRo b z')) (nA.2 b z).1
          · rcases hQ b hbq with z' | z'
            · exact vB b z' (.inr ⟨i, inS b (hSo b z)⟩)
            · exact st.rs i i b (inR b (hRo b z')) (inS b (hSo b z))
    · rcases List.mem_cons.mp hb with rfl | hb
      · exact st.sf i _ aS z
      · rcases hP b hb with q | q
        · exact st.fd b z (nA.2 b q).1
        · exact st.sf i b (inS b (hSo b q)) z
    · rcases List.mem_cons.mp hb with rfl | hb
      · exact st.rf i _ dR z
      · rcases hQ b hb with q | q
        · exact vB b q (.inl z)
        · exact st.rf i b (inR b (hRo b q)) z
    · rcases List.mem_cons.mp hb with rfl | hb
      · exact st.rs i j _ dR z
      · rcases hQ b hb with q | q
        · exact vB b q (.inr ⟨j, z⟩)
        · exact st.rs i j b (inR b (hRo b q)) z
  have qd1 : L2.upd H1 a (.ins C dx [("house", x'), ("table", y')]) dx = some (.own a) := by rw [upd_ne (Ne.symm adx)]; exact s1 dx _ qd
  rcases hcase with ⟨rfl, rfl, rfl, rfl, rfl, rfl, rfl, rfl⟩ | ⟨rfl, rfl, rfl, rfl, rfl, rfl, rfl, rfl⟩
  · refine fin (S1' ++ S2') (R1' ++ R2') ?_ (List.nodup_append.mpr ⟨nA.1, ndSo, fun b hb c hc z => by subst z; exact hnew b hb hc⟩) (fun b hb => List.mem_append.mp hb) (fun b hb => List.mem_append.mp hb)
    unfold Dat
    exact ⟨a, dx, _, _, S1', S2', R1', R2', rfl, upd_same, qd1, rfl, rfl, gv, gd⟩
  · refine fin (S1' ++ S2') (R1' ++ R2') ?_ (List.nodup_append.mpr ⟨ndSo, nA.1, fun b hb c hc z => by subst z; exact hnew b hc hb⟩) (fun b hb => (List.mem_append.mp hb).symm) (fun b hb => (List.mem_append.mp hb).symm)
    unfold Dat
    exact ⟨a, dx, _, _, S1', S2', R1', R2', rfl, upd_same, qd1, rfl, rfl, gd, gv⟩
end
def spInit [DeskAt] : Sp := fun vs H Q _ => ∃ x dx, vs = [.ref x] ∧ H x = some (.ins DeskAt.C dx []) ∧ Q .non (L2.upd H x (.ins DeskAt.C dx [("house", .non), ("table", .non)]))
structure DeskG [DeskAt] (P : Program) (w : World) (K : PySem.W.Frag) (mg : Str → Option Value) (base : Heap) (k : Nat) : Prop where
  make : ∃ (f : Addr) (fd : FuncData), Mk K DeskAt.C f ∧ FnOk P w K mg base (L2.CX P w) k f fd ["self"] spInit ∧ Binds K fd ["self"] []
  mg : mg "Desk" = some (.ref DeskAt.C)
  cls : Cls K DeskAt.C
  h : NoAttr K DeskAt.C "house"
  t : NoAttr K DeskAt.C "table"
theorem DeskG.mono [DeskAt] {P : Program} {w : World} {K : PySem.W.Frag} {mg : Str → Option Value} {base : Heap} {j k : Nat} (h : DeskG P w K mg base j) (hk : j ≤ k) : DeskG P w K mg base k := by
  obtain ⟨f, fd, M, F, b⟩ := h.make
  exact ⟨⟨f, fd, M, F.mono hk, b⟩, h.mg, h.cls, h.h, h.t⟩
section
variable [DeskAt] {X : Cx} {W : WX} {Γ : List Nat} {n k i : Nat} {x : Str} {p pos pos' pos2 : Pos}
end
section
variable {X : Cx} {CX : CXT} {k : Nat} {f C : Addr} {fd : FuncData} {ps : List Str} {sp : Sp} {E : L2.St → XK} {m : Str} {pos apos : Pos} {e o : Expr} {es : List Expr} {ta : TE} {t : TA}
end
structure SayG [DeskAt] (P : Program) (w : World) (K : PySem.W.Frag) (mg : Str → Option Value) (base : Heap) (k : Nat) (Γ : List Nat) (m : List D → Res D) : Prop where
  ex : ∃ (f : Addr) (fd : FuncData), FnOk P w K mg base (L2.CX P w) k f fd ["self", "row"] (spI K mg Γ 2 m) ∧ Meth K DeskAt.C "say" f ∧ Binds K fd ["self", "row"] []
  cls : Cls K DeskAt.C
theorem SayG.mono [DeskAt] {P : Program} {w : World} {K : PySem.W.Frag} {mg : Str → Option Value} {base : Heap} {j k : Nat} {Γ : List Nat} {m : List D → Res D} (h : SayG P w K mg base j Γ m) (hk : j ≤ k) : SayG P w K mg base k Γ m := by
  obtain ⟨f, fd, F, r⟩ := h.ex
  exact ⟨⟨f, fd, F.mono hk, r⟩, h.cls⟩
section
variable [DeskAt] {X : Cx} {W : WX} {Γ : List Nat}
def RTI (X : Cx) (W : WX) (Γ : List Nat) (e : Expr) (m : Rho → OutI) : Prop :=
  ∃ t, PT X e t ∧ ∀ F H0 ρ σ H S R (Q : Bool → Hp → Prop), Sto X.K F H0 Γ ρ σ H S R → PostI X W F H0 Γ S H σ (fun x H' => ∃ b, x = .bl b ∧ Q b H') (m ρ) → t σ H Q
def i2 (g : D → D → Option D) (ma : Rho → OutI) (mb : Rho → Res D) : Rho → OutI := fun ρ => match ma ρ with
  | .ok v ρ' => if v.flat = true then (match mb ρ' with
    | .ok e => (match g v e with
      | some z => .ok z ρ'
      | none => .stuck)
    | .exn c => .exn c ρ'
    | .stuck => .stuck) else .stuck
  | .exn c ρ' => .exn c ρ'
  | .stuck => .stuck
end
section
variable {X : Cx} {W : WX} {Γ : List Nat} {n : Nat} {a : Expr} {x : Str} {p pos : Pos} {ma : Rho → Res D} {ss : List Str}
end
end TW
-- TWRo
namespace TW
open PySem PySem.Spec PyProof.Rows L2
structure SayR [DeskAt] (P : Program) (w : World) (K : PySem.W.Frag) (mg : Str → Option Value) (base : Heap) (k nf : Nat) (m : List D → Res D) : Prop where
  ex : ∃ (f : Addr) (fd : FuncData), FnOk P w K mg base (L2.CX P w) k f fd ["self", "row"] (spM K mg nf 2 m) ∧ Meth K DeskAt.C "say" f ∧ Binds K fd ["self", "row"] []
  cls : Cls K DeskAt.C
theorem SayR.mono [DeskAt] {P : Program} {w : World} {K : PySem.W.Frag} {mg : Str → Option Value} {base : Heap} {j k nf : Nat} {m : List D → Res D} (h : SayR P w K mg base j nf m) (hk : j ≤ k) : SayR P w K mg base k nf m := by
  obtain ⟨f, fd, F, r⟩ := h.ex
  exact ⟨⟨f, fd, F.mono hk, r⟩, h.cls⟩
section
variable [DeskAt] {X : Cx} {W : WX} {Γ : List Nat} {n : Nat}
end
section
variable {X : Cx} {W : WX} {n : Nat} {Γ Γz Γ1 : List Nat}
end
section
variable {X : Cx} {W : WX} {Γ Γ1 : List Nat} {n : Nat} {a b e : Expr} {rest : List Expr} {pos : Pos} {ma mb : Rho → OutI}
def RWI (X : Cx) (W : WX) (Γ : List Nat) (e : Expr) (m : Rho → OutI) : Prop :=
  ∃ t, PW X e t ∧ ∀ F H0 ρ σ H S R (Q : Bool → Hp → Prop), Sto X.K F H0 Γ ρ σ H S R → PostI X W F H0 Γ S H σ (fun x H' => ∃ b, x = .bl b ∧ Q b H') (m ρ) → t σ H Q
theorem RWI.t (h : RWI X W Γ a ma) : RTI X W Γ a ma := by
  obtain ⟨t, p, q⟩ := h
  exact ⟨t, p.pt, q⟩
end
end TW
-- TWDet
namespace TW
open PySem PySem.Spec PyProof.Rows L2
theorem runs_det {M : Model} {Γ : PySem.Ctx} {p : Pos} {t : Sem Fin} {fs : List Frame} {s : Shared} {e : End} {s' : Shared} (h : Runs M Γ p t fs s e s') : ∀ {e2 : End} {s2 : Shared}, Runs M Γ p t fs s e2 s2 → e = e2 ∧ s' = s2 := by
  induction h with
  | done => intro e2 s2 h2; cases h2; exact ⟨rfl, rfl⟩
  | raise => intro e2 s2 h2; cases h2; exact ⟨rfl, rfl⟩
  | again _ _ ih => intro e2 s2 h2; cases h2; exact ih ‹_›
  | rule _ ih => intro e2 s2 h2; cases h2; exact ih ‹_›
  | «at» _ ih => intro e2 s2 h2; cases h2; exact ih ‹_›
  | load q _ ih =>
    intro e2 s2 h2
    cases h2 with
    | load q2 r =>
      rw [q] at q2
      cases q2
      exact ih r
  | update _ _ ih => intro e2 s2 h2; cases h2; exact ih ‹_›
  | loadIfAlive _ ih => intro e2 s2 h2; cases h2; exact ih ‹_›
  | point _ ih => intro e2 s2 h2; cases h2; exact ih ‹_›
  | alloc _ ih => intro e2 s2 h2; cases h2; exact ih ‹_›
  | fresh _ ih => intro e2 s2 h2; cases h2; exact ih ‹_›
  | ask _ ih => intro e2 s2 h2; cases h2; exact ih ‹_›
  | choose _ _ ih => intro e2 s2 h2; cases h2; exact ih ‹_›
  | os _ ih => intro e2 s2 h2; cases h2; exact ih ‹_›
  | handled _ ih => intro e2 s2 h2; cases h2; exact ih ‹_›
  | genState q _ ih =>
    intro e2 s2 h2
    cases h2 with
    | genState q2 r =>
      rw [q] at q2
      cases q2
      exact ih r
  | stack _ ih => intro e2 s2 h2; cases h2; exact ih ‹_›
  | thread _ ih => intro e2 s2 h2; cases h2; exact ih ‹_›
  | newGen _ ih => intro e2 s2 h2; cases h2; exact ih ‹_›
  | call _ _ ih1 ih2 =>
    intro e2 s2 h2
    cases h2 with
    | call a b =>
      obtain ⟨e1, rfl⟩ := ih1 a
      cases e1
      exact ih2 b
    | callSusp a =>
      obtain ⟨e1, _⟩ := ih1 a
      cases e1
  | callSusp _ ih1 =>
    intro e2 s2 h2
    cases h2 with
    | call a b =>
      obtain ⟨e1, _⟩ := ih1 a
      cases e1
    | callSusp a =>
      obtain ⟨e1, rfl⟩ := ih1 a
      cases e1
      exact ⟨rfl, rfl⟩
  | yield => intro e2 s2 h2; cases h2; exact ⟨rfl, rfl⟩
  | resumeFresh q _ _ _ ih1 ih2 =>
    intro e2 s2 h2
    cases h2 with
    | resumeFresh q2 a _ b =>
      rw [q] at q2
      cases q2
      obtain ⟨rfl, rfl⟩ := ih1 a
      exact ih2 b
    | resumeSuspended q2 _ _ _ => rw [q] at q2; cases q2
    | resumeJustStarted q2 hv _ => exact absurd rfl hv
    | resumeRunning q2 _ => rw [q] at q2; cases q2
    | resumeFinished q2 _ => rw [q] at q2; cases q2
  | resumeSuspended q _ _ _ ih1 ih2 =>
    intro e2 s2 h2
    cases h2 with
    | resumeFresh q2 _ _ _ => rw [q] at q2; cases q2
    | resumeSuspended q2 a _ b =>
      rw [q] at q2
      cases q2
      obtain ⟨rfl, rfl⟩ := ih1 a
      exact ih2 b
    | resumeJustStarted q2 _ _ => rw [q] at q2; cases q2
    | resumeThrowFresh q2 _ => rw [q] at q2; cases q2
    | resumeRunning q2 _ => rw [q] at q2; cases q2
    | resumeFinished q2 _ => rw [q] at q2; cases q2
  | resumeJustStarted q hv _ ih =>
    intro e2 s2 h2
    cases h2 with
    | resumeFresh q2 _ _ _ => exact absurd rfl hv
    | resumeSuspended q2 _ _ _ => rw [q] at q2; cases q2
    | resumeJustStarted _ _ a => exact ih a
    | resumeRunning q2 _ => rw [q] at q2; cases q2
    | resumeFinished q2 _ => rw [q] at q2; cases q2
  | resumeThrowFresh q _ ih =>
    intro e2 s2 h2
    cases h2 with
    | resumeSuspended q2 _ _ _ => rw [q] at q2; cases q2
    | resumeThrowFresh _ a => exact ih a
    | resumeRunning q2 _ => rw [q] at q2; cases q2
    | resumeFinished q2 _ => rw [q] at q2; cases q2
  | resumeRunning q _ ih =>
    intro e2 s2 h2
    cases h2 with
    | resumeFresh q2 _ _ _ => rw [q] at q2; cases q2
    | resumeSuspended q2 _ _ _ => rw [q] at q2; cases q2
    | resumeJustStarted q2 _ _ => rw [q] at q2; cases q2
    | resumeThrowFresh q2 _ => rw [q] at q2; cases q2
    | resumeRunning _ a => exact ih a
    | resumeFinished q2 _ => rw [q] at q2; cases q2
  | resumeFinished q _ ih =>
    intro e2 s2 h2
    cases h2 with
    | resumeFresh q2 _ _ _ => rw [q] at q2; cases q2
    | resumeSuspended q2 _ _ _ => rw [q] at q2; cases q2
    | resumeJustStarted q2 _ _ => rw [q] at q2; cases q2
    | resumeThrowFresh q2 _ => rw [q] at q2; cases q2
    | resumeRunning q2 _ => rw [q] at q2; cases q2
    | resumeFinished _ a => exact ih a
  | segRet _ _ ih1 ih2 =>
    intro e2 s2 h2
    cases h2 with
    | segRet a b =>
      obtain ⟨e1, rfl⟩ := ih1 a
      cases e1
      exact ih2 b
    | segSuspOut _ a => obtain ⟨e1, _⟩ := ih1 a; cases e1
    | segSuspGen _ a _ _ => obtain ⟨e1, _⟩ := ih1 a; cases e1
  | segGen _ _ ih1 ih2 =>
    intro e2 s2 h2
    cases h2 with
    | segGen a b =>
      obtain ⟨e1, rfl⟩ := ih1 a
      cases e1
      exact ih2 b
    | segSuspOut _ a => obtain ⟨e1, _⟩ := ih1 a; cases e1
    | segSuspGen _ a _ _ => obtain ⟨e1, _⟩ := ih1 a; cases e1
  | segSuspOut q _ ih1 =>
    intro e2 s2 h2
    cases h2 with
    | segRet a _ => obtain ⟨e1, _⟩ := ih1 a; cases e1
    | segGen a _ => obtain ⟨e1, _⟩ := ih1 a; cases e1
    | segSuspOut _ a =>
      obtain ⟨e1, rfl⟩ := ih1 a
      cases e1
      exact ⟨rfl, rfl⟩
    | segSuspGen q2 _ _ _ => rw [q] at q2; cases q2
  | segSuspGen q _ _ _ ih1 ih2 =>
    intro e2 s2 h2
    cases h2 with
    | segRet a _ => obtain ⟨e1, _⟩ := ih1 a; cases e1
    | segGen a _ => obtain ⟨e1, _⟩ := ih1 a; cases e1
    | segSuspOut q2 _ => rw [q] at q2; cases q2
    | segSuspGen q2 a _ b =>
      rw [q] at q2
      cases q2
      obtain ⟨e1, rfl⟩ := ih1 a
      cases e1
      exact ih2 b
theorem codeAny_and {M : Model} {A : Around} {c : Code} {R R' : Result → Shared → Prop} {s : Shared} (h : codeAny M A c R s) (h' : codeAny M A c R' s) : codeAny M A c (fun r s' => R r s' ∧ R' r s') s := fun Γ p hc hb => by
  obtain ⟨r, s1, q1, hR⟩ := h Γ p hc hb
  obtain ⟨r2, s2, q2, hR2⟩ := h' Γ p hc hb
  obtain ⟨e1, rfl⟩ := runs_det q1 q2
  cases e1
  exact ⟨r, s1, q1, hR, hR2⟩
end TW
-- TWTwo
namespace TW
open PySem PySem.Spec PyProof.Rows L2
def thawH (H : Hp) : Hp := fun b => match H b with
  | some (.frz _ (.tup xs)) => some (.tup xs)
  | u => u
section
variable {H : Hp} {b : Addr}
theorem thaw_ft {o : Obj} {xs : List V} (h : H b = some (.frz o (.tup xs))) : thawH H b = some (.tup xs) := by unfold thawH; rw [h]
theorem thaw_of {u : HO} (h : H b = some u) (hu : ∀ o xs, u ≠ .frz o (.tup xs)) : thawH H b = some u := by
  unfold thawH
  rw [h]
  split
  · rename_i o xs e
    exact absurd (Option.some.inj e) (hu _ _)
  · rfl
theorem thaw_none (h : H b = none) : thawH H b = none := by unfold thawH; rw [h]
end
section
variable {P : Program} {w : World} {H H1 : Hp} {h h' : Heap}
theorem hok_thaw (x : HOk P w H h) : HOk P w (thawH H) h := fun b u e => by
  cases eb : H b with
  | none => rw [thaw_none eb] at e; cases e
  | some v =>
    by_cases f : FT H b
    · obtain ⟨o, xs, q⟩ := f
      rw [thaw_ft q] at e
      cases e
      exact (x b _ q).2
    · rw [thaw_of eb fun o xs z => f ⟨o, xs, by rw [eb, z]⟩] at e
      cases e
      exact (x b _ eb).stay (fun _ _ _ q => q) (fun c q => thaw_of q fun o xs z => nomatch z) fun c xs q => thaw_of q fun o xs z => nomatch z
end
section
variable {P : Program} {w : World} {K : PySem.W.Frag} {mg : Str → Option Value} {base : Heap} {k : Nat} {f : Addr} {fd : FuncData} {ps : List Str} {sp : Sp}
theorem FnOk.two (F : FnOk P w K mg base (L2.CX P w) k f fd ps sp) : FnOk P w K mg base (L2.CX P w) k f fd ps
    (fun vs H Q _ => ∃ Q1 Q2 : VK, sp vs H Q1 (fun _ _ _ => False) ∧ sp vs (thawH H) Q2 (fun _ _ _ => False) ∧ ∀ (h' : Heap) (u : Value) v1 H1 v2 H2, HOk P w H1 h' → HOk P w H2 h' → RelV v1 u → RelV v2 u → Q1 v1 H1 → Q2 v2 H2 → Q v1 H1) where
  len := fun vs H Q E h => by
    obtain ⟨Q1, Q2, h1, _⟩ := h
    exact F.len vs _ _ _ h1
  run := fun A outer s H args us vs Q E hr he hb hv hs => by
    obtain ⟨Q1, Q2, h1, h2, link⟩ := hs
    have he' : Env0 P w K mg base A outer s (thawH H) := ⟨he.frames, he.mod, fun b o q => ⟨(he.bs b o q).1, thaw_none (he.bs b o q).2⟩, he.bsz, he.funs, fun b q => thaw_none (he.frf b q), hok_thaw he.hok, he.bare⟩
    refine codeAny_mono (codeAny_and (F.run A outer s H args us vs _ _ hr he hb hv h1) (F.run A outer s (thawH H) args us vs _ _ hr he' hb hv h2)) fun r s' hq => ?_
    obtain ⟨q1, q2⟩ := hq
    cases r with
    | error e =>
      obtain ⟨_, _, _, _, _, _, _, _, _, _, _, _, z⟩ := (show L2.CX P w outer H s (fun _ _ _ => False) e s' from q1)
      exact z.elim
    | ok fl =>
      cases fl with
      | ret u =>
        obtain ⟨v1, H1, os, ag, un, hok, rv, g1⟩ := (show CE outer P w H s _ u s' from q1)
        obtain ⟨v2, H2, _, _, _, hok2, rv2, g2⟩ := (show CE outer P w (thawH H) s _ u s' from q2)
        exact (show CE outer P w H s Q u s' from ⟨v1, H1, os, ag, un, hok, rv, link s'.heap u v1 H1 v2 H2 hok hok2 rv rv2 g1 g2⟩)
      | next => exact False.elim q1
      | brk => exact False.elim q1
      | cont => exact False.elim q1
end
mutual
def D.fgt : D → D
  | .ftup l => .tup (D.fgts l)
  | .tup l => .tup (D.fgts l)
  | .lst l => .lst (D.fgts l)
  | .dK ks l => .dK ks (D.fgts l)
  | .dT ks l => .dT ks (D.fgts l)
  | .ins C h t => .ins C h.fgt t.fgt
  | d => d
def D.fgts : List D → List D
  | [] => []
  | d :: ds => d.fgt :: D.fgts ds
end
section
variable {K : PySem.W.Frag} {H : Hp}
mutual
theorem Dat.fgt : ∀ (d : D) (n : Nat) (v : V) (S R : List Addr), Dat K H d n v S R → Dat K (thawH H) d.fgt n v S R
  | .non, _, _, _, _, h => by simpa [Dat, D.fgt] using h
  | .bl b, _, _, _, _, h => by simpa [Dat, D.fgt] using h
  | .int i, _, _, _, _, h => by simpa [Dat, D.fgt] using h
  | .str s, _, _, _, _, h => by simpa [Dat, D.fgt] using h
  | .junk, _, _, _, _, h => by simpa [Dat, D.fgt] using h
  | .nul es, _, _, _, _, h => by
    simp only [Dat, D.fgt] at h ⊢
    obtain ⟨e1, a, e2, ⟨o, q, g⟩, e3⟩ := h
    exact ⟨e1, a, e2, ⟨o, thaw_of q (fun o xs z => nomatch z), g⟩, e3⟩
  | .ins C a b, 0, v, S, R, e => by
    simp only [Dat, D.fgt] at e ⊢
    obtain ⟨p, dx, x, y, R1, R2, rfl, q1, q2, rfl, rfl, h1, h2⟩ := e
    exact ⟨p, dx, x, y, R1, R2, rfl, thaw_of q1 (fun o xs z => nomatch z), thaw_of q2 (fun o xs z => nomatch z), rfl, rfl, Dat.fgt a 0 x [] R1 h1, Dat.fgt b 0 y [] R2 h2⟩
  | .ins C a b, n + 1, v, S, R, e => by
    simp only [Dat, D.fgt] at e ⊢
    obtain ⟨p, dx, x, y, S1, S2, R1, R2, rfl, q1, q2, rfl, rfl, h1, h2⟩ := e
    exact ⟨p, dx, x, y, S1, S2, R1, R2, rfl, thaw_of q1 (fun o xs z => nomatch z), thaw_of q2 (fun o xs z => nomatch z), rfl, rfl, Dat.fgt a n x S1 R1 h1, Dat.fgt b n y S2 R2 h2⟩
  | .scr l, _, _, _, _, h => by
    simp only [Dat, D.fgt] at h ⊢
    obtain ⟨⟨a, e, q⟩, h⟩ := h
    exact ⟨⟨a, e, q.imp (fun ⟨o, q⟩ => ⟨o, thaw_of q fun o xs z => nomatch z⟩) id⟩, h⟩
  | .lst ds, 0, v, S, R, h => by
    simp only [Dat, D.fgt] at h ⊢
    obtain ⟨a, xs, R', rfl, q, rfl, rfl, hd⟩ := h
    exact ⟨a, xs, R', rfl, thaw_of q (fun o xs z => nomatch z), rfl, rfl, Dats.fgt ds 0 xs [] R' hd⟩
  | .lst ds, n + 1, v, S, R, h => by
    simp only [Dat, D.fgt] at h ⊢
    obtain ⟨a, xs, S', rfl, q, rfl, hd⟩ := h
    exact ⟨a, xs, S', rfl, thaw_of q (fun o xs z => nomatch z), rfl, Dats.fgt ds n xs S' R hd⟩
  | .tup ds, n, v, S, R, h => by
    simp only [Dat, D.fgt] at h ⊢
    obtain ⟨a, xs, rfl, q, hd⟩ := h
    exact ⟨a, xs, rfl, thaw_of q (fun o xs z => nomatch z), Dats.fgt ds (n - 1) xs S R hd⟩
  | .ftup ds, n, v, S, R, h => by
    simp only [Dat, D.fgt] at h ⊢
    obtain ⟨a, xs, rfl, ⟨o, _, q⟩, hd⟩ := h
    exact ⟨a, xs, rfl, thaw_ft q, Dats.fgt ds (n - 1) xs S R hd⟩
  | .dK ks ds, 0, v, S, R, h => by
    simp only [Dat, D.fgt] at h ⊢
    obtain ⟨a, ws, R', rfl, q, hk, rfl, rfl, hd⟩ := h
    exact ⟨a, ws, R', rfl, q.imp (fun q => thaw_of q fun o xs z => nomatch z) (fun ⟨o, q⟩ => ⟨o, thaw_of q fun o xs z => nomatch z⟩), hk, rfl, rfl, Dats.fgt ds 0 _ [] R' hd⟩
  | .dK ks ds, n + 1, v, S, R, h => by
    simp only [Dat, D.fgt] at h ⊢
    obtain ⟨a, ws, S', rfl, q, hk, rfl, hd⟩ := h
    exact ⟨a, ws, S', rfl, thaw_of q (fun o xs z => nomatch z), hk, rfl, Dats.fgt ds n _ S' R hd⟩
  | .dT ks ds, 0, v, S, R, h => by
    simp only [Dat, D.fgt] at h ⊢
    obtain ⟨a, ws, R', rfl, q, hk, rfl, rfl, hd⟩ := h
    exact ⟨a, ws, R', rfl, q.imp (fun q => thaw_of q fun o xs z => nomatch z) (fun ⟨o, q⟩ => ⟨o, thaw_of q fun o xs z => nomatch z⟩), hk, rfl, rfl, Dats.fgt ds 0 _ [] R' hd⟩
  | .dT ks ds, n + 1, v, S, R, h => by
    simp only [Dat, D.fgt] at h ⊢
    obtain ⟨a, ws, S', rfl, q, hk, rfl, hd⟩ := h
    exact ⟨a, ws, S', rfl, thaw_of q (fun o xs z => nomatch z), hk, rfl, Dats.fgt ds n _ S' R hd⟩
theorem Dats.fgt : ∀ (ds : List D) (n : Nat) (xs : List V) (S R : List Addr), Dats K H ds n xs S R → Dats K (thawH H) (D.fgts ds) n xs S R
  | [], _, _, _, _, h => by simpa [Dats, D.fgts] using h
  | d :: ds, n, xs, S, R, h => by
    simp only [Dats, D.fgts] at h ⊢
    obtain ⟨x, xs', S1, S2, R1, R2, rfl, rfl, rfl, h1, h2⟩ := h
    exact ⟨x, xs', S1, S2, R1, R2, rfl, rfl, rfl, Dat.fgt d n x S1 R1 h1, Dats.fgt ds n xs' S2 R2 h2⟩
end
end
def rowsOk (rows : List D) : Prop := ∀ d ∈ rows, rowK d ≠ none
instance {rows : List D} : Decidable (rowsOk rows) := by unfold rowsOk; infer_instance
def mTwo (m : List D → Res D) : List D → Res D := fun ds => match m ds with
  | .ok (.lst rows) => (match m (D.fgts ds) with
    | .ok (.lst rows2) => if rowsOk rows ∧ rowsOk rows2 then .ok (.lst rows) else .stuck
    | _ => .stuck)
  | _ => .stuck
def spT (K : PySem.W.Frag) (n ar : Nat) (m : List D → Res D) : Sp := fun vs H Q E => vs.length = ar ∧ ∃ (ds : List D) (F : Addr → Prop) (R : List Addr), (∀ a, F a → H a ≠ none) ∧ Dats K H ds 0 vs [] R ∧ (∀ a ∈ R, ¬ F a) ∧
  match mTwo m ds with
  | .ok d => PostN K F n H Q d
  | _ => False
theorem vals_refs : ∀ {bs : List Addr} {us : List Value}, Vals (bs.map V.ref) us → us = bs.map Value.ref
  | [], us, h => by cases h; rfl
  | b :: bs, us, h => by
    cases h with
    | cons r t =>
      rw [vals_refs t]
      cases r
      rfl
section
variable {K : PySem.W.Frag} {H : Hp}
theorem rows_dats {n : Nat} : ∀ {rows : List D} {bs : List Addr}, bs.length = rows.length → (∀ (i : Nat) (b : Addr), bs[i]? = some b → ∃ d k o, rows[i]? = some d ∧ rowK d = some k ∧ o.dict = none ∧ H b = some (.frz o (.tup (k.map kV)))) → Dats K H rows n (bs.map V.ref) [] []
  | [], [], _, _ => Dats.nil
  | d :: rows, b :: bs, hl, h => by
    obtain ⟨d', k, o, e1, e2, od, e3⟩ := h 0 b rfl
    cases e1
    refine Dats.cons (S1 := []) (R1 := []) (S2 := []) (R2 := []) ?_ (rows_dats (by simpa using hl) fun i c ec => h (i + 1) c ec)
    cases d with
    | ftup l =>
      unfold Dat
      exact ⟨b, k.map kV, rfl, ⟨o, od, e3⟩, keys_dats e2⟩
    | _ => cases e2
end
section
variable {P : Program} {w : World} {K : PySem.W.Frag} {mg : Str → Option Value} {base : Heap} {k n ar : Nat} {f : Addr} {fd : FuncData} {ps : List Str} {m : List D → Res D}
open Classical in
theorem spT_of (F : FnOk P w K mg base (L2.CX P w) k f fd ps (spM K mg (n + 1) ar m)) : FnOk P w K mg base (L2.CX P w) k f fd ps (spT K (n + 1) ar m) := by
  refine (FnOk.two F).imp fun vs H Q E h => ?_
  obtain ⟨hl, ds, Fb, R, hF, hd, hR, po⟩ := h
  unfold mTwo at po
  cases em : m ds with
  | exn c => rw [em] at po; exact po.elim
  | stuck => rw [em] at po; exact po.elim
  | ok d =>
    rw [em] at po
    cases d with
    | lst rows =>
      dsimp only at po
      cases em2 : m (D.fgts ds) with
      | exn c => rw [em2] at po; exact po.elim
      | stuck => rw [em2] at po; exact po.elim
      | ok d2 =>
        rw [em2] at po
        cases d2 with
        | lst rows2 =>
          dsimp only at po
          by_cases hc : rowsOk rows ∧ rowsOk rows2
          case neg => rw [if_neg hc] at po; exact po.elim
          rw [if_pos hc] at po
          dsimp only at po
          refine ⟨fun x H1 => ∃ A B, Same H H1 ∧ Dat K H1 (.lst rows) (n + 1) x A B ∧ (∀ a ∈ B, ¬ Fb a) ∧ New H A B, fun x H2 => ∃ A B, Same (thawH H) H2 ∧ Dat K H2 (.lst rows2) (n + 1) x A B,
            ⟨hl, ds, Fb, R, hF, hd, hR, by rw [em]; exact fun x H' A B sm dd hB nw => ⟨A, B, sm, dd, hB, nw rfl⟩⟩, ⟨hl, D.fgts ds, fun _ => False, R, fun _ z => z.elim, Dats.fgt ds 0 vs [] R hd, fun _ _ z => z, by rw [em2]; exact fun x H' A B sm dd hB nw => ⟨A, B, sm, dd⟩⟩, ?_⟩
          rintro h' u v1 H1 v2 H2 hok1 hok2 r1 r2 ⟨A, B, sm1, d1, hB, nw⟩ ⟨A2, B2, sm2, d2⟩
          obtain ⟨ap, bs, rfl, hap, hbl, hbs⟩ := rows_at hc.1 d1
          obtain ⟨ap2, bs2, rfl, hap2, hbl2, hbs2⟩ := rows_at hc.2 d2
          -- the same list
          have ea : ap2 = ap := by
            have q1 : u = Value.ref ap := r1
            have q2 : u = Value.ref ap2 := r2
            rw [q1] at q2
            cases q2; rfl
          subst ea
          obtain ⟨_, its1, m1, vl1, g1⟩ := (show ObjOk P w H1 h' ap2 (.lst (bs.map V.ref)) from hok1 _ _ hap)
          obtain ⟨_, its2, m2, vl2, g2⟩ := (show ObjOk P w H2 h' ap2 (.lst (bs2.map V.ref)) from hok2 _ _ hap2)
          rw [g1] at g2
          have ei : its1.toArray = its2.toArray := by
            have := congrArg Obj.data (Option.some.inj g2)
            exact (Data.seq.inj this).1
          have ei : its1 = its2 := by
            have := congrArg Array.toList ei
            simpa using this
          have eb : bs = bs2 := by
            have q1 := vals_refs vl1
            have q2 := vals_refs vl2
            rw [ei, q2] at q1
            exact (List.map_inj_right (fun a b e => by cases e; rfl) |>.mp q1).symm
          subst eb
          -- its tuples are new
          have newb : ∀ (i : Nat) (b : Addr), bs[i]? = some b → H b = none := fun i b e => by
            obtain ⟨_, _, o2, _, _, _, q2⟩ := hbs2 i b e
            obtain ⟨_, _, o1, _, _, _, q1⟩ := hbs i b e
            cases eH : H b with
            | none => rfl
            | some v =>
              by_cases z : FT H b
              · obtain ⟨o, xs, q⟩ := z
                have := sm2 b _ (thaw_ft q)
                rw [q2] at this; cases this
              · have a1 := sm1 b v eH
                rw [q1] at a1
                exact absurd ⟨o1, _, by rw [eH]; exact a1.symm⟩ z
          obtain ⟨nd, nwp⟩ := nw
          have apA : ap2 ∈ A := by
            simp only [Dat] at d1
            obtain ⟨a, xs, S', e0, _, rfl, _⟩ := d1
            cases e0
            exact List.mem_cons_self
          have hapn := nwp ap2 apA
          let Hs : Hp := fun c => if FT H c then none else H1 c
          have hs_of : ∀ c u, H1 c = some u → ¬ FT H c → Hs c = some u := fun c u q z => by show (if FT H c then none else H1 c) = _; rw [if_neg z]; exact q
          have nFT : ∀ c, H c = none → ¬ FT H c := fun c q ⟨o, xs, e⟩ => by rw [q] at e; cases e
          refine po (.ref ap2) H1 [ap2] [] Hs sm1 ?_ (fun c u q => ?_) (fun b q => ?_) (fun a z => by simp at z) ⟨by simp, fun a ha => by rw [List.mem_singleton.mp ha]; exact ⟨hapn.1, by simp⟩⟩
          · unfold Dat
            exact ⟨ap2, bs.map V.ref, [], rfl, hs_of _ _ hap (nFT _ hapn.1), rfl, rows_dats hbl fun i b e => by
              obtain ⟨d, k, o, e1, e2, od, e3⟩ := hbs i b e
              exact ⟨d, k, o, e1, e2, od, hs_of _ _ e3 (nFT _ (newb i b e))⟩⟩
          · have q : (if FT H c then none else H1 c) = some u := q
            by_cases z : FT H c
            · rw [if_pos z] at q; cases q
            · rw [if_neg z] at q; exact q
          · obtain ⟨o, xs, q⟩ := q
            have q : (if FT H b then none else H1 b) = some (.frz o (.tup xs)) := q
            by_cases z : FT H b
            · rw [if_pos z] at q; cases q
            · rw [if_neg z] at q
              cases e : H b with
              | none => rfl
              | some u =>
                have := sm1 b u e
                rw [q] at this
                exact absurd ⟨o, xs, by rw [e]; exact this.symm⟩ z
        | _ => exact po.elim
    | _ => exact po.elim
end
structure FnT (P : Program) (w : World) (K : PySem.W.Frag) (mg : Str → Option Value) (base : Heap) (x : Str) (k n ar : Nat) (m : List D → Res D) : Prop where
  ex : ∃ (f : Addr) (fd : FuncData) (ps : List Str), FnOk P w K mg base (L2.CX P w) k f fd ps (spT K n ar m) ∧ mg x = some (.ref f) ∧ PySem.W.keepIn K (.ref f) = true ∧ Binds K fd ps []
theorem FnG.t {P : Program} {w : World} {K : PySem.W.Frag} {mg : Str → Option Value} {base : Heap} {x : Str} {k n ar : Nat} {m : List D → Res D} (h : FnG P w K mg base x k (n + 1) ar m) : FnT P w K mg base x k (n + 1) ar m := by
  obtain ⟨f, fd, ps, F, r⟩ := h.ex
  exact ⟨f, fd, ps, spT_of F, r⟩
end TW
-- TWTab2
namespace TW
open PySem PySem.Spec PyProof.Rows L2
section
variable {X : Cx} {W : WX} {Γ : List Nat} {n nf k ar t x : Nat} {e e1 o b : Expr} {es : List Expr} {fx xn : Str} {p p1 pos pos' pos0 pos2 : Pos} {ma : Rho → Res (List D)} {me : Rho → Res D} {m : List D → Res D}
end
end TW
namespace TW
open PySem PySem.Spec PyProof.Rows L2
theorem FnG.t1 {P : Program} {w : World} {K : PySem.W.Frag} {mg : Str → Option Value} {base : Heap} {x : Str} {k ar : Nat} {m : List D → Res D} (h : FnG P w K mg base x k 1 ar m) : FnT P w K mg base x k 1 ar m := h.t
end TW
namespace TW
open PySem PySem.Spec PyProof.Rows L2
def mJoinX (s : Str) (me : Rho → Res D) : Rho → Res D := fun ρ => (me ρ).bind fun y => ofO (gJoin (.str s) y)
@[simp] theorem mJoinX_eq {s : Str} {me : Rho → Res D} {ρ : Rho} : mJoinX s me ρ = (me ρ).bind fun y => ofO (gJoin (.str s) y) := id rfl
section
variable {X : Cx} {W : WX} {Γ : List Nat} {n : Nat} {o e : Expr} {me : Rho → Res D} {apos cpos : Pos}
end
end TW
-- TWStay
namespace TW
open PySem PySem.Spec PyProof.Rows L2
section
variable {X : Cx} {W : WX} {Γ Γ1 : List Nat}
end
def spI3 (K : PySem.W.Frag) (mg : Str → Option Value) (Γ : List Nat) (ar : Nat) (m : List D → Res D) : Sp := fun vs H Q E => vs.length = ar ∧ ∃ (ds : List D) (F : Addr → Prop) (S R : Nat → List Addr) (x0 : V), ds.length = ar ∧ vs[3]? = some x0 ∧ ArgO K F Γ H vs ds S R ∧
  match m ds with
  | .ok d => PostIo K F S H Q x0 d
  | _ => False
structure FnI3 (P : Program) (w : World) (K : PySem.W.Frag) (mg : Str → Option Value) (base : Heap) (x : Str) (k : Nat) (Γ : List Nat) (ar : Nat) (m : List D → Res D) : Prop where
  ex : ∃ (f : Addr) (fd : FuncData) (ps : List Str), FnOk P w K mg base (L2.CX P w) k f fd ps (spI3 K mg Γ ar m) ∧ mg x = some (.ref f) ∧ PySem.W.keepIn K (.ref f) = true ∧ Binds K fd ps []
theorem FnI3.mono {P : Program} {w : World} {K : PySem.W.Frag} {mg : Str → Option Value} {base : Heap} {x : Str} {j k ar : Nat} {Γ : List Nat} {m : List D → Res D} (h : FnI3 P w K mg base x j Γ ar m) (hk : j ≤ k) : FnI3 P w K mg base x k Γ ar m := by
  obtain ⟨f, fd, ps, F, r⟩ := h.ex
  exact ⟨f, fd, ps, F.mono hk, r⟩
section
variable {X : Cx} {W : WX} {Γ : List Nat}
end
end TW
-- TWStay2
namespace TW
open PySem PySem.Spec PyProof.Rows L2
section
variable {X : Cx} {W : WX} {Γ : List Nat} {n i : Nat} {pos pt : Pos}
def sAppT4 (i : Nat) (me m2 : Rho → Res D) (j1 j2 : Nat) : Rho → Out := fun ρ => match ρ[i]?, ρ[j1]?, ρ[j2]?, me ρ, m2 ρ with
  | some (some (.lst l)), some (some d1), some (some d2), .ok v, .ok u => if v.sha 0 = true ∧ u.sha 0 = true ∧ l.length < sizeLine then .nx (((ρ.set j1 none).set j2 none).set i (some (.lst (l ++ [.tup [v, u, d1, d2]])))) else .stuck
  | _, _, _, _, _ => .stuck
@[simp] theorem sAppT4_eq {i j1 j2 : Nat} {me m2 : Rho → Res D} {ρ : Rho} : sAppT4 i me m2 j1 j2 ρ = match ρ[i]?, ρ[j1]?, ρ[j2]?, me ρ, m2 ρ with
  | some (some (.lst l)), some (some d1), some (some d2), .ok v, .ok u => if v.sha 0 = true ∧ u.sha 0 = true ∧ l.length < sizeLine then .nx (((ρ.set j1 none).set j2 none).set i (some (.lst (l ++ [.tup [v, u, d1, d2]])))) else .stuck
  | _, _, _, _, _ => .stuck := id rfl
def sRetT1 (me : Rho → Res D) (j : Nat) : Rho → Out := fun ρ => match ρ[j]?, me ρ with
  | some (some d), .ok v => if v.sha 0 = true then .rt (.tup [v, d]) else .stuck
  | _, _ => .stuck
@[simp] theorem sRetT1_eq {me : Rho → Res D} {j : Nat} {ρ : Rho} : sRetT1 me j ρ = match ρ[j]?, me ρ with
  | some (some d), .ok v => if v.sha 0 = true then .rt (.tup [v, d]) else .stuck
  | _, _ => .stuck := id rfl
def sRetT3 (m1 m2 m3 : Rho → Res D) (j : Nat) : Rho → Out := fun ρ => match ρ[j]?, m1 ρ, m2 ρ, m3 ρ with
  | some (some d), .ok a, .ok b, .ok c => if a.sha 0 = true ∧ b.sha 0 = true ∧ c.sha 0 = true then .rt (.tup [a, b, c, d]) else .stuck
  | _, _, _, _ => .stuck
@[simp] theorem sRetT3_eq {m1 m2 m3 : Rho → Res D} {j : Nat} {ρ : Rho} : sRetT3 m1 m2 m3 j ρ = match ρ[j]?, m1 ρ, m2 ρ, m3 ρ with
  | some (some d), .ok a, .ok b, .ok c => if a.sha 0 = true ∧ b.sha 0 = true ∧ c.sha 0 = true then .rt (.tup [a, b, c, d]) else .stuck
  | _, _, _, _ => .stuck := id rfl
end
end TW
-- TWNul
namespace TW
open PySem PySem.Spec PyProof.Rows L2
def keyL : Key → PySem.Leaf
  | .inl i => .num i
  | .inr s => .text s
theorem keyL_inj {a b : Key} (h : keyL a = keyL b) : a = b := by
  cases a <;> cases b <;> cases h <;> rfl
section
variable {P : Program} {w : World}
theorem is_leaf {k : Key} {v : Value} (h : (mixKind P w).is k v = true) : (leafKind P w).is (keyL k) v = true := by
  cases k with
  | inl i =>
    rcases keyIs_shape (show keyIs (.inl i) v = true from h) with ⟨j, t, e, rfl⟩ | ⟨x, t, e, rfl⟩
    · cases e; exact decide_eq_true rfl
    · cases e
  | inr x => exact h
theorem hash_leaf (k : Key) : (leafKind P w).hash (keyL k) = (mixKind P w).hash k := by cases k <;> rfl
theorem pairs_leaf {es : List DictEntry} {vs : List (Key × Value)} (h : Pairs (mixKind P w) es vs) : Pairs (leafKind P w) es (vs.map fun p => (keyL p.1, p.2)) := by
  induction h with
  | nil => exact .nil
  | cons h e t ih => exact .cons (is_leaf h) e ih
theorem dictOf_leaf {h : Heap} {a : Addr} {vs : List (Key × Value)} (x : h.DictOf (mixKind P w) a vs) : h.DictOf (leafKind P w) a (vs.map fun p => (keyL p.1, p.2)) := by
  obtain ⟨o, es, ep, ho, hx, hd, hk, hp, nd⟩ := x
  refine ⟨o, es, ep, ho, hx, hd, fun e he => ?_, pairs_leaf hp, ?_⟩
  · obtain ⟨k, h1, h2⟩ := hk e he
    exact ⟨keyL k, is_leaf h1, by rw [hash_leaf]; exact h2⟩
  · rw [List.map_map, show ((fun x : PySem.Leaf × Value => x.1) ∘ fun p : Key × Value => (keyL p.1, p.2)) = keyL ∘ (fun p : Key × Value => p.1) from rfl, ← List.map_map]
    exact nd.map _ fun a b hab e => hab (keyL_inj e)
theorem pairs_nul {z : Int} {u : Value} {t : Tok} (hu : u = .int z t) : ∀ {es : List (Str × Int)} {vs : List (Key × Value)} {l : List DictEntry}, KV (es.map fun p => ((.inr p.1 : Key), V.int p.2)) vs → Pairs (leafKind P w) l ((vs.map fun p => (keyL p.1, p.2)) ++ [(PySem.Leaf.none, u)]) →
    Paired (fun (p : Option Str × Int) (e : DictEntry) => (match p.1 with | some x => ∃ t, e.key = .str x t | none => e.key = .none) ∧ ∃ t, e.val = .int p.2 t) ((es.map fun p => (some p.1, p.2)) ++ [(none, z)]) l
  | [], vs, l, h, g => by
    cases h
    cases g with
    | cons h1 h2 h3 =>
      cases h3
      refine .cons ⟨?_, t, by rw [h2, hu]⟩ .nil
      rename_i e
      obtain ⟨hh, key, val⟩ := e
      show key = .none
      cases key <;> first | rfl | (exact absurd h1 Bool.false_ne_true)
  | p :: es, vs, l, h, g => by
    cases h with
    | cons r t =>
      rename_i q vs
      obtain ⟨qk, qv⟩ := q
      obtain ⟨rfl, rv⟩ := r
      cases g with
      | cons h1 h2 h3 =>
        refine .cons ⟨?_, ?_⟩ (pairs_nul hu t h3)
        · rename_i e es2
          obtain ⟨t, e⟩ := Value.isStrOf_shape (show Value.isStrOf p.1 _ = true from h1)
          exact ⟨t, e⟩
        · obtain ⟨t, e⟩ := rv
          exact ⟨t, by rw [h2]; exact e⟩
end
def rSetNul : TSet := fun o i v H Q => ∃ (a : Addr) (es : List (Str × Int)) (z : Int), o = .ref a ∧ i = .non ∧ v = .int z ∧ H a = some (.dK (es.map fun p => ((.inr p.1 : Key), V.int p.2))) ∧ es.length < sizeLine ∧
  ∀ ob, NulObj ob ((es.map fun p => (some p.1, p.2)) ++ [(none, z)]) → (a == sysModules) = false → Q (L2.upd H a (.frz ob (.ext fun _ => True)))
theorem set_nul {X : Cx} : PSet X rSetNul := by
  intro pins s σ H o i v ov iv u Q I ro ri rv h
  obtain ⟨a, es, z, rfl, rfl, rfl, ha, hl, q⟩ := h
  cases ro
  cases ri
  obtain ⟨t, rfl⟩ := rv
  obtain ⟨zz, hd, vs, rel, dd⟩ := dk_of I.hok ha
  have lv : vs.length = es.length := by rw [← rel.length, List.length_map]
  have dl := dictOf_leaf dd
  have no : (vs.map fun p => (keyL p.1, p.2)).any (fun kv => decide (kv.1 = PySem.Leaf.none)) = false := by
    rw [List.any_eq_false]
    intro x hx
    obtain ⟨p, _, rfl⟩ := List.mem_map.mp hx
    obtain ⟨k, y⟩ := p
    cases k <;> simp [keyL]
  have st : ∀ u : Value, stored (vs.map fun p => (keyL p.1, p.2)) PySem.Leaf.none u = (vs.map fun p => (keyL p.1, p.2)) ++ [(PySem.Leaf.none, u)] := fun u => by
    unfold stored
    rw [if_neg (by rw [no]; exact Bool.false_ne_true)]
  refine wpAny_setItem_pairs (knd := leafKind X.prog X.w) (k := PySem.Leaf.none) (hsz := by rw [List.length_map]; omega) rfl dl fun h' dd' hs => ?_
  rw [st] at dd'
  obtain ⟨ob, es', ep, hq, hx, hdt, hko, hp, nd⟩ := dd'
  refine ⟨L2.upd H a (.frz ob (.ext fun _ => True)), d_write I (by rw [ha]; exact True.intro) hs ⟨ob, hq⟩ ⟨hq, trivial, ⟨ob, hq⟩, fun _ _ _ _ => trivial⟩, q ob ⟨hx, ?_, es', ep, hdt, pairs_nul rfl rel hp⟩ hd⟩
  simp only [List.length_append, List.length_map, List.length_cons, List.length_nil]; omega
end TW
-- TWNul2
namespace TW
open PySem PySem.Spec PyProof.Rows L2
def oV : Option Str → V
  | some s => .str s
  | none => .non
def oD : Option Str → D
  | some s => .str s
  | none => .non
abbrev HOnul (o : Obj) : HO := .frz o (.ext fun _ => True)
def Itn (d : Addr) (o : Obj) (es : List (Option Str × Int)) : It :=
  ⟨fun i H => H d = some (HOnul o) ∧ i < es.length, fun i H x H' => ∃ T k v, es[i]? = some (k, v) ∧ x = .ref T ∧ H T = none ∧ H' = upd H T (.tup [oV k, .int v]), fun i H => H d = some (HOnul o) ∧ es.length ≤ i⟩
theorem paired_at {α β : Type} {F : α → β → Prop} : ∀ {l : List α} {m : List β} {i : Nat} {a : α}, Paired F l m → l[i]? = some a → ∃ b, m[i]? = some b ∧ F a b
  | _, _, _, _, .nil, e => by simp at e
  | _, _, 0, _, .cons r _, e => by simp at e; subst e; exact ⟨_, rfl, r⟩
  | _, _, i + 1, _, .cons _ t, e => by
    obtain ⟨b, h1, h2⟩ := paired_at t (by simpa using e)
    exact ⟨b, by simpa using h1, h2⟩
theorem nul_raw {X : Cx} {pins : List (Addr × Obj)} {σ : L2.St} {H : Hp} {s : Shared} {d : Addr} {o : Obj} {es : List (Option Str × Int)} (I : Inv X pins σ H s) (hd : H d = some (HOnul o)) (hn : NulObj o es) :
    ∃ ds ep, o.data = .dict ds ep ∧ DT.Raw s.heap d ds ep ∧ ds.size = es.length ∧ ∀ (i : Nat) (k : Option Str) (v : Int), es[i]? = some (k, v) → ∃ en, ds[i]? = some en ∧ RelV (oV k) en.key ∧ RelV (.int v) en.val := by
  obtain ⟨hx, hl, ds, ep, hdt, pr⟩ := hn
  have hg := (show ObjOk X.prog X.w H s.heap d (HOnul o) from I.hok d _ hd).1
  refine ⟨ds, ep, hdt, ⟨o, hg, hx, hdt⟩, by have := Paired.length pr; rw [Array.length_toList] at this; exact this.symm, fun i k v e => ?_⟩
  obtain ⟨en, h1, h2, h3⟩ := paired_at pr e
  refine ⟨en, by rw [← Array.getElem?_toList]; exact h1, ?_, h3⟩
  cases k with
  | none => exact h2
  | some x => exact h2
section
variable {P : Program} {w : World} {K : PySem.W.Frag} {d : Addr} {o : Obj} {es : Array DictEntry} {ep : Nat}
theorem turn_nul {kvs : List (Option Str × Int)} {elts : List Expr} {kk : Nat} {tpos : Pos} (it : Addr) (hno : NulObj o kvs) (hod : o.data = .dict es ep) :
    Turn P w K (.Tuple elts kk tpos) (Itn d o kvs) [it] it (fun i h => ∃ ok ov, IsItemIter h it d i kvs.length ep ok ov) where
  mem := by simp
  obj := fun i h st b hb => by
    have e : b = it := by simpa using hb
    subst e
    obtain ⟨ok, ov, e⟩ := st
    exact ⟨_, e, fun v z => nomatch z⟩
  keep := fun i h h' st k => let ⟨ok, ov, e⟩ := st; ⟨ok, ov, k it (by simp) _ e⟩
  item := by
    intro X hP hw hK hc i pins s σ H E I hf st hg
    subst hP hw hK
    obtain ⟨hd, hi⟩ := hg
    obtain ⟨es', ep', hdt, hm, hsz, hat⟩ := nul_raw I hd hno
    obtain ⟨rfl, rfl⟩ := dict_ep hod hdt
    obtain ⟨⟨k, v⟩, hkv⟩ : ∃ p, kvs[i]? = some p := ⟨kvs[i], List.getElem?_eq_getElem hi⟩
    obtain ⟨en, hen, rk, rv⟩ := hat i k v hkv
    have hi' : i < es'.size := by omega
    have hei : es'[i] = en := by
      have := Array.getElem?_eq_getElem hi'
      rw [this] at hen; exact Option.some.inj hen
    obtain ⟨ok, ov, he⟩ := st
    rw [← hsz] at he
    have hlt : it < s.heap.objs.size := Heap.lt_size he
    refine DT.nextI he hm hi' fun h' ho hT hz hk => ?_
    rw [hei] at ho hT
    refine ⟨_, rfl, wpAny_letOwnedTupleGo_items (s := { s with heap := h' }) ho fun h'' he' sb => ?_⟩
    have hT2 : h''.get? s.heap.objs.size = some { cls := .type "tuple", data := .seq #[en.key, en.val] } := (sb.2 _ (Nat.ne_of_gt hlt)).trans hT
    have new : ObjOk X.prog X.w (upd H s.heap.objs.size (.tup [oV k, .int v])) h'' s.heap.objs.size (.tup [oV k, .int v]) :=
      ⟨by show 2 ≤ sizeLine; decide, [en.key, en.val], .cons rk (.cons rv .nil), ⟨_, hT2, rfl, _, rfl⟩⟩
    have I1 : Inv X pins σ (upd H s.heap.objs.size (.tup [oV k, .int v])) { s with heap := h'' } :=
      I.turnedNew (t' := s.toks) (ch := [it]) (fun b ob hb e => (sb.2 b (by simpa using hb)).trans (hk b ob (by simpa using hb) e)) hf (Nat.le_refl _) new
    refine ⟨.ref s.heap.objs.size, _, I1, rfl, ⟨_, k, v, hkv, rfl, I.hok.fresh (Nat.le_refl _), rfl⟩, ⟨en.key, en.val, ?_⟩, fun b hb => ?_⟩
    · rw [← hsz]; exact he'
    · have e : b = it := by simpa using hb
      rw [e, upd_ne (Nat.ne_of_lt hlt)]
      exact (hf it (by simp)).1
  done := by
    intro X hP hw hK hc i pins s σ H E I hf st hg
    subst hP hw hK
    obtain ⟨hd, hi⟩ := hg
    obtain ⟨f0, f1, f2, f3, f4, f5⟩ := hf it (by simp)
    obtain ⟨es', ep', hdt, hm, hsz, hat⟩ := nul_raw I hd hno
    obtain ⟨rfl, rfl⟩ := dict_ep hod hdt
    obtain ⟨ok, ov, he⟩ := st
    rw [← hsz] at he
    exact DT.endI (I.ok.hd hc) he hm (by omega) fun h' eb => ⟨rfl, I.turned (t' := s.toks) (fun b ob hb e => eb b ob hb e) f0 f1 f3 f4 f5⟩
  self := fun A i s Q E st h => let ⟨_, _, e⟩ := st; PySem.W.kcp_self e h
end
def iNul (td : TE) : TI := fun σ H R => td σ H fun x H1 => ∃ d o kvs, x = .ref d ∧ H1 d = some (HOnul o) ∧ NulObj o kvs ∧ (d == sysModules) = false ∧ R (Itn d o kvs) H1
theorem pi_nul {X : Cx} {e : Expr} {td : TE} {apos cpos : Pos} {elts : List Expr} {kk : Nat} {tpos : Pos} (he : PE X e td) (hbase : attributeBase e "items" X.env (eval e X.env) = eval e X.env := by rfl) (hline : (apos.endLine == cpos.line) = true := by rfl) :
    PI X (.Tuple elts kk tpos) (.Call (.Attribute e "items" apos) [] [] cpos) (iNul td) := by
  refine ⟨fun pins s σ H R I h => ?_⟩
  refine wpAny_Call_method (T := "dict") (id := "dict.items") hbase rfl hline F.plainAttrs_dict F.slot_dict_items F.type_dict_items (thn (he.run pins s σ H _ I h) fun u s1 ⟨x, H1, I1, rx, d, o, kvs, ex, hd, hno, hs, q⟩ => ?_)
  subst ex
  obtain rfl : u = Value.ref d := rx
  obtain ⟨es, ep, hdt, hm, hsz, hat⟩ := nul_raw I1 hd hno
  obtain ⟨o', ho', hx', hd'⟩ := id hm
  refine ⟨hm.typeIs, fun a z => by cases z; exact ⟨o', ho', hx'.2.1⟩, ?_⟩
  have I2 : Inv X pins σ H1 { s1 with heap := s1.heap.push { cls := .type "dict_items", data := .fields #[.ref d] } } := I1.kept (t' := s1.toks) fun b ob q => Heap.get?_push_of_some _ q
  have fin : wpAny (model X.prog X.w) X.A (pyIter (.ref s1.heap.objs.size)) (PIE X pins σ (.Tuple elts kk tpos) R) X.xe { s1 with heap := s1.heap.push { cls := .type "dict_items", data := .fields #[.ref d] } } := by
    refine DT.iterI (d := d) ⟨_, Heap.get?_push_size _ rfl, rfl, rfl⟩ (hm.push _) (pi_one (tk := s1.toks) I2 _ (turn_nul _ hno hdt) ⟨.none, .none, ?_⟩ q)
    rw [← hsz]
    exact Heap.get?_push_size _ rfl
  show wpAny _ _ (callWith cpos (.builtin "dict.items") [.ref d] [] []) _ X.xe s1
  exact method_meetsIn F.slot_dict_items F.entry_dict_items rfl (PySem.evalArgs_none ⟨rfl, hm.typeIs, F.args_dict_items_1 _, _, DT.meetsItems (es := es) (ep := ep) hs, ⟨hm, fin⟩⟩)
theorem iter_nul {K : PySem.W.Frag} {H : Hp} {a : Addr} {o : Obj} {es : List (Option Str × Int)} (h : H a = some (HOnul o)) : Iter K (Itn a o es) H [a] (es.map fun p => .tup [oD p.1, .int p.2]) := by
  intro H' st i
  have h' := st.res a (by simp) _ h
  refine ⟨fun hl => ⟨h', by simpa using hl⟩, fun d e => ?_⟩
  rw [List.getElem?_map] at e
  cases ew : es[i]? with
  | none => rw [ew] at e; cases e
  | some p =>
    rw [ew] at e
    cases e
    have hi : i < es.length := (List.getElem?_eq_some_iff.mp ew).1
    refine ⟨⟨h', hi⟩, fun x H3 hy => ?_⟩
    obtain ⟨T, k, v, e1, rfl, hT, rfl⟩ := hy
    rw [ew] at e1
    cases e1
    refine ⟨same_new hT, [], ?_, fun b hb => by simp at hb⟩
    unfold Dat
    refine ⟨T, _, rfl, upd_same, Dats.cons (S1 := []) (R1 := []) ?_ (Dats.one (dat_of_int 0))⟩
    cases k with
    | none => exact dat_of_non 0
    | some s => exact dat_of_str 0
def dicItemsN : D → Option (List D)
  | .nul es => some (es.map fun p => .tup [oD p.1, .int p.2])
  | d => dicItems d
def sForDN (i : Nat) (f : D → Rho → Option Rho) (b : Rho → Out) : Rho → Out := fun ρ => match ρ[i]? with
  | some (some d) => match dicItemsN d with
    | some ds => outX (forL f b ds ρ)
    | none => .stuck
  | _ => .stuck
theorem sForDN_nx {i : Nat} {f : D → Rho → Option Rho} {b : Rho → Out} {ρ ρ' : Rho} {d : D} {ds : List D} (h : ρ[i]? = some (some d)) (hd : dicItemsN d = some ds) (e : forL f b ds ρ = .nx ρ') : sForDN i f b ρ = .nx ρ' := by
  unfold sForDN; rw [h]; dsimp only; rw [hd]; dsimp only; rw [e]; rfl
theorem sForDN_rt {i : Nat} {f : D → Rho → Option Rho} {b : Rho → Out} {ρ : Rho} {d v : D} {ds : List D} (h : ρ[i]? = some (some d)) (hd : dicItemsN d = some ds) (e : forL f b ds ρ = .rt v) : sForDN i f b ρ = .rt v := by
  unfold sForDN; rw [h]; dsimp only; rw [hd]; dsimp only; rw [e]; rfl
section
variable {X : Cx} {W : WX} {n : Nat} {Γ : List Nat}
theorem rs_forDN {it : Expr} {elts : List Expr} {kk : Nat} {tpos apos cpos : Pos} {body : List Stmt} {pos : Pos} {i : Nat} {f : D → Rho → Option Rho} {mb : Rho → Out} (hp : PassesOwn (model X.prog X.w) X.A X.env X.xe) (hc : X.calm = true) (hv : PE X it (tVar i)) (hg : RG X Γ (.Tuple elts kk tpos) f) (hb : RSs X W n Γ Γ body mb) (hi : Γ.getD i 0 = 0 := by rfl)
    (hbase : attributeBase it "items" X.env (eval it X.env) = eval it X.env := by rfl) (hline : (apos.endLine == cpos.line) = true := by rfl)
    (hs : ∀ x, foldedSetIterable (.Call (.Attribute it "items" apos) [] [] cpos) X.env x = pure x := by intro _; rfl) (hn : n < 1000 := by decide) : RS X W n Γ Γ (.For (.Tuple elts kk tpos) (.Call (.Attribute it "items" apos) [] [] cpos) body [] pos) (sForDN i f mb) := by
  obtain ⟨g, pg, qg⟩ := id hg
  obtain ⟨tb, pb, qb⟩ := id hb
  obtain ⟨t0, P0, q0⟩ := rs_forDI (pos := pos) (cpos := cpos) (apos := apos) hp hc hv hg hb hi hbase hline hs hn
  have P := ps_for (pos := pos) hp hc (pi_nul (elts := elts) (kk := kk) (tpos := tpos) (apos := apos) (cpos := cpos) hv hbase hline) pg pb hs
  refine ⟨fun E σ H => t0 E σ H ∨ tFor (iNul (tVar i)) g tb E σ H, ⟨fun pins s σ H E I h => h.elim (P0.run pins s σ H E I) (P.run pins s σ H E I)⟩, fun F H0 ρ σ H S R E st po => ?_⟩
  unfold sForDN at po
  cases e1 : ρ[i]? with
  | none => rw [e1] at po; exact po.elim
  | some od =>
    cases od with
    | none => rw [e1] at po; exact po.elim
    | some d =>
      rw [e1] at po
      dsimp only at po
      have old : ∀ ds, dicItems d = some ds → PostS X W F H0 Γ n S H E (outX (forL f mb ds ρ)) → t0 E σ H := fun ds hd po => q0 F H0 ρ σ H S R E st (by unfold sForDI; rw [e1]; dsimp only; rw [hd]; exact po)
      have outx : ∀ o : Out, PostS X W F H0 Γ n S H E (outX o) → PostS X W F H0 Γ n S H E o := fun o h => by
        cases o with
        | ex c ρ' => exact h.elim
        | _ => exact h
      cases d with
      | nul es =>
        refine .inr ?_
        obtain ⟨x, hx, q⟩ := st.slot i _ e1
        rw [hi] at q
        unfold Dat at q
        obtain ⟨hS, a, rfl, ⟨o, ha, hno, hsm⟩, hR⟩ := q
        have va : ∀ b ∈ [a], ¬ Av F S b := fun b hb z => by
          rw [← hR] at hb
          exact z.elim (st.rf i b hb) fun ⟨j, z⟩ => st.rs i j b hb z
        have vd : ∀ b ∈ [a], H b ≠ none := fun b hb => by
          obtain rfl := List.mem_singleton.mp hb
          rw [ha]; simp
        exact for_core (B := [a]) qg qb (fun Rk h => ⟨_, hx, a, o, es, rfl, ha, hno, hsm, h⟩) st va vd (iter_nul ha) (outx _ po)
      | dK ks vs => exact .inl (old _ rfl po)
      | _ => exact po.elim
end
def gIsiN (T : String) (d : D) : Option D := match d with
  | .nul _ => (kitB "dict" T).map .bl
  | d => gIsi T d
def rIsiNul (K : PySem.W.Frag) : List V → Hp → VK → Prop := fun xs H Q => ∃ (a : Addr) (o : Obj) (c : V) (u : Value) (b : Bool), xs = [.ref a, c] ∧ ClsV c u ∧ H a = some (HOnul o) ∧ o.ExactDict ∧ PySem.W.kitOne K (.type "dict") u = some b ∧ Q (.bl b) H
theorem call_isiNul {X : Cx} : CallR X (.builtin "isinstance") (rIsiNul X.K) := by
  intro pins s σ H xs us Q I r h
  obtain ⟨a, o, c, u, b, rfl, k, ea, hx, e, q⟩ := h
  obtain ⟨u1, u2, rfl, r1, r2⟩ := vals2 r
  have e2 := k.eq r2
  subst e2
  cases (show u1 = Value.ref a from r1)
  have h1 := (show ObjOk X.prog X.w H s.heap a (HOnul o) from I.hok a _ ea).1
  exact PySem.W.kia_one PySem.W.kitx_dict I.kIn ⟨o, h1, hx.1⟩ e (fun z => nomatch z) fun tk => ⟨.bl b, H, I.tok tk, rfl, q⟩
section
variable {X : Cx} {W : WX} {Γ : List Nat} {n : Nat} {e : Expr} {p p2 pos : Pos} {me : Rho → Res D}
theorem re_isiN {T : Str} {U : String} (hm : X.mg "isinstance" = none) (hmT : X.mg T = none) (hbT : bootBuiltins T = some (.type U)) (ha : RB X W Γ e me) (hg : Gl X "isinstance" := by rfl) (hgT : Gl X T := by rfl) (hnT : T ≠ "__name__" := by decide) (hdT : (T == ("__debug__" : Str)) = false := by decide)
    (he : starEach (e :: [.Name T p2]) X.env = (false, eval e X.env) :: starEach [.Name T p2] X.env := by rfl) (he2 : starEach (.Name T p2 :: []) X.env = (false, eval (.Name T p2) X.env) :: starEach [] X.env := by rfl) (hpl : (backTo pos (starEach [.Name T p2] X.env)).any (·.1) = false := by rfl) :
    RE X W Γ n true (.Call (.Name "isinstance" p) [e, .Name T p2] [] pos) (m1 (gIsiN U) me) := by
  obtain ⟨ta, pa, qa⟩ := ha
  refine ⟨_, pe_callB (CallR.or (CallR.or call_isi call_isiZ) call_isiNul) hg hm boot_isinstance (pa_cons pa (pa_cons (pe_bltn (v := .ty U) hgT hmT hbT rfl hnT hdT) pa_nil he2) he) (by decide) (by decide) he hpl, fun F H0 ρ σ H S R Q st po => ?_⟩
  refine qa F H0 ρ σ H S R _ st ((PostE.iff.mp po).bind.imp fun d _ po => ?_)
  intro x H1 B s1 d1
  obtain ⟨z, ez, po⟩ := PostE.ofO (PostE.iff.mpr po)
  by_cases hn : ∃ es, d = .nul es
  · obtain ⟨es, rfl⟩ := hn
    have ez : (kitB "dict" U).map D.bl = some z := ez
    cases ek : kitB "dict" U with
    | none => rw [ek] at ez; cases ez
    | some b =>
      rw [ek] at ez
      cases ez
      unfold Dat at d1
      obtain ⟨_, a, rfl, ⟨o, hao, hno, _⟩, _⟩ := d1
      exact .inr ⟨a, o, .ty U, .type U, b, rfl, .ty U, hao, hno.1, kit_ty ek, PostV.flat (PostV.later po s1) rfl dat_of_bl⟩
  · have ez : gIsi U d = some z := by
      cases d with
      | nul es => exact absurd ⟨es, rfl⟩ hn
      | _ => exact ez
    have hj : d.known = true := by cases d <;> first | rfl | cases ez
    have ez : (kitB d.ty U).map D.bl = some z := by cases d <;> first | exact ez | cases hj
    cases ek : kitB d.ty U with
    | none => rw [ek] at ez; cases ez
    | some b =>
      rw [ek] at ez
      cases ez
      exact .inl (isi_at hj d1 ek (PostV.flat (PostV.later po s1) rfl dat_of_bl))
def gLenN : List D → Option D
  | [.nul es] => some (.int es.length)
  | l => gLen l
theorem len_body_raw {prog : Program} {w : World} {A : Around} {E : Value → Shared → Prop} {s : Shared} {d : Addr} {es : Array DictEntry} {ep : Nat} {Q : Value → Shared → Prop} (hd : (d == sysModules) = false) (hm : s.heap.DictRaw d es ep) (hfit : (es.size : Int) < 2 ^ 63)
    (h : Q (.int es.size (s.toks + 1)) { s with toks := s.toks + 1 + 1 }) : wpAny (model prog w) A (call (.builtin "len") [.ref d]) Q E s := by
  refine Calls.call_function_entry kind_len plain_len entry_len (args_len1 _) ?_
  unfold Builtin.«len»
  refine wpAny_bind (m := oneArg "len" _) (wpAny_pure ?_)
  refine wpAny_bind (m := callSpecial? (.ref d) (Str.ofString "__len__")) (wpAny_callSpecial?_slot (name := Str.ofString "__len__") hm.typeIs F.slot_dict_len
    (call_len_raw hd hm ?_))
  show wpAny _ _ _ _ _ { s with toks := s.toks + 1 }
  refine wpAny_bind (wpAny_holding (wpAny_pure ?_))
  refine wpAny_bind (wpAny_letGo ?_)
  show wpAny _ _ (if ((es.size : Nat) : Int) < 0 then _ else _) _ _ _
  rw [if_neg (by omega)]
  show wpAny _ _ (if ((es.size : Nat) : Int) ≥ 2 ^ 63 then _ else _) _ _ _
  rw [if_neg (by omega)]
  exact wpAny_bind (wpAny_mkInt (wpAny_pure ⟨_, rfl, h⟩))
def rLenNul : List V → Hp → VK → Prop := fun xs H Q => ∃ (a : Addr) (o : Obj) (es : List (Option Str × Int)), xs = [.ref a] ∧ H a = some (HOnul o) ∧ NulObj o es ∧ (a == sysModules) = false ∧ Q (.int (es.length : Nat)) H
theorem call_lenNul : CallR X (.builtin "len") rLenNul := by
  intro pins s σ H xs us Q I r h
  obtain ⟨a, o, es, rfl, ha, hno, hs, q⟩ := h
  obtain ⟨u, rfl, rx⟩ := vals1 r
  obtain rfl : u = .ref a := rx
  obtain ⟨ds, ep, hdt, hm, hsz, _⟩ := nul_raw I ha hno
  have hl := hno.2.1
  refine len_body_raw hs (show s.heap.DictRaw a ds ep from hm) (by rw [hsz]; rw [sizeLine_eq] at hl; omega) ⟨.int ((es.length : Nat) : Int), H, I.tok _, ?_, q⟩
  rw [hsz]
  exact ⟨_, rfl⟩
theorem cf_lenN {K : PySem.W.Frag} : CallF K (fun xs H Q => rLenA K xs H Q ∨ rLenNul xs H Q) gLenN := by
  intro vs ds z H B Q hd ez po
  by_cases hn : ∃ es, ds = [.nul es]
  · obtain ⟨es, rfl⟩ := hn
    cases ez
    obtain ⟨v, rfl, h9⟩ := dats1 hd
    unfold Dat at h9
    obtain ⟨_, a, rfl, ⟨o, hao, hno, hs⟩, _⟩ := h9
    exact .inr ⟨a, o, es, rfl, hao, hno, hs, po rfl _ dat_of_int⟩
  · refine .inl (cf_len vs ds z H B Q hd ?_ po)
    unfold gLenN at ez
    split at ez
    · exact absurd ⟨_, rfl⟩ hn
    · exact ez
theorem re_lenN {ma : Rho → Res (List D)} (hm : X.mg "len" = none) (ha : RAB X W Γ [e] ma) (hg : Gl X "len" := by rfl)
    (he : starEach (e :: []) X.env = (false, eval e X.env) :: starEach [] X.env := by rfl) (hpl : (backTo pos (starEach [] X.env)).any (·.1) = false := by rfl) : RE X W Γ n true (.Call (.Name "len" p) [e] [] pos) (mL gLenN ma) := re_callBF (CallR.or call_lenA call_lenNul) cf_lenN hm PySem.boot_len ha hg (by decide) (by decide) he hpl
end
end TW
-- TWNul3
namespace TW
open PySem PySem.Spec PyProof.Rows L2
def nulEs : List Key → List D → Option (List (Str × Int))
  | [], [] => some []
  | .inr s :: ks, .int i :: vs => (nulEs ks vs).map fun r => (s, i) :: r
  | _, _ => none
def putE (c j v : D) : Option D := match c with
  | .dK ks vs => (match j with
    | .non => (match v with
      | .int z => if ks.length < sizeLine then (nulEs ks vs).map fun es => .nul ((es.map fun p => (some p.1, p.2)) ++ [(none, z)]) else none
      | _ => none)
    | j => putD (.dK ks vs) j v)
  | _ => none
def idxK {κ : Type} [DecidableEq κ] (ks : List κ) (k : κ) : Option Nat := ks.idxOf? k
def putN (d j1 j2 v : D) : Option D := match d, j1 with
  | .dT ks vs, .tup l => (keysD l).bind fun k => (idxK ks k).bind fun p => (vs[p]?).bind fun c => (putE c j2 v).map fun c' => .dT ks (vs.set p c')
  | _, _ => none
theorem nulEs_dats {K : PySem.W.Frag} {H : Hp} : ∀ {ws : List (Key × V)} {vs : List D} {es : List (Str × Int)} {n : Nat} {S R : List Addr}, nulEs (ws.map (·.1)) vs = some es → Dats K H vs n (ws.map (·.2)) S R → ws = es.map (fun p => ((.inr p.1 : Key), V.int p.2))
  | [], [], es, n, S, R, e, h => by cases e; rfl
  | [], _ :: _, es, n, S, R, e, h => by cases e
  | (k, x) :: ws, vs, es, n, S, R, e, h => by
    cases k with
    | inl i => cases vs <;> cases e
    | inr s =>
      cases vs with
      | nil => cases e
      | cons d vs =>
        cases d with
        | int i =>
          obtain ⟨r, er, rfl⟩ := Option.map_eq_some_iff.mp (show (nulEs (ws.map (·.1)) vs).map (fun r => (s, i) :: r) = some es from e)
          unfold Dats at h
          obtain ⟨y, ys, S1, S2, R1, R2, e1, rfl, rfl, h1, h2⟩ := h
          simp only [List.map_cons, List.cons.injEq] at e1
          obtain ⟨rfl, rfl⟩ := e1
          have hx : x = .int i := dat_int h1
          rw [nulEs_dats er h2, hx]
          rfl
        | _ => cases e
theorem valV_at {κ : Type} [DecidableEq κ] {k : κ} : ∀ {ws : List (κ × V)} {p : Nat} {v : V}, (ws.map (·.1)).idxOf? k = some p → (ws.map (·.2))[p]? = some v → valV ws k = some v
  | [], p, v, e, _ => by simp at e
  | w :: ws, p, v, e, g => by
    rw [List.map_cons, List.idxOf?_cons] at e
    by_cases h : w.1 = k
    · simp only [h, beq_self_eq_true, if_true] at e
      cases e
      simp only [List.map_cons, List.getElem?_cons_zero] at g
      cases g
      simp [valV, h]
    · have ne : (w.1 == k) = false := beq_eq_false_iff_ne.mpr h
      simp only [ne, if_false, Bool.false_eq_true, Option.map_eq_some_iff] at e
      obtain ⟨j, hj, rfl⟩ := e
      have := valV_at hj (by simpa using g)
      simpa [valV, h] using this
def sPutN (i : Nat) (mj1 mj2 me : Rho → Res D) : Rho → Out := atS i fun ρ => (me ρ).out ρ fun v => (noX (mj1 ρ)).out ρ fun j1 => (noX (mj2 ρ)).out ρ fun j2 => match ρ[i]? with
  | some (some d) => (match putN d j1 j2 v with
    | some d' => .nx (ρ.set i (some d'))
    | none => .stuck)
  | _ => .stuck
theorem sPutN_ok {i : Nat} {mj1 mj2 me : Rho → Res D} {ρ : Rho} {d v j1 j2 d' : D} (h : ρ[i]? = some (some d)) (ev : me ρ = .ok v) (e1 : mj1 ρ = .ok j1) (e2 : mj2 ρ = .ok j2) (e : putN d j1 j2 v = some d') : sPutN i mj1 mj2 me ρ = .nx (ρ.set i (some d')) := by
  unfold sPutN atS
  rw [h]
  dsimp only
  rw [ev, e1, e2]
  show (match ρ[i]? with
  | some (some d) => (match putN d j1 j2 v with
    | some d' => Out.nx (ρ.set i (some d'))
    | none => .stuck)
  | _ => .stuck) = _
  rw [h]
  dsimp only
  rw [e]
theorem PSet.or {X : Cx} {t u : TSet} (h : PSet X t) (g : PSet X u) : PSet X (fun o i v H Q => t o i v H Q ∨ u o i v H Q) := by
  intro pins s σ H o i v ov iv w Q I ro ri rv q
  exact q.elim (h pins s σ H o i v ov iv w Q I ro ri rv) (g pins s σ H o i v ov iv w Q I ro ri rv)
section
variable {X : Cx} {W : WX} {Γ : List Nat} {n i : Nat} {o b1 b2 e : Expr} {p1 pos pos' : Pos} {m1 m2 me : Rho → Res D}
theorem rs_putN (hu : X.A.units + 1 < cLine) (hv : PE X o (tVar i)) (h1 : RE X W Γ 0 true b1 m1) (h2 : RE X W Γ 0 true b2 m2) (he : RE X W Γ 0 true e me) (hΓ : Γ.getD i 0 = 2 := by rfl) (hsx : PlainIx b1 := by exact fun _ _ => rfl)
    (ha : ∀ v, assign (.Subscript (.Subscript o b1 p1) b2 pos') X.env v = (do
      let ov ← holding [v] (eval (.Subscript o b1 p1) X.env)
      let iv ← holding [v, ov] (eval b2 X.env)
      standAt pos'
      holding [v, ov, iv] (setItem ov iv v)
      release [v, ov, iv] []) := by intro _; rfl)
    (hs : swapsWithSole [.Subscript (.Subscript o b1 p1) b2 pos'] e pos.line X.env = pure false := by rfl) (hw : swappedStores [.Subscript (.Subscript o b1 p1) b2 pos'] e X.env = pure none := by rfl)
    (hq : (assignEach [.Subscript (.Subscript o b1 p1) b2 pos'] X.env).map (·.2) = [assign (.Subscript (.Subscript o b1 p1) b2 pos') X.env] := by rfl) :
    RS X W n Γ Γ (.Assign [.Subscript (.Subscript o b1 p1) b2 pos'] e pos) (sPutN i m1 m2 me) := by
  obtain ⟨ta, pa, qa⟩ := h1
  obtain ⟨tc, pc, qc⟩ := h2
  obtain ⟨tb, pb, qb⟩ := he
  refine ⟨_, ps_asg pb (pg_sub (pe_ix (ix_dict hu) hv pa hsx) pc (PSet.or (set_dictN hu) set_nul) ha) hs hw hq, fun F H0 ρ σ H S R E st po => ?_⟩
  obtain ⟨d, hd, po⟩ := atS_ok po
  obtain ⟨x, hx, _⟩ := st.slot i d hd
  refine qb F H0 ρ σ H S R _ st (PostE.iff.mpr ((PostS.ofR st po).imp fun v0 ev po => ?_))
  intro y H1 A B s1 dv v1 f1
  obtain rfl : A = [] := Dat.noS dv
  have st1 := st.grow s1
  obtain ⟨j1, ej1, po⟩ := noX_out po
  refine ⟨x, hx, ?_⟩
  refine qa F H0 ρ σ H1 S R _ st1 ?_
  rw [ej1]
  intro u1 H2 A2 B2 s2 du1 _ _
  obtain rfl : A2 = [] := Dat.noS du1
  have st2 := st1.grow s2
  obtain ⟨j2, ej2, po⟩ := noX_out po
  rw [hd] at po
  dsimp only at po
  cases ep : putN d j1 j2 v0 with
  | none => rw [ep] at po; exact po.elim
  | some d' =>
    rw [ep] at po
    dsimp only at po
    cases d with
    | dT ks vs =>
      cases j1 with
      | tup l =>
        obtain ⟨k, ek, ep⟩ := Option.bind_eq_some_iff.mp (show ((keysD l).bind fun k => (idxK ks k).bind fun p => (vs[p]?).bind fun c => (putE c j2 v0).map fun c' => D.dT ks (vs.set p c')) = some d' from ep)
        obtain ⟨p, ekp, ep⟩ := Option.bind_eq_some_iff.mp ep
        obtain ⟨c, ec, ep⟩ := Option.bind_eq_some_iff.mp ep
        obtain ⟨c', ec', rfl⟩ := Option.map_eq_some_iff.mp ep
        obtain ⟨x', hx', g⟩ := st2.slot i _ hd
        rw [hx] at hx'
        cases hx'
        rw [hΓ] at g
        simp only [Dat] at g
        obtain ⟨a, ws, S', rfl, haa, rfl, eS, dd⟩ := g
        obtain ⟨bb, xs, rfl, hbb, hl2⟩ := dat_tup0 du1
        obtain rfl := dats_keys hl2 ek
        obtain ⟨ch, Se, Re, P, Q, P', Q', exs, gc, eS', eR, rep⟩ := dd.focus ec
        refine ⟨a, ch, rfl, .inr ⟨ws, k, bb, .inl haa, rfl, hbb, (valV_at ekp exs).symm⟩, ?_⟩
        refine qc F H0 ρ σ H2 S R _ st2 ?_
        rw [ej2]
        intro u2 H3 A3 B3 s3 du2 _ _
        obtain rfl : A3 = [] := Dat.noS du2
        have st3 := st2.grow s3
        have dv3 := (dv.same s2).same s3
        have ha3 : H3 a = some (.dT ws) := s3 _ _ haa
        have gc3 := gc.same s3
        have ndS := st3.nd i
        rw [eS, eS'] at ndS
        cases c with
        | dK ks2 vs2 =>
          simp only [Dat] at gc3
          obtain ⟨b, ws2, S2, rfl, hbw, rfl, rfl, dd2⟩ := gc3
          obtain rfl : S2 = [] := Dats.noS dd2
          have hb3 : H3 b = some (.dK ws2) := hbw
          have bS : b ∈ S i := by rw [eS, eS']; simp
          have ab : a ≠ b := fun z => by rw [z, hb3] at ha3; cases ha3
          have nd1 := (List.nodup_cons.mp ndS).2
          have nPQ : (P ++ Q).Nodup := nd1.sublist (by simpa using List.sublist_append_right [b] Q |>.append_left P)
          have bP : b ∉ P := fun z => by
            have := (List.nodup_append.mp (List.nodup_append.mp nd1).1).2.2 b z b (by simp)
            exact this rfl
          have bQ : b ∉ Q := fun z => (List.nodup_append.mp nd1).2.2 b (by simp) b z rfl
          have aPQ : a ∉ P ++ Q := fun z => (List.nodup_cons.mp ndS).1 (by
            rcases List.mem_append.mp z with z | z <;> simp [z])
          have inS : ∀ q ∈ P ++ Q, q ∈ S i := fun q hq => by
            rw [eS, eS']
            rcases List.mem_append.mp hq with hq | hq <;> simp [hq]
          have bR : b ∉ R i := fun z => st3.rs i i b z bS
          have stay : ∀ o', Stay H2 (L2.upd H3 b o') (P ++ Q) (P' ++ Q') := fun o' => by
            have mu := st3.mut i b bS
            refine ⟨fun q xs e => ?_, fun q ob xs e => ?_, fun q ob xs e => ?_, fun q hq u e => ?_, fun q hq u e => ?_⟩
            · have e := s3 _ _ e
              rw [upd_ne (fun z => by subst z; rw [e] at mu; exact mu)]; exact e
            · have e := s3 _ _ e
              rw [upd_ne (fun z => by subst z; rw [e] at mu; exact mu)]; exact e
            · have e := s3 _ _ e
              rw [upd_ne (fun z => by subst z; rw [e] at mu; exact mu)]; exact e
            · rw [upd_ne (fun z => by subst z; rcases List.mem_append.mp hq with z | z; exact bP z; exact bQ z)]; exact s3 _ _ e
            · rw [upd_ne (fun z => by
                subst z
                refine bR ?_
                rw [eR]
                rcases List.mem_append.mp hq with hq | hq <;> simp [hq])]
              exact s3 _ _ e
          have fin : ∀ (o' : HO) (Se' Re' : List Addr), Dat X.K (L2.upd H3 b o') c' 1 (.ref b) Se' Re' → (∀ q ∈ Se', q = b) → Se'.Nodup → (∀ q ∈ Re', q ∈ Re ∨ q ∈ B ∨ (q = b ∧ Se' = [])) → E.nx σ (L2.upd H3 b o') := by
            intro o' Se' Re' g hSe nSe hRe
            have w := rep _ c' Se' Re' (stay o') g
            have ga : Dat X.K (L2.upd H3 b o') (.dT (ws.map (·.1)) (vs.set p c')) 2 (.ref a) (a :: (P ++ Se' ++ Q)) (P' ++ Re' ++ Q') := by
              unfold Dat
              exact ⟨a, ws, _, rfl, by rw [upd_ne ab]; exact ha3, rfl, rfl, w⟩
            have mA : ∀ q ∈ a :: (P ++ Se' ++ Q), q ∈ S i := fun q hq => by
              rcases List.mem_cons.mp hq with rfl | hq
              · rw [eS]; simp
              · rcases List.mem_append.mp hq with hq | hq
                · rcases List.mem_append.mp hq with hq | hq
                  · exact inS q (List.mem_append_left _ hq)
                  · rw [hSe q hq]; exact bS
                · exact inS q (List.mem_append_right _ hq)
            have notb : Se' = [] → b ∉ a :: (P ++ Se' ++ Q) := fun z hq => by
              subst z
              rcases List.mem_cons.mp hq with hq | hq
              · exact ab hq.symm
              · rcases List.mem_append.mp hq with hq | hq
                · rcases List.mem_append.mp hq with hq | hq
                  · exact bP hq
                  · simp at hq
                · exact bQ hq
            have st4 := st3.upd (i := i) (a := b) (o := o') (d' := .dT (ws.map (·.1)) (vs.set p c')) (A := a :: (P ++ Se' ++ Q)) (B := P' ++ Re' ++ Q') hd hx bS (by rw [hΓ]; exact ga) ?_ (fun q hq => .inl (mA q hq)) ?_
            · refine po σ _ _ _ st4 (((Keep.of_same ((s1.trans s2).trans s3))).trans Grow.refl fun q u e hn => ?_) fun j q hq => ?_
              · rw [upd_ne (fun z => hn i (by rw [z]; exact bS))]; exact e
              · split at hq
                · exact .inl ⟨i, mA q hq⟩
                · exact .inl ⟨j, hq⟩
            · refine List.nodup_cons.mpr ⟨fun z => ?_, ?_⟩
              · rcases List.mem_append.mp z with z | z
                · rcases List.mem_append.mp z with z | z
                  · exact aPQ (List.mem_append_left _ z)
                  · exact ab (hSe a z)
                · exact aPQ (List.mem_append_right _ z)
              · have nP := (List.nodup_append.mp nPQ).1
                have nQ := (List.nodup_append.mp nPQ).2.1
                have dPQ := (List.nodup_append.mp nPQ).2.2
                refine List.nodup_append.mpr ⟨List.nodup_append.mpr ⟨nP, nSe, fun q hq q' hq' e => bP (by rw [← hSe q' hq', ← e]; exact hq)⟩, nQ, fun q hq q' hq' e => ?_⟩
                rcases List.mem_append.mp hq with hq | hq
                · exact dPQ q hq q' hq' e
                · exact bQ (by rw [← hSe q hq, e]; exact hq')
            · intro q hq
              have old : ∀ q, q ∈ R i → q ∉ a :: (P ++ Se' ++ Q) ∧ ¬ F q ∧ ∀ j, j ≠ i → q ∉ S j := fun q hq => ⟨fun z => st3.rs i i q hq (mA q z), st3.rf i q hq, fun j _ => st3.rs i j q hq⟩
              rcases List.mem_append.mp hq with hq | hq
              · rcases List.mem_append.mp hq with hq | hq
                · exact old q (by rw [eR]; simp [hq])
                · rcases hRe q hq with z | z | ⟨rfl, z⟩
                  · exact old q (by rw [eR]; simp [z])
                  · have nv := v1 q z
                    exact ⟨fun z => nv (.inr ⟨i, mA q z⟩), fun z => nv (.inl z), fun j _ z => nv (.inr ⟨j, z⟩)⟩
                  · exact ⟨notb z, st3.sf i q bS, fun j hj z => st3.dj j i hj q z bS⟩
              · exact old q (by rw [eR]; simp [hq])
          have hput : ∀ j, keyD j ≠ none → putD (.dK (ws2.map (·.1)) vs2) j v0 = some c' → Dat X.K H3 j 0 u2 [] B3 → rSetDN (.ref b) u2 y H3 (fun H4 => E.nx σ H4) := by
            intro j hj ep dj
            unfold putD at ep
            dsimp only at ep
            split at ep
            case isFalse => cases ep
            rename_i hl
            obtain ⟨kk, ekk, rfl⟩ := Option.map_eq_some_iff.mp ep
            refine .inl ⟨b, ws2, kk, rfl, hb3, dat_key dj ekk, by rw [← List.length_map (as := ws2) (·.1)]; exact hl, fun nd => ?_⟩
            obtain ⟨q1, S5, R5, q2, q3, q4, q5⟩ := put_dats (k := kk) dd2 dv3 nd
            have hS5 : S5 = [] := Dats.noS q2
            subst hS5
            refine fin _ [b] R5 ?_ (fun q hq => by simpa using hq) (by simp) fun q hq => (q5 q hq).imp id .inl
            unfold Dat
            refine ⟨b, _, [], rfl, upd_same, q1, rfl, Dats.stay _ _ _ _ _ (sub_stay (K := X.K) hb3 trivial (by simp) fun z => ?_) q2⟩
            rcases q5 b z with z | z
            · exact bR (by rw [eR]; simp [z])
            · exact v1 b z (.inr ⟨i, bS⟩)
          unfold putE at ec'
          dsimp only at ec'
          cases j2 with
          | non =>
            dsimp only at ec'
            cases v0 with
            | int z =>
              dsimp only at ec'
              split at ec'
              case isFalse => cases ec'
              rename_i hl
              obtain ⟨es, ees, rfl⟩ := Option.map_eq_some_iff.mp ec'
              have hws := nulEs_dats ees dd2
              obtain rfl : u2 = .non := by simp only [Dat] at du2; exact du2.1
              obtain rfl : y = .int z := dat_int dv3
              refine .inr ⟨b, es, z, rfl, rfl, rfl, by rw [hb3, hws], ?_, fun ob hno hsm => ?_⟩
              · have : ws2.length = es.length := by rw [hws, List.length_map]
                rw [← this, ← List.length_map (as := ws2) (·.1)]; exact hl
              · refine fin _ [] [b] ?_ (fun q hq => by simp at hq) List.nodup_nil fun q hq => .inr (.inr ⟨by simpa using hq, rfl⟩)
                unfold Dat
                exact ⟨rfl, b, rfl, ⟨ob, upd_same, hno, hsm⟩, rfl⟩
            | _ => cases ec'
          | int z => exact .inl (hput _ (by simp [keyD]) ec' du2)
          | str z => exact .inl (hput _ (by simp [keyD]) ec' du2)
          | _ =>
            dsimp only [putD] at ec'
            split at ec'
            · cases ec'
            · cases ec'
        | _ => cases ec'
      | _ => cases ep
    | _ => cases ep
end
end TW
-- TWNul4
namespace PySem
open Sem (wp)
section
variable {prog : Program} {w : World} {K : Type} [DecidableEq K] {knd : KeyKind prog w K} {A : Around} {E : Value → Shared → Prop} {s : Shared}
theorem tw_tells {a : Addr} {ks : List K} {x : Str} {t : Tok} {Q : Bool → Shared → Prop} (hkey : (tupleKind knd).is s.heap ks a) (h : Q false s) : wpAny (model prog w) A (tableMayTell (.ref a) [.str x t]) Q E s := by
  unfold tableMayTell
  simp only [List.isEmpty_cons, Bool.false_eq_true, if_false]
  refine wpAny_bind ((tupleKind knd).quiet hkey ?_)
  simp only [Bool.not_true, Bool.false_eq_true, if_false]
  refine wpAny_bind ?_
  refine wpAny_forIn_list _ (fun rest r s' => s' = s ∧ r = (none, ()) ∧ ∀ v ∈ rest, v = .str x t) _ ?_ ?_ _ _ ⟨rfl, rfl, by simp⟩
  · rintro y rest r s' ⟨rfl, rfl, hr⟩
    obtain rfl := hr y List.mem_cons_self
    show wpAny _ _ ((pure true : Sem Bool) >>= _) _ _ _
    refine wpAny_bind (wpAny_pure ?_)
    simp only [Bool.not_true, Bool.false_eq_true, if_false]
    exact wpAny_pure ⟨rfl, rfl, fun v hv => hr v (List.mem_cons_of_mem _ hv)⟩
  · rintro r s' ⟨rfl, rfl, _⟩
    exact wpAny_pure h
theorem tw_find {d a : Addr} {o : Obj} {e : DictEntry} {ep : Nat} {ks : List K} {x : Str} {t : Tok} {hh : Int} {Q : Option Nat → Shared → Prop} (hu : A.units < cLine) (hkey : (tupleKind knd).is s.heap ks a)
    (ho : s.heap.get? d = some o) (hd : o.data = .dict #[e] ep) (he : e.key = .str x t) (h : Q none s) : wpAny (model prog w) A (dictFind d (.ref a) hh) Q E s := by
  unfold dictFind
  try with_reducible refine wpAny_holding ?_
  refine wpAny_bind (wpAny_dictEntries ho hd ?_)
  dsimp only
  obtain ⟨o2, items, n, h1, h2, h3, h4⟩ := (show IsTupleKey knd s.heap ks a from hkey)
  have tup : s.heap.IsTuple a items := ⟨o2, h1, h2, n, h3⟩
  have places : placesWithHash (#[e] : Array DictEntry).size (fun i => (#[e] : Array DictEntry)[i]?.map (·.hash)) hh = if e.hash = hh then [0] else [] := by
    show (List.range 1).filter _ = _
    by_cases q : e.hash = hh <;> simp [List.range_succ, q]
  rw [places]
  have hany : ¬ ((#[e] : Array DictEntry).any fun e => e.key == Value.ref a && e.hash != hh) = true := by
    rw [← Array.any_toList]
    simp [he]
  by_cases q : e.hash = hh
  · rw [if_pos q]
    have st : ([0].filterMap fun i => (#[e] : Array DictEntry)[i]?.map (·.key)) = [Value.str x t] := by simp [he]
    rw [st]
    rw [if_neg (show ¬ ((Value.ref a :: [Value.str x t]).all carriedByValue) = true by simp [carriedByValue])]
    rw [if_neg hany]
    rw [if_neg (show ¬ (([Value.str x t] : List Value) == [Value.ref a]) = true by simp)]
    refine wpAny_bind (tw_tells hkey ?_)
    rw [if_neg (by simp)]
    refine wpAny_bind ?_
    refine wpAny_forIn_list _ (fun rest b s' => s' = s ∧ b = (none, none) ∧ ∀ v ∈ rest, v = 0) _ ?_ ?_ _ _ ⟨rfl, rfl, by simp⟩
    · rintro y rest b s' ⟨rfl, rfl, hr⟩
      obtain rfl := hr y List.mem_cons_self
      have e0 : (#[e] : Array DictEntry)[0]? = some e := rfl
      rw [e0]
      dsimp only
      rw [if_pos (by simp [q])]
      refine wpAny_bind (wpAny_dictEpoch ho hd ?_)
      rw [he]
      refine wpAny_bind (SeqAt.EqAt.str_tuple x t tup hu prog w E _ (wpAny_bind (wpAny_dictEpoch ho hd ?_)))
      show wpAny _ _ (if (ep != ep) = true then _ else _) _ E _
      rw [if_neg (by simp)]
      simp only [Bool.false_eq_true, if_false]
      refine wpAny_bind (wpAny_rule ?_)
      first | rw [if_neg (by simp)] | skip
      first
        | exact wpAny_pure ⟨rfl, rfl, fun v hv => hr v (List.mem_cons_of_mem _ hv)⟩
        | exact wpAny_bind (wpAny_pure (wpAny_pure ⟨rfl, rfl, fun v hv => hr v (List.mem_cons_of_mem _ hv)⟩))
    · rintro b s' ⟨rfl, rfl, _⟩
      exact wpAny_pure h
  · rw [if_neg q]
    have st : (([] : List Nat).filterMap fun i => (#[e] : Array DictEntry)[i]?.map (·.key)) = [] := rfl
    rw [st]
    rw [if_neg (show ¬ ((Value.ref a :: ([] : List Value)).all carriedByValue) = true by simp [carriedByValue])]
    rw [if_neg hany]
    rw [if_neg (show ¬ (([] : List Value) == [Value.ref a]) = true by simp)]
    refine wpAny_bind ?_
    unfold tableMayTell
    refine wpAny_pure ?_
    rw [if_neg (by simp)]
    refine wpAny_bind ?_
    refine wpAny_forIn_list _ (fun rest b s' => s' = s ∧ b = (none, none) ∧ rest = []) _ ?_ ?_ _ _ ⟨rfl, rfl, rfl⟩
    · rintro y rest b s' ⟨rfl, rfl, hr⟩
      cases hr
    · rintro b s' ⟨rfl, rfl, _⟩
      exact wpAny_pure h
theorem tw_notIn {d a : Addr} {o : Obj} {e : DictEntry} {ep : Nat} {ks : List K} {x : Str} {t : Tok} {Q : Value → Shared → Prop} (hu : (tupleKind knd).room A.in1) (hkey : (tupleKind knd).is s.heap ks a) (hs : (d == sysModules) = false)
    (ho : s.heap.get? d = some o) (hx : o.ExactDict) (hd : o.data = .dict #[e] ep) (he : e.key = .str x t) (h : ∀ tk, Q (.bool true) { s with toks := tk }) : wpAny (model prog w) A (compareOp .NotIn (.ref a) (.ref d)) Q E s := by
  have ty : s.TypeIs (.ref d) "dict" := ⟨o, ho, hx.1⟩
  show wpAny _ _ (do return .bool (!(← contains (.ref d) (.ref a)))) Q E s
  refine wpAny_bind ?_
  refine wpAny_contains_slot ty F.slot_dict_contains ?_
  refine call_meetsIn F.slot_dict_contains ty F.entry_dict_contains (F.args_dict_contains_2 _ _) (S := fun A' R s' => A' = A ∧ s' = s ∧ ∀ tk, R (.ok (.ret (.bool false))) { s with toks := tk }) (fun A' R s' hS => ?_) ⟨rfl, rfl, fun tk => wpAny_truthy_bool (wpAny_pure (h tk))⟩
  obtain ⟨rfl, rfl, hq⟩ := hS
  show wpAny _ _ (dictGet d (.ref a) >>= _) _ _ _
  refine wpAny_bind ?_
  unfold dictGet
  try with_reducible refine wpAny_holding ?_
  refine wpAny_bind ((tupleKind knd).pyHash hu hkey (wpAny_bind (tw_find (s := { s' with toks := s'.toks + (tupleKind knd).draws ks }) hu hkey ho hd he ?_)))
  refine wpAny_pure ?_
  show wpAny _ _ (Builtin.Dict.pendingKey? d (.ref a) >>= _) _ _ _
  exact wpAny_bind (wpAny_pendingKey_other hs (wpAny_pure (hq _)))
end
end PySem
-- TWNul5
namespace TW
open PySem PySem.Spec PyProof.Rows L2
def gNinT (d e : D) : Option D := match d, e with
  | .tup l, .dK [.inr _] [_] => (keysD l).map fun _ => .bl true
  | d, e => gNin d e
def rNinT : R2 := fun x y H Q => ∃ (a b : Addr) (k : List Key) (s : Str) (v : V), x = .ref b ∧ y = .ref a ∧ Rd H a (.dK [(.inr s, v)]) ∧ H b = some (.tup (k.map kV)) ∧ Q (.bl true) H
theorem op_ninT {X : Cx} (hu : X.A.units + 1 < cLine) : OpR X (compareOp .NotIn) rNinT := by
  intro pins s σ H x y v u Q I rx ry h
  obtain ⟨a, b, k, z, w, rfl, rfl, ha, hb, q⟩ := h
  cases ry
  cases (show v = Value.ref b from rx)
  obtain ⟨_, hs, vs, rel, o, es, ep, ho, hx, hd, _, hp, _⟩ := dk_rd I.hok ha
  obtain ⟨pv, rfl⟩ : ∃ pv, vs = [((.inr z : Key), pv)] := by
    cases rel with
    | @cons _ b _ _ r t =>
      cases t
      obtain ⟨pk, pv⟩ := b
      obtain ⟨r1, _⟩ := r
      dsimp only at r1
      subst r1
      exact ⟨pv, rfl⟩
  · obtain ⟨es⟩ := es
    cases hp with
    | @cons e _ _ _ h1 h2 h3 =>
      cases h3
      obtain ⟨t, et⟩ := Value.isStrOf_shape (show Value.isStrOf z e.key = true from h1)
      exact tw_notIn (knd := mixKind X.prog X.w) (tupleKind_room_in1 hu) (key_of I.hok hb) hs ho hx hd et fun tk => ⟨.bl true, H, I.tok tk, rfl, q⟩
theorem bf_ninT {K : PySem.W.Frag} : BinF K (fun x y H Q => rNinT x y H Q ∨ rInAll K false x y H Q) gNinT := by
  intro x y d e z H B1 B2 Q h1 h2 ez po
  unfold gNinT at ez
  split at ez
  · rename_i l s v
    obtain ⟨k, ek, rfl⟩ := Option.map_eq_some_iff.mp ez
    obtain ⟨b, xs, rfl, hb, hl⟩ := dat_tup0 h1
    obtain rfl := dats_keys hl ek
    unfold Dat at h2
    obtain ⟨a, ws, R', rfl, hr, hk, _, _, _⟩ := h2
    obtain ⟨w, rfl⟩ : ∃ w, ws = [(.inr s, w)] := by
      cases ws with
      | nil => cases hk
      | cons p ws =>
        obtain ⟨p1, p2⟩ := p
        simp only [List.map_cons, List.cons.injEq, List.map_eq_nil_iff] at hk
        obtain ⟨rfl, rfl⟩ := hk
        exact ⟨p2, rfl⟩
    exact .inl ⟨a, b, k, s, w, rfl, rfl, hr, hb, po rfl _ dat_of_bl⟩
  · exact .inr (bf_nin x y d e z H B1 B2 Q h1 h2 ez po)
section
variable {X : Cx} {W : WX} {Γ : List Nat} {n n1 n2 : Nat} {f1 f2 : Bool} {a b : Expr} {pos : Pos} {ma mb : Rho → Res D}
theorem rt_ninT (hu : X.A.units + 65 < cLine) (ha : RE X W Γ n1 f1 a ma) (hb : RE X W Γ n2 f2 b mb) (hm : behindInMarks .NotIn b = false := by rfl) : RT X W Γ (.Compare a [.NotIn] [b] pos) (mT (m2 gNinT ma mb)) := rt_cmp (OpR.or (op_ninT (by omega)) (op_ninAll hu)) bf_ninT hm ha hb
end
def gListK : List D → Option D
  | [.dK ks _] => some (.lst (ks.map keyToD))
  | _ => none
theorem flat_keys (ks : List Key) : (ks.map keyToD).all D.still = true := by
  rw [List.all_eq_true]
  intro d hd
  obtain ⟨z, _, rfl⟩ := List.mem_map.mp hd
  cases z <;> rfl
theorem cv_listK {K : PySem.W.Frag} {n : Nat} (hn : n ≤ 1 := by decide) : CallV K (fun xs H Q => ∃ (a : Addr) (kvs : List (Key × V)), xs = [.ref a] ∧ Rd H a (.dK kvs) ∧ ∀ p, H p = none → Q (.ref p) (L2.upd H p (.lst (kvs.map fun kv => kV kv.1)))) gListK n := by
  intro Z vs ds z H B Q hz h hb ez po
  have e0 : n - 1 = 0 := by omega
  unfold gListK at ez
  split at ez
  · cases ez
    obtain ⟨v, rfl, h9⟩ := dats1 h
    unfold Dat at h9
    obtain ⟨a, ws, R', rfl, q, rfl, _⟩ := h9
    refine ⟨a, ws, rfl, q, fun p hp => new_lst po hp (B := []) ?_ (fun a z => by simp at z) hz⟩
    rw [e0]
    have := dats_keyD (K := K) (H := H) (n := 0) (ws.map (·.1))
    rw [show (ws.map fun kv => kV kv.1) = (ws.map (·.1)).map kV from by rw [List.map_map]; rfl]
    exact this
  · cases ez
section
variable {X : Cx} {W : WX} {Γ : List Nat} {n : Nat} {e : Expr} {p pos : Pos} {ma : Rho → Res (List D)}
theorem re_listK (hc : X.calm = true) (hm : X.mg "list" = none) (ha : RAB X W Γ [e] ma) (hn : n ≤ 1 := by decide) (hg : Gl X "list" := by rfl)
    (he : starEach (e :: []) X.env = (false, eval e X.env) :: starEach [] X.env := by rfl) (hpl : (backTo pos (starEach [] X.env)).any (·.1) = false := by rfl) : RE X W Γ n true (.Call (.Name "list" p) [e] [] pos) (mL gListK ma) := by
  refine RE.w (n := 1) ?_ hn
  obtain ⟨ta, pa, qa⟩ := ha
  refine ⟨_, pe_callTy (call_listD hc) hg hm boot_list pa (by decide) (by decide) he hpl, fun F H0 ρ σ H S R Q st po => ?_⟩
  refine qa F H0 ρ σ H S R _ st ((PostE.iff.mp po).bind.imp fun d _ po => ?_)
  intro xs H1 B s1 d1
  obtain ⟨z, ez, po⟩ := PostA.ofO po
  refine cv_listK (n := 1) (Nat.le_refl 1) (fun _ => False) xs d z H1 B Q (fun _ z => z.elim) d1 (fun _ _ z => z) ez ?_
  intro v H' A' B' s2 d2 _ nw
  unfold gListK at ez
  split at ez
  · cases ez
    have d3 := d2
    unfold Dat at d3
    obtain ⟨a, ys, S', rfl, q, rfl, hd⟩ := d3
    obtain rfl := still_all (flat_keys _) hd
    exact PostV.later po s1 _ H' _ [] s2 d2 (fun a z => by simp at z) nw
  · cases ez
end
section
variable {X : Cx} {W : WX} {Γ : List Nat} {n : Nat} {a b : Expr} {pos : Pos} {ma mb : Rho → Res D}
theorem re_d1N (ha : RE X W Γ 0 true a ma) (hb : RE X W Γ (n - 1) true b mb) : RE X W Γ n true (.Dict [some a] [b] pos) (mD1 ma mb) := by
  obtain ⟨ta, pa, qa⟩ := ha
  obtain ⟨tb, pb, qb⟩ := hb
  refine ⟨_, pe_disp (pps_cons pa pb pps_nil) rfl rfl (by simp) (by simp), fun F H0 ρ σ H S R Q st po p hp => ?_⟩
  have s1 : Same H (L2.upd H p (.dK [])) := same_new hp
  have st1 := (st.grow s1).more (A := [p]) (fun a ha => by obtain rfl := List.mem_singleton.mp ha; rw [upd_same]; simp) (fun a ha i z => by obtain rfl := List.mem_singleton.mp ha; exact st.domS i a z hp) (fun a ha i z => by obtain rfl := List.mem_singleton.mp ha; exact st.domR i a z hp)
  refine qa (F.plus [p]) H0 ρ σ _ S R _ st1 ?_
  unfold mD1 at po
  cases em : ma ρ with
  | stuck => rw [em] at po; exact po.elim
  | exn c =>
    rw [em] at po
    intro C H' hC s
    exact po C H' hC fun x o e => s x o (s1 x o e)
  | ok k =>
    rw [em, Res.bind_ok] at po
    intro x H2 A B s2 d2 _ _
    have st2 := st1.grow s2
    refine qb (F.plus [p]) H0 ρ σ H2 S R _ st2 ?_
    cases eb : mb ρ with
    | stuck =>
      rw [eb] at po
      exact po.elim
    | exn c =>
      rw [eb] at po
      intro C H' hC s
      exact po C H' hC fun x o e => s x o (s2 x o (s1 x o e))
    | ok v =>
      rw [eb, Res.bind_ok] at po
      intro y H3 A3 B3 s3 d3 v3 f3
      obtain ⟨nd3, nw3⟩ := f3 rfl
      cases ek : keyD k with
      | none => rw [ek] at po; exact po.elim
      | some kk =>
        rw [ek] at po
        have hp2 : H2 p = some (.dK []) := s2 p _ upd_same
        have hp3 : H3 p = some (.dK []) := s3 p _ hp2
        refine ⟨hp3, [(kk, y)], ?_, by simp, ?_⟩
        · rw [dat_key d2 ek]; rfl
        · have s13 : Same H (L2.upd H3 p (.dK (mergeK [] [(kk, y)]))) := fun x o e => by
            have hx : x ≠ p := fun q => by rw [q, hp] at e; cases e
            rw [upd_ne hx]
            exact s3 x o (s2 x o (s1 x o e))
          have pA : p ∉ A3 := fun z => by have := (nw3 p z).1; rw [hp2] at this; cases this
          have hpB : ¬ Av F S p := fun z => st.avd _ z hp
          have pB : p ∉ B3 := fun z => v3 p z (.inl (.inr (by simp)))
          have v3 : ∀ q ∈ B3, ¬ Av F S q := fun q hq z => v3 q hq (z.elim (fun z => .inl (.inl z)) fun z => .inr z)
          · have d4 : Dat X.K (L2.upd H3 p (.dK (mergeK [] [(kk, y)]))) v (n - 1) y A3 B3 := Dat.stay _ _ _ _ _ (sub_stay (K := X.K) hp3 trivial pA pB) d3
            cases n with
            | zero =>
              obtain rfl : A3 = [] := Dat.noS d4
              refine po (.ref p) _ [] (p :: B3) s13 ?_ (fun q hq z => ?_) fun _ => New.nil
              · unfold Dat
                exact ⟨p, [(kk, y)], B3, rfl, .of upd_same, rfl, rfl, rfl, Dats.one d4⟩
              · rcases List.mem_cons.mp hq with rfl | hq
                · exact hpB z
                · exact v3 q hq z
            | succ n =>
              refine po (.ref p) _ (p :: A3) B3 s13 ?_ (fun q hq z => v3 q hq z) fun _ => ⟨List.nodup_cons.mpr ⟨pA, nd3⟩, fun q hq => ?_⟩
              · show Dat X.K _ (.dK [kk] [v]) (n + 1) _ _ _
                unfold Dat
                exact ⟨p, [(kk, y)], A3, rfl, upd_same, rfl, rfl, Dats.one d4⟩
              · rcases List.mem_cons.mp hq with rfl | hq
                · exact ⟨hp, pB⟩
                · exact ⟨s1.free (s2.free (nw3 q hq).1), (nw3 q hq).2⟩
end
def popK (d j : D) : Option D := match d, j with
  | .dT ks vs, .tup l => (keysD l).bind fun k => (idxK ks k).map fun p => .dT (ks.eraseIdx p) (vs.eraseIdx p)
  | _, _ => none
def sPopT (i : Nat) (mj : Rho → Res D) : Rho → Out := atS i fun ρ => (noX (mj ρ)).out ρ fun j => match ρ[i]? with
  | some (some d) => (match popK d j with
    | some d' => .nx (ρ.set i (some d'))
    | none => .stuck)
  | _ => .stuck
theorem sPopT_ok {i : Nat} {mj : Rho → Res D} {ρ : Rho} {d j d' : D} (h : ρ[i]? = some (some d)) (e1 : mj ρ = .ok j) (e : popK d j = some d') : sPopT i mj ρ = .nx (ρ.set i (some d')) := by
  unfold sPopT atS
  rw [h]
  dsimp only
  rw [e1]
  show (match ρ[i]? with
  | some (some d) => (match popK d j with
    | some d' => Out.nx (ρ.set i (some d'))
    | none => .stuck)
  | _ => .stuck) = _
  rw [h]
  dsimp only
  rw [e]
theorem idxK_at {κ : Type} [DecidableEq κ] {k : κ} : ∀ {ws : List (κ × V)} {p : Nat}, idxK (ws.map (·.1)) k = some p → ∃ v, ws[p]? = some (k, v)
  | [], p, e => by simp [idxK] at e
  | w :: ws, p, e => by
    unfold idxK at e
    rw [List.map_cons, List.idxOf?_cons] at e
    by_cases h : w.1 = k
    · simp only [h, beq_self_eq_true, if_true] at e
      cases e
      exact ⟨w.2, by rw [← h]; rfl⟩
    · have ne : (w.1 == k) = false := beq_eq_false_iff_ne.mpr h
      simp only [ne, if_false, Bool.false_eq_true, Option.map_eq_some_iff] at e
      obtain ⟨j, hj, rfl⟩ := e
      obtain ⟨v, hv⟩ := idxK_at hj
      exact ⟨v, by simpa using hv⟩
theorem dropK_at {κ : Type} [DecidableEq κ] {k : κ} : ∀ {ws : List (κ × V)} {p : Nat}, (ws.map (·.1)).Nodup → idxK (ws.map (·.1)) k = some p → dropK ws k = ws.eraseIdx p
  | [], p, _, e => by simp [idxK] at e
  | w :: ws, p, nd, e => by
    unfold idxK at e
    rw [List.map_cons, List.idxOf?_cons] at e
    rw [List.map_cons, List.nodup_cons] at nd
    by_cases h : w.1 = k
    · simp only [h, beq_self_eq_true, if_true] at e
      cases e
      show (w :: ws).filter _ = ws
      rw [List.filter_cons_of_neg (by simp [h])]
      refine List.filter_eq_self.mpr fun y hy => ?_
      have : y.1 ≠ k := fun z => nd.1 (by rw [h, ← z]; exact List.mem_map_of_mem hy)
      simpa using this
    · have ne : (w.1 == k) = false := beq_eq_false_iff_ne.mpr h
      simp only [ne, if_false, Bool.false_eq_true, Option.map_eq_some_iff] at e
      obtain ⟨j, hj, rfl⟩ := e
      show (w :: ws).filter _ = w :: ws.eraseIdx j
      rw [List.filter_cons_of_pos (by simpa using h)]
      exact congrArg _ (dropK_at nd.2 hj)
theorem map_eraseIdx {α β : Type} (f : α → β) : ∀ (l : List α) (j : Nat), (l.eraseIdx j).map f = (l.map f).eraseIdx j
  | [], _ => rfl
  | _ :: _, 0 => rfl
  | x :: l, j + 1 => by
    show f x :: (l.eraseIdx j).map f = f x :: (l.map f).eraseIdx j
    rw [map_eraseIdx f l j]
theorem Dats.eraseT {K : PySem.W.Frag} {H : Hp} : ∀ {ds : List D} {n p : Nat} {xs : List V} {S R : List Addr}, Dats K H ds n xs S R → ∃ S' R', Dats K H (ds.eraseIdx p) n (xs.eraseIdx p) S' R' ∧ S'.Sublist S ∧ ∀ a ∈ R', a ∈ R
  | [], n, p, xs, S, R, h => by
    have h' := h
    simp only [Dats] at h'
    obtain ⟨rfl, rfl, rfl⟩ := h'
    exact ⟨[], [], by simpa using h, .slnil, fun a z => z⟩
  | d :: ds, n, 0, xs, S, R, h => by
    unfold Dats at h
    obtain ⟨x, xs', S1, S2, R1, R2, rfl, rfl, rfl, h1, h2⟩ := h
    exact ⟨S2, R2, by simpa using h2, List.sublist_append_right _ _, fun a z => List.mem_append_right _ z⟩
  | d :: ds, n, p + 1, xs, S, R, h => by
    unfold Dats at h
    obtain ⟨x, xs', S1, S2, R1, R2, rfl, rfl, rfl, h1, h2⟩ := h
    obtain ⟨S', R', g, sl, r⟩ := Dats.eraseT (p := p) h2
    refine ⟨S1 ++ S', R1 ++ R', by simpa using Dats.cons h1 g, sl.append_left _, fun a z => ?_⟩
    rcases List.mem_append.mp z with z | z
    · exact List.mem_append_left _ z
    · exact List.mem_append_right _ (r a z)
def tPopT1 (td ty : TE) : TE := fun σ H Q => td σ H fun x H1 => ∃ a, x = .ref a ∧ IsD H1 a ∧ ty σ H1 fun y H2 => ∃ kvs k v b, H2 a = some (.dT kvs) ∧ y = .ref b ∧ H2 b = some (.tup ((k : List Key).map kV)) ∧ valV kvs k = some v ∧ ((kvs.map (·.1)).Nodup → Q v (L2.upd H2 a (.dT (dropK kvs k))))
section
variable {X : Cx} {o e : Expr} {td ty : TE} {apos cpos : Pos}
theorem pe_popT (hu : X.A.units + 1 < cLine) (ho : PE X o td) (he : PE X e ty) (m : M1 X o "pop" apos e cpos) : PE X (.Call (.Attribute o "pop" apos) [e] [] cpos) (tPopT1 td ty) := by
  refine ⟨fun pins s σ H Q I h => ?_⟩
  refine wpAny_Call_method m.base m.few m.line PySem.F.plainAttrs_dict PySem.F.slot_dict_pop PySem.F.type_dict_pop (thn (ho.run pins s σ H _ I h) fun u s1 ⟨x, H1, I1, rx, a, ex, d, q1⟩ => ?_)
  subst ex
  obtain rfl : u = Value.ref a := rx
  obtain ⟨t1, t2, _⟩ := isD_at I1 d
  refine ⟨t1, t2, ?_⟩
  rw [m.trees]
  refine Calls.callWith_builtin rfl (Calls.evalArgs_plain (Calls.spliced_cons (thn (he.run pins s1 σ H1 _ I1 q1) fun iv s2 ⟨y, H2, I2, ry, kvs, k, v, b, ea, ey, eb, l, q2⟩ => Calls.spliced_nil ?_)))
  subst ey
  cases (show iv = Value.ref b from ry)
  obtain ⟨z, hd, xs', rel, dd⟩ := dt_of I2.hok ea
  have hz : xs'.length ≤ sizeLine := by rw [← Paired.length rel]; exact z
  have r := rel.val k
  rw [l] at r
  obtain ⟨p, hp, rp⟩ : ∃ p, atKey xs' k = some p ∧ RelV v p.2 := by
    cases hp : atKey xs' k with
    | none => rw [hp] at r; exact (show False from r).elim
    | some p => rw [hp] at r; exact ⟨p, rfl, r⟩
  have nd : (kvs.map (·.1)).Nodup := by
    obtain ⟨_, _, _, _, _, _, _, _, n5⟩ := id dd
    rw [paired_keys rel fun _ _ z => z.1]
    exact n5
  refine call_pop_heap (hsz := hz) (.inl rfl) (PySem.F.args_dict_pop_2 _ _) (tupleKind_room_in1 hu) (key_of I2.hok eb) hd dd hp fun h' dd' hs => ?_
  obtain ⟨ob, es, ep, hq, h2, h3, h4, _, h5⟩ := dd'
  have I3 : Inv X pins σ (L2.upd H2 a (.dT (dropK kvs k))) { s2 with heap := h', toks := s2.toks + (tupleKind (mixKind X.prog X.w)).draws k } :=
    d_write I2 (by rw [ea]; exact True.intro) hs ⟨ob, hq⟩ ⟨Nat.le_trans (dropK_le kvs k) z, hd, _, (L2.DX.KT_drop k rel).keeps (fun c ys ec => (by rw [upd_ne (ne_of ec ea (fun z => nomatch z))]; exact ec)), ob, es, ep, hq, h2, h3, h4, h5⟩
  exact ⟨v, _, I3, rp, q2 nd⟩
end
section
variable {X : Cx} {W : WX} {Γ : List Nat} {n i m : Nat} {o b : Expr} {apos cpos pos2 : Pos} {mj : Rho → Res D}
theorem rs_popT (hu : X.A.units + 1 < cLine) (hv : PE X o (tVar i)) (hb : RE X W Γ 0 true b mj) (hΓ : Γ.getD i 0 = m + 1 := by rfl) (hm : M1 X o "pop" apos b cpos := by exact ⟨rfl, rfl, rfl, rfl⟩)
    (hw : swapsWith (.Call (.Attribute o "pop" apos) [b] [] cpos) none pos2.line X.env = pure false := by rfl) : RS X W n Γ Γ (.Expr (.Call (.Attribute o "pop" apos) [b] [] cpos) pos2) (sPopT i mj) := by
  obtain ⟨tb, pb, qb⟩ := hb
  refine ⟨_, ps_expr (pe_popT hu hv pb hm) hw, fun F H0 ρ σ H S R E st po => ?_⟩
  obtain ⟨d, hd, po⟩ := atS_ok po
  obtain ⟨x, hx, g⟩ := st.slot i d hd
  obtain ⟨j, ej, po⟩ := noX_out po
  rw [hd] at po
  dsimp only at po
  cases ep : popK d j with
  | none => rw [ep] at po; exact po.elim
  | some d' =>
    rw [ep] at po
    dsimp only at po
    cases d with
    | dT ks vs =>
      cases j with
      | tup l =>
        obtain ⟨k, ek, ep⟩ := Option.bind_eq_some_iff.mp (show ((keysD l).bind fun k => (idxK ks k).map fun p => D.dT (ks.eraseIdx p) (vs.eraseIdx p)) = some d' from ep)
        obtain ⟨p, ekp, rfl⟩ := Option.map_eq_some_iff.mp ep
        rw [hΓ] at g
        have g0 := g
        simp only [Dat] at g
        obtain ⟨a, ws, S', rfl, haa, rfl, eS, dd⟩ := g
        refine ⟨_, hx, a, rfl, .inr ⟨ws, .inl haa⟩, ?_⟩
        refine qb F H0 ρ σ H S R _ st ?_
        rw [ej]
        intro u H1 A B s1 du _ _
        obtain rfl : A = [] := Dat.noS du
        have st1 := st.grow s1
        have ha1 : H1 a = some (.dT ws) := s1 _ _ haa
        obtain ⟨bb, xs, rfl, hbb, hl2⟩ := dat_tup0 du
        obtain rfl := dats_keys hl2 ek
        obtain ⟨v, hv⟩ := idxK_at ekp
        have hv2 : (ws.map (·.2))[p]? = some v := by rw [List.getElem?_map, hv]; rfl
        refine ⟨ws, k, v, bb, ha1, rfl, hbb, valV_at ekp hv2, fun nd => ?_⟩
        rw [dropK_at nd ekp]
        have aS : a ∈ S i := by rw [eS]; exact List.mem_cons_self
        have sub : ∀ c ∈ S', c ∈ S i := fun c hc => by rw [eS]; exact List.mem_cons_of_mem _ hc
        have ndi := st.nd i
        rw [eS] at ndi
        have aR : a ∉ R i := fun z => st.rs i i a z aS
        obtain ⟨S2, R2, g2, sl, r⟩ := Dats.eraseT (p := p) (dd.same s1)
        have na : a ∉ S2 := fun z => (List.nodup_cons.mp ndi).1 (sl.subset z)
        have nR : a ∉ R2 := fun z => aR (r a z)
        have ga : Dat X.K (L2.upd H1 a (.dT (ws.eraseIdx p))) (.dT ((ws.map (·.1)).eraseIdx p) (vs.eraseIdx p)) (m + 1) (.ref a) (a :: S2) R2 := by
          unfold Dat
          refine ⟨a, _, S2, rfl, upd_same, map_eraseIdx _ _ _, rfl, ?_⟩
          rw [map_eraseIdx]
          exact Dats.stay _ _ _ _ _ (sub_stay (K := X.K) ha1 trivial na nR) g2
        have mA : ∀ q ∈ a :: S2, q ∈ S i := fun q hq => by
          rcases List.mem_cons.mp hq with rfl | hq
          · exact aS
          · exact sub q (sl.subset hq)
        have st4 := st1.upd (i := i) (a := a) (A := a :: S2) (B := R2) hd hx aS (by rw [hΓ]; exact ga) (List.nodup_cons.mpr ⟨na, (List.nodup_cons.mp ndi).2.sublist sl⟩) (fun q hq => .inl (mA q hq)) fun q hq => ⟨fun z => st.rs i i q (r q hq) (mA q z), st.rf i q (r q hq), fun j _ => st.rs i j q (r q hq)⟩
        refine po σ _ _ _ st4 ((Keep.of_same s1).trans Grow.refl fun q u e hn => ?_) fun j q hq => ?_
        · rw [upd_ne (fun z => hn i (by rw [z]; exact aS))]; exact e
        · split at hq
          · exact .inl ⟨i, mA q hq⟩
          · exact .inl ⟨j, hq⟩
      | _ => cases ep
    | _ => cases ep
end
end TW
-- TWNul6
namespace TW
open PySem PySem.Spec PyProof.Rows L2
def gNinZ (d e : D) : Option D := match d, e with
  | .non, .tup l => (strsOf l).map fun _ => .bl true
  | .non, .ftup l => (strsOf l).map fun _ => .bl true
  | d, e => gNin d e
theorem inV_non : ∀ ss : List Str, inV .non (ss.map V.str) = false
  | [] => rfl
  | a :: l => by
    have := inV_non l
    unfold inV at this ⊢
    rw [List.map_cons, List.any_cons, this]; rfl
theorem bf_ninZ {K : PySem.W.Frag} : BinF K (rInAll K false) gNinZ := by
  intro x y d e z H B1 B2 Q h1 h2 ez po
  have tup : ∀ (l : List D) (p : Addr) (xs : List V) (B : List Addr), d = .non → y = .ref p → SqT K H p xs → Dats K H l 0 xs [] B → ((strsOf l).map fun _ => D.bl true) = some z → rInAll K false x y H Q := by
    intro l p xs B ed ey sq hd e
    subst ed
    obtain ⟨ss, e1, e2⟩ := Option.map_eq_some_iff.mp e
    subst e2
    rw [dats_strs e1 hd] at sq
    have hx : x = .non := by simp only [Dat] at h1; exact h1.1
    refine .inr (.inr ⟨p, _, ey, .inr sq, by rw [hx]; rfl, all_flat_strs ss, ?_⟩)
    rw [hx, inV_non]
    exact po rfl _ dat_of_bl
  unfold gNinZ at ez
  split at ez
  · obtain ⟨p, xs, ey, sq, hd⟩ := dat_tup0 h2
    exact tup _ p xs _ rfl ey (.of sq) hd ez
  · obtain ⟨p, xs, ey, sq, hd⟩ := dat_ftup0 h2
    exact tup _ p xs _ rfl ey (sqt_frz sq) hd ez
  · exact bf_nin x y d e z H B1 B2 Q h1 h2 ez po
section
variable {X : Cx} {W : WX} {Γ : List Nat} {n n1 n2 : Nat} {f1 f2 : Bool} {a b : Expr} {pos : Pos} {ma mb : Rho → Res D}
theorem rt_ninZ (hu : X.A.units + 65 < cLine) (ha : RE X W Γ n1 f1 a ma) (hb : RE X W Γ n2 f2 b mb) (hm : behindInMarks .NotIn b = false := by rfl) : RT X W Γ (.Compare a [.NotIn] [b] pos) (mT (m2 gNinZ ma mb)) := rt_cmp (op_ninAll hu) bf_ninZ hm ha hb
end
theorem Sto.swapT {K : PySem.W.Frag} {F : Fr} {H0 H H2 : Hp} {Γ : List Nat} {ρ : Rho} {σ : L2.St} {S R : Nat → List Addr} (h : Sto K F H0 Γ ρ σ H S R) (T : Addr → Prop) (kp : ∀ c u, H c = some u → ¬ T c → H2 c = some u) (tS : ∀ i, ∀ a ∈ S i, ¬ T a) (tR : ∀ i, ∀ a ∈ R i, ¬ T a)
    (t0 : ∀ a, T a → H0 a = none) (tF : ∀ a, F a → ¬ T a) (tM : ∀ a, T a → Mut (H a)) : Sto K F H0 Γ ρ σ H2 S R := by
  have nm : ∀ {c u}, H c = some u → ¬ Mut (some u) → ¬ T c := fun {c u} e hn z => hn (by have := tM c z; rw [e] at this; exact this)
  refine ⟨fun c u e => ?_, h.len, fun j d q => ?_, h.emp, h.new, h.nd, h.dj, h.rs, h.rf, h.sf, fun c hc z => ?_, h.pin⟩
  · exact kp c u (h.same c u e) fun z => by rw [t0 c z] at e; cases e
  · obtain ⟨x, e1, e2⟩ := h.slot j d q
    refine ⟨x, e1, Dat.stay d _ x (S j) (R j) ⟨fun c xs e => ?_, fun c o xs e => ?_, fun c o xs e => ?_, fun c hc o e => ?_, fun c hc o e => ?_⟩ e2⟩
    · exact kp c _ e (nm e id)
    · exact kp c _ e (nm e id)
    · exact kp c _ e (nm e id)
    · exact kp c _ e (tS j c hc)
    · exact kp c _ e (tR j c hc)
  · cases q : H c with
    | none => exact h.fd c hc q
    | some u => rw [kp c u q (tF c hc)] at z; cases z
def sSetMvO (i j : Nat) (m : List D → Res D) (ma : Rho → Res (List D)) : Rho → Out := fun ρ => match ρ[j]? with
  | some (some d) => (match ma ρ with
    | .ok ds => (match m (d :: ds) with
      | .ok z => .nx ((ρ.set j none).set i (some z))
      | _ => .stuck)
    | _ => .stuck)
  | _ => .stuck
theorem sSetMvO_ok {i j : Nat} {m : List D → Res D} {ma : Rho → Res (List D)} {ρ : Rho} {d z : D} {ds : List D} (h : ρ[j]? = some (some d)) (e1 : ma ρ = .ok ds) (e2 : m (d :: ds) = .ok z) : sSetMvO i j m ma ρ = .nx ((ρ.set j none).set i (some z)) := by
  unfold sSetMvO; rw [h]; dsimp only; rw [e1]; dsimp only; rw [e2]
section
variable {X : Cx} {W : WX} {Γ Γ1 ns : List Nat} {n i j k kk ar : Nat} {x f : Str} {y : Expr} {es : List Expr} {p pos pos' pos2 : Pos} {ma : Rho → Res (List D)} {m : List D → Res D}
theorem rs_setMvO (h : FnO X.prog X.w X.K X.mg X.base f kk (k :: ns) 0 ar m) (hr : Room kk X.A) (hy : PE X y (tVar j)) (ha : RAO X W Γ ns es ma) (hN : X.N.Nodup) (hx : Loc X.env.scope x) (hi : X.N[i]? = some x := by rfl) (hj : Γ.getD j 0 = k := by rfl) (hij : i ≠ j := by decide) (hl : i < Γ.length := by decide) (har : (y :: es).length = ar := by rfl) (hg : Gl X f := by rfl)
    (hdb : (f == ("__debug__" : Str)) = false := by decide) (he : starEach (y :: es) X.env = (false, eval y X.env) :: starEach es X.env := by rfl) (hpl : (backTo pos (starEach es X.env)).any (·.1) = false := by rfl)
    (hs : swapsWith (.Call (.Name f p) (y :: es) [] pos) (some (.Name x pos')) pos2.line X.env = pure false := by rfl) (hf : X.fn x = true ∨ X.env.scope.names.lookup x = some .local := by first | exact .inl rfl | exact .inr rfl | assumption) (hp : Γ.getD i 0 ≠ 99 := by decide) (hΓ : Γ.set i 0 = Γ1 := by rfl) :
    RS X W n Γ Γ1 (.Assign [.Name x pos'] (.Call (.Name f p) (y :: es) [] pos) pos2) (sSetMvO i j m ma) := by
  subst hΓ
  obtain ⟨fa, fd, ps, Fo, hm, hk, hb⟩ := h.ex
  obtain ⟨la, ta, pa, qa⟩ := ha
  refine ⟨_, ps_set hN hi hx (pe_call (pos := pos) (p := p) (E := fun _ _ _ => False) Fo hr hg hm hk hb (dvs := []) .nil (fun pins σ H s e s' I c => by
    obtain ⟨_, _, _, _, _, _, _, _, _, _, _, _, z⟩ := c
    exact z.elim) (pa_cons hy pa he) hdb he hpl) hs hf, fun F H0 ρ σ H S R E st po => ?_⟩
  unfold sSetMvO at po
  cases ej : ρ[j]? with
  | none => rw [ej] at po; exact po.elim
  | some oj =>
    cases oj with
    | none => rw [ej] at po; exact po.elim
    | some d =>
      rw [ej] at po
      dsimp only at po
      obtain ⟨yv, hyσ, gy⟩ := st.slot j d ej
      rw [hj] at gy
      refine ⟨yv, hyσ, ?_⟩
      refine qa F H0 ρ σ H S R _ st ?_
      cases e1 : ma ρ with
      | exn c => rw [e1] at po; exact po.elim
      | stuck => rw [e1] at po; exact po.elim
      | ok ds =>
        rw [e1] at po
        dsimp only at po
        intro xs H1 S1 R1 s1 hlen ag new1
        rw [List.append_nil]
        have hds : (d :: ds).length = ar := by rw [← har]; simp [la ρ ds e1]
        refine ⟨by rw [← hds]; simp [hlen], d :: ds, Av F (fun l => if l = j then [] else S l), (fun l => match l with | 0 => S j | l + 1 => S1 l), (fun l => match l with | 0 => R j | l + 1 => R1 l), hds, ?_, ?_⟩
        · have mono : ∀ a, Av F (fun l => if l = j then [] else S l) a → Av F S a := fun a z => z.elim .inl fun ⟨l, z⟩ => .inr ⟨l, by
            dsimp only at z
            split at z
            · simp at z
            · exact z⟩
          refine ⟨fun l d' q => ?_, fun l q => ?_, fun l => ?_, fun l l' hll a h1 h2 => ?_, fun l l' a h1 h2 => ?_, fun l a h => ?_, fun l a h => ?_, fun a z => ((st.grow s1).avd a (mono a z))⟩
          · cases l with
            | zero => cases q; exact ⟨yv, rfl, gy.same s1⟩
            | succ l => exact ag.slot l d' q
          · cases l with
            | zero => cases q
            | succ l => exact ag.emp l q
          · cases l with
            | zero => exact st.nd j
            | succ l => exact ag.nd l
          · cases l with
            | zero =>
              cases l' with
              | zero => exact hll rfl
              | succ l' => exact st.domS j a h1 (new1 l' a h2)
            | succ l =>
              cases l' with
              | zero => exact st.domS j a h2 (new1 l a h1)
              | succ l' => exact ag.dj l l' (fun z => hll (by rw [z])) a h1 h2
          · cases l with
            | zero =>
              cases l' with
              | zero => exact st.rs j j a h1 h2
              | succ l' => exact st.domR j a h1 (new1 l' a h2)
            | succ l =>
              cases l' with
              | zero => exact ag.rf l a h1 (.inr ⟨j, h2⟩)
              | succ l' => exact ag.rs l l' a h1 h2
          · cases l with
            | zero =>
              intro z
              refine z.elim (st.rf j a h) fun ⟨l, z⟩ => ?_
              dsimp only at z
              split at z
              · simp at z
              · exact st.rs j l a h z
            | succ l => exact fun z => ag.rf l a h (mono a z)
          · cases l with
            | zero =>
              intro z
              refine z.elim (st.sf j a h) fun ⟨l, z⟩ => ?_
              dsimp only at z
              split at z
              · simp at z
              · rename_i hlj
                exact st.dj j l (Ne.symm hlj) a h z
            | succ l => exact fun z => ag.sf l a h (mono a z)
        · cases em : m (d :: ds) with
          | exn c => rw [em] at po; exact po.elim
          | stuck => rw [em] at po; exact po.elim
          | ok z =>
            rw [em] at po
            dsimp only at po
            intro v H2 A B keep g hB nd hA
            obtain rfl : A = [] := Dat.noS g
            have kp : ∀ c u, H c = some u → c ∉ S j → H2 c = some u := fun c u q hc => keep c u (s1 c u q) fun l z => by
              cases l with
              | zero => exact hc z
              | succ l => have := new1 l c z; rw [q] at this; cases this
            have stD := (st.drop j).swapT (H2 := H2) (fun c => c ∈ S j) (fun c u q hc => kp c u q hc) (fun l a ha z => by
                split at ha
                · simp at ha
                · rename_i hlj
                  exact st.dj l j hlj a ha z) (fun l a ha z => by
                split at ha
                · simp at ha
                · exact st.rs l j a ha z) (fun a z => st.new j a z) (fun a hF z => st.sf j a z hF) (fun a z => st.mut j a z)
            obtain ⟨S', R', st2, gr⟩ := stD.set (i := i) (n := 0) (A := []) (B := B) (.inl hl) g hB List.nodup_nil (fun a z => by simp at z) (fun a z => by simp at z) (fun a z => by simp at z) (fun a z => by simp at z) (fun a z => by simp at z) hp
            refine po _ H2 S' R' st2 (fun a o q hn => kp a o q (hn j)) fun l a ha => ?_
            rcases gr l a ha with z | z
            · split at z
              · simp at z
              · exact .inl ⟨l, z⟩
            · simp at z
end
end TW
-- TWDefs
namespace TW
open PySem PySem.Spec PyProof.Rows L2
def b_turn : Rho → Out := sRet (m2 gSub (m2 gIx (m2 gIx (mVar 0) (mVar 2)) (mVar 2)) (m2 gIx (m2 gIx (mVar 0) (mVar 2)) (mVar 1)))
def m_turn : List D → Res D := callM 3 b_turn
def b_begun_sums : Rho → Out := sSeq (sSet 1 (mL gLen (mA1 (mVar 0) (mA0)))) (sRet (mLc [2] (tgN 2) (iR1 (mVar 1)) (tYesM) (mLc [3] (tgN 3) (iR1 (mVar 1)) (tYesM) (mArgs m_turn (mA1 (mVar 0) (mA1 (mVar 2) (mA1 (mVar 3) (mA0))))))))
def m_begun_sums : List D → Res D := callM 4 b_begun_sums
def b_begun_ways : Rho → Out := sSeq (sSet 1 (mL gLst (mA0))) (sSeq (sFor (tgN 2) (iR1 (mL gLen (mA1 (mVar 0) (mA0)))) (sApp 1 (pNil) (mLc [3] (tgN 3) (iR1 (mL gLen (mA1 (mVar 0) (mA0)))) (tYesM) (m2 gAdd (mL gLst (mA1 (mVar 2) (mA0))) (m2 gMul (mL gLst (mA1 (mVar 3) (mA0))) (mL gInt (mA1 (m2 gNe (mVar 2) (mVar 3)) (mA0)))))))) (sRet (mVar 1)))
def m_begun_ways : List D → Res D := callM 4 b_begun_ways
def b_closed : Rho → Out := sSeq (sFor (tgN 3) (iR1 (mL gLen (mA1 (mVar 0) (mA0)))) (sFor (tgN 4) (iR1 (mL gLen (mA1 (mVar 0) (mA0)))) (sIf (mT (m2 gLt (m2 gAdd (m2 gIx (m2 gIx (mVar 1) (mVar 3)) (mVar 4)) (mArgs m_turn (mA1 (mVar 0) (mA1 (mVar 4) (mA1 (mVar 3) (mA0)))))) (mC (.int 0)))) (sRet (m2 gIx (m2 gIx (mVar 2) (mVar 3)) (mVar 4))) (sNil)))) (sRet (mC .non))
def m_closed : List D → Res D := callM 5 b_closed
def b_best_last : Rho → Out := sSeq (sSet 4 (mVar 3)) (sSeq (sFor (tgN 5) (iR1 (mL gLen (mA1 (mVar 0) (mA0)))) (sIf (mT (m2 gLt (m2 gAdd (m2 gIx (m2 gIx (mVar 1) (mVar 2)) (mVar 5)) (mArgs m_turn (mA1 (mVar 0) (mA1 (mVar 5) (mA1 (mVar 3) (mA0)))))) (m2 gAdd (m2 gIx (m2 gIx (mVar 1) (mVar 2)) (mVar 4)) (mArgs m_turn (mA1 (mVar 0) (mA1 (mVar 4) (mA1 (mVar 3) (mA0)))))))) (sSet 4 (mVar 5)) (sNil))) (sRet ((mFlat (mVar 4)))))
def m_best_last : List D → Res D := callM 6 b_best_last
def b_longer : Rho → Out := sSeq (sSet 3 (mL gLst (mA0))) (sSeq (sSet 4 (mL gLst (mA0))) (sSeq (sFor (tgN 5) (iR1 (mL gLen (mA1 (mVar 0) (mA0)))) (sSeq (sSet 6 (mL gLst (mA0))) (sSeq (sSet 7 (mL gLst (mA0))) (sSeq (sFor (tgN 8) (iR1 (mL gLen (mA1 (mVar 0) (mA0)))) (sSeq (sSet 9 (mArgs m_best_last (mA1 (mVar 0) (mA1 (mVar 1) (mA1 (mVar 5) (mA1 (mVar 8) (mA0))))))) (sSeq (sApp 6 (pNil) (m2 gAdd (m2 gIx (m2 gIx (mVar 1) (mVar 5)) (mVar 9)) (mArgs m_turn (mA1 (mVar 0) (mA1 (mVar 9) (mA1 (mVar 8) (mA0))))))) (sApp 7 (pNil) (m2 gAdd (m2 gIx (m2 gIx (mVar 2) (mVar 5)) (mVar 9)) (m2 gMul (mL gLst (mA1 (mVar 8) (mA0))) (mL gInt (mA1 (m2 gNe (mVar 9) (mVar 8)) (mA0))))))))) (sSeq (sApp 3 (pNil) (mVar 6)) (sApp 4 (pNil) (mVar 7))))))) (sRet (mL gTup (mA1 (mVar 3) (mA1 (mVar 4) (mA0)))))))
def m_longer : List D → Res D := callM 10 b_longer
def b_ring : Rho → Out := sSeq (sSet 1 (mArgs m_begun_sums (mA1 (mVar 0) (mA0)))) (sSeq (sSet 2 (mArgs m_begun_ways (mA1 (mVar 0) (mA0)))) (sSeq (sFor (tgN 3) (iR2 (mC (.int 2)) (m2 gAdd (mL gLen (mA1 (mVar 0) (mA0))) (mC (.int 1)))) (sSeq (sSet 4 (mArgs m_closed (mA1 (mVar 0) (mA1 (mVar 1) (mA1 (mVar 2) (mA0)))))) (sSeq (sIf (mT (m1 (fun d => gNotN d .non) (mVar 4))) (sRet (mL gList (mA1 (mVar 4) (mA0)))) (sNil)) (sSeq (sSet 5 (mArgs m_longer (mA1 (mVar 0) (mA1 (mVar 1) (mA1 (mVar 2) (mA0)))))) (sSeq (sSet 1 (m2 gIx (mVar 5) (mC (.int 0)))) (sSet 2 (m2 gIx (mVar 5) (mC (.int 1))))))))) (sRet (mC .non))))
def m_ring : List D → Res D := callM 6 b_ring
def b_is_name : Rho → Out := sSeq (sIf (tOrM (tNotM (mT (m1 (gIsi "str") (mVar 0)))) (tNotM (mT (mChain gLe gLe (mC (.int 1)) (mL gLen (mA1 (mVar 0) (mA0))) (mC (.int 8)))))) (sRet (mC (.bl false))) (sNil)) (sSeq (sFor (tgN 1) (iAny (mVar 0)) (sIf (mT (m2 gNin (mVar 1) (mC (.str "abcdefghijklmnopqrstuvwxyz")))) (sRet (mC (.bl false))) (sNil))) (sRet (mC (.bl true))))
def m_is_name : List D → Res D := callM 2 b_is_name
def b_is_worth : Rho → Out := sRet (mAnd (m1 (gIsi "int") (mVar 0)) (mAnd (m1 gNot (m1 (gIsi "bool") (mVar 0))) (mChain gLt gLt (m2 gSub (mC (.int 0)) (m2 gPow (mC (.int 10)) (mC (.int 60)))) (mVar 0) (m2 gPow (mC (.int 10)) (mC (.int 60))))))
def m_is_worth : List D → Res D := callM 1 b_is_worth
def b_are_worths : Rho → Out := sSeq (sIf (tOrM (tNotM (mT (m1 (gIsi "list") (mVar 0)))) (mT (m2 gNe (mL gLen (mA1 (mVar 0) (mA0))) (mVar 1)))) (sRet (mC (.bl false))) (sNil)) (sSeq (sFor (tgN 3) (iAny (mVar 0)) (sSeq (sIf (tOrM (tNotM (mT (m1 (gIsi "list") (mVar 3)))) (mT (m2 gNe (mL gLen (mA1 (mVar 3) (mA0))) (mVar 2)))) (sRet (mC (.bl false))) (sNil)) (sFor (tgN 4) (iAny (mVar 3)) (sIf (tNotM (mT (mArgs m_is_worth (mA1 (mVar 4) (mA0))))) (sRet (mC (.bl false))) (sNil))))) (sRet (mC (.bl true))))
def m_are_worths : List D → Res D := callM 5 b_are_worths
def b_crossed : Rho → Out := sSeq (sSet 1 (mL gLst (mA1 (mL gTup (mA0)) (mA0)))) (sSeq (sFor (tgN 2) (iAny (mVar 0)) (sSeq (sSet 3 (mL gLst (mA0))) (sSeq (sFor (tgN 4) (iAny (mVar 1)) (sFor (tgN 5) (iAny (mVar 2)) (sApp 3 (pNil) (m2 gAdd (mVar 4) (mL gTup (mA1 (mVar 5) (mA0))))))) (sSet 1 (mVar 3))))) (sRet (mVar 1)))
def m_crossed : List D → Res D := callM 6 b_crossed
def b_row_with : Rho → Out := sRet (m2 gAdd (m2 gAdd (mSl (mVar 0) (oNo) (oYes (mVar 1))) (mL gTup (mA1 (mVar 2) (mA0)))) (mSl (mVar 0) (oYes (mVar 1)) (oNo)))
def m_row_with : List D → Res D := callM 3 b_row_with
def b_others_of : Rho → Out := sRet (mArgs m_crossed (mA1 (mLc [2] (tgN 2) (iR1 (mL gLen (mA1 (m2 gIx (mVar 0) (mC (.int 1))) (mA0)))) (mT (m2 gNe (mVar 2) (mVar 1))) (m2 gIx (m2 gIx (m2 gIx (mVar 0) (mC (.int 1))) (mVar 2)) (mC (.int 1)))) (mA0)))
def m_others_of : List D → Res D := callM 3 b_others_of
def b_are_names : Rho → Out := sSeq (sIf (tOrM (tNotM (mT (m1 (gIsi "list") (mVar 0)))) (tNotM (mT (mChain gLe gLe (mC (.int 1)) (mL gLen (mA1 (mVar 0) (mA0))) (mVar 1))))) (sRet (mC (.bl false))) (sNil)) (sSeq (sFor (tgN 2) (iAny (mVar 0)) (sIf (tNotM (mT (mArgs m_is_name (mA1 (mVar 2) (mA0))))) (sRet (mC (.bl false))) (sNil))) (sRet (m2 gEq (m1 gLenSetT (mVar 0)) (mL gLen (mA1 (mVar 0) (mA0))))))
def m_are_names : List D → Res D := callM 3 b_are_names
def b_is_hand : Rho → Out := sSeq (sIf (tOrM (tNotM (mT (m1 (gIsi "tuple") (mVar 0)))) (mT (m2 gNe (mL gLen (mA1 (mVar 0) (mA0))) (mC (.int 3))))) (sRet (mC (.bl false))) (sNil)) (sSeq (sIf (tOrM (tNotM (mT (mArgs m_is_name (mA1 (m2 gIx (mVar 0) (mC (.int 0))) (mA0))))) (tNotM (mT (mArgs m_are_names (mA1 (m2 gIx (mVar 0) (mC (.int 1))) (mA1 (mC (.int 8)) (mA0))))))) (sRet (mC (.bl false))) (sNil)) (sRet (mArgs m_are_worths (mA1 (m2 gIx (mVar 0) (mC (.int 2))) (mA1 (mL gLen (mA1 (m2 gIx (mVar 0) (mC (.int 1))) (mA0))) (mA1 (mVar 1) (mA0)))))))
def m_is_hand : List D → Res D := callM 2 b_is_hand
def b_house_of : Rho → Out := sSeq (sIf (tNotM (mT (mArgs m_are_names (mA1 (mVar 0) (mA1 (mC (.int 8)) (mA0)))))) (sDead) (sNil)) (sSeq (sIf (tOrM (tNotM (mT (m1 (gIsi "list") (mVar 1)))) (tNotM (mT (mChain gLe gLe (mC (.int 1)) (mL gLen (mA1 (mVar 1) (mA0))) (mC (.int 4)))))) (sDead) (sNil)) (sSeq (sSet 2 (mC (.int 1))) (sSeq (sSet 3 (mL gLst (mA0))) (sSeq (sFor (tgN 4) (iAny (mVar 1)) (sSeq (sIf (tNotM (mT (mArgs m_is_hand (mA1 (mVar 4) (mA1 (mL gLen (mA1 (mVar 0) (mA0))) (mA0)))))) (sDead) (sNil)) (sSeq (sSet 2 (m2 gMul (mVar 2) (mL gLen (mA1 (m2 gIx (mVar 4) (mC (.int 1))) (mA0))))) (sApp 3 (pNil) (mL gTup (mA1 (m2 gIx (mVar 4) (mC (.int 0))) (mA1 (mL gTupF (mA1 (m2 gIx (mVar 4) (mC (.int 1))) (mA0))) (mA1 (mL gTuple (mA1 (mLc [5] (tgN 5) (iAny (m2 gIx (mVar 4) (mC (.int 2)))) (tYesM) (mL gTuple (mA1 (mVar 5) (mA0)))) (mA0))) (mA0))))))))) (sSeq (sIf (tOrM (mT (m2 gGt (mVar 2) (mC (.int 256)))) (mT (m2 gNe (m1 gLenSetT (mLc [4] (tgN 4) (iAny (mVar 3)) (tYesM) (m2 gIx (mVar 4) (mC (.int 0))))) (mL gLen (mA1 (mVar 3) (mA0)))))) (sDead) (sNil)) (sRet (mL gTup (mA1 (mL gTupF (mA1 (mVar 0) (mA0))) (mA1 (mL gTuple (mA1 (mVar 3) (mA0))) (mA0))))))))))
def m_house_of : List D → Res D := callM 6 b_house_of
def b__law_cell_at : Rho → Out := sSeq (sIf (mT (m2 gLt (mVar 1) (mL gLen (mA1 (mVar 0) (mA0))))) (sRet (m2 gIx (mVar 0) (mVar 1))) (sNil)) (sRet (mC (.int 0)))
def m__law_cell_at : List D → Res D := callM 2 b__law_cell_at
def b__law_pool : Rho → Out := sSeq (sSet 2 (mC (.str "abcdefghijklmnopqrstuvwxyz"))) (sSeq (sSet 3 (m2 gMod (m2 gAdd (m2 gMul (m2 gMod (mVar 0) (mC (.int 2147483647))) (mC (.int 48271))) (mC (.int 11))) (mC (.int 2147483647)))) (sSeq (sSet 4 (m2 gIx (mVar 2) (m2 gMod (mVar 3) (mC (.int 26))))) (sSeq (sIf (mT (m2 gEq (m2 gMod (m2 gDiv (mVar 3) (mC (.int 26))) (mC (.int 3))) (mC (.int 1)))) (sRet (mLc [11] (tgN 11) (iR1 (mVar 1)) (tYesM) (m2 gMul (mVar 4) (m2 gAdd (mVar 11) (mC (.int 1)))))) (sNil)) (sSeq (sSet 5 (m2 gMod (m2 gDiv (mVar 3) (mC (.int 78))) (mC (.int 26)))) (sSeq (sSet 6 (m2 gIx (mL gLst (mA1 (mC (.int 1)) (mA1 (mC (.int 3)) (mA1 (mC (.int 5)) (mA1 (mC (.int 7)) (mA1 (mC (.int 9)) (mA1 (mC (.int 11)) (mA1 (mC (.int 15)) (mA1 (mC (.int 17)) (mA1 (mC (.int 19)) (mA1 (mC (.int 21)) (mA1 (mC (.int 23)) (mA1 (mC (.int 25)) (mA0)))))))))))))) (m2 gMod (m2 gDiv (mVar 3) (mC (.int 2028))) (mC (.int 12))))) (sSeq (sSet 7 (m2 gAdd (mC (.int 1)) (m2 gMod (m2 gDiv (mVar 3) (mC (.int 24336))) (mC (.int 8))))) (sSeq (sSet 8 (m2 gMod (m2 gDiv (mVar 3) (mC (.int 194688))) (mVar 7))) (sSeq (sSet 9 (m2 gMul (mVar 4) (mVar 8))) (sSeq (sSet 10 (m2 gMul (mVar 4) (m2 gSub (m2 gSub (mVar 7) (mC (.int 1))) (mVar 8)))) (sRet (mLc [11] (tgN 11) (iR1 (mVar 1)) (tYesM) (m2 gAdd (m2 gAdd (mVar 9) (m2 gIx (mVar 2) (m2 gMod (m2 gAdd (mVar 5) (m2 gMul (mVar 6) (mVar 11))) (mC (.int 26))))) (mVar 10)))))))))))))
def m__law_pool : List D → Res D := callM 12 b__law_pool
def b__law_drawn : Rho → Out := sSeq (sSet 2 (mL gMax (mA1 (mC (.int 1)) (mA1 (m2 gSub (mL gMin (mA1 (mL gLen (mA1 (mVar 0) (mA0))) (mA1 (mC (.int 63)) (mA0)))) (mC (.int 5))) (mA0))))) (sSeq (sSet 3 (mArgs m__law_cell_at (mA1 (mVar 0) (mA1 (m2 gAdd (mC (.int 5)) (m2 gMod (mVar 1) (mVar 2))) (mA0))))) (sSeq (sIf (mT (m2 gLt (mVar 1) (mVar 2))) (sRet (mVar 3)) (sNil)) (sSeq (sSet 4 (m2 gMod (m2 gAdd (m2 gAdd (m2 gMul (m2 gMod (mVar 3) (mC (.int 2147483647))) (mC (.int 48271))) (m2 gMul (m2 gDiv (mVar 1) (mVar 2)) (mC (.int 7919)))) (mVar 1)) (mC (.int 2147483647)))) (sRet (m2 gMod (m2 gMul (mVar 4) (mVar 4)) (mC (.int 2147483629)))))))
def m__law_drawn : List D → Res D := callM 5 b__law_drawn
def b__law_worth : Rho → Out := sSeq (sIf (mT (m2 gEq (m2 gMod (mVar 0) (mC (.int 5))) (mC (.int 2)))) (sRet (m2 gSub (m2 gMod (m2 gDiv (mVar 0) (mC (.int 5))) (m2 gPow (mC (.int 10)) (mC (.int 18)))) (m2 gMul (mC (.int 5)) (m2 gPow (mC (.int 10)) (mC (.int 17)))))) (sNil)) (sSeq (sIf (mT (m2 gEq (m2 gMod (mVar 0) (mC (.int 5))) (mC (.int 3)))) (sRet (m2 gAdd (m2 gSub (m2 gMod (m2 gDiv (mVar 0) (mC (.int 5))) (m2 gSub (m2 gMul (mC (.int 2)) (m2 gPow (mC (.int 10)) (mC (.int 60)))) (mC (.int 1)))) (m2 gPow (mC (.int 10)) (mC (.int 60)))) (mC (.int 1)))) (sNil)) (sSeq (sIf (mT (m2 gEq (m2 gMod (mVar 0) (mC (.int 5))) (mC (.int 4)))) (sRet (mC (.int 0))) (sNil)) (sRet (m2 gSub (m2 gMod (m2 gDiv (mVar 0) (mC (.int 5))) (mC (.int 19))) (mC (.int 9))))))
def m__law_worth : List D → Res D := callM 1 b__law_worth
def b__law_parts : Rho → Out := sSeq (sSet 2 (mArgs m__law_cell_at (mA1 (mVar 0) (mA1 (mC (.int 0)) (mA0))))) (sSeq (sSet 3 (mArgs m__law_cell_at (mA1 (mVar 0) (mA1 (mC (.int 1)) (mA0))))) (sSeq (sSet 4 (mArgs m__law_pool (mA1 (mVar 2) (mA1 (m2 gAdd (mC (.int 1)) (m2 gMod (mVar 3) (mC (.int 8)))) (mA0))))) (sSeq (sSet 5 (mL gLst (mA0))) (sSeq (sSet 6 (mC (.int 0))) (sSeq (sFor (tgN 7) (iR1 (m2 gAdd (mC (.int 1)) (m2 gMod (m2 gDiv (mVar 3) (mC (.int 8))) (mC (.int 4))))) (sSeq (sSet 8 (m2 gAdd (mC (.int 1)) (m2 gMod (m2 gDiv (mArgs m__law_cell_at (mA1 (mVar 0) (mA1 (mC (.int 2)) (mA0)))) (m2 gIx (mL gLst (mA1 (mC (.int 1)) (mA1 (mC (.int 9)) (mA1 (mC (.int 83)) (mA1 (mC (.int 761)) (mA0)))))) (mVar 7))) (m2 gIx (mVar 1) (m2 gMod (m2 gDiv (mVar 3) (mC (.int 8))) (mC (.int 4))))))) (sSeq (sSet 9 (mArgs m__law_pool (mA1 (m2 gIx (mL gLst (mA1 (mVar 2) (mA1 (m2 gAdd (m2 gDiv (mVar 2) (mC (.int 5))) (mVar 7)) (mA1 (m2 gAdd (mArgs m__law_cell_at (mA1 (mVar 0) (mA1 (mC (.int 3)) (mA0)))) (m2 gMul (mC (.int 31)) (mVar 7))) (mA0))))) (m2 gMod (m2 gDiv (mVar 3) (mC (.int 32))) (mC (.int 3)))) (mA1 (mVar 8) (mA0))))) (sSeq (sSet 10 (mL gLst (mA0))) (sSeq (sFor (tgN 11) (iAny (mVar 9)) (sSeq (sApp 10 (pNil) (mLc [12] (tgN 12) (iR1 (mL gLen (mA1 (mVar 4) (mA0)))) (tYesM) (mArgs m__law_worth (mA1 (mArgs m__law_drawn (mA1 (mVar 0) (mA1 (m2 gAdd (mVar 6) (mVar 12)) (mA0)))) (mA0))))) (sSet 6 (m2 gAdd (mVar 6) (mL gLen (mA1 (mVar 4) (mA0))))))) (sApp 5 (pNil) (mL gTup (mA1 (m2 gIx (mArgs m__law_pool (mA1 (m2 gIx (mL gLst (mA1 (mVar 2) (mA1 (m2 gAdd (m2 gDiv (mVar 2) (mC (.int 7))) (mC (.int 2))) (mA0)))) (m2 gMod (m2 gDiv (mVar 3) (mC (.int 96))) (mC (.int 2)))) (mA1 (mC (.int 4)) (mA0)))) (mVar 7)) (mA1 (mVar 9) (mA1 (mVar 10) (mA0))))))))))) (sRet (mL gTup (mA1 (mVar 4) (mA1 (mVar 5) (mA0))))))))))
def m__law_parts : List D → Res D := callM 13 b__law_parts
def b__law_rows_v2 : Rho → Out := sSeq (sSet 1 (mL gLst (mA1 (mL gTup (mA0)) (mA0)))) (sSeq (sFor (tgN 2) (iAny (mVar 0)) (sSeq (sSet 3 (mL gLst (mA0))) (sSeq (sFor (tgN 4) (iAny (mVar 1)) (sSet 3 (m2 gAdd (mVar 3) (mLc [5] (tgN 5) (iAny (m2 gIx (mVar 2) (mC (.int 1)))) (tYesM) (m2 gAdd (mVar 4) (mL gTup (mA1 (mVar 5) (mA0)))))))) (sSet 1 (mVar 3))))) (sRet (mVar 1)))
def m__law_rows_v2 : List D → Res D := callM 6 b__law_rows_v2
def b_pick : Rho → Out := sSeq (sSet 4 (m2 gIx (m2 gIx (m2 gIx (m2 gIx (mVar 0) (mC (.int 1))) (mVar 1)) (mC (.int 2))) (mMeth gIndex (m2 gIx (m2 gIx (m2 gIx (mVar 0) (mC (.int 1))) (mVar 1)) (mC (.int 1))) (mVar 3)))) (sSeq (sSet 5 (mC .non)) (sSeq (sFor (tgT [6, 7]) (iEnumM (m2 gIx (mVar 0) (mC (.int 0)))) (sIf (mT (m2 gIn (mVar 7) (mVar 2))) (sSeq (sSet 8 (m2 gSub (m2 gIx (mVar 4) (mVar 6)) (m2 gIx (mVar 2) (mVar 7)))) (sIf (tOrM (mT (m1 (fun d => gIsN d .non) (mVar 5))) (mT (m2 gGt (mVar 8) (m2 gIx (mVar 5) (mC (.int 0)))))) (sSet 5 (mL gTup (mA1 (mVar 8) (mA1 (mVar 7) (mA0))))) (sNil))) (sNil))) (sRet (m2 gIx (mVar 5) (mC (.int 1))))))
def m_pick : List D → Res D := callM 9 b_pick
def b__law_price : Rho → Out := sSeq (sIf (mT (m2 gEq (m2 gMod (mVar 0) (mC (.int 4))) (mC (.int 0)))) (sRet (m2 gSub (mVar 1) (m2 gMul (m2 gMod (m2 gDiv (mVar 0) (mC (.int 4))) (mC (.int 3))) (mL gInt (mA1 (m2 gGt (mVar 1) (mC (.int 0))) (mA0)))))) (sNil)) (sSeq (sIf (mT (m2 gEq (m2 gMod (mVar 0) (mC (.int 4))) (mC (.int 1)))) (sRet (m2 gSub (m2 gMod (m2 gDiv (mVar 0) (mC (.int 4))) (m2 gPow (mC (.int 10)) (mC (.int 18)))) (m2 gMul (mC (.int 5)) (m2 gPow (mC (.int 10)) (mC (.int 17)))))) (sNil)) (sSeq (sIf (mT (m2 gEq (m2 gMod (mVar 0) (mC (.int 4))) (mC (.int 2)))) (sRet (m2 gSub (m2 gMod (m2 gDiv (mVar 0) (mC (.int 4))) (m2 gPow (mC (.int 10)) (mC (.int 57)))) (m2 gMul (mC (.int 5)) (m2 gPow (mC (.int 10)) (mC (.int 56)))))) (sNil)) (sRet (m2 gSub (m2 gMod (m2 gDiv (mVar 0) (mC (.int 4))) (mC (.int 19))) (mC (.int 9))))))
def m__law_price : List D → Res D := callM 2 b__law_price
def b_is_menu : Rho → Out := sSeq (sIf (tOrM (tNotM (mT (m1 (gIsi "dict") (mVar 1)))) (mT (m2 gEq (mL gLen (mA1 (mVar 1) (mA0))) (mC (.int 0))))) (sRet (mC (.bl false))) (sNil)) (sSeq (sForDI 1 (tgT [2, 3]) (sIf (tOrM (mT (m2 gNin (mVar 2) (m2 gIx (mVar 0) (mC (.int 0))))) (tOrM (tNotM (mT (m1 (gIsi "int") (mVar 3)))) (mT (m1 (gIsi "bool") (mVar 3))))) (sRet (mC (.bl false))) (sNil))) (sRet (mC (.bl true))))
def m_is_menu : List D → Res D := callM 4 b_is_menu
def b_are_menus : Rho → Out := sSeq (sSet 3 (mArgs m_others_of (mA1 (mVar 0) (mA1 (mVar 1) (mA0))))) (sSeq (sIf (tOrM (tNotM (mT (m1 (gIsi "dict") (mVar 2)))) (mT (m2 gNe (mL gLen (mA1 (mVar 2) (mA0))) (mL gLen (mA1 (mVar 3) (mA0)))))) (sRet (mC (.bl false))) (sNil)) (sSeq (sFor (tgN 4) (iAny (mVar 3)) (sIf (tOrM (mT (m2 gNin (mVar 4) (mVar 2))) (tNotM (mT (mArgs m_is_menu (mA1 (mVar 0) (mA1 (m2 gIx (mVar 2) (mVar 4)) (mA0))))))) (sRet (mC (.bl false))) (sNil))) (sRet (mC (.bl true)))))
def m_are_menus : List D → Res D := callM 5 b_are_menus
def b_menus_table : Rho → Out := sSeq (sIf (tNotM (mT (mArgs m_are_menus (mA1 (mVar 0) (mA1 (mVar 1) (mA1 (mVar 2) (mA0))))))) (sDead) (sNil)) (sSeq (sSet 3 (mC (.dT [] []))) (sSeq (sFor (tgN 4) (iAny (mArgs m_others_of (mA1 (mVar 0) (mA1 (mVar 1) (mA0))))) (sFor (tgN 5) (iAny (m2 gIx (m2 gIx (m2 gIx (mVar 0) (mC (.int 1))) (mVar 1)) (mC (.int 1)))) (sPutD 3 (pNil) (mArgs m_row_with (mA1 (mVar 4) (mA1 (mVar 1) (mA1 (mVar 5) (mA0))))) (mArgs m_pick (mA1 (mVar 0) (mA1 (mVar 1) (mA1 (m2 gIx (mVar 2) (mVar 4)) (mA1 (mVar 5) (mA0))))))))) (sRet (mVar 3))))
def m_menus_table : List D → Res D := callM 6 b_menus_table
def b__law_menus_v2 : Rho → Out := sSeq (sSet 4 (mC (.dT [] []))) (sSeq (sSet 5 (mC (.int 0))) (sSeq (sSet 6 (mArgs m__law_rows_v2 (mA1 (m2 gAdd (mSl (mVar 2) (oNo) (oYes (mVar 3))) (mSl (mVar 2) (oYes (m2 gAdd (mVar 3) (mC (.int 1)))) (oNo))) (mA0)))) (sSeq (sSet 7 (m2 gMod (m2 gDiv (mArgs m__law_cell_at (mA1 (mVar 0) (mA1 (mC (.int 4)) (mA0)))) (mC (.int 5))) (mL gLen (mA1 (mVar 6) (mA0))))) (sSeq (sFor (tgN 8) (iAny (mStepL (m2 gAdd (mSl (mVar 6) (oYes (mVar 7)) (oNo)) (mSl (mVar 6) (oNo) (oYes (mVar 7)))) (m2 gSub (mC (.int 1)) (m2 gMul (mC (.int 2)) (m2 gMod (mVar 7) (mC (.int 2))))))) (sSeq (sSet 9 (mC (.dK [] []))) (sSeq (sSet 10 (m2 gIx (m2 gIx (m2 gIx (mVar 2) (mVar 3)) (mC (.int 2))) (m2 gMod (mVar 5) (mL gLen (mA1 (m2 gIx (m2 gIx (mVar 2) (mVar 3)) (mC (.int 1))) (mA0)))))) (sSeq (sFor (tgN 11) (iR1 (mL gLen (mA1 (mVar 1) (mA0)))) (sSeq (sSet 12 (m2 gMod (m2 gAdd (mVar 11) (mVar 5)) (mL gLen (mA1 (mVar 1) (mA0))))) (sSeq (sSet 13 (mArgs m__law_drawn (mA1 (mVar 0) (mA1 (m2 gAdd (m2 gAdd (mC (.int 300)) (m2 gMul (mVar 5) (mL gLen (mA1 (mVar 1) (mA0))))) (mVar 11)) (mA0))))) (sIf (tOrM (mT (m2 gLt (m2 gMod (mVar 13) (mC (.int 7))) (mC (.int 4)))) (mT (m2 gEq (mVar 11) (mC (.int 0))))) (sPutD 9 (pNil) (m2 gIx (mVar 1) (mVar 12)) (mArgs m__law_price (mA1 (m2 gDiv (mVar 13) (mC (.int 7))) (mA1 (m2 gIx (mVar 10) (mVar 12)) (mA0))))) (sNil))))) (sSeq (sPutMv 4 (mVar 8) 9) (sSet 5 (m2 gAdd (mVar 5) (mC (.int 1))))))))) (sRet (mVar 4))))))
def m__law_menus_v2 : List D → Res D := callM 14 b__law_menus_v2
def b__law_best : Rho → Out := sSeq (sIf (tOrM (tNotM (mT (m1 (gIsi "str") (mVar 3)))) (mT (m2 gNin (mVar 3) (mVar 2)))) (sRet (mC (.bl false))) (sNil)) (sSeq (sSet 4 (mMeth gIndex (mVar 0) (mVar 3))) (sSeq (sSet 5 (m2 gSub (m2 gIx (mVar 1) (mVar 4)) (m2 gIx (mVar 2) (mVar 3)))) (sSeq (sFor (tgN 6) (iR1 (mL gLen (mA1 (mVar 0) (mA0)))) (sIf (mT (m2 gIn (m2 gIx (mVar 0) (mVar 6)) (mVar 2))) (sSeq (sSet 7 (m2 gSub (m2 gIx (mVar 1) (mVar 6)) (m2 gIx (mVar 2) (m2 gIx (mVar 0) (mVar 6))))) (sIf (tOrM (mT (m2 gGt (mVar 7) (mVar 5))) (tAndM (mT (m2 gEq (mVar 7) (mVar 5))) (mT (m2 gLt (mVar 6) (mVar 4))))) (sRet (mC (.bl false))) (sNil))) (sNil))) (sRet (mC (.bl true))))))
def m__law_best : List D → Res D := callM 8 b__law_best
def b_law_k46 : Rho → Out := sSeq (sAsg (tgT [1, 2]) (mArgs m__law_parts (mA1 (mVar 0) (mA1 (mL gLst (mA1 (mC (.int 8)) (mA1 (mC (.int 5)) (mA1 (mC (.int 4)) (mA1 (mC (.int 2)) (mA0)))))) (mA0))))) (sSeq (sSet 3 (mArgs m_house_of (mA1 (mVar 1) (mA1 (mVar 2) (mA0))))) (sSeq (sSet 4 (m2 gMod (mArgs m__law_cell_at (mA1 (mVar 0) (mA1 (mC (.int 4)) (mA0)))) (mL gLen (mA1 (mVar 2) (mA0))))) (sSeq (sSet 5 (mArgs m__law_menus_v2 (mA1 (mVar 0) (mA1 (mVar 1) (mA1 (mVar 2) (mA1 (mVar 4) (mA0))))))) (sSeq (sSet 6 (mArgs m__law_menus_v2 (mA1 (mVar 0) (mA1 (mVar 1) (mA1 (mVar 2) (mA1 (mVar 4) (mA0))))))) (sSeq (sSet 7 (mSha 1 (mArgs m_menus_table (mA1 (mVar 3) (mA1 (mVar 4) (mA1 (mVar 6) (mA0))))))) (sSeq (sIf (mT (m2 gNeTT (mVar 6) (mVar 5))) (sRet (mC (.bl false))) (sNil)) (sSeq (sRuin 6 8 9 1 (m2 gSub (m1 gNeg (mC (.int 1))) (m2 gDiv (m2 gIx (m2 gIx (m2 gIx (m2 gIx (mVar 2) (mVar 4)) (mC (.int 2))) (mC (.int 0))) (mC (.int 0))) (mC (.int 2))))) (sSeq (sSet 10 (mArgs m__law_rows_v2 (mA1 (mVar 2) (mA0)))) (sSeq (sIf (tOrM (tNotM (mT (m1 (gIsi "dict") (mVar 7)))) (mT (m2 gNe (mL gLen (mA1 (mVar 7) (mA0))) (mL gLen (mA1 (mVar 10) (mA0)))))) (sRet (mC (.bl false))) (sNil)) (sSeq (sFor (tgN 11) (iAny (mVar 10)) (sSeq (sSet 12 (m2 gIx (m2 gIx (m2 gIx (mVar 2) (mVar 4)) (mC (.int 2))) (mMeth gIndex (m2 gIx (m2 gIx (mVar 2) (mVar 4)) (mC (.int 1))) (m2 gIx (mVar 11) (mVar 4))))) (sSeq (sSet 13 (m2 gIx (mVar 5) (m2 gAdd (mSl (mVar 11) (oNo) (oYes (mVar 4))) (mSl (mVar 11) (oYes (m2 gAdd (mVar 4) (mC (.int 1)))) (oNo))))) (sIf (tOrM (mT (m2 gNin (mVar 11) (mVar 7))) (tNotM (mT (mArgs m__law_best (mA1 (mVar 1) (mA1 (mVar 12) (mA1 (mVar 13) (mA1 (m2 gIx (mVar 7) (mVar 11)) (mA0))))))))) (sRet (mC (.bl false))) (sNil))))) (sRet (mC (.bl true)))))))))))))
def m_law_k46 : List D → Res D := callM 14 b_law_k46
def b_is_menu_v2 : Rho → Out := sSeq (sIf (tOrM (tNotM (mT (m1 (gIsiN "dict") (mVar 1)))) (mT (m2 gEq (mL gLenN (mA1 (mVar 1) (mA0))) (mC (.int 0))))) (sRet (mC (.bl false))) (sNil)) (sSeq (sForDN 1 (tgT [2, 3]) (sIf (tOrM (mT (m2 gNinZ (mVar 2) (m2 gIx (mVar 0) (mC (.int 0))))) (tOrM (tNotM (mT (m1 (gIsi "int") (mVar 3)))) (mT (m1 (gIsi "bool") (mVar 3))))) (sRet (mC (.bl false))) (sNil))) (sRet (mC (.bl true))))
def m_is_menu_v2 : List D → Res D := callM 4 b_is_menu_v2
def b_are_menus_v2 : Rho → Out := sSeq (sSet 3 (mArgs m_others_of (mA1 (mVar 0) (mA1 (mVar 1) (mA0))))) (sSeq (sIf (tOrM (tNotM (mT (m1 (gIsi "dict") (mVar 2)))) (mT (m2 gNe (mL gLen (mA1 (mVar 2) (mA0))) (mL gLen (mA1 (mVar 3) (mA0)))))) (sRet (mC (.bl false))) (sNil)) (sSeq (sFor (tgN 4) (iAny (mVar 3)) (sIf (tOrM (mT (m2 gNinT (mVar 4) (mVar 2))) (tNotM (mT (mArgs m_is_menu_v2 (mA1 (mVar 0) (mA1 (m2 gIx (mVar 2) (mVar 4)) (mA0))))))) (sRet (mC (.bl false))) (sNil))) (sRet (mC (.bl true)))))
def m_are_menus_v2 : List D → Res D := callM 5 b_are_menus_v2
def b_menus_table_v2 : Rho → Out := sSeq (sIf (tNotM (mT (mArgs m_are_menus_v2 (mA1 (mVar 0) (mA1 (mVar 1) (mA1 (mVar 2) (mA0))))))) (sRaise "NoMenu") (sNil)) (sSeq (sSet 3 (mC (.dT [] []))) (sSeq (sFor (tgN 4) (iAny (mArgs m_others_of (mA1 (mVar 0) (mA1 (mVar 1) (mA0))))) (sFor (tgN 5) (iAny (m2 gIx (m2 gIx (m2 gIx (mVar 0) (mC (.int 1))) (mVar 1)) (mC (.int 1)))) (sPutD 3 (pNil) (mArgs m_row_with (mA1 (mVar 4) (mA1 (mVar 1) (mA1 (mVar 5) (mA0))))) (mArgs m_pick (mA1 (mVar 0) (mA1 (mVar 1) (mA1 (m2 gIx (mVar 2) (mVar 4)) (mA1 (mVar 5) (mA0))))))))) (sRet (mVar 3))))
def m_menus_table_v2 : List D → Res D := callM 6 b_menus_table_v2
def b__law_told_v5 : Rho → Out := sSeq (sSet 3 (mC .non)) (sSeq (sSet 4 (mC .non)) (sSeq (sTryA 5 "NoMenu" (sSet 3 (mArgs m_menus_table_v2 (mA1 (mVar 0) (mA1 (mVar 1) (mA1 (mVar 2) (mA0)))))) (sSet 4 (mL gLst (mA1 (mC (.bl true)) (mA1 (mC (.bl true)) (mA1 (mC (.bl false)) (mA1 (mC (.bl false)) (mA0)))))))) (sRet (mL gTup (mA1 (mVar 3) (mA1 (mVar 4) (mA0)))))))
def m__law_told_v5 : List D → Res D := callM 6 b__law_told_v5
def b__law_spoiled_v2 : Rho → Out := sSeq (sSet 3 (m2 gMod (mVar 2) (mC (.int 14)))) (sSeq (sSet 4 (m2 gIx (mL gListK (mA1 (m2 gIx (mVar 0) (mVar 1)) (mA0))) (mC (.int 0)))) (sSeq (sIf (mT (m2 gLt (mVar 3) (mC (.int 2)))) (sPopT 0 (mVar 1)) (sNil)) (sSeq (sIf (mT (m2 gEq (mVar 3) (mC (.int 1)))) (sPutD 0 (pNil) (m2 gAdd (mVar 1) (mL gTup (mA1 (mC (.str "word")) (mA0)))) (mD1 (mVar 4) (mC (.int 1)))) (sNil)) (sSeq (sIf (mT (m2 gEq (mVar 3) (mC (.int 2)))) (sPutD 0 (pNil) (m2 gAdd (mVar 1) (mL gTup (mA1 (mC (.str "word")) (mA0)))) (mD1 (mVar 4) (mC (.int 1)))) (sNil)) (sSeq (sIf (mT (m2 gEq (mVar 3) (mC (.int 3)))) (sPutD 0 (pNil) (mVar 1) (mC (.dK [] []))) (sNil)) (sSeq (sIf (mT (m2 gEq (mVar 3) (mC (.int 4)))) (sPutD 0 (pNil) (mVar 1) (m2 gIx (mL gLst (mA1 (mC .non) (mA1 (mL gLst (mA0)) (mA1 (mL gLst (mA1 (mVar 4) (mA0))) (mA1 (mL gTup (mA1 (mVar 4) (mA1 (mC (.int 1)) (mA0)))) (mA1 (mC (.str "menu")) (mA1 (mC (.bl true)) (mA0)))))))) (m2 gMod (m2 gDiv (mVar 2) (mC (.int 14))) (mC (.int 6))))) (sNil)) (sSeq (sIf (mT (m2 gEq (mVar 3) (mC (.int 5)))) (sPutN 0 (mVar 1) (mC (.str "Other")) (mC (.int 1))) (sNil)) (sSeq (sIf (mT (m2 gEq (mVar 3) (mC (.int 6)))) (sPutN 0 (mVar 1) (mC .non) (mC (.int 1))) (sNil)) (sSeq (sIf (tAndM (mT (m2 gLt (mVar 3) (mC (.int 10)))) (mT (m2 gGt (mVar 3) (mC (.int 6))))) (sPutN 0 (mVar 1) (mVar 4) (m2 gIx (mL gLst (mA1 (mC .non) (mA1 (mC (.bl true)) (mA1 (mC (.str "1")) (mA1 (mL gLst (mA1 (mC (.int 1)) (mA0))) (mA1 (mL gTup (mA0)) (mA1 (mC (.bl false)) (mA0)))))))) (m2 gMod (m2 gDiv (mVar 2) (mC (.int 14))) (mC (.int 6))))) (sNil)) (sSeq (sIf (mT (m2 gEq (mVar 3) (mC (.int 10)))) (sRet (m2 gIx (mL gLst (mA1 (mC .non) (mA1 (mL gLst (mA0)) (mA1 (mL gListDT (mA1 (mVar 0) (mA0))) (mA1 (mC (.str "menus")) (mA1 (mC (.bl true)) (mA0))))))) (m2 gMod (m2 gDiv (mVar 2) (mC (.int 14))) (mC (.int 5))))) (sNil)) (sSeq (sIf (mT (m2 gEq (mVar 3) (mC (.int 11)))) (sRet (mD1 (mC (.str "row")) (m2 gIx (mVar 0) (mVar 1)))) (sNil)) (sRet (mVar 0)))))))))))))
def m__law_spoiled_v2 : List D → Res D := callM 5 b__law_spoiled_v2
def b_law_k47 : Rho → Out := sSeq (sAsg (tgT [1, 2]) (mArgs m__law_parts (mA1 (mVar 0) (mA1 (mL gLst (mA1 (mC (.int 8)) (mA1 (mC (.int 5)) (mA1 (mC (.int 4)) (mA1 (mC (.int 2)) (mA0)))))) (mA0))))) (sSeq (sSet 3 (mArgs m_house_of (mA1 (mVar 1) (mA1 (mVar 2) (mA0))))) (sSeq (sSet 4 (m2 gMod (mArgs m__law_cell_at (mA1 (mVar 0) (mA1 (mC (.int 4)) (mA0)))) (m2 gPow (mC (.int 10)) (mC (.int 18))))) (sSeq (sSet 5 (m2 gMod (mVar 4) (mL gLen (mA1 (mVar 2) (mA0))))) (sSeq (sSet 6 (mArgs m__law_menus_v2 (mA1 (mVar 0) (mA1 (mVar 1) (mA1 (mVar 2) (mA1 (mVar 5) (mA0))))))) (sSeq (sSet 7 (mL gListDT (mA1 (mVar 6) (mA0)))) (sSeq (sSetMvO 8 6 m__law_spoiled_v2 (mA1 (m2 gIx (mVar 7) (m2 gMod (m2 gDiv (mVar 4) (mC (.int 56))) (mL gLen (mA1 (mVar 7) (mA0))))) (mA1 (m2 gDiv (mVar 4) (mC (.int 4))) (mA0)))) (sSeq (sAsg (tgT [9, 10]) (mArgs m__law_told_v5 (mA1 (mVar 3) (mA1 (mVar 5) (mA1 (mVar 8) (mA0)))))) (sSeq (sIf (mT (m2 gLt (m2 gMod (m2 gDiv (mVar 4) (mC (.int 4))) (mC (.int 14))) (mC (.int 12)))) (sSeq (sIf (mT (m2 gNe (mVar 10) (mL gLst (mA1 (mC (.bl true)) (mA1 (mC (.bl true)) (mA1 (mC (.bl false)) (mA1 (mC (.bl false)) (mA0)))))))) (sRet (mC (.bl false))) (sNil)) (sSeq (sSet 6 (mArgs m__law_menus_v2 (mA1 (mVar 0) (mA1 (mVar 1) (mA1 (mVar 2) (mA1 (mVar 5) (mA0))))))) (sAsg (tgT [9, 10]) (mArgs m__law_told_v5 (mA1 (mVar 3) (mA1 (mVar 5) (mA1 (mVar 6) (mA0)))))))) (sNil)) (sRet (mAnd (m1 (fun d => gIsN d .non) (mVar 10)) (mAnd (m1 (gIsi "dict") (mVar 9)) (m2 gEq (mL gLen (mA1 (mVar 9) (mA0))) (mL gLen (mA1 (mArgs m__law_rows_v2 (mA1 (mVar 2) (mA0))) (mA0)))))))))))))))
def m_law_k47 : List D → Res D := callM 11 b_law_k47
end TW
-- Row_k47
set_option maxHeartbeats 4000000
namespace Lk47
open PySem PySem.Spec PyProof.Rows L2 TW
def topS (i : Nat) : Stmt := PySem.Challenge.pw_trueword_k47_no_menus.main.body.getD i (.Pass ⟨0, 0, 0, 0⟩)
abbrev s_is_name : Stmt := topS 13
abbrev N_is_name : List Str := ["thing", "sign"]
theorem sc_is_name : FnScope N_is_name ["thing"] (defScope s_is_name) := ⟨rfl, rfl, rfl, by decide +kernel, rfl, by decide +kernel, by decide +kernel⟩
abbrev s_are_names : Stmt := topS 14
abbrev N_are_names : List Str := ["thing", "top", "one"]
theorem sc_are_names : FnScope N_are_names ["thing", "top"] (defScope s_are_names) := ⟨rfl, rfl, rfl, by decide +kernel, rfl, by decide +kernel, by decide +kernel⟩
abbrev s_is_worth : Stmt := topS 15
abbrev N_is_worth : List Str := ["thing"]
theorem sc_is_worth : FnScope N_is_worth ["thing"] (defScope s_is_worth) := ⟨rfl, rfl, rfl, by decide +kernel, rfl, by decide +kernel, by decide +kernel⟩
abbrev s_are_worths : Stmt := topS 16
abbrev N_are_worths : List Str := ["thing", "words", "outcomes", "row", "number"]
theorem sc_are_worths : FnScope N_are_worths ["thing", "words", "outcomes"] (defScope s_are_worths) := ⟨rfl, rfl, rfl, by decide +kernel, rfl, by decide +kernel, by decide +kernel⟩
abbrev s_is_hand : Stmt := topS 17
abbrev N_is_hand : List Str := ["thing", "outcomes"]
theorem sc_is_hand : FnScope N_is_hand ["thing", "outcomes"] (defScope s_is_hand) := ⟨rfl, rfl, rfl, by decide +kernel, rfl, by decide +kernel, by decide +kernel⟩
abbrev s_house_of : Stmt := topS 18
abbrev N_house_of : List Str := ["outcomes", "hands", "many", "made", "hand", "row"]
theorem sc_house_of : FnScope N_house_of ["outcomes", "hands"] (defScope s_house_of) := ⟨rfl, rfl, rfl, by decide +kernel, rfl, by decide +kernel, by decide +kernel⟩
abbrev s_crossed : Stmt := topS 19
abbrev N_crossed : List Str := ["lists", "rows", "words", "longer", "row", "word"]
theorem sc_crossed : FnScope N_crossed ["lists"] (defScope s_crossed) := ⟨rfl, rfl, rfl, by decide +kernel, rfl, by decide +kernel, by decide +kernel⟩
abbrev s_others_of : Stmt := topS 20
abbrev N_others_of : List Str := ["house", "k", "j"]
theorem sc_others_of : FnScope N_others_of ["house", "k"] (defScope s_others_of) := ⟨rfl, rfl, rfl, by decide +kernel, rfl, by decide +kernel, by decide +kernel⟩
abbrev s_row_with : Stmt := topS 21
abbrev N_row_with : List Str := ["others", "k", "word"]
theorem sc_row_with : FnScope N_row_with ["others", "k", "word"] (defScope s_row_with) := ⟨rfl, rfl, rfl, by decide +kernel, rfl, by decide +kernel, by decide +kernel⟩
abbrev s_is_menu : Stmt := topS 23
abbrev N_is_menu : List Str := ["house", "thing", "outcome", "price"]
theorem sc_is_menu : FnScope N_is_menu ["house", "thing"] (defScope s_is_menu) := ⟨rfl, rfl, rfl, by decide +kernel, rfl, by decide +kernel, by decide +kernel⟩
abbrev s_are_menus : Stmt := topS 24
abbrev N_are_menus : List Str := ["house", "k", "thing", "rows", "others"]
theorem sc_are_menus : FnScope N_are_menus ["house", "k", "thing"] (defScope s_are_menus) := ⟨rfl, rfl, rfl, by decide +kernel, rfl, by decide +kernel, by decide +kernel⟩
abbrev s_pick : Stmt := topS 25
abbrev N_pick : List Str := ["house", "k", "menu", "word", "worths", "best", "place", "outcome", "gain"]
theorem sc_pick : FnScope N_pick ["house", "k", "menu", "word"] (defScope s_pick) := ⟨rfl, rfl, rfl, by decide +kernel, rfl, by decide +kernel, by decide +kernel⟩
abbrev s_menus_table : Stmt := topS 26
abbrev N_menus_table : List Str := ["house", "k", "menus", "table", "others", "word"]
theorem sc_menus_table : FnScope N_menus_table ["house", "k", "menus"] (defScope s_menus_table) := ⟨rfl, rfl, rfl, by decide +kernel, rfl, by decide +kernel, by decide +kernel⟩
abbrev s__law_cell_at : Stmt := topS 28
abbrev N__law_cell_at : List Str := ["script", "k"]
theorem sc__law_cell_at : FnScope N__law_cell_at ["script", "k"] (defScope s__law_cell_at) := ⟨rfl, rfl, rfl, by decide +kernel, rfl, by decide +kernel, by decide +kernel⟩
abbrev s__law_pool : Stmt := topS 29
abbrev N__law_pool : List Str := ["cell", "many", "letters", "number", "filler", "begin", "step", "size", "place", "front", "back", "k"]
theorem sc__law_pool : FnScope N__law_pool ["cell", "many"] (defScope s__law_pool) := ⟨rfl, rfl, rfl, by decide +kernel, rfl, by decide +kernel, by decide +kernel⟩
abbrev s__law_drawn : Stmt := topS 30
abbrev N__law_drawn : List Str := ["script", "k", "many", "cell", "number"]
theorem sc__law_drawn : FnScope N__law_drawn ["script", "k"] (defScope s__law_drawn) := ⟨rfl, rfl, rfl, by decide +kernel, rfl, by decide +kernel, by decide +kernel⟩
abbrev s__law_worth : Stmt := topS 31
abbrev N__law_worth : List Str := ["cell"]
theorem sc__law_worth : FnScope N__law_worth ["cell"] (defScope s__law_worth) := ⟨rfl, rfl, rfl, by decide +kernel, rfl, by decide +kernel, by decide +kernel⟩
abbrev s__law_parts : Stmt := topS 32
abbrev N__law_parts : List Str := ["script", "tops", "first", "shape", "outcomes", "hands", "k", "j", "size", "words", "worths", "word", "i"]
theorem sc__law_parts : FnScope N__law_parts ["script", "tops"] (defScope s__law_parts) := ⟨rfl, rfl, rfl, by decide +kernel, rfl, by decide +kernel, by decide +kernel⟩
abbrev s__law_rows : Stmt := topS 33
abbrev N__law_rows : List Str := ["hands", "rows", "hand", "grown", "row", "word"]
theorem sc__law_rows : FnScope N__law_rows ["hands"] (defScope s__law_rows) := ⟨rfl, rfl, rfl, by decide +kernel, rfl, by decide +kernel, by decide +kernel⟩
abbrev s__law_price : Stmt := topS 34
abbrev N__law_price : List Str := ["cell", "worth"]
theorem sc__law_price : FnScope N__law_price ["cell", "worth"] (defScope s__law_price) := ⟨rfl, rfl, rfl, by decide +kernel, rfl, by decide +kernel, by decide +kernel⟩
abbrev s__law_menus : Stmt := topS 35
abbrev N__law_menus : List Str := ["script", "outcomes", "hands", "k", "menus", "j", "rows", "step", "others", "menu", "worths", "i", "place", "cell"]
theorem sc__law_menus : FnScope N__law_menus ["script", "outcomes", "hands", "k"] (defScope s__law_menus) := ⟨rfl, rfl, rfl, by decide +kernel, rfl, by decide +kernel, by decide +kernel⟩
abbrev s__law_told : Stmt := topS 36
abbrev N__law_told : List Str := ["house", "k", "menus", "found", "kinds", "e"]
theorem sc__law_told : FnScope N__law_told ["house", "k", "menus"] (defScope s__law_told) := ⟨rfl, rfl, rfl, by decide +kernel, rfl, by decide +kernel, by decide +kernel⟩
abbrev s__law_spoiled : Stmt := topS 37
abbrev N__law_spoiled : List Str := ["menus", "others", "cell", "way", "first"]
theorem sc__law_spoiled : FnScope N__law_spoiled ["menus", "others", "cell"] (defScope s__law_spoiled) := ⟨rfl, rfl, rfl, by decide +kernel, rfl, by decide +kernel, by decide +kernel⟩
abbrev s_law : Stmt := topS 38
abbrev N_law : List Str := ["script", "outcomes", "hands", "house", "cell", "k", "menus", "rows", "thing", "found", "kinds"]
theorem sc_law : FnScope N_law ["script"] (defScope s_law) := ⟨rfl, rfl, rfl, by decide +kernel, rfl, by decide +kernel, by decide +kernel⟩
section
variable {P : Program} {w : World} {K : PySem.W.Frag} {mg : Str → Option Value} {base : Heap}
theorem ok_is_name {f : Addr} {fd : FuncData} (F : Fun K "is_name" "is_name" s_is_name f fd) (z_isinstance : mg "isinstance" = none) (z_len : mg "len" = none) (z_str : mg "str" = none) (q_LETTERS : CstG mg "LETTERS" (.str "abcdefghijklmnopqrstuvwxyz")) : FnOk P w K mg base (L2.CX P w) 1 f fd ["thing"] (spM K mg 0 1 m_is_name) :=
  mk_ok (k := 0) (n := 0) (N := N_is_name) (m := b_is_name) (Γ := [0, 0]) (Γ' := [0, 0]) F sc_is_name rfl (by decide) (fun cdv A outer s H E hr =>
    rss_cons (Γ1 := [0, 0]) (rs_if (RW.t (rw_or (rt_not (rt_val (n1 := 0) (f1 := true) (re_isi z_isinstance z_str boot_str (RE.b (n := 0) (fr := true) (re_v (pv 0)))))) (rw_or1 (rt_not (rt_chain op_le op_le bf_le bf_le (re_int) (re_len z_len (rab_cons (RE.b (n := 0) (fr := true) (re_v (pv 0))) (rab_nil))) (re_int)))))) (rss_one (rs_ret (re_bl))) (rss_nil))
    (rss_cons (Γ1 := [0, 0]) (rs_for (passes_of rfl) rfl (ri_any (re_v (pv 0))) (rg_n sc_is_name.nd (.inl rfl)) (rss_one (rs_if (rt_nin (n1 := 0) (f1 := true) (n2 := 0) (f2 := true) (units65 hr) (re_v (pv 1)) (re_glob q_LETTERS)) (rss_one (rs_ret (re_bl))) (rss_nil))))
    (rss_one (rs_ret (re_bl)))))
theorem ok_are_names {f : Addr} {fd : FuncData} (F : Fun K "are_names" "are_names" s_are_names f fd) (z_isinstance : mg "isinstance" = none) (z_len : mg "len" = none) (z_list : mg "list" = none) (z_set : mg "set" = none) (g_is_name : FnG P w K mg base "is_name" 1 0 1 m_is_name) : FnOk P w K mg base (L2.CX P w) 2 f fd ["thing", "top"] (spM K mg 0 2 m_are_names) :=
  mk_ok (k := 1) (n := 0) (N := N_are_names) (m := b_are_names) (Γ := [0, 0, 0]) (Γ' := [0, 0, 0]) F sc_are_names rfl (by decide) (fun cdv A outer s H E hr =>
    rss_cons (Γ1 := [0, 0, 0]) (rs_if (RW.t (rw_or (rt_not (rt_val (n1 := 0) (f1 := true) (re_isi z_isinstance z_list boot_list (RE.b (n := 0) (fr := true) (re_v (pv 0)))))) (rw_or1 (rt_not (rt_chain op_le op_le bf_le bf_le (re_int) (re_len z_len (rab_cons (RE.b (n := 0) (fr := true) (re_v (pv 0))) (rab_nil))) (re_v (pv 1))))))) (rss_one (rs_ret (re_bl))) (rss_nil))
    (rss_cons (Γ1 := [0, 0, 0]) (rs_for (passes_of rfl) rfl (ri_any (re_v (pv 0))) (rg_n sc_are_names.nd (.inl rfl)) (rss_one (rs_if (rt_not (rt_val (n1 := 0) (f1 := true) (re_call (n := 0) (g_is_name.mono (by decide)) hr (takes_of rfl rfl rfl rfl) (ra_cons (re_v (pv 2)) (ra_nil))))) (rss_one (rs_ret (re_bl))) (rss_nil))))
    (rss_one (rs_ret (re_eq (n1 := 0) (f1 := true) (n2 := 0) (f2 := true) hr.units (re_lenSetT z_len z_set (RE.b (n := 0) (fr := true) (re_v (pv 0)))) (re_len z_len (rab_cons (RE.b (n := 0) (fr := true) (re_v (pv 0))) (rab_nil))))))))
theorem ok_is_worth {f : Addr} {fd : FuncData} (F : Fun K "is_worth" "is_worth" s_is_worth f fd) (z_bool : mg "bool" = none) (z_int : mg "int" = none) (z_isinstance : mg "isinstance" = none) : FnOk P w K mg base (L2.CX P w) 1 f fd ["thing"] (spM K mg 0 1 m_is_worth) :=
  mk_ok (k := 0) (n := 0) (N := N_is_worth) (m := b_is_worth) (Γ := [0]) (Γ' := [0]) F sc_is_worth rfl (by decide) (fun cdv A outer s H E hr =>
    rss_one (rs_ret (re_and (n1 := 0) (f1 := true) (re_isi z_isinstance z_int boot_int (RE.b (n := 0) (fr := true) (re_v (pv 0)))) (re_and (n1 := 0) (f1 := true) (re_not (n1 := 0) (f1 := true) (re_isi z_isinstance z_bool boot_bool (RE.b (n := 0) (fr := true) (re_v (pv 0))))) (re_one (re_chain op_lt op_lt bf_lt bf_lt (re_sub (re_int) (re_pow (re_int) (re_int))) (re_v (pv 0)) (re_pow (re_int) (re_int))))))))
theorem ok_are_worths {f : Addr} {fd : FuncData} (F : Fun K "are_worths" "are_worths" s_are_worths f fd) (z_isinstance : mg "isinstance" = none) (z_len : mg "len" = none) (z_list : mg "list" = none) (g_is_worth : FnG P w K mg base "is_worth" 1 0 1 m_is_worth) : FnOk P w K mg base (L2.CX P w) 2 f fd ["thing", "words", "outcomes"] (spM K mg 0 3 m_are_worths) :=
  mk_ok (k := 1) (n := 0) (N := N_are_worths) (m := b_are_worths) (Γ := [0, 0, 0, 0, 0]) (Γ' := [0, 0, 0, 0, 0]) F sc_are_worths rfl (by decide) (fun cdv A outer s H E hr =>
    rss_cons (Γ1 := [0, 0, 0, 0, 0]) (rs_if (RW.t (rw_or (rt_not (rt_val (n1 := 0) (f1 := true) (re_isi z_isinstance z_list boot_list (RE.b (n := 0) (fr := true) (re_v (pv 0)))))) (rw_or1 (rt_ne (n1 := 0) (f1 := true) (n2 := 0) (f2 := true) hr.units (re_len z_len (rab_cons (RE.b (n := 0) (fr := true) (re_v (pv 0))) (rab_nil))) (re_v (pv 1)))))) (rss_one (rs_ret (re_bl))) (rss_nil))
    (rss_cons (Γ1 := [0, 0, 0, 0, 0]) (rs_for (passes_of rfl) rfl (ri_any (re_v (pv 0))) (rg_n sc_are_worths.nd (.inl rfl)) (rss_cons (Γ1 := [0, 0, 0, 0, 0]) (rs_if (RW.t (rw_or (rt_not (rt_val (n1 := 0) (f1 := true) (re_isi z_isinstance z_list boot_list (RE.b (n := 0) (fr := true) (re_v (pv 3)))))) (rw_or1 (rt_ne (n1 := 0) (f1 := true) (n2 := 0) (f2 := true) hr.units (re_len z_len (rab_cons (RE.b (n := 0) (fr := true) (re_v (pv 3))) (rab_nil))) (re_v (pv 2)))))) (rss_one (rs_ret (re_bl))) (rss_nil))
    (rss_one (rs_for (passes_of rfl) rfl (ri_any (re_v (pv 3))) (rg_n sc_are_worths.nd (.inl rfl)) (rss_one (rs_if (rt_not (rt_val (n1 := 0) (f1 := true) (re_call (n := 0) (g_is_worth.mono (by decide)) hr (takes_of rfl rfl rfl rfl) (ra_cons (re_v (pv 4)) (ra_nil))))) (rss_one (rs_ret (re_bl))) (rss_nil)))))))
    (rss_one (rs_ret (re_bl)))))
theorem ok_is_hand {f : Addr} {fd : FuncData} (F : Fun K "is_hand" "is_hand" s_is_hand f fd) (z_isinstance : mg "isinstance" = none) (z_len : mg "len" = none) (z_tuple : mg "tuple" = none) (g_are_names : FnG P w K mg base "are_names" 2 0 2 m_are_names) (g_are_worths : FnG P w K mg base "are_worths" 2 0 3 m_are_worths) (g_is_name : FnG P w K mg base "is_name" 1 0 1 m_is_name) : FnOk P w K mg base (L2.CX P w) 3 f fd ["thing", "outcomes"] (spM K mg 0 2 m_is_hand) :=
  mk_ok (k := 2) (n := 0) (N := N_is_hand) (m := b_is_hand) (Γ := [0, 0]) (Γ' := [0, 0]) F sc_is_hand rfl (by decide) (fun cdv A outer s H E hr =>
    rss_cons (Γ1 := [0, 0]) (rs_if (RW.t (rw_or (rt_not (rt_val (n1 := 0) (f1 := true) (re_isi z_isinstance z_tuple boot_tuple (RE.b (n := 0) (fr := true) (re_v (pv 0)))))) (rw_or1 (rt_ne (n1 := 0) (f1 := true) (n2 := 0) (f2 := true) hr.units (re_len z_len (rab_cons (RE.b (n := 0) (fr := true) (re_v (pv 0))) (rab_nil))) (re_int))))) (rss_one (rs_ret (re_bl))) (rss_nil))
    (rss_cons (Γ1 := [0, 0]) (rs_if (RW.t (rw_or (rt_not (rt_val (n1 := 0) (f1 := true) (re_call (n := 0) (g_is_name.mono (by decide)) hr (takes_of rfl rfl rfl rfl) (ra_cons (re_ix (hu_of hr) (re_v (pv 0)) (re_int)) (ra_nil))))) (rw_or1 (rt_not (rt_val (n1 := 0) (f1 := true) (re_call (n := 0) (g_are_names.mono (by decide)) hr (takes_of rfl rfl rfl rfl) (ra_cons (re_ix (hu_of hr) (re_v (pv 0)) (re_int)) (ra_cons (re_int) (ra_nil))))))))) (rss_one (rs_ret (re_bl))) (rss_nil))
    (rss_one (rs_ret (re_call (n := 0) (g_are_worths.mono (by decide)) hr (takes_of rfl rfl rfl rfl) (ra_cons (re_ix (hu_of hr) (re_v (pv 0)) (re_int)) (ra_cons (re_len z_len (rab_cons (RE.b (n := 0) (fr := true) (re_ix (hu_of hr) (re_v (pv 0)) (re_int))) (rab_nil))) (ra_cons (re_v (pv 1)) (ra_nil)))))))))
theorem ok_house_of {f : Addr} {fd : FuncData} (F : Fun K "house_of" "house_of" s_house_of f fd) (z_isinstance : mg "isinstance" = none) (z_len : mg "len" = none) (z_list : mg "list" = none) (z_set : mg "set" = none) (z_tuple : mg "tuple" = none) (g_are_names : FnG P w K mg base "are_names" 2 0 2 m_are_names) (g_is_hand : FnG P w K mg base "is_hand" 3 0 2 m_is_hand) : FnOk P w K mg base (L2.CX P w) 4 f fd ["outcomes", "hands"] (spM K mg 0 2 m_house_of) :=
  mk_ok (k := 3) (n := 0) (N := N_house_of) (m := b_house_of) (Γ := [0, 0, 0, 0, 0, 0]) (Γ' := [0, 0, 0, 0, 0, 0]) F sc_house_of rfl (by decide) (fun cdv A outer s H E hr =>
    rss_cons (Γ1 := [0, 0, 0, 0, 0, 0]) (rs_if (rt_not (rt_val (n1 := 0) (f1 := true) (re_call (n := 0) (g_are_names.mono (by decide)) hr (takes_of rfl rfl rfl rfl) (ra_cons (re_v (pv 0)) (ra_cons (re_int) (ra_nil)))))) (rss_one (rs_dead)) (rss_nil))
    (rss_cons (Γ1 := [0, 0, 0, 0, 0, 0]) (rs_if (RW.t (rw_or (rt_not (rt_val (n1 := 0) (f1 := true) (re_isi z_isinstance z_list boot_list (RE.b (n := 0) (fr := true) (re_v (pv 1)))))) (rw_or1 (rt_not (rt_chain op_le op_le bf_le bf_le (re_int) (re_len z_len (rab_cons (RE.b (n := 0) (fr := true) (re_v (pv 1))) (rab_nil))) (re_int)))))) (rss_one (rs_dead)) (rss_nil))
    (rss_cons (Γ1 := [0, 0, 0, 0, 0, 0]) (rs_set (k := 0) (re_int) sc_house_of.nd (.inl rfl))
    (rss_cons (Γ1 := [0, 0, 0, 1, 0, 0]) (rs_set (k := 1) (re_lst (ra_nil)) sc_house_of.nd (.inl rfl))
    (rss_cons (Γ1 := [0, 0, 0, 1, 0, 0]) (rs_for (passes_of rfl) rfl (ri_any (re_v (pv 1))) (rg_n sc_house_of.nd (.inl rfl)) (rss_cons (Γ1 := [0, 0, 0, 1, 0, 0]) (rs_if (rt_not (rt_val (n1 := 0) (f1 := true) (re_call (n := 0) (g_is_hand.mono (by decide)) hr (takes_of rfl rfl rfl rfl) (ra_cons (re_v (pv 4)) (ra_cons (re_len z_len (rab_cons (RE.b (n := 0) (fr := true) (re_v (pv 0))) (rab_nil))) (ra_nil)))))) (rss_one (rs_dead)) (rss_nil))
    (rss_cons (Γ1 := [0, 0, 0, 1, 0, 0]) (rs_set (k := 0) (re_mul (re_v (pv 2)) (re_len z_len (rab_cons (RE.b (n := 0) (fr := true) (re_ix (hu_of hr) (re_v (pv 4)) (re_int))) (rab_nil)))) sc_house_of.nd (.inl rfl))
    (rss_one (rs_app (rp_var (pv 3)) (re_tup (ra_cons (re_ix (hu_of hr) (re_v (pv 4)) (re_int)) (ra_cons (re_tupleF z_tuple (ra_cons (re_ix (hu_of hr) (re_v (pv 4)) (re_int)) (ra_nil))) (ra_cons (re_tuple z_tuple (ra_cons ((RE.w (n := 1) (re_lc (n := 0) (own := [("row", 5)]) rfl sc_house_of.nd (ri_any (re_ix (hu_of hr) (re_v (pv 4)) (re_int))) (blkOk_by (own := [("row", 5)]) (N := N_house_of) (sc := defScope s_house_of) (by decide +kernel)) (fun _ _ _ _ _ => rgw_n sc_house_of.nd (.inl rfl)) (fun _ _ _ _ _ => rts_nil) (fun _ _ _ _ _ => re_tuple z_tuple (ra_cons (re_v (pv 5)) (ra_nil)))))) (ra_nil))) (ra_nil))))))))))
    (rss_frz 3 (rss_cons (Γ1 := [0, 0, 0, 0, 0, 0]) (rs_if (RW.t (rw_or (rt_gt (n1 := 0) (f1 := true) (n2 := 0) (f2 := true) (re_v (pv 2)) (re_int)) (rw_or1 (rt_ne (n1 := 0) (f1 := true) (n2 := 0) (f2 := true) hr.units (re_lenSetT z_len z_set (RE.b (n := 0) (fr := true) ((RE.w (n := 1) (re_lc (n := 0) (own := [("hand", 4)]) rfl sc_house_of.nd (ri_any (re_v (pv 3))) (blkOk_by (own := [("hand", 4)]) (N := N_house_of) (sc := defScope s_house_of) (by decide +kernel)) (fun _ _ _ _ _ => rgw_n sc_house_of.nd (.inl rfl)) (fun _ _ _ _ _ => rts_nil) (fun _ _ _ _ _ => re_ix (hu_of hr) (re_v (pv 4)) (re_int))))))) (re_len z_len (rab_cons (RE.b (n := 0) (fr := true) (re_v (pv 3))) (rab_nil))))))) (rss_one (rs_dead)) (rss_nil))
    (rss_one (rs_ret (re_tup (ra_cons (re_tupleF z_tuple (ra_cons (re_v (pv 0)) (ra_nil))) (ra_cons (re_tuple z_tuple (ra_cons (re_v (pv 3)) (ra_nil))) (ra_nil)))))))))))))
theorem ok_crossed {f : Addr} {fd : FuncData} (F : Fun K "crossed" "crossed" s_crossed f fd) : FnOk P w K mg base (L2.CX P w) 1 f fd ["lists"] (spM K mg 0 1 m_crossed) :=
  mk_ok (k := 0) (n := 0) (N := N_crossed) (m := b_crossed) (Γ := [0, 0, 0, 0, 0, 0]) (Γ' := [0, 0, 0, 0, 0, 0]) F sc_crossed rfl (by decide) (fun cdv A outer s H E hr =>
    rss_cons (Γ1 := [0, 0, 0, 0, 0, 0]) (rs_set (k := 0) ((RE.w (n := 1) (re_lst (ra_cons (re_tup (ra_nil)) (ra_nil))))) sc_crossed.nd (.inl rfl))
    (rss_cons (Γ1 := [0, 0, 0, 0, 0, 0]) (rs_for (passes_of rfl) rfl (ri_any (re_v (pv 0))) (rg_n sc_crossed.nd (.inl rfl)) (rss_cons (Γ1 := [0, 0, 0, 1, 0, 0]) (rs_set (k := 1) (re_lst (ra_nil)) sc_crossed.nd (.inl rfl))
    (rss_cons (Γ1 := [0, 0, 0, 1, 0, 0]) (rs_for (passes_of rfl) rfl (ri_any (re_v (pv 1))) (rg_n sc_crossed.nd (.inl rfl)) (rss_one (rs_for (passes_of rfl) rfl (ri_any (re_v (pv 2))) (rg_n sc_crossed.nd (.inl rfl)) (rss_one (rs_app (rp_var (pv 3)) (re_add (re_v (pv 4)) (re_tup (ra_cons (re_v (pv 5)) (ra_nil)))))))))
    (rss_frz 3 (rss_one (rs_set (k := 0) (re_v (pv 3)) sc_crossed.nd (.inl rfl)))))))
    (rss_one (rs_ret (re_v (pv 1))))))
theorem ok_others_of {f : Addr} {fd : FuncData} (F : Fun K "others_of" "others_of" s_others_of f fd) (z_len : mg "len" = none) (z_range : mg "range" = none) (g_crossed : FnG P w K mg base "crossed" 1 0 1 m_crossed) : FnOk P w K mg base (L2.CX P w) 2 f fd ["house", "k"] (spM K mg 0 2 m_others_of) :=
  mk_ok (k := 1) (n := 0) (N := N_others_of) (m := b_others_of) (Γ := [0, 0, 0]) (Γ' := [0, 0, 0]) F sc_others_of rfl (by decide) (fun cdv A outer s H E hr =>
    rss_one (rs_ret (re_call (n := 0) (g_crossed.mono (by decide)) hr (takes_of rfl rfl rfl rfl) (ra_cons ((RE.w (n := 1) (re_lc (n := 0) (own := [("j", 2)]) rfl sc_others_of.nd (ri_r1 z_range (re_len z_len (rab_cons (RE.b (n := 0) (fr := true) (re_ix (hu_of hr) (re_v (pv 0)) (re_int))) (rab_nil)))) (blkOk_by (own := [("j", 2)]) (N := N_others_of) (sc := defScope s_others_of) (by decide +kernel)) (fun _ _ _ _ _ => rgw_n sc_others_of.nd (.inl rfl)) (fun _ _ _ _ _ => rts_one (rt_ne (n1 := 0) (f1 := true) (n2 := 0) (f2 := true) hr.units (re_v (pv 2)) (re_v (pv 1)))) (fun _ _ _ _ _ => re_ix (hu_of hr) (re_ix (hu_of hr) (re_ix (hu_of hr) (re_v (pv 0)) (re_int)) (re_v (pv 2))) (re_int))))) (ra_nil)))))
theorem ok_row_with {f : Addr} {fd : FuncData} (F : Fun K "row_with" "row_with" s_row_with f fd) : FnOk P w K mg base (L2.CX P w) 1 f fd ["others", "k", "word"] (spM K mg 0 3 m_row_with) :=
  mk_ok (k := 0) (n := 0) (N := N_row_with) (m := b_row_with) (Γ := [0, 0, 0]) (Γ' := [0, 0, 0]) F sc_row_with rfl (by decide) (fun cdv A outer s H E hr =>
    rss_one (rs_ret (re_add (re_add (re_sl (re_v (pv 0)) (ro_no) (ro_yes (re_v (pv 1)))) (re_tup (ra_cons (re_v (pv 2)) (ra_nil)))) (re_sl (re_v (pv 0)) (ro_yes (re_v (pv 1))) (ro_no)))))
theorem ok_is_menu {f : Addr} {fd : FuncData} (F : Fun K "is_menu" "is_menu" s_is_menu f fd) (z_bool : mg "bool" = none) (z_dict : mg "dict" = none) (z_int : mg "int" = none) (z_isinstance : mg "isinstance" = none) (z_len : mg "len" = none) : FnOk P w K mg base (L2.CX P w) 1 f fd ["house", "thing"] (spM K mg 0 2 m_is_menu_v2) :=
  mk_ok (k := 0) (n := 0) (N := N_is_menu) (m := b_is_menu_v2) (Γ := [0, 0, 0, 0]) (Γ' := [0, 0, 0, 0]) F sc_is_menu rfl (by decide) (fun cdv A outer s H E hr =>
    rss_cons (Γ1 := [0, 0, 0, 0]) (rs_if (RW.t (rw_or (rt_not (rt_val (n1 := 0) (f1 := true) (re_isiN z_isinstance z_dict boot_dict (RE.b (n := 0) (fr := true) (re_v (pv 1)))))) (rw_or1 (rt_eq (n1 := 0) (f1 := true) (n2 := 0) (f2 := true) hr.units (re_lenN z_len (rab_cons (RE.b (n := 0) (fr := true) (re_v (pv 1))) (rab_nil))) (re_int))))) (rss_one (rs_ret (re_bl))) (rss_nil))
    (rss_cons (Γ1 := [0, 0, 0, 0]) (rs_forDN (passes_of rfl) rfl (pv 1) (rg_t rfl (rgs_cons (rg_n sc_is_menu.nd (.inl rfl)) (rgs_cons (rg_n sc_is_menu.nd (.inl rfl)) (rgs_nil)))) (rss_one (rs_if (RW.t (rw_or (rt_ninZ (n1 := 0) (f1 := true) (n2 := 0) (f2 := true) (units65 hr) (re_v (pv 2)) (re_ix (hu_of hr) (re_v (pv 0)) (re_int))) (rw_or (rt_not (rt_val (n1 := 0) (f1 := true) (re_isi z_isinstance z_int boot_int (RE.b (n := 0) (fr := true) (re_v (pv 3)))))) (rw_or1 (rt_val (n1 := 0) (f1 := true) (re_isi z_isinstance z_bool boot_bool (RE.b (n := 0) (fr := true) (re_v (pv 3))))))))) (rss_one (rs_ret (re_bl))) (rss_nil))))
    (rss_one (rs_ret (re_bl)))))
theorem ok_are_menus {f : Addr} {fd : FuncData} (F : Fun K "are_menus" "are_menus" s_are_menus f fd) (z_dict : mg "dict" = none) (z_isinstance : mg "isinstance" = none) (z_len : mg "len" = none) (g_is_menu : FnG P w K mg base "is_menu" 1 0 2 m_is_menu_v2) (g_others_of : FnG P w K mg base "others_of" 2 0 2 m_others_of) : FnOk P w K mg base (L2.CX P w) 3 f fd ["house", "k", "thing"] (spM K mg 0 3 m_are_menus_v2) :=
  mk_ok (k := 2) (n := 0) (N := N_are_menus) (m := b_are_menus_v2) (Γ := [0, 0, 0, 0, 0]) (Γ' := [0, 0, 0, 0, 0]) F sc_are_menus rfl (by decide) (fun cdv A outer s H E hr =>
    rss_cons (Γ1 := [0, 0, 0, 0, 0]) (rs_set (k := 0) (re_call (n := 0) (g_others_of.mono (by decide)) hr (takes_of rfl rfl rfl rfl) (ra_cons (re_v (pv 0)) (ra_cons (re_v (pv 1)) (ra_nil)))) sc_are_menus.nd (.inl rfl))
    (rss_cons (Γ1 := [0, 0, 0, 0, 0]) (rs_if (RW.t (rw_or (rt_not (rt_val (n1 := 0) (f1 := true) (re_isi z_isinstance z_dict boot_dict (RE.b (n := 0) (fr := true) (re_v (pv 2)))))) (rw_or1 (rt_ne (n1 := 0) (f1 := true) (n2 := 0) (f2 := true) hr.units (re_len z_len (rab_cons (RE.b (n := 0) (fr := true) (re_v (pv 2))) (rab_nil))) (re_len z_len (rab_cons (RE.b (n := 0) (fr := true) (re_v (pv 3))) (rab_nil))))))) (rss_one (rs_ret (re_bl))) (rss_nil))
    (rss_cons (Γ1 := [0, 0, 0, 0, 0]) (rs_for (passes_of rfl) rfl (ri_any (re_v (pv 3))) (rg_n sc_are_menus.nd (.inl rfl)) (rss_one (rs_if (RW.t (rw_or (rt_ninT (n1 := 0) (f1 := true) (n2 := 0) (f2 := true) (units65 hr) (re_v (pv 4)) (re_v (pv 2))) (rw_or1 (rt_not (rt_val (n1 := 0) (f1 := true) (re_call (n := 0) (g_is_menu.mono (by decide)) hr (takes_of rfl rfl rfl rfl) (ra_cons (re_v (pv 0)) (ra_cons (re_ix (hu_of hr) (re_v (pv 2)) (re_v (pv 4))) (ra_nil))))))))) (rss_one (rs_ret (re_bl))) (rss_nil))))
    (rss_one (rs_ret (re_bl))))))
theorem ok_pick {f : Addr} {fd : FuncData} (F : Fun K "pick" "pick" s_pick f fd) (z_enumerate : mg "enumerate" = none) : FnOk P w K mg base (L2.CX P w) 1 f fd ["house", "k", "menu", "word"] (spM K mg 0 4 m_pick) :=
  mk_ok (k := 0) (n := 0) (N := N_pick) (m := b_pick) (Γ := [0, 0, 0, 0, 0, 0, 0, 0, 0]) (Γ' := [0, 0, 0, 0, 0, 0, 0, 0, 0]) F sc_pick rfl (by decide) (fun cdv A outer s H E hr =>
    rss_cons (Γ1 := [0, 0, 0, 0, 0, 0, 0, 0, 0]) (rs_set (k := 0) (re_ix (hu_of hr) (re_ix (hu_of hr) (re_ix (hu_of hr) (re_ix (hu_of hr) (re_v (pv 0)) (re_int)) (re_v (pv 1))) (re_int)) (re_index (RE.b (n := 0) (fr := true) (re_ix (hu_of hr) (re_ix (hu_of hr) (re_ix (hu_of hr) (re_v (pv 0)) (re_int)) (re_v (pv 1))) (re_int))) (RE.b (n := 0) (fr := true) (re_v (pv 3))))) sc_pick.nd (.inl rfl))
    (rss_cons (Γ1 := [0, 0, 0, 0, 0, 0, 0, 0, 0]) (rs_set (k := 0) (re_non) sc_pick.nd (.inl rfl))
    (rss_cons (Γ1 := [0, 0, 0, 0, 0, 0, 0, 0, 0]) (rs_for (passes_of rfl) rfl (ri_enum z_enumerate (re_ix (hu_of hr) (re_v (pv 0)) (re_int))) (rg_t rfl (rgs_cons (rg_n sc_pick.nd (.inl rfl)) (rgs_cons (rg_n sc_pick.nd (.inl rfl)) (rgs_nil)))) (rss_one (rs_if (rt_in (n1 := 0) (f1 := true) (n2 := 0) (f2 := true) (units65 hr) (re_v (pv 7)) (re_v (pv 2))) (rss_cons (Γ1 := [0, 0, 0, 0, 0, 0, 0, 0, 0]) (rs_set (k := 0) (re_sub (re_ix (hu_of hr) (re_v (pv 4)) (re_v (pv 6))) (re_ix (hu_of hr) (re_v (pv 2)) (re_v (pv 7)))) sc_pick.nd (.inl rfl))
    (rss_one (rs_if (RW.t (rw_or (rt_isN (n1 := 0) (f1 := true) (re_v (pv 5))) (rw_or1 (rt_gt (n1 := 0) (f1 := true) (n2 := 0) (f2 := true) (re_v (pv 8)) (re_ix (hu_of hr) (re_v (pv 5)) (re_int)))))) (rss_one (rs_set (k := 0) (re_tup (ra_cons (re_v (pv 8)) (ra_cons (re_v (pv 7)) (ra_nil)))) sc_pick.nd (.inl rfl))) (rss_nil)))) (rss_nil))))
    (rss_one (rs_ret (re_ix (hu_of hr) (re_v (pv 5)) (re_int)))))))
theorem ok_menus_table {f : Addr} {fd : FuncData} (F : Fun K "menus_table" "menus_table" s_menus_table f fd) (x_NoMenu : ExcG K mg "NoMenu") (g_are_menus : FnG P w K mg base "are_menus" 3 0 3 m_are_menus_v2) (g_others_of : FnG P w K mg base "others_of" 2 0 2 m_others_of) (g_pick : FnG P w K mg base "pick" 1 0 4 m_pick) (g_row_with : FnG P w K mg base "row_with" 1 0 3 m_row_with) : FnOk P w K mg base (L2.CX P w) 4 f fd ["house", "k", "menus"] (spM K mg 0 3 m_menus_table_v2) :=
  mk_ok (k := 3) (n := 0) (N := N_menus_table) (m := b_menus_table_v2) (Γ := [0, 0, 0, 0, 0, 0]) (Γ' := [0, 0, 0, 0, 0, 0]) F sc_menus_table rfl (by decide) (fun cdv A outer s H E hr =>
    rss_cons (Γ1 := [0, 0, 0, 0, 0, 0]) (rs_if (rt_not (rt_val (n1 := 0) (f1 := true) (re_call (n := 0) (g_are_menus.mono (by decide)) hr (takes_of rfl rfl rfl rfl) (ra_cons (re_v (pv 0)) (ra_cons (re_v (pv 1)) (ra_cons (re_v (pv 2)) (ra_nil))))))) (rss_one (rs_raise rfl x_NoMenu (takes_of rfl rfl rfl rfl))) (rss_nil))
    (rss_cons (Γ1 := [0, 0, 0, 1, 0, 0]) (rs_set (k := 1) (re_dT0) sc_menus_table.nd (.inl rfl))
    (rss_cons (Γ1 := [0, 0, 0, 1, 0, 0]) (rs_for (passes_of rfl) rfl (ri_any (re_call (n := 0) (g_others_of.mono (by decide)) hr (takes_of rfl rfl rfl rfl) (ra_cons (re_v (pv 0)) (ra_cons (re_v (pv 1)) (ra_nil))))) (rg_n sc_menus_table.nd (.inl rfl)) (rss_one (rs_for (passes_of rfl) rfl (ri_any (re_ix (hu_of hr) (re_ix (hu_of hr) (re_ix (hu_of hr) (re_v (pv 0)) (re_int)) (re_v (pv 1))) (re_int))) (rg_n sc_menus_table.nd (.inl rfl)) (rss_one (rs_putD (hu_of hr) (rp_var (pv 3)) (re_call (n := 0) (g_row_with.mono (by decide)) hr (takes_of rfl rfl rfl rfl) (ra_cons (re_v (pv 4)) (ra_cons (re_v (pv 1)) (ra_cons (re_v (pv 5)) (ra_nil))))) (re_call (n := 0) (g_pick.mono (by decide)) hr (takes_of rfl rfl rfl rfl) (ra_cons (re_v (pv 0)) (ra_cons (re_v (pv 1)) (ra_cons (re_ix (hu_of hr) (re_v (pv 2)) (re_v (pv 4))) (ra_cons (re_v (pv 5)) (ra_nil)))))))))))
    (rss_frz 3 (rss_one (rs_ret (re_v (pv 3))))))))
theorem ok__law_cell_at {f : Addr} {fd : FuncData} (F : Fun K "_law_cell_at" "_law_cell_at" s__law_cell_at f fd) (z_len : mg "len" = none) : FnOk P w K mg base (L2.CX P w) 1 f fd ["script", "k"] (spM K mg 0 2 m__law_cell_at) :=
  mk_ok (k := 0) (n := 0) (N := N__law_cell_at) (m := b__law_cell_at) (Γ := [0, 0]) (Γ' := [0, 0]) F sc__law_cell_at rfl (by decide) (fun cdv A outer s H E hr =>
    rss_cons (Γ1 := [0, 0]) (rs_if (rt_lt (n1 := 0) (f1 := true) (n2 := 0) (f2 := true) (re_v (pv 1)) (re_len z_len (rab_cons (RE.b (n := 0) (fr := true) (re_v (pv 0))) (rab_nil)))) (rss_one (rs_ret (re_ix (hu_of hr) (re_v (pv 0)) (re_v (pv 1))))) (rss_nil))
    (rss_one (rs_ret (re_int))))
theorem ok__law_pool {f : Addr} {fd : FuncData} (F : Fun K "_law_pool" "_law_pool" s__law_pool f fd) (z_range : mg "range" = none) : FnOk P w K mg base (L2.CX P w) 1 f fd ["cell", "many"] (spM K mg 0 2 m__law_pool) :=
  mk_ok (k := 0) (n := 0) (N := N__law_pool) (m := b__law_pool) (Γ := [0, 0, 0, 0, 0, 0, 0, 0, 0, 0, 0, 0]) (Γ' := [0, 0, 0, 0, 0, 0, 0, 0, 0, 0, 0, 0]) F sc__law_pool rfl (by decide) (fun cdv A outer s H E hr =>
    rss_cons (Γ1 := [0, 0, 0, 0, 0, 0, 0, 0, 0, 0, 0, 0]) (rs_set (k := 0) (re_str) sc__law_pool.nd (.inr rfl))
    (rss_cons (Γ1 := [0, 0, 0, 0, 0, 0, 0, 0, 0, 0, 0, 0]) (rs_set (k := 0) (re_mod (re_add (re_mul (re_mod (re_v (pv 0)) (re_int)) (re_int)) (re_int)) (re_int)) sc__law_pool.nd (.inl rfl))
    (rss_cons (Γ1 := [0, 0, 0, 0, 0, 0, 0, 0, 0, 0, 0, 0]) (rs_set (k := 0) (re_ix (hu_of hr) (re_v (pv 2)) (re_mod (re_v (pv 3)) (re_int))) sc__law_pool.nd (.inr rfl))
    (rss_cons (Γ1 := [0, 0, 0, 0, 0, 0, 0, 0, 0, 0, 0, 0]) (rs_if (rt_eq (n1 := 0) (f1 := true) (n2 := 0) (f2 := true) hr.units (re_mod (re_div (re_v (pv 3)) (re_int)) (re_int)) (re_int)) (rss_one (rs_ret ((RE.w (n := 1) (re_lc (n := 0) (own := [("k", 11)]) rfl sc__law_pool.nd (ri_r1 z_range (re_v (pv 1))) (blkOk_by (own := [("k", 11)]) (N := N__law_pool) (sc := defScope s__law_pool) (by decide +kernel)) (fun _ _ _ _ _ => rgw_n sc__law_pool.nd (.inl rfl)) (fun _ _ _ _ _ => rts_nil) (fun _ _ _ _ _ => re_mul (re_v (pv 4)) (re_add (re_v (pv 11)) (re_int)))))))) (rss_nil))
    (rss_cons (Γ1 := [0, 0, 0, 0, 0, 0, 0, 0, 0, 0, 0, 0]) (rs_set (k := 0) (re_mod (re_div (re_v (pv 3)) (re_int)) (re_int)) sc__law_pool.nd (.inr rfl))
    (rss_cons (Γ1 := [0, 0, 0, 0, 0, 0, 0, 0, 0, 0, 0, 0]) (rs_set (k := 0) (re_ix (hu_of hr) ((RE.w (n := 1) (re_lst (ra_cons (re_int) (ra_cons (re_int) (ra_cons (re_int) (ra_cons (re_int) (ra_cons (re_int) (ra_cons (re_int) (ra_cons (re_int) (ra_cons (re_int) (ra_cons (re_int) (ra_cons (re_int) (ra_cons (re_int) (ra_cons (re_int) (ra_nil)))))))))))))))) (re_mod (re_div (re_v (pv 3)) (re_int)) (re_int))) sc__law_pool.nd (.inr rfl))
    (rss_cons (Γ1 := [0, 0, 0, 0, 0, 0, 0, 0, 0, 0, 0, 0]) (rs_set (k := 0) (re_add (re_int) (re_mod (re_div (re_v (pv 3)) (re_int)) (re_int))) sc__law_pool.nd (.inl rfl))
    (rss_cons (Γ1 := [0, 0, 0, 0, 0, 0, 0, 0, 0, 0, 0, 0]) (rs_set (k := 0) (re_mod (re_div (re_v (pv 3)) (re_int)) (re_v (pv 7))) sc__law_pool.nd (.inl rfl))
    (rss_cons (Γ1 := [0, 0, 0, 0, 0, 0, 0, 0, 0, 0, 0, 0]) (rs_set (k := 0) (re_mul (re_v (pv 4)) (re_v (pv 8))) sc__law_pool.nd (.inr rfl))
    (rss_cons (Γ1 := [0, 0, 0, 0, 0, 0, 0, 0, 0, 0, 0, 0]) (rs_set (k := 0) (re_mul (re_v (pv 4)) (re_sub (re_sub (re_v (pv 7)) (re_int)) (re_v (pv 8)))) sc__law_pool.nd (.inr rfl))
    (rss_one (rs_ret ((RE.w (n := 1) (re_lc (n := 0) (own := [("k", 11)]) rfl sc__law_pool.nd (ri_r1 z_range (re_v (pv 1))) (blkOk_by (own := [("k", 11)]) (N := N__law_pool) (sc := defScope s__law_pool) (by decide +kernel)) (fun _ _ _ _ _ => rgw_n sc__law_pool.nd (.inl rfl)) (fun _ _ _ _ _ => rts_nil) (fun _ _ _ _ _ => re_add (re_add (re_v (pv 9)) (re_ix (hu_of hr) (re_v (pv 2)) (re_mod (re_add (re_v (pv 5)) (re_mul (re_v (pv 6)) (re_v (pv 11)))) (re_int)))) (re_v (pv 10))))))))))))))))))
theorem ok__law_drawn {f : Addr} {fd : FuncData} (F : Fun K "_law_drawn" "_law_drawn" s__law_drawn f fd) (z_len : mg "len" = none) (z_max : mg "max" = none) (z_min : mg "min" = none) (g__law_cell_at : FnG P w K mg base "_law_cell_at" 1 0 2 m__law_cell_at) : FnOk P w K mg base (L2.CX P w) 2 f fd ["script", "k"] (spM K mg 0 2 m__law_drawn) :=
  mk_ok (k := 1) (n := 0) (N := N__law_drawn) (m := b__law_drawn) (Γ := [0, 0, 0, 0, 0]) (Γ' := [0, 0, 0, 0, 0]) F sc__law_drawn rfl (by decide) (fun cdv A outer s H E hr =>
    rss_cons (Γ1 := [0, 0, 0, 0, 0]) (rs_set (k := 0) (re_max rfl z_max (rab_cons (RE.b (n := 0) (fr := true) (re_int)) (rab_cons (RE.b (n := 0) (fr := true) (re_sub (re_min rfl z_min (rab_cons (RE.b (n := 0) (fr := true) (re_len z_len (rab_cons (RE.b (n := 0) (fr := true) (re_v (pv 0))) (rab_nil)))) (rab_cons (RE.b (n := 0) (fr := true) (re_int)) (rab_nil)))) (re_int))) (rab_nil)))) sc__law_drawn.nd (.inl rfl))
    (rss_cons (Γ1 := [0, 0, 0, 0, 0]) (rs_set (k := 0) (re_call (n := 0) (g__law_cell_at.mono (by decide)) hr (takes_of rfl rfl rfl rfl) (ra_cons (re_v (pv 0)) (ra_cons (re_add (re_int) (re_mod (re_v (pv 1)) (re_v (pv 2)))) (ra_nil)))) sc__law_drawn.nd (.inl rfl))
    (rss_cons (Γ1 := [0, 0, 0, 0, 0]) (rs_if (rt_lt (n1 := 0) (f1 := true) (n2 := 0) (f2 := true) (re_v (pv 1)) (re_v (pv 2))) (rss_one (rs_ret (re_v (pv 3)))) (rss_nil))
    (rss_cons (Γ1 := [0, 0, 0, 0, 0]) (rs_set (k := 0) (re_mod (re_add (re_add (re_mul (re_mod (re_v (pv 3)) (re_int)) (re_int)) (re_mul (re_div (re_v (pv 1)) (re_v (pv 2))) (re_int))) (re_v (pv 1))) (re_int)) sc__law_drawn.nd (.inl rfl))
    (rss_one (rs_ret (re_mod (re_mul (re_v (pv 4)) (re_v (pv 4))) (re_int))))))))
theorem ok__law_worth {f : Addr} {fd : FuncData} (F : Fun K "_law_worth" "_law_worth" s__law_worth f fd) : FnOk P w K mg base (L2.CX P w) 1 f fd ["cell"] (spM K mg 0 1 m__law_worth) :=
  mk_ok (k := 0) (n := 0) (N := N__law_worth) (m := b__law_worth) (Γ := [0]) (Γ' := [0]) F sc__law_worth rfl (by decide) (fun cdv A outer s H E hr =>
    rss_cons (Γ1 := [0]) (rs_if (rt_eq (n1 := 0) (f1 := true) (n2 := 0) (f2 := true) hr.units (re_mod (re_v (pv 0)) (re_int)) (re_int)) (rss_one (rs_ret (re_sub (re_mod (re_div (re_v (pv 0)) (re_int)) (re_pow (re_int) (re_int))) (re_mul (re_int) (re_pow (re_int) (re_int)))))) (rss_nil))
    (rss_cons (Γ1 := [0]) (rs_if (rt_eq (n1 := 0) (f1 := true) (n2 := 0) (f2 := true) hr.units (re_mod (re_v (pv 0)) (re_int)) (re_int)) (rss_one (rs_ret (re_add (re_sub (re_mod (re_div (re_v (pv 0)) (re_int)) (re_sub (re_mul (re_int) (re_pow (re_int) (re_int))) (re_int))) (re_pow (re_int) (re_int))) (re_int)))) (rss_nil))
    (rss_cons (Γ1 := [0]) (rs_if (rt_eq (n1 := 0) (f1 := true) (n2 := 0) (f2 := true) hr.units (re_mod (re_v (pv 0)) (re_int)) (re_int)) (rss_one (rs_ret (re_int))) (rss_nil))
    (rss_one (rs_ret (re_sub (re_mod (re_div (re_v (pv 0)) (re_int)) (re_int)) (re_int)))))))
theorem ok__law_parts {f : Addr} {fd : FuncData} (F : Fun K "_law_parts" "_law_parts" s__law_parts f fd) (z_len : mg "len" = none) (z_range : mg "range" = none) (g__law_cell_at : FnG P w K mg base "_law_cell_at" 1 0 2 m__law_cell_at) (g__law_drawn : FnG P w K mg base "_law_drawn" 2 0 2 m__law_drawn) (g__law_pool : FnG P w K mg base "_law_pool" 1 0 2 m__law_pool) (g__law_worth : FnG P w K mg base "_law_worth" 1 0 1 m__law_worth) : FnOk P w K mg base (L2.CX P w) 3 f fd ["script", "tops"] (spM K mg 0 2 m__law_parts) :=
  mk_ok (k := 2) (n := 0) (N := N__law_parts) (m := b__law_parts) (Γ := [0, 0, 0, 0, 0, 0, 0, 0, 0, 0, 0, 0, 0]) (Γ' := [0, 0, 0, 0, 0, 0, 0, 0, 0, 0, 0, 0, 0]) F sc__law_parts rfl (by decide) (fun cdv A outer s H E hr =>
    rss_cons (Γ1 := [0, 0, 0, 0, 0, 0, 0, 0, 0, 0, 0, 0, 0]) (rs_set (k := 0) (re_call (n := 0) (g__law_cell_at.mono (by decide)) hr (takes_of rfl rfl rfl rfl) (ra_cons (re_v (pv 0)) (ra_cons (re_int) (ra_nil)))) sc__law_parts.nd (.inl rfl))
    (rss_cons (Γ1 := [0, 0, 0, 0, 0, 0, 0, 0, 0, 0, 0, 0, 0]) (rs_set (k := 0) (re_call (n := 0) (g__law_cell_at.mono (by decide)) hr (takes_of rfl rfl rfl rfl) (ra_cons (re_v (pv 0)) (ra_cons (re_int) (ra_nil)))) sc__law_parts.nd (.inl rfl))
    (rss_cons (Γ1 := [0, 0, 0, 0, 0, 0, 0, 0, 0, 0, 0, 0, 0]) (rs_set (k := 0) (re_call (n := 0) (g__law_pool.mono (by decide)) hr (takes_of rfl rfl rfl rfl) (ra_cons (re_v (pv 2)) (ra_cons (re_add (re_int) (re_mod (re_v (pv 3)) (re_int))) (ra_nil)))) sc__law_parts.nd (.inl rfl))
    (rss_cons (Γ1 := [0, 0, 0, 0, 0, 1, 0, 0, 0, 0, 0, 0, 0]) (rs_set (k := 1) (re_lst (ra_nil)) sc__law_parts.nd (.inl rfl))
    (rss_cons (Γ1 := [0, 0, 0, 0, 0, 1, 0, 0, 0, 0, 0, 0, 0]) (rs_set (k := 0) (re_int) sc__law_parts.nd (.inr rfl))
    (rss_cons (Γ1 := [0, 0, 0, 0, 0, 1, 0, 0, 0, 0, 0, 0, 0]) (rs_for (passes_of rfl) rfl (ri_r1 z_range (re_add (re_int) (re_mod (re_div (re_v (pv 3)) (re_int)) (re_int)))) (rg_n sc__law_parts.nd (.inl rfl)) (rss_cons (Γ1 := [0, 0, 0, 0, 0, 1, 0, 0, 0, 0, 0, 0, 0]) (rs_set (k := 0) (re_add (re_int) (re_mod (re_div (re_call (n := 0) (g__law_cell_at.mono (by decide)) hr (takes_of rfl rfl rfl rfl) (ra_cons (re_v (pv 0)) (ra_cons (re_int) (ra_nil)))) (re_ix (hu_of hr) ((RE.w (n := 1) (re_lst (ra_cons (re_int) (ra_cons (re_int) (ra_cons (re_int) (ra_cons (re_int) (ra_nil)))))))) (re_v (pv 7)))) (re_ix (hu_of hr) (re_v (pv 1)) (re_mod (re_div (re_v (pv 3)) (re_int)) (re_int))))) sc__law_parts.nd (.inl rfl))
    (rss_cons (Γ1 := [0, 0, 0, 0, 0, 1, 0, 0, 0, 0, 0, 0, 0]) (rs_set (k := 0) (re_call (n := 0) (g__law_pool.mono (by decide)) hr (takes_of rfl rfl rfl rfl) (ra_cons (re_ix (hu_of hr) ((RE.w (n := 1) (re_lst (ra_cons (re_v (pv 2)) (ra_cons (re_add (re_div (re_v (pv 2)) (re_int)) (re_v (pv 7))) (ra_cons (re_add (re_call (n := 0) (g__law_cell_at.mono (by decide)) hr (takes_of rfl rfl rfl rfl) (ra_cons (re_v (pv 0)) (ra_cons (re_int) (ra_nil)))) (re_mul (re_int) (re_v (pv 7)))) (ra_nil))))))) (re_mod (re_div (re_v (pv 3)) (re_int)) (re_int))) (ra_cons (re_v (pv 8)) (ra_nil)))) sc__law_parts.nd (.inl rfl))
    (rss_cons (Γ1 := [0, 0, 0, 0, 0, 1, 0, 0, 0, 0, 1, 0, 0]) (rs_set (k := 1) (re_lst (ra_nil)) sc__law_parts.nd (.inl rfl))
    (rss_cons (Γ1 := [0, 0, 0, 0, 0, 1, 0, 0, 0, 0, 1, 0, 0]) (rs_for (passes_of rfl) rfl (ri_any (re_v (pv 9))) (rg_n sc__law_parts.nd (.inl rfl)) (rss_cons (Γ1 := [0, 0, 0, 0, 0, 1, 0, 0, 0, 0, 1, 0, 0]) (rs_app (rp_var (pv 10)) ((RE.w (n := 1) (re_lc (n := 0) (own := [("i", 12)]) rfl sc__law_parts.nd (ri_r1 z_range (re_len z_len (rab_cons (RE.b (n := 0) (fr := true) (re_v (pv 4))) (rab_nil)))) (blkOk_by (own := [("i", 12)]) (N := N__law_parts) (sc := defScope s__law_parts) (by decide +kernel)) (fun _ _ _ _ _ => rgw_n sc__law_parts.nd (.inl rfl)) (fun _ _ _ _ _ => rts_nil) (fun _ _ _ _ _ => re_call (n := 0) (g__law_worth.mono (by decide)) hr takes0 (ra_cons (re_call (n := 0) (g__law_drawn.mono (by decide)) hr takes0 (ra_cons (re_v (pv 0)) (ra_cons (re_add (re_v (pv 6)) (re_v (pv 12))) (ra_nil)))) (ra_nil)))))))
    (rss_one (rs_set (k := 0) (re_add (re_v (pv 6)) (re_len z_len (rab_cons (RE.b (n := 0) (fr := true) (re_v (pv 4))) (rab_nil)))) sc__law_parts.nd (.inr rfl)))))
    (rss_frz 10 (rss_one (rs_app (rp_var (pv 5)) (re_tup (ra_cons (re_ix (hu_of hr) (re_call (n := 0) (g__law_pool.mono (by decide)) hr (takes_of rfl rfl rfl rfl) (ra_cons (re_ix (hu_of hr) ((RE.w (n := 1) (re_lst (ra_cons (re_v (pv 2)) (ra_cons (re_add (re_div (re_v (pv 2)) (re_int)) (re_int)) (ra_nil)))))) (re_mod (re_div (re_v (pv 3)) (re_int)) (re_int))) (ra_cons (re_int) (ra_nil)))) (re_v (pv 7))) (ra_cons (re_v (pv 9)) (ra_cons (re_v (pv 10)) (ra_nil)))))))))))))
    (rss_frz 5 (rss_one (rs_ret (re_tup (ra_cons (re_v (pv 4)) (ra_cons (re_v (pv 5)) (ra_nil)))))))))))))
theorem ok__law_rows {f : Addr} {fd : FuncData} (F : Fun K "_law_rows" "_law_rows" s__law_rows f fd) : FnOk P w K mg base (L2.CX P w) 1 f fd ["hands"] (spM K mg 0 1 m__law_rows_v2) :=
  mk_ok (k := 0) (n := 0) (N := N__law_rows) (m := b__law_rows_v2) (Γ := [0, 0, 0, 0, 0, 0]) (Γ' := [0, 0, 0, 0, 0, 0]) F sc__law_rows rfl (by decide) (fun cdv A outer s H E hr =>
    rss_cons (Γ1 := [0, 0, 0, 0, 0, 0]) (rs_set (k := 0) ((RE.w (n := 1) (re_lst (ra_cons (re_tup (ra_nil)) (ra_nil))))) sc__law_rows.nd (.inl rfl))
    (rss_cons (Γ1 := [0, 0, 0, 0, 0, 0]) (rs_for (passes_of rfl) rfl (ri_any (re_v (pv 0))) (rg_n sc__law_rows.nd (.inl rfl)) (rss_cons (Γ1 := [0, 0, 0, 0, 0, 0]) (rs_set (k := 0) ((RE.w (n := 1) (re_lst (ra_nil)))) sc__law_rows.nd (.inl rfl))
    (rss_cons (Γ1 := [0, 0, 0, 0, 0, 0]) (rs_for (passes_of rfl) rfl (ri_any (re_v (pv 1))) (rg_n sc__law_rows.nd (.inr rfl)) (rss_one (rs_set (k := 0) (re_add (re_v (pv 3)) ((RE.w (n := 1) (re_lc (n := 0) (own := [("word", 5)]) rfl sc__law_rows.nd (ri_any (re_ix (hu_of hr) (re_v (pv 2)) (re_int))) (blkOk_by (own := [("word", 5)]) (N := N__law_rows) (sc := defScope s__law_rows) (by decide +kernel)) (fun _ _ _ _ _ => rgw_n sc__law_rows.nd (.inl rfl)) (fun _ _ _ _ _ => rts_nil) (fun _ _ _ _ _ => re_add (re_v (pv 4)) (re_tup (ra_cons (re_v (pv 5)) (ra_nil)))))))) sc__law_rows.nd (.inl rfl))))
    (rss_one (rs_set (k := 0) (re_v (pv 3)) sc__law_rows.nd (.inl rfl))))))
    (rss_one (rs_ret (re_v (pv 1))))))
theorem ok__law_price {f : Addr} {fd : FuncData} (F : Fun K "_law_price" "_law_price" s__law_price f fd) (z_int : mg "int" = none) : FnOk P w K mg base (L2.CX P w) 1 f fd ["cell", "worth"] (spM K mg 0 2 m__law_price) :=
  mk_ok (k := 0) (n := 0) (N := N__law_price) (m := b__law_price) (Γ := [0, 0]) (Γ' := [0, 0]) F sc__law_price rfl (by decide) (fun cdv A outer s H E hr =>
    rss_cons (Γ1 := [0, 0]) (rs_if (rt_eq (n1 := 0) (f1 := true) (n2 := 0) (f2 := true) hr.units (re_mod (re_v (pv 0)) (re_int)) (re_int)) (rss_one (rs_ret (re_sub (re_v (pv 1)) (re_mul (re_mod (re_div (re_v (pv 0)) (re_int)) (re_int)) (re_intB z_int (rab_cons (RE.b (n := 0) (fr := true) (re_gt (n1 := 0) (f1 := true) (n2 := 0) (f2 := true) (re_v (pv 1)) (re_int))) (rab_nil))))))) (rss_nil))
    (rss_cons (Γ1 := [0, 0]) (rs_if (rt_eq (n1 := 0) (f1 := true) (n2 := 0) (f2 := true) hr.units (re_mod (re_v (pv 0)) (re_int)) (re_int)) (rss_one (rs_ret (re_sub (re_mod (re_div (re_v (pv 0)) (re_int)) (re_pow (re_int) (re_int))) (re_mul (re_int) (re_pow (re_int) (re_int)))))) (rss_nil))
    (rss_cons (Γ1 := [0, 0]) (rs_if (rt_eq (n1 := 0) (f1 := true) (n2 := 0) (f2 := true) hr.units (re_mod (re_v (pv 0)) (re_int)) (re_int)) (rss_one (rs_ret (re_sub (re_mod (re_div (re_v (pv 0)) (re_int)) (re_pow (re_int) (re_int))) (re_mul (re_int) (re_pow (re_int) (re_int)))))) (rss_nil))
    (rss_one (rs_ret (re_sub (re_mod (re_div (re_v (pv 0)) (re_int)) (re_int)) (re_int)))))))
theorem ok__law_menus {f : Addr} {fd : FuncData} (F : Fun K "_law_menus" "_law_menus" s__law_menus f fd) (z_len : mg "len" = none) (z_range : mg "range" = none) (g__law_cell_at : FnG P w K mg base "_law_cell_at" 1 0 2 m__law_cell_at) (g__law_drawn : FnG P w K mg base "_law_drawn" 2 0 2 m__law_drawn) (g__law_price : FnG P w K mg base "_law_price" 1 0 2 m__law_price) (g__law_rows : FnG P w K mg base "_law_rows" 1 0 1 m__law_rows_v2) : FnOk P w K mg base (L2.CX P w) 3 f fd ["script", "outcomes", "hands", "k"] (spM K mg 2 4 m__law_menus_v2) :=
  mk_ok (k := 2) (n := 2) (N := N__law_menus) (m := b__law_menus_v2) (Γ := [0, 0, 0, 0, 0, 0, 0, 0, 0, 0, 0, 0, 0, 0]) (Γ' := [0, 0, 0, 0, 0, 0, 0, 0, 0, 0, 0, 0, 0, 0]) F sc__law_menus rfl (by decide) (fun cdv A outer s H E hr =>
    rss_cons (Γ1 := [0, 0, 0, 0, 2, 0, 0, 0, 0, 0, 0, 0, 0, 0]) (rs_set (k := 2) (re_dT0) sc__law_menus.nd (.inl rfl))
    (rss_cons (Γ1 := [0, 0, 0, 0, 2, 0, 0, 0, 0, 0, 0, 0, 0, 0]) (rs_set (k := 0) (re_int) sc__law_menus.nd (.inl rfl))
    (rss_cons (Γ1 := [0, 0, 0, 0, 2, 0, 0, 0, 0, 0, 0, 0, 0, 0]) (rs_set (k := 0) (re_call (n := 0) (g__law_rows.mono (by decide)) hr (takes_of rfl rfl rfl rfl) (ra_cons (re_add (re_sl (re_v (pv 2)) (ro_no) (ro_yes (re_v (pv 3)))) (re_sl (re_v (pv 2)) (ro_yes (re_add (re_v (pv 3)) (re_int))) (ro_no))) (ra_nil))) sc__law_menus.nd (.inl rfl))
    (rss_cons (Γ1 := [0, 0, 0, 0, 2, 0, 0, 0, 0, 0, 0, 0, 0, 0]) (rs_set (k := 0) (re_mod (re_div (re_call (n := 0) (g__law_cell_at.mono (by decide)) hr (takes_of rfl rfl rfl rfl) (ra_cons (re_v (pv 0)) (ra_cons (re_int) (ra_nil)))) (re_int)) (re_len z_len (rab_cons (RE.b (n := 0) (fr := true) (re_v (pv 6))) (rab_nil)))) sc__law_menus.nd (.inl rfl))
    (rss_cons (Γ1 := [0, 0, 0, 0, 2, 0, 0, 0, 0, 0, 0, 0, 0, 0]) (rs_for (passes_of rfl) rfl (ri_any (re_stepL (re_add (re_sl (re_v (pv 6)) (ro_yes (re_v (pv 7))) (ro_no)) (re_sl (re_v (pv 6)) (ro_no) (ro_yes (re_v (pv 7))))) (re_sub (re_int) (re_mul (re_int) (re_mod (re_v (pv 7)) (re_int)))))) (rg_n sc__law_menus.nd (.inl rfl)) (rss_fz (Γ1 := [0, 0, 0, 0, 2, 0, 0, 0, 0, 1, 0, 0, 0, 0]) 9 (rss_cons (Γ1 := [0, 0, 0, 0, 2, 0, 0, 0, 0, 1, 0, 0, 0, 0]) (rs_set (k := 1) (re_dK0) sc__law_menus.nd (.inl rfl))
    (rss_cons (Γ1 := [0, 0, 0, 0, 2, 0, 0, 0, 0, 1, 0, 0, 0, 0]) (rs_set (k := 0) (re_ix (hu_of hr) (re_ix (hu_of hr) (re_ix (hu_of hr) (re_v (pv 2)) (re_v (pv 3))) (re_int)) (re_mod (re_v (pv 5)) (re_len z_len (rab_cons (RE.b (n := 0) (fr := true) (re_ix (hu_of hr) (re_ix (hu_of hr) (re_v (pv 2)) (re_v (pv 3))) (re_int))) (rab_nil))))) sc__law_menus.nd (.inl rfl))
    (rss_cons (Γ1 := [0, 0, 0, 0, 2, 0, 0, 0, 0, 1, 0, 0, 0, 0]) (rs_for (passes_of rfl) rfl (ri_r1 z_range (re_len z_len (rab_cons (RE.b (n := 0) (fr := true) (re_v (pv 1))) (rab_nil)))) (rg_n sc__law_menus.nd (.inl rfl)) (rss_cons (Γ1 := [0, 0, 0, 0, 2, 0, 0, 0, 0, 1, 0, 0, 0, 0]) (rs_set (k := 0) (re_mod (re_add (re_v (pv 11)) (re_v (pv 5))) (re_len z_len (rab_cons (RE.b (n := 0) (fr := true) (re_v (pv 1))) (rab_nil)))) sc__law_menus.nd (.inl rfl))
    (rss_cons (Γ1 := [0, 0, 0, 0, 2, 0, 0, 0, 0, 1, 0, 0, 0, 0]) (rs_set (k := 0) (re_call (n := 0) (g__law_drawn.mono (by decide)) hr (takes_of rfl rfl rfl rfl) (ra_cons (re_v (pv 0)) (ra_cons (re_add (re_add (re_int) (re_mul (re_v (pv 5)) (re_len z_len (rab_cons (RE.b (n := 0) (fr := true) (re_v (pv 1))) (rab_nil))))) (re_v (pv 11))) (ra_nil)))) sc__law_menus.nd (.inl rfl))
    (rss_one (rs_if (RW.t (rw_or (rt_lt (n1 := 0) (f1 := true) (n2 := 0) (f2 := true) (re_mod (re_v (pv 13)) (re_int)) (re_int)) (rw_or1 (rt_eq (n1 := 0) (f1 := true) (n2 := 0) (f2 := true) hr.units (re_v (pv 11)) (re_int))))) (rss_one (rs_putD (hu_of hr) (rp_var (pv 9)) (re_ix (hu_of hr) (re_v (pv 1)) (re_v (pv 12))) (re_call (n := 0) (g__law_price.mono (by decide)) hr (takes_of rfl rfl rfl rfl) (ra_cons (re_div (re_v (pv 13)) (re_int)) (ra_cons (re_ix (hu_of hr) (re_v (pv 10)) (re_v (pv 12))) (ra_nil)))))) (rss_nil))))))
    (rss_cons (Γ1 := [0, 0, 0, 0, 2, 0, 0, 0, 0, 1, 0, 0, 0, 0]) (rs_putMv (hu_of hr) (pv 4) (re_v (pv 8)) (pv 9))
    (rss_one (rs_set (k := 0) (re_add (re_v (pv 5)) (re_int)) sc__law_menus.nd (.inl rfl)))))))))
    (rss_one (rs_retO (pv 4))))))))
theorem ok__law_told {f : Addr} {fd : FuncData} (F : Fun K "_law_told" "_law_told" s__law_told f fd) (z_ValueError : mg "ValueError" = none) (z_isinstance : mg "isinstance" = none) (y_TrueError : CatG K mg "TrueError" [("NoMenu", true)]) (kx_NoMenu : ExcK K mg "NoMenu") (i_NoMenu_NoHouse : TstG K mg "NoMenu" "NoHouse" false) (i_NoMenu_NoMenu : TstG K mg "NoMenu" "NoMenu" true) (i_NoMenu_NoPays : TstG K mg "NoMenu" "NoPays" false) (i_NoMenu_NoRow : TstG K mg "NoMenu" "NoRow" false) (i_NoMenu_NoRule : TstG K mg "NoMenu" "NoRule" false) (i_NoMenu_NoShare : TstG K mg "NoMenu" "NoShare" false) (i_NoMenu_NoStand : TstG K mg "NoMenu" "NoStand" false) (i_NoMenu_NoWeight : TstG K mg "NoMenu" "NoWeight" false) (i_NoMenu_NoWord : TstG K mg "NoMenu" "NoWord" false) (i_NoMenu_ValueError : TstG K mg "NoMenu" "ValueError" true) (g_menus_table : FnG P w K mg base "menus_table" 4 0 3 m_menus_table_v2) : FnOk P w K mg base (L2.CX P w) 5 f fd ["house", "k", "menus"] (spM K mg 0 3 m__law_told_v5) :=
  mk_ok (k := 4) (n := 0) (N := N__law_told) (m := b__law_told_v5) (Γ := [0, 0, 0, 0, 0, 0]) (Γ' := [0, 0, 0, 0, 0, 0]) F sc__law_told rfl (by decide) (fun cdv A outer s H E hr =>
    rss_cons (Γ1 := [0, 0, 0, 0, 0, 0]) (rs_set (k := 0) (re_non) sc__law_told.nd (.inl rfl))
    (rss_cons (Γ1 := [0, 0, 0, 0, 0, 0]) (rs_set (k := 0) (re_non) sc__law_told.nd (.inl rfl))
    (rss_cons (Γ1 := [0, 0, 0, 0, 0, 0]) (rs_tryA (x := "e") (c0 := "NoMenu") (i := 5) (Γ1 := [0, 0, 0, 0, 0, 0]) y_TrueError (takes_of rfl rfl rfl rfl) (fun _ _ _ tk _ => rss_one (rs_set (k := 0) (re_call (n := 0) (g_menus_table.mono (by decide)) hr tk (ra_cons (re_v (pv 0)) (ra_cons (re_v (pv 1)) (ra_cons (re_v (pv 2)) (ra_nil))))) sc__law_told.nd (.inl rfl))) (fun _ _ _ _ hz hf hC => rssp_one (rsp_set (k := 0) (j := 4) (rep_w (n := 1) (rep_lst (rap_cons (rep_isE hz hf hC kx_NoMenu i_NoMenu_NoMenu z_isinstance (pv 5)) (rap_cons (rep_isE hz hf hC kx_NoMenu i_NoMenu_ValueError z_isinstance (pv 5)) (rap_cons (rep_isET (b := false) hz hf hC kx_NoMenu (pcs_cons i_NoMenu_NoHouse (pcs_cons i_NoMenu_NoPays (pcs_cons i_NoMenu_NoRow (pcs_cons i_NoMenu_NoRule (pcs_nil hC))))) z_isinstance (pv 5)) (rap_cons (rep_isET (b := false) hz hf hC kx_NoMenu (pcs_cons i_NoMenu_NoShare (pcs_cons i_NoMenu_NoStand (pcs_cons i_NoMenu_NoWeight (pcs_cons i_NoMenu_NoWord (pcs_nil hC))))) z_isinstance (pv 5)) (rap_nil)))))) (by decide)) sc__law_told.nd (.inl rfl))) sc__law_told.nd)
    (rss_one (rs_ret (re_tup (ra_cons (re_v (pv 3)) (ra_cons (re_v (pv 4)) (ra_nil)))))))))
theorem ok__law_spoiled {f : Addr} {fd : FuncData} (F : Fun K "_law_spoiled" "_law_spoiled" s__law_spoiled f fd) (z_list : mg "list" = none) : FnOk P w K mg base (L2.CX P w) 1 f fd ["menus", "others", "cell"] (spO K [2, 0, 0, 0, 0] 0 3 m__law_spoiled_v2) :=
  mk_okO (k := 0) (n := 0) (N := N__law_spoiled) (m := b__law_spoiled_v2) (Γ := [2, 0, 0, 0, 0]) (Γ' := [0, 0, 0, 0, 0]) F sc__law_spoiled rfl (fun cdv A outer s H E hr =>
    rss_cons (Γ1 := [2, 0, 0, 0, 0]) (rs_set (k := 0) (re_mod (re_v (pv 2)) (re_int)) sc__law_spoiled.nd (.inl rfl))
    (rss_cons (Γ1 := [2, 0, 0, 0, 0]) (rs_set (k := 0) (re_ix (hu_of hr) (re_listK rfl z_list (rab_cons (RE.b (n := 1) (fr := false) (re_ixO (hu_of hr) (n := 1) (re_own (pv 0) 2) (re_v (pv 1)))) (rab_nil))) (re_int)) sc__law_spoiled.nd (.inl rfl))
    (rss_cons (Γ1 := [2, 0, 0, 0, 0]) (rs_if (rt_lt (n1 := 0) (f1 := true) (n2 := 0) (f2 := true) (re_v (pv 3)) (re_int)) (rss_one (rs_popT (hu_of hr) (pv 0) (re_v (pv 1)))) (rss_nil))
    (rss_cons (Γ1 := [2, 0, 0, 0, 0]) (rs_if (rt_eq (n1 := 0) (f1 := true) (n2 := 0) (f2 := true) hr.units (re_v (pv 3)) (re_int)) (rss_one (rs_putD (hu_of hr) (rp_var (pv 0)) (re_add (re_v (pv 1)) (re_tup (ra_cons (re_str) (ra_nil)))) (re_d1N (n := 1) (re_v (pv 4)) (re_int)))) (rss_nil))
    (rss_cons (Γ1 := [2, 0, 0, 0, 0]) (rs_if (rt_eq (n1 := 0) (f1 := true) (n2 := 0) (f2 := true) hr.units (re_v (pv 3)) (re_int)) (rss_one (rs_putD (hu_of hr) (rp_var (pv 0)) (re_add (re_v (pv 1)) (re_tup (ra_cons (re_str) (ra_nil)))) (re_d1N (n := 1) (re_v (pv 4)) (re_int)))) (rss_nil))
    (rss_cons (Γ1 := [2, 0, 0, 0, 0]) (rs_if (rt_eq (n1 := 0) (f1 := true) (n2 := 0) (f2 := true) hr.units (re_v (pv 3)) (re_int)) (rss_one (rs_putD (hu_of hr) (rp_var (pv 0)) (re_v (pv 1)) (re_dK0))) (rss_nil))
    (rss_cons (Γ1 := [2, 0, 0, 0, 0]) (rs_if (rt_eq (n1 := 0) (f1 := true) (n2 := 0) (f2 := true) hr.units (re_v (pv 3)) (re_int)) (rss_one (rs_putD (hu_of hr) (rp_var (pv 0)) (re_v (pv 1)) (re_ixF (hu_of hr) (re_lst (ra_cons (re_non) (ra_cons (re_lst (ra_nil)) (ra_cons (re_lst (ra_cons (re_v (pv 4)) (ra_nil))) (ra_cons (re_tup (ra_cons (re_v (pv 4)) (ra_cons (re_int) (ra_nil)))) (ra_cons (re_str) (ra_cons (re_bl) (ra_nil)))))))) (re_mod (re_div (re_v (pv 2)) (re_int)) (re_int))))) (rss_nil))
    (rss_cons (Γ1 := [2, 0, 0, 0, 0]) (rs_if (rt_eq (n1 := 0) (f1 := true) (n2 := 0) (f2 := true) hr.units (re_v (pv 3)) (re_int)) (rss_one (rs_putN (hu_of hr) (pv 0) (re_v (pv 1)) (re_str) (re_int))) (rss_nil))
    (rss_cons (Γ1 := [2, 0, 0, 0, 0]) (rs_if (rt_eq (n1 := 0) (f1 := true) (n2 := 0) (f2 := true) hr.units (re_v (pv 3)) (re_int)) (rss_one (rs_putN (hu_of hr) (pv 0) (re_v (pv 1)) (re_non) (re_int))) (rss_nil))
    (rss_cons (Γ1 := [2, 0, 0, 0, 0]) (rs_if (RW.t (rw_and (rt_lt (n1 := 0) (f1 := true) (n2 := 0) (f2 := true) (re_v (pv 3)) (re_int)) (rw_and1 (rt_gt (n1 := 0) (f1 := true) (n2 := 0) (f2 := true) (re_v (pv 3)) (re_int))))) (rss_one (rs_putN (hu_of hr) (pv 0) (re_v (pv 1)) (re_v (pv 4)) (re_ix (hu_of hr) ((RE.w (n := 1) (re_lst (ra_cons (re_non) (ra_cons (re_bl) (ra_cons (re_str) (ra_cons ((RE.w (n := 1) (re_lst (ra_cons (re_int) (ra_nil))))) (ra_cons (re_tup (ra_nil)) (ra_cons (re_bl) (ra_nil)))))))))) (re_mod (re_div (re_v (pv 2)) (re_int)) (re_int))))) (rss_nil))
    (rss_cons (Γ1 := [2, 0, 0, 0, 0]) (rs_if (rt_eq (n1 := 0) (f1 := true) (n2 := 0) (f2 := true) hr.units (re_v (pv 3)) (re_int)) (rss_one (rs_ret (re_ix (hu_of hr) ((RE.w (n := 1) (re_lst (ra_cons (re_non) (ra_cons ((RE.w (n := 1) (re_lst (ra_nil)))) (ra_cons (re_listDTB rfl z_list (rab_cons (RE.b (n := 2) (fr := false) (re_own (pv 0) 2)) (rab_nil))) (ra_cons (re_str) (ra_cons (re_bl) (ra_nil))))))))) (re_mod (re_div (re_v (pv 2)) (re_int)) (re_int))))) (rss_nil))
    (rss_cons (Γ1 := [2, 0, 0, 0, 0]) (rs_if (rt_eq (n1 := 0) (f1 := true) (n2 := 0) (f2 := true) hr.units (re_v (pv 3)) (re_int)) (rss_frz 0 (rss_one (rs_ret (re_d1N (n := 0) (re_str) (re_ix (hu_of hr) (re_v (pv 0)) (re_v (pv 1))))))) (rss_nil))
    (rss_frz 0 (rss_one (rs_ret (re_v (pv 0)))))))))))))))))
theorem ok_law {f : Addr} {fd : FuncData} (F : Fun K "law" "law" s_law f fd) (z_dict : mg "dict" = none) (z_isinstance : mg "isinstance" = none) (z_len : mg "len" = none) (z_list : mg "list" = none) (g__law_cell_at : FnG P w K mg base "_law_cell_at" 1 0 2 m__law_cell_at) (g__law_menus : FnG P w K mg base "_law_menus" 3 2 4 m__law_menus_v2) (g__law_parts : FnG P w K mg base "_law_parts" 3 0 2 m__law_parts) (g__law_rows : FnG P w K mg base "_law_rows" 1 0 1 m__law_rows_v2) (g__law_spoiled : FnO P w K mg base "_law_spoiled" 1 [2, 0, 0, 0, 0] 0 3 m__law_spoiled_v2) (g__law_told : FnG P w K mg base "_law_told" 5 0 3 m__law_told_v5) (g_house_of : FnG P w K mg base "house_of" 4 0 2 m_house_of) : FnOk P w K mg base (L2.CX P w) 6 f fd ["script"] (spM K mg 0 1 m_law_k47) :=
  mk_ok (k := 5) (n := 0) (N := N_law) (m := b_law_k47) (Γ := [0, 0, 0, 0, 0, 0, 0, 0, 0, 0, 0]) (Γ' := [0, 0, 0, 0, 0, 0, 0, 0, 0, 0, 0]) F sc_law rfl (by decide) (fun cdv A outer s H E hr =>
    rss_cons (Γ1 := [0, 0, 0, 0, 0, 0, 0, 0, 0, 0, 0]) (rs_asg (re_call (n := 0) (g__law_parts.mono (by decide)) hr (takes_of rfl rfl rfl rfl) (ra_cons (re_v (pv 0)) (ra_cons ((RE.w (n := 1) (re_lst (ra_cons (re_int) (ra_cons (re_int) (ra_cons (re_int) (ra_cons (re_int) (ra_nil)))))))) (ra_nil)))) (rg_t rfl (rgs_cons (rg_n sc_law.nd (.inl rfl)) (rgs_cons (rg_n sc_law.nd (.inl rfl)) (rgs_nil)))))
    (rss_cons (Γ1 := [0, 0, 0, 0, 0, 0, 0, 0, 0, 0, 0]) (rs_set (k := 0) (re_call (n := 0) (g_house_of.mono (by decide)) hr (takes_of rfl rfl rfl rfl) (ra_cons (re_v (pv 1)) (ra_cons (re_v (pv 2)) (ra_nil)))) sc_law.nd (.inl rfl))
    (rss_cons (Γ1 := [0, 0, 0, 0, 0, 0, 0, 0, 0, 0, 0]) (rs_set (k := 0) (re_mod (re_call (n := 0) (g__law_cell_at.mono (by decide)) hr (takes_of rfl rfl rfl rfl) (ra_cons (re_v (pv 0)) (ra_cons (re_int) (ra_nil)))) (re_pow (re_int) (re_int))) sc_law.nd (.inl rfl))
    (rss_cons (Γ1 := [0, 0, 0, 0, 0, 0, 0, 0, 0, 0, 0]) (rs_set (k := 0) (re_mod (re_v (pv 4)) (re_len z_len (rab_cons (RE.b (n := 0) (fr := true) (re_v (pv 2))) (rab_nil)))) sc_law.nd (.inl rfl))
    (rss_cons (Γ1 := [0, 0, 0, 0, 0, 0, 2, 0, 0, 0, 0]) (rs_set (k := 2) (re_call (n := 2) (g__law_menus.mono (by decide)) hr (takes_of rfl rfl rfl rfl) (ra_cons (re_v (pv 0)) (ra_cons (re_v (pv 1)) (ra_cons (re_v (pv 2)) (ra_cons (re_v (pv 5)) (ra_nil)))))) sc_law.nd (.inl rfl))
    (rss_cons (Γ1 := [0, 0, 0, 0, 0, 0, 2, 0, 0, 0, 0]) (rs_set (k := 0) (re_listDTB rfl z_list (rab_cons (RE.b (n := 2) (fr := false) (re_own (pv 6) 2)) (rab_nil))) sc_law.nd (.inl rfl))
    (rss_cons (Γ1 := [0, 0, 0, 0, 0, 0, 2, 0, 0, 0, 0]) (rs_setMvO (g__law_spoiled.mono (by decide)) hr (pv 6) (rao_cons (n := 0) (re_ix (hu_of hr) (re_v (pv 7)) (re_mod (re_div (re_v (pv 4)) (re_int)) (re_len z_len (rab_cons (RE.b (n := 0) (fr := true) (re_v (pv 7))) (rab_nil))))) (rao_cons (n := 0) (re_div (re_v (pv 4)) (re_int)) (rao_nil))) sc_law.nd (.inl rfl))
    (rss_cons (Γ1 := [0, 0, 0, 0, 0, 0, 2, 0, 0, 0, 0]) (rs_asg (re_call (n := 0) (g__law_told.mono (by decide)) hr (takes_of rfl rfl rfl rfl) (ra_cons (re_v (pv 3)) (ra_cons (re_v (pv 5)) (ra_cons (re_v (pv 8)) (ra_nil))))) (rg_t rfl (rgs_cons (rg_n sc_law.nd (.inl rfl)) (rgs_cons (rg_n sc_law.nd (.inl rfl)) (rgs_nil)))))
    (rss_cons (Γ1 := [0, 0, 0, 0, 0, 0, 0, 0, 0, 0, 0]) (rs_if (rt_lt (n1 := 0) (f1 := true) (n2 := 0) (f2 := true) (re_mod (re_div (re_v (pv 4)) (re_int)) (re_int)) (re_int)) (rss_cons (Γ1 := [0, 0, 0, 0, 0, 0, 2, 0, 0, 0, 0]) (rs_if (rt_ne (n1 := 0) (f1 := true) (n2 := 0) (f2 := true) hr.units (re_v (pv 10)) ((RE.w (n := 1) (re_lst (ra_cons (re_bl) (ra_cons (re_bl) (ra_cons (re_bl) (ra_cons (re_bl) (ra_nil))))))))) (rss_one (rs_ret (re_bl))) (rss_nil))
    (rss_cons (Γ1 := [0, 0, 0, 0, 0, 0, 2, 0, 0, 0, 0]) (rs_set (k := 2) (re_call (n := 2) (g__law_menus.mono (by decide)) hr (takes_of rfl rfl rfl rfl) (ra_cons (re_v (pv 0)) (ra_cons (re_v (pv 1)) (ra_cons (re_v (pv 2)) (ra_cons (re_v (pv 5)) (ra_nil)))))) sc_law.nd (.inl rfl))
    (rss_frz 6 (rss_one (rs_asg (re_call (n := 0) (g__law_told.mono (by decide)) hr (takes_of rfl rfl rfl rfl) (ra_cons (re_v (pv 3)) (ra_cons (re_v (pv 5)) (ra_cons (re_v (pv 6)) (ra_nil))))) (rg_t rfl (rgs_cons (rg_n sc_law.nd (.inl rfl)) (rgs_cons (rg_n sc_law.nd (.inl rfl)) (rgs_nil))))))))) (rss_fz (Γ1 := [0, 0, 0, 0, 0, 0, 2, 0, 0, 0, 0]) 6 (rss_nil)))
    (rss_one (rs_ret (re_and (n1 := 0) (f1 := true) (re_isN (n1 := 0) (f1 := true) (re_v (pv 10))) (re_and (n1 := 0) (f1 := true) (re_isi z_isinstance z_dict boot_dict (RE.b (n := 0) (fr := true) (re_v (pv 9)))) (re_one (re_eq (n1 := 0) (f1 := true) (n2 := 0) (f2 := true) hr.units (re_len z_len (rab_cons (RE.b (n := 0) (fr := true) (re_v (pv 9))) (rab_nil))) (re_len z_len (rab_cons (RE.b (n := 0) (fr := true) (re_call (n := 0) (g__law_rows.mono (by decide)) hr (takes_of rfl rfl rfl rfl) (ra_cons (re_v (pv 2)) (ra_nil)))) (rab_nil))))))))))))))))))
end
theorem all_mk {l : PySem.W.OpenLaw} {w : World} {K : PySem.W.Frag} {h : Heap} {mg : Str → Option Value} {fa f_is_name f_are_names f_is_worth f_are_worths f_is_hand f_house_of f_crossed f_others_of f_row_with f_is_menu f_are_menus f_pick f_menus_table f__law_cell_at f__law_pool f__law_drawn f__law_worth f__law_parts f__law_rows f__law_price f__law_menus f__law_told f__law_spoiled f_law : Addr} (X : K.In h) (G : h.Ns mainGlobals mg) (hfa : mg "law" = some (.ref fa))
    {od_is_name an_is_name od_are_names an_are_names od_is_worth an_is_worth od_are_worths an_are_worths od_is_hand an_is_hand od_house_of an_house_of od_crossed an_crossed od_others_of an_others_of od_row_with an_row_with od_is_menu an_is_menu od_are_menus an_are_menus od_pick an_pick od_menus_table an_menus_table od__law_cell_at an__law_cell_at od__law_pool an__law_pool od__law_drawn an__law_drawn od__law_worth an__law_worth od__law_parts an__law_parts od__law_rows an__law_rows od__law_price an__law_price od__law_menus an__law_menus od__law_told an__law_told od__law_spoiled an__law_spoiled od_law an_law : Option Addr} {sl_is_name sl_are_names sl_is_worth sl_are_worths sl_is_hand sl_house_of sl_crossed sl_others_of sl_row_with sl_is_menu sl_are_menus sl_pick sl_menus_table sl__law_cell_at sl__law_pool sl__law_drawn sl__law_worth sl__law_parts sl__law_rows sl__law_price sl__law_menus sl__law_told sl__law_spoiled sl_law : Array (Option Value)} {oc_is_name kV_is_name dc_is_name pm_is_name cd_is_name ct_is_name oc_are_names kV_are_names dc_are_names pm_are_names cd_are_names ct_are_names oc_is_worth kV_is_worth dc_is_worth pm_is_worth cd_is_worth ct_is_worth oc_are_worths kV_are_worths dc_are_worths pm_are_worths cd_are_worths ct_are_worths oc_is_hand kV_is_hand dc_is_hand pm_is_hand cd_is_hand ct_is_hand oc_house_of kV_house_of dc_house_of pm_house_of cd_house_of ct_house_of oc_crossed kV_crossed dc_crossed pm_crossed cd_crossed ct_crossed oc_others_of kV_others_of dc_others_of pm_others_of cd_others_of ct_others_of oc_row_with kV_row_with dc_row_with pm_row_with cd_row_with ct_row_with oc_is_menu kV_is_menu dc_is_menu pm_is_menu cd_is_menu ct_is_menu oc_are_menus kV_are_menus dc_are_menus pm_are_menus cd_are_menus ct_are_menus oc_pick kV_pick dc_pick pm_pick cd_pick ct_pick oc_menus_table kV_menus_table dc_menus_table pm_menus_table cd_menus_table ct_menus_table oc__law_cell_at kV__law_cell_at dc__law_cell_at pm__law_cell_at cd__law_cell_at ct__law_cell_at oc__law_pool kV__law_pool dc__law_pool pm__law_pool cd__law_pool ct__law_pool oc__law_drawn kV__law_drawn dc__law_drawn pm__law_drawn cd__law_drawn ct__law_drawn oc__law_worth kV__law_worth dc__law_worth pm__law_worth cd__law_worth ct__law_worth oc__law_parts kV__law_parts dc__law_parts pm__law_parts cd__law_parts ct__law_parts oc__law_rows kV__law_rows dc__law_rows pm__law_rows cd__law_rows ct__law_rows oc__law_price kV__law_price dc__law_price pm__law_price cd__law_price ct__law_price oc__law_menus kV__law_menus dc__law_menus pm__law_menus cd__law_menus ct__law_menus oc__law_told kV__law_told dc__law_told pm__law_told cd__law_told ct__law_told oc__law_spoiled kV__law_spoiled dc__law_spoiled pm__law_spoiled cd__law_spoiled ct__law_spoiled oc_law kV_law dc_law pm_law cd_law ct_law : Value}
    (a_is_name : PySem.W.nsIn K mainGlobals "is_name" = some (some (.ref f_is_name))) (l_is_name : K.lookup f_is_name = some ⟨oc_is_name, od_is_name, .func (PySem.W.fnOf "is_name" "is_name" (defArgs s_is_name) (defBody s_is_name) (defScope s_is_name) .none kV_is_name dc_is_name pm_is_name an_is_name cd_is_name ct_is_name), sl_is_name⟩) (c_is_name : PySem.W.codeIn K cd_is_name "is_name" = true) (k_is_name : PySem.W.keepIn K (.ref f_is_name) = true)
    (a_are_names : PySem.W.nsIn K mainGlobals "are_names" = some (some (.ref f_are_names))) (l_are_names : K.lookup f_are_names = some ⟨oc_are_names, od_are_names, .func (PySem.W.fnOf "are_names" "are_names" (defArgs s_are_names) (defBody s_are_names) (defScope s_are_names) .none kV_are_names dc_are_names pm_are_names an_are_names cd_are_names ct_are_names), sl_are_names⟩) (c_are_names : PySem.W.codeIn K cd_are_names "are_names" = true) (k_are_names : PySem.W.keepIn K (.ref f_are_names) = true)
    (a_is_worth : PySem.W.nsIn K mainGlobals "is_worth" = some (some (.ref f_is_worth))) (l_is_worth : K.lookup f_is_worth = some ⟨oc_is_worth, od_is_worth, .func (PySem.W.fnOf "is_worth" "is_worth" (defArgs s_is_worth) (defBody s_is_worth) (defScope s_is_worth) .none kV_is_worth dc_is_worth pm_is_worth an_is_worth cd_is_worth ct_is_worth), sl_is_worth⟩) (c_is_worth : PySem.W.codeIn K cd_is_worth "is_worth" = true) (k_is_worth : PySem.W.keepIn K (.ref f_is_worth) = true)
    (a_are_worths : PySem.W.nsIn K mainGlobals "are_worths" = some (some (.ref f_are_worths))) (l_are_worths : K.lookup f_are_worths = some ⟨oc_are_worths, od_are_worths, .func (PySem.W.fnOf "are_worths" "are_worths" (defArgs s_are_worths) (defBody s_are_worths) (defScope s_are_worths) .none kV_are_worths dc_are_worths pm_are_worths an_are_worths cd_are_worths ct_are_worths), sl_are_worths⟩) (c_are_worths : PySem.W.codeIn K cd_are_worths "are_worths" = true) (k_are_worths : PySem.W.keepIn K (.ref f_are_worths) = true)
    (a_is_hand : PySem.W.nsIn K mainGlobals "is_hand" = some (some (.ref f_is_hand))) (l_is_hand : K.lookup f_is_hand = some ⟨oc_is_hand, od_is_hand, .func (PySem.W.fnOf "is_hand" "is_hand" (defArgs s_is_hand) (defBody s_is_hand) (defScope s_is_hand) .none kV_is_hand dc_is_hand pm_is_hand an_is_hand cd_is_hand ct_is_hand), sl_is_hand⟩) (c_is_hand : PySem.W.codeIn K cd_is_hand "is_hand" = true) (k_is_hand : PySem.W.keepIn K (.ref f_is_hand) = true)
    (a_house_of : PySem.W.nsIn K mainGlobals "house_of" = some (some (.ref f_house_of))) (l_house_of : K.lookup f_house_of = some ⟨oc_house_of, od_house_of, .func (PySem.W.fnOf "house_of" "house_of" (defArgs s_house_of) (defBody s_house_of) (defScope s_house_of) .none kV_house_of dc_house_of pm_house_of an_house_of cd_house_of ct_house_of), sl_house_of⟩) (c_house_of : PySem.W.codeIn K cd_house_of "house_of" = true) (k_house_of : PySem.W.keepIn K (.ref f_house_of) = true)
    (a_crossed : PySem.W.nsIn K mainGlobals "crossed" = some (some (.ref f_crossed))) (l_crossed : K.lookup f_crossed = some ⟨oc_crossed, od_crossed, .func (PySem.W.fnOf "crossed" "crossed" (defArgs s_crossed) (defBody s_crossed) (defScope s_crossed) .none kV_crossed dc_crossed pm_crossed an_crossed cd_crossed ct_crossed), sl_crossed⟩) (c_crossed : PySem.W.codeIn K cd_crossed "crossed" = true) (k_crossed : PySem.W.keepIn K (.ref f_crossed) = true)
    (a_others_of : PySem.W.nsIn K mainGlobals "others_of" = some (some (.ref f_others_of))) (l_others_of : K.lookup f_others_of = some ⟨oc_others_of, od_others_of, .func (PySem.W.fnOf "others_of" "others_of" (defArgs s_others_of) (defBody s_others_of) (defScope s_others_of) .none kV_others_of dc_others_of pm_others_of an_others_of cd_others_of ct_others_of), sl_others_of⟩) (c_others_of : PySem.W.codeIn K cd_others_of "others_of" = true) (k_others_of : PySem.W.keepIn K (.ref f_others_of) = true)
    (a_row_with : PySem.W.nsIn K mainGlobals "row_with" = some (some (.ref f_row_with))) (l_row_with : K.lookup f_row_with = some ⟨oc_row_with, od_row_with, .func (PySem.W.fnOf "row_with" "row_with" (defArgs s_row_with) (defBody s_row_with) (defScope s_row_with) .none kV_row_with dc_row_with pm_row_with an_row_with cd_row_with ct_row_with), sl_row_with⟩) (c_row_with : PySem.W.codeIn K cd_row_with "row_with" = true) (k_row_with : PySem.W.keepIn K (.ref f_row_with) = true)
    (a_is_menu : PySem.W.nsIn K mainGlobals "is_menu" = some (some (.ref f_is_menu))) (l_is_menu : K.lookup f_is_menu = some ⟨oc_is_menu, od_is_menu, .func (PySem.W.fnOf "is_menu" "is_menu" (defArgs s_is_menu) (defBody s_is_menu) (defScope s_is_menu) .none kV_is_menu dc_is_menu pm_is_menu an_is_menu cd_is_menu ct_is_menu), sl_is_menu⟩) (c_is_menu : PySem.W.codeIn K cd_is_menu "is_menu" = true) (k_is_menu : PySem.W.keepIn K (.ref f_is_menu) = true)
    (a_are_menus : PySem.W.nsIn K mainGlobals "are_menus" = some (some (.ref f_are_menus))) (l_are_menus : K.lookup f_are_menus = some ⟨oc_are_menus, od_are_menus, .func (PySem.W.fnOf "are_menus" "are_menus" (defArgs s_are_menus) (defBody s_are_menus) (defScope s_are_menus) .none kV_are_menus dc_are_menus pm_are_menus an_are_menus cd_are_menus ct_are_menus), sl_are_menus⟩) (c_are_menus : PySem.W.codeIn K cd_are_menus "are_menus" = true) (k_are_menus : PySem.W.keepIn K (.ref f_are_menus) = true)
    (a_pick : PySem.W.nsIn K mainGlobals "pick" = some (some (.ref f_pick))) (l_pick : K.lookup f_pick = some ⟨oc_pick, od_pick, .func (PySem.W.fnOf "pick" "pick" (defArgs s_pick) (defBody s_pick) (defScope s_pick) .none kV_pick dc_pick pm_pick an_pick cd_pick ct_pick), sl_pick⟩) (c_pick : PySem.W.codeIn K cd_pick "pick" = true) (k_pick : PySem.W.keepIn K (.ref f_pick) = true)
    (a_menus_table : PySem.W.nsIn K mainGlobals "menus_table" = some (some (.ref f_menus_table))) (l_menus_table : K.lookup f_menus_table = some ⟨oc_menus_table, od_menus_table, .func (PySem.W.fnOf "menus_table" "menus_table" (defArgs s_menus_table) (defBody s_menus_table) (defScope s_menus_table) .none kV_menus_table dc_menus_table pm_menus_table an_menus_table cd_menus_table ct_menus_table), sl_menus_table⟩) (c_menus_table : PySem.W.codeIn K cd_menus_table "menus_table" = true) (k_menus_table : PySem.W.keepIn K (.ref f_menus_table) = true)
    (a__law_cell_at : PySem.W.nsIn K mainGlobals "_law_cell_at" = some (some (.ref f__law_cell_at))) (l__law_cell_at : K.lookup f__law_cell_at = some ⟨oc__law_cell_at, od__law_cell_at, .func (PySem.W.fnOf "_law_cell_at" "_law_cell_at" (defArgs s__law_cell_at) (defBody s__law_cell_at) (defScope s__law_cell_at) .none kV__law_cell_at dc__law_cell_at pm__law_cell_at an__law_cell_at cd__law_cell_at ct__law_cell_at), sl__law_cell_at⟩) (c__law_cell_at : PySem.W.codeIn K cd__law_cell_at "_law_cell_at" = true) (k__law_cell_at : PySem.W.keepIn K (.ref f__law_cell_at) = true)
    (a__law_pool : PySem.W.nsIn K mainGlobals "_law_pool" = some (some (.ref f__law_pool))) (l__law_pool : K.lookup f__law_pool = some ⟨oc__law_pool, od__law_pool, .func (PySem.W.fnOf "_law_pool" "_law_pool" (defArgs s__law_pool) (defBody s__law_pool) (defScope s__law_pool) .none kV__law_pool dc__law_pool pm__law_pool an__law_pool cd__law_pool ct__law_pool), sl__law_pool⟩) (c__law_pool : PySem.W.codeIn K cd__law_pool "_law_pool" = true) (k__law_pool : PySem.W.keepIn K (.ref f__law_pool) = true)
    (a__law_drawn : PySem.W.nsIn K mainGlobals "_law_drawn" = some (some (.ref f__law_drawn))) (l__law_drawn : K.lookup f__law_drawn = some ⟨oc__law_drawn, od__law_drawn, .func (PySem.W.fnOf "_law_drawn" "_law_drawn" (defArgs s__law_drawn) (defBody s__law_drawn) (defScope s__law_drawn) .none kV__law_drawn dc__law_drawn pm__law_drawn an__law_drawn cd__law_drawn ct__law_drawn), sl__law_drawn⟩) (c__law_drawn : PySem.W.codeIn K cd__law_drawn "_law_drawn" = true) (k__law_drawn : PySem.W.keepIn K (.ref f__law_drawn) = true)
    (a__law_worth : PySem.W.nsIn K mainGlobals "_law_worth" = some (some (.ref f__law_worth))) (l__law_worth : K.lookup f__law_worth = some ⟨oc__law_worth, od__law_worth, .func (PySem.W.fnOf "_law_worth" "_law_worth" (defArgs s__law_worth) (defBody s__law_worth) (defScope s__law_worth) .none kV__law_worth dc__law_worth pm__law_worth an__law_worth cd__law_worth ct__law_worth), sl__law_worth⟩) (c__law_worth : PySem.W.codeIn K cd__law_worth "_law_worth" = true) (k__law_worth : PySem.W.keepIn K (.ref f__law_worth) = true)
    (a__law_parts : PySem.W.nsIn K mainGlobals "_law_parts" = some (some (.ref f__law_parts))) (l__law_parts : K.lookup f__law_parts = some ⟨oc__law_parts, od__law_parts, .func (PySem.W.fnOf "_law_parts" "_law_parts" (defArgs s__law_parts) (defBody s__law_parts) (defScope s__law_parts) .none kV__law_parts dc__law_parts pm__law_parts an__law_parts cd__law_parts ct__law_parts), sl__law_parts⟩) (c__law_parts : PySem.W.codeIn K cd__law_parts "_law_parts" = true) (k__law_parts : PySem.W.keepIn K (.ref f__law_parts) = true)
    (a__law_rows : PySem.W.nsIn K mainGlobals "_law_rows" = some (some (.ref f__law_rows))) (l__law_rows : K.lookup f__law_rows = some ⟨oc__law_rows, od__law_rows, .func (PySem.W.fnOf "_law_rows" "_law_rows" (defArgs s__law_rows) (defBody s__law_rows) (defScope s__law_rows) .none kV__law_rows dc__law_rows pm__law_rows an__law_rows cd__law_rows ct__law_rows), sl__law_rows⟩) (c__law_rows : PySem.W.codeIn K cd__law_rows "_law_rows" = true) (k__law_rows : PySem.W.keepIn K (.ref f__law_rows) = true)
    (a__law_price : PySem.W.nsIn K mainGlobals "_law_price" = some (some (.ref f__law_price))) (l__law_price : K.lookup f__law_price = some ⟨oc__law_price, od__law_price, .func (PySem.W.fnOf "_law_price" "_law_price" (defArgs s__law_price) (defBody s__law_price) (defScope s__law_price) .none kV__law_price dc__law_price pm__law_price an__law_price cd__law_price ct__law_price), sl__law_price⟩) (c__law_price : PySem.W.codeIn K cd__law_price "_law_price" = true) (k__law_price : PySem.W.keepIn K (.ref f__law_price) = true)
    (a__law_menus : PySem.W.nsIn K mainGlobals "_law_menus" = some (some (.ref f__law_menus))) (l__law_menus : K.lookup f__law_menus = some ⟨oc__law_menus, od__law_menus, .func (PySem.W.fnOf "_law_menus" "_law_menus" (defArgs s__law_menus) (defBody s__law_menus) (defScope s__law_menus) .none kV__law_menus dc__law_menus pm__law_menus an__law_menus cd__law_menus ct__law_menus), sl__law_menus⟩) (c__law_menus : PySem.W.codeIn K cd__law_menus "_law_menus" = true) (k__law_menus : PySem.W.keepIn K (.ref f__law_menus) = true)
    (a__law_told : PySem.W.nsIn K mainGlobals "_law_told" = some (some (.ref f__law_told))) (l__law_told : K.lookup f__law_told = some ⟨oc__law_told, od__law_told, .func (PySem.W.fnOf "_law_told" "_law_told" (defArgs s__law_told) (defBody s__law_told) (defScope s__law_told) .none kV__law_told dc__law_told pm__law_told an__law_told cd__law_told ct__law_told), sl__law_told⟩) (c__law_told : PySem.W.codeIn K cd__law_told "_law_told" = true) (k__law_told : PySem.W.keepIn K (.ref f__law_told) = true)
    (a__law_spoiled : PySem.W.nsIn K mainGlobals "_law_spoiled" = some (some (.ref f__law_spoiled))) (l__law_spoiled : K.lookup f__law_spoiled = some ⟨oc__law_spoiled, od__law_spoiled, .func (PySem.W.fnOf "_law_spoiled" "_law_spoiled" (defArgs s__law_spoiled) (defBody s__law_spoiled) (defScope s__law_spoiled) .none kV__law_spoiled dc__law_spoiled pm__law_spoiled an__law_spoiled cd__law_spoiled ct__law_spoiled), sl__law_spoiled⟩) (c__law_spoiled : PySem.W.codeIn K cd__law_spoiled "_law_spoiled" = true) (k__law_spoiled : PySem.W.keepIn K (.ref f__law_spoiled) = true)
    (a_law : PySem.W.nsIn K mainGlobals "law" = some (some (.ref f_law))) (l_law : K.lookup f_law = some ⟨oc_law, od_law, .func (PySem.W.fnOf "law" "law" (defArgs s_law) (defBody s_law) (defScope s_law) .none kV_law dc_law pm_law an_law cd_law ct_law), sl_law⟩) (c_law : PySem.W.codeIn K cd_law "law" = true) (k_law : PySem.W.keepIn K (.ref f_law) = true)
    (n_ValueError : PySem.W.nsIn K mainGlobals "ValueError" = some none)
    (n_bool : PySem.W.nsIn K mainGlobals "bool" = some none)
    (n_dict : PySem.W.nsIn K mainGlobals "dict" = some none)
    (n_enumerate : PySem.W.nsIn K mainGlobals "enumerate" = some none)
    (n_int : PySem.W.nsIn K mainGlobals "int" = some none)
    (n_isinstance : PySem.W.nsIn K mainGlobals "isinstance" = some none)
    (n_len : PySem.W.nsIn K mainGlobals "len" = some none)
    (n_list : PySem.W.nsIn K mainGlobals "list" = some none)
    (n_max : PySem.W.nsIn K mainGlobals "max" = some none)
    (n_min : PySem.W.nsIn K mainGlobals "min" = some none)
    (n_range : PySem.W.nsIn K mainGlobals "range" = some none)
    (n_set : PySem.W.nsIn K mainGlobals "set" = some none)
    (n_str : PySem.W.nsIn K mainGlobals "str" = some none)
    (n_tuple : PySem.W.nsIn K mainGlobals "tuple" = some none)
    {u_LETTERS : Value} (w_LETTERS : PySem.W.nsIn K mainGlobals "LETTERS" = some (some u_LETTERS)) (r_LETTERS : CstV (.str "abcdefghijklmnopqrstuvwxyz") u_LETTERS)
    {C_NoMenu : Addr} (a_NoMenu : PySem.W.nsIn K mainGlobals "NoMenu" = some (some (.ref C_NoMenu)))
    (b_NoMenu : PySem.W.subIn K (.ref C_NoMenu) (.type "BaseException") = some true) (t_NoMenu : PySem.W.typeIn K (.ref C_NoMenu) = some (.type "type"))
    {C_TrueError : Addr} (a_TrueError : PySem.W.nsIn K mainGlobals "TrueError" = some (some (.ref C_TrueError)))
    (b_TrueError : PySem.W.subIn K (.ref C_TrueError) (.type "BaseException") = some true) (t_TrueError : PySem.W.typeIn K (.ref C_TrueError) = some (.type "type"))
    {C_NoHouse : Addr} (a_NoHouse : PySem.W.nsIn K mainGlobals "NoHouse" = some (some (.ref C_NoHouse)))
    {C_NoPays : Addr} (a_NoPays : PySem.W.nsIn K mainGlobals "NoPays" = some (some (.ref C_NoPays)))
    {C_NoRow : Addr} (a_NoRow : PySem.W.nsIn K mainGlobals "NoRow" = some (some (.ref C_NoRow)))
    {C_NoRule : Addr} (a_NoRule : PySem.W.nsIn K mainGlobals "NoRule" = some (some (.ref C_NoRule)))
    {C_NoShare : Addr} (a_NoShare : PySem.W.nsIn K mainGlobals "NoShare" = some (some (.ref C_NoShare)))
    {C_NoStand : Addr} (a_NoStand : PySem.W.nsIn K mainGlobals "NoStand" = some (some (.ref C_NoStand)))
    {C_NoWeight : Addr} (a_NoWeight : PySem.W.nsIn K mainGlobals "NoWeight" = some (some (.ref C_NoWeight)))
    {C_NoWord : Addr} (a_NoWord : PySem.W.nsIn K mainGlobals "NoWord" = some (some (.ref C_NoWord)))
    (kg_NoMenu : PySem.W.findIn K (.ref C_NoMenu) "__getattribute__" = some (some (.builtin "BaseException.__getattribute__"))) (kk_NoMenu : PySem.W.findIn K (.ref C_NoMenu) "__getattr__" = some none) (kd_NoMenu : PySem.W.hasDictIn K C_NoMenu = true)
    (ka_NoMenu : PySem.W.findIn K (.ref C_NoMenu) "__class__" = some (some (.builtin "object.__class__")))
    (km_NoMenu : PySem.W.mroIn K C_NoMenu (.type "object") = some true)
    (kn_ : PySem.W.specialIn K (.builtin "object.__class__") "__get__" = some (some (.builtin "getset_descriptor.__get__"))) (kt_ : PySem.W.takesIn K (.builtin "object.__class__") = some true)
    (vd_NoHouse : PySem.W.hasDictIn K C_NoHouse = true) (vt_NoHouse : PySem.W.typeIn K (.ref C_NoHouse) = some (.type "type"))
    (vd_NoPays : PySem.W.hasDictIn K C_NoPays = true) (vt_NoPays : PySem.W.typeIn K (.ref C_NoPays) = some (.type "type"))
    (vd_NoRow : PySem.W.hasDictIn K C_NoRow = true) (vt_NoRow : PySem.W.typeIn K (.ref C_NoRow) = some (.type "type"))
    (vd_NoRule : PySem.W.hasDictIn K C_NoRule = true) (vt_NoRule : PySem.W.typeIn K (.ref C_NoRule) = some (.type "type"))
    (vd_NoShare : PySem.W.hasDictIn K C_NoShare = true) (vt_NoShare : PySem.W.typeIn K (.ref C_NoShare) = some (.type "type"))
    (vd_NoStand : PySem.W.hasDictIn K C_NoStand = true) (vt_NoStand : PySem.W.typeIn K (.ref C_NoStand) = some (.type "type"))
    (vd_NoWeight : PySem.W.hasDictIn K C_NoWeight = true) (vt_NoWeight : PySem.W.typeIn K (.ref C_NoWeight) = some (.type "type"))
    (vd_NoWord : PySem.W.hasDictIn K C_NoWord = true) (vt_NoWord : PySem.W.typeIn K (.ref C_NoWord) = some (.type "type"))
    (v_NoMenu_NoHouse : PySem.W.subIn K (.ref C_NoMenu) (.ref C_NoHouse) = some false)
    (vn_NoMenu_NoHouse : (C_NoMenu == C_NoHouse) = false)
    (v_NoMenu_NoPays : PySem.W.subIn K (.ref C_NoMenu) (.ref C_NoPays) = some false)
    (vn_NoMenu_NoPays : (C_NoMenu == C_NoPays) = false)
    (v_NoMenu_NoRow : PySem.W.subIn K (.ref C_NoMenu) (.ref C_NoRow) = some false)
    (vn_NoMenu_NoRow : (C_NoMenu == C_NoRow) = false)
    (v_NoMenu_NoRule : PySem.W.subIn K (.ref C_NoMenu) (.ref C_NoRule) = some false)
    (vn_NoMenu_NoRule : (C_NoMenu == C_NoRule) = false)
    (v_NoMenu_NoShare : PySem.W.subIn K (.ref C_NoMenu) (.ref C_NoShare) = some false)
    (vn_NoMenu_NoShare : (C_NoMenu == C_NoShare) = false)
    (v_NoMenu_NoStand : PySem.W.subIn K (.ref C_NoMenu) (.ref C_NoStand) = some false)
    (vn_NoMenu_NoStand : (C_NoMenu == C_NoStand) = false)
    (v_NoMenu_NoWeight : PySem.W.subIn K (.ref C_NoMenu) (.ref C_NoWeight) = some false)
    (vn_NoMenu_NoWeight : (C_NoMenu == C_NoWeight) = false)
    (v_NoMenu_NoWord : PySem.W.subIn K (.ref C_NoMenu) (.ref C_NoWord) = some false)
    (vn_NoMenu_NoWord : (C_NoMenu == C_NoWord) = false)
    (v_NoMenu_ValueError : PySem.W.subIn K (.ref C_NoMenu) (.type "ValueError") = some true)
    (e_NoMenu : PySem.W.excIn K C_NoMenu [.type "ValueError", .type "Exception", .type "BaseException", .type "object"] "ValueError.__new__" = true) (k_NoMenu : PySem.W.keepIn K (.ref C_NoMenu) = true)
    (h_TrueError : PySem.W.hasDictIn K C_TrueError = true)
    (s_TrueError_NoMenu : PySem.W.subIn K (.ref C_NoMenu) (.ref C_TrueError) = some true)
    (hm : ∀ ns : List Int, ns.length ≤ 63 → (∀ z ∈ ns, Builtin.Int.intBits z ≤ 1048576) → m_law_k47 [.scr ns] = .ok (.bl true)) :
    ∃ fd : FuncData, (∀ (s : Shared) (v : Value), BindsTo s fd ⟨[v], []⟩ [("script", v)]) ∧ ∀ base : Heap, K.In base → base.Ns mainGlobals mg → FnOk l.prog w K mg base (L2.CX l.prog w) 6 fa fd ["script"] (spLaw K) := by
  have e := hfa.symm.trans (PySem.W.mg_of X G a_law)
  cases e
  have z_ValueError := PySem.W.mg_none_of X G n_ValueError
  have z_bool := PySem.W.mg_none_of X G n_bool
  have z_dict := PySem.W.mg_none_of X G n_dict
  have z_enumerate := PySem.W.mg_none_of X G n_enumerate
  have z_int := PySem.W.mg_none_of X G n_int
  have z_isinstance := PySem.W.mg_none_of X G n_isinstance
  have z_len := PySem.W.mg_none_of X G n_len
  have z_list := PySem.W.mg_none_of X G n_list
  have z_max := PySem.W.mg_none_of X G n_max
  have z_min := PySem.W.mg_none_of X G n_min
  have z_range := PySem.W.mg_none_of X G n_range
  have z_set := PySem.W.mg_none_of X G n_set
  have z_str := PySem.W.mg_none_of X G n_str
  have z_tuple := PySem.W.mg_none_of X G n_tuple
  have q_LETTERS : CstG mg "LETTERS" (.str "abcdefghijklmnopqrstuvwxyz") := ⟨_, PySem.W.mg_of X G w_LETTERS, r_LETTERS⟩
  have x_NoMenu : ExcG K mg "NoMenu" := ⟨C_NoMenu, e_NoMenu, PySem.W.mg_of X G a_NoMenu, k_NoMenu, b_NoMenu, t_NoMenu⟩
  have y_TrueError : CatG K mg "TrueError" [("NoMenu", true)] := catG_one (PySem.W.mg_of X G a_TrueError) (PySem.W.mg_of X G a_NoMenu) (PySem.W.exm_ref b_TrueError h_TrueError t_TrueError s_TrueError_NoMenu)
  have kx_NoMenu : ExcK K mg "NoMenu" := ⟨C_NoMenu, PySem.W.mg_of X G a_NoMenu, kg_NoMenu, kk_NoMenu, b_NoMenu, kd_NoMenu, ka_NoMenu, kn_, kt_, km_NoMenu⟩
  have i_NoMenu_NoHouse : TstG K mg "NoMenu" "NoHouse" false := tstG_own (PySem.W.mg_of X G a_NoMenu) (PySem.W.mg_of X G a_NoHouse) (kit_ref vd_NoHouse vt_NoHouse v_NoMenu_NoHouse vn_NoMenu_NoHouse)
  have i_NoMenu_NoMenu : TstG K mg "NoMenu" "NoMenu" true := tstG_own (PySem.W.mg_of X G a_NoMenu) (PySem.W.mg_of X G a_NoMenu) kit_self
  have i_NoMenu_NoPays : TstG K mg "NoMenu" "NoPays" false := tstG_own (PySem.W.mg_of X G a_NoMenu) (PySem.W.mg_of X G a_NoPays) (kit_ref vd_NoPays vt_NoPays v_NoMenu_NoPays vn_NoMenu_NoPays)
  have i_NoMenu_NoRow : TstG K mg "NoMenu" "NoRow" false := tstG_own (PySem.W.mg_of X G a_NoMenu) (PySem.W.mg_of X G a_NoRow) (kit_ref vd_NoRow vt_NoRow v_NoMenu_NoRow vn_NoMenu_NoRow)
  have i_NoMenu_NoRule : TstG K mg "NoMenu" "NoRule" false := tstG_own (PySem.W.mg_of X G a_NoMenu) (PySem.W.mg_of X G a_NoRule) (kit_ref vd_NoRule vt_NoRule v_NoMenu_NoRule vn_NoMenu_NoRule)
  have i_NoMenu_NoShare : TstG K mg "NoMenu" "NoShare" false := tstG_own (PySem.W.mg_of X G a_NoMenu) (PySem.W.mg_of X G a_NoShare) (kit_ref vd_NoShare vt_NoShare v_NoMenu_NoShare vn_NoMenu_NoShare)
  have i_NoMenu_NoStand : TstG K mg "NoMenu" "NoStand" false := tstG_own (PySem.W.mg_of X G a_NoMenu) (PySem.W.mg_of X G a_NoStand) (kit_ref vd_NoStand vt_NoStand v_NoMenu_NoStand vn_NoMenu_NoStand)
  have i_NoMenu_NoWeight : TstG K mg "NoMenu" "NoWeight" false := tstG_own (PySem.W.mg_of X G a_NoMenu) (PySem.W.mg_of X G a_NoWeight) (kit_ref vd_NoWeight vt_NoWeight v_NoMenu_NoWeight vn_NoMenu_NoWeight)
  have i_NoMenu_NoWord : TstG K mg "NoMenu" "NoWord" false := tstG_own (PySem.W.mg_of X G a_NoMenu) (PySem.W.mg_of X G a_NoWord) (kit_ref vd_NoWord vt_NoWord v_NoMenu_NoWord vn_NoMenu_NoWord)
  have i_NoMenu_ValueError : TstG K mg "NoMenu" "ValueError" true := tstG_blt (PySem.W.mg_of X G a_NoMenu) z_ValueError boot_ValueError (by decide) (kit_typ (by decide +kernel) v_NoMenu_ValueError)
  have F_is_name := fun_mk (st := s_is_name) l_is_name c_is_name k_is_name
  have F_are_names := fun_mk (st := s_are_names) l_are_names c_are_names k_are_names
  have F_is_worth := fun_mk (st := s_is_worth) l_is_worth c_is_worth k_is_worth
  have F_are_worths := fun_mk (st := s_are_worths) l_are_worths c_are_worths k_are_worths
  have F_is_hand := fun_mk (st := s_is_hand) l_is_hand c_is_hand k_is_hand
  have F_house_of := fun_mk (st := s_house_of) l_house_of c_house_of k_house_of
  have F_crossed := fun_mk (st := s_crossed) l_crossed c_crossed k_crossed
  have F_others_of := fun_mk (st := s_others_of) l_others_of c_others_of k_others_of
  have F_row_with := fun_mk (st := s_row_with) l_row_with c_row_with k_row_with
  have F_is_menu := fun_mk (st := s_is_menu) l_is_menu c_is_menu k_is_menu
  have F_are_menus := fun_mk (st := s_are_menus) l_are_menus c_are_menus k_are_menus
  have F_pick := fun_mk (st := s_pick) l_pick c_pick k_pick
  have F_menus_table := fun_mk (st := s_menus_table) l_menus_table c_menus_table k_menus_table
  have F__law_cell_at := fun_mk (st := s__law_cell_at) l__law_cell_at c__law_cell_at k__law_cell_at
  have F__law_pool := fun_mk (st := s__law_pool) l__law_pool c__law_pool k__law_pool
  have F__law_drawn := fun_mk (st := s__law_drawn) l__law_drawn c__law_drawn k__law_drawn
  have F__law_worth := fun_mk (st := s__law_worth) l__law_worth c__law_worth k__law_worth
  have F__law_parts := fun_mk (st := s__law_parts) l__law_parts c__law_parts k__law_parts
  have F__law_rows := fun_mk (st := s__law_rows) l__law_rows c__law_rows k__law_rows
  have F__law_price := fun_mk (st := s__law_price) l__law_price c__law_price k__law_price
  have F__law_menus := fun_mk (st := s__law_menus) l__law_menus c__law_menus k__law_menus
  have F__law_told := fun_mk (st := s__law_told) l__law_told c__law_told k__law_told
  have F__law_spoiled := fun_mk (st := s__law_spoiled) l__law_spoiled c__law_spoiled k__law_spoiled
  have F_law := fun_mk (st := s_law) l_law c_law k_law
  have bd_is_name := F_is_name.binds (ps := ["thing"]) fun _ _ _ _ _ _ us hl => match us, hl with | [_], _ => rfl
  have bd_are_names := F_are_names.binds (ps := ["thing", "top"]) fun _ _ _ _ _ _ us hl => match us, hl with | [_, _], _ => rfl
  have bd_is_worth := F_is_worth.binds (ps := ["thing"]) fun _ _ _ _ _ _ us hl => match us, hl with | [_], _ => rfl
  have bd_are_worths := F_are_worths.binds (ps := ["thing", "words", "outcomes"]) fun _ _ _ _ _ _ us hl => match us, hl with | [_, _, _], _ => rfl
  have bd_is_hand := F_is_hand.binds (ps := ["thing", "outcomes"]) fun _ _ _ _ _ _ us hl => match us, hl with | [_, _], _ => rfl
  have bd_house_of := F_house_of.binds (ps := ["outcomes", "hands"]) fun _ _ _ _ _ _ us hl => match us, hl with | [_, _], _ => rfl
  have bd_crossed := F_crossed.binds (ps := ["lists"]) fun _ _ _ _ _ _ us hl => match us, hl with | [_], _ => rfl
  have bd_others_of := F_others_of.binds (ps := ["house", "k"]) fun _ _ _ _ _ _ us hl => match us, hl with | [_, _], _ => rfl
  have bd_row_with := F_row_with.binds (ps := ["others", "k", "word"]) fun _ _ _ _ _ _ us hl => match us, hl with | [_, _, _], _ => rfl
  have bd_is_menu := F_is_menu.binds (ps := ["house", "thing"]) fun _ _ _ _ _ _ us hl => match us, hl with | [_, _], _ => rfl
  have bd_are_menus := F_are_menus.binds (ps := ["house", "k", "thing"]) fun _ _ _ _ _ _ us hl => match us, hl with | [_, _, _], _ => rfl
  have bd_pick := F_pick.binds (ps := ["house", "k", "menu", "word"]) fun _ _ _ _ _ _ us hl => match us, hl with | [_, _, _, _], _ => rfl
  have bd_menus_table := F_menus_table.binds (ps := ["house", "k", "menus"]) fun _ _ _ _ _ _ us hl => match us, hl with | [_, _, _], _ => rfl
  have bd__law_cell_at := F__law_cell_at.binds (ps := ["script", "k"]) fun _ _ _ _ _ _ us hl => match us, hl with | [_, _], _ => rfl
  have bd__law_pool := F__law_pool.binds (ps := ["cell", "many"]) fun _ _ _ _ _ _ us hl => match us, hl with | [_, _], _ => rfl
  have bd__law_drawn := F__law_drawn.binds (ps := ["script", "k"]) fun _ _ _ _ _ _ us hl => match us, hl with | [_, _], _ => rfl
  have bd__law_worth := F__law_worth.binds (ps := ["cell"]) fun _ _ _ _ _ _ us hl => match us, hl with | [_], _ => rfl
  have bd__law_parts := F__law_parts.binds (ps := ["script", "tops"]) fun _ _ _ _ _ _ us hl => match us, hl with | [_, _], _ => rfl
  have bd__law_rows := F__law_rows.binds (ps := ["hands"]) fun _ _ _ _ _ _ us hl => match us, hl with | [_], _ => rfl
  have bd__law_price := F__law_price.binds (ps := ["cell", "worth"]) fun _ _ _ _ _ _ us hl => match us, hl with | [_, _], _ => rfl
  have bd__law_menus := F__law_menus.binds (ps := ["script", "outcomes", "hands", "k"]) fun _ _ _ _ _ _ us hl => match us, hl with | [_, _, _, _], _ => rfl
  have bd__law_told := F__law_told.binds (ps := ["house", "k", "menus"]) fun _ _ _ _ _ _ us hl => match us, hl with | [_, _, _], _ => rfl
  have bd__law_spoiled := F__law_spoiled.binds (ps := ["menus", "others", "cell"]) fun _ _ _ _ _ _ us hl => match us, hl with | [_, _, _], _ => rfl
  refine ⟨PySem.W.fnOf "law" "law" (defArgs s_law) (defBody s_law) (defScope s_law) .none kV_law dc_law pm_law an_law cd_law ct_law, fun s v => .of_eq rfl, fun base _ _ => ?_⟩
  have g__law_cell_at : FnG l.prog w K mg base "_law_cell_at" 1 0 2 m__law_cell_at := ⟨_, _, _, ok__law_cell_at F__law_cell_at z_len, PySem.W.mg_of X G a__law_cell_at, k__law_cell_at, bd__law_cell_at⟩
  have g__law_drawn : FnG l.prog w K mg base "_law_drawn" 2 0 2 m__law_drawn := ⟨_, _, _, ok__law_drawn F__law_drawn z_len z_max z_min g__law_cell_at, PySem.W.mg_of X G a__law_drawn, k__law_drawn, bd__law_drawn⟩
  have g__law_price : FnG l.prog w K mg base "_law_price" 1 0 2 m__law_price := ⟨_, _, _, ok__law_price F__law_price z_int, PySem.W.mg_of X G a__law_price, k__law_price, bd__law_price⟩
  have g__law_rows : FnG l.prog w K mg base "_law_rows" 1 0 1 m__law_rows_v2 := ⟨_, _, _, ok__law_rows F__law_rows, PySem.W.mg_of X G a__law_rows, k__law_rows, bd__law_rows⟩
  have g__law_menus : FnG l.prog w K mg base "_law_menus" 3 2 4 m__law_menus_v2 := ⟨_, _, _, ok__law_menus F__law_menus z_len z_range g__law_cell_at g__law_drawn g__law_price g__law_rows, PySem.W.mg_of X G a__law_menus, k__law_menus, bd__law_menus⟩
  have g__law_pool : FnG l.prog w K mg base "_law_pool" 1 0 2 m__law_pool := ⟨_, _, _, ok__law_pool F__law_pool z_range, PySem.W.mg_of X G a__law_pool, k__law_pool, bd__law_pool⟩
  have g__law_worth : FnG l.prog w K mg base "_law_worth" 1 0 1 m__law_worth := ⟨_, _, _, ok__law_worth F__law_worth, PySem.W.mg_of X G a__law_worth, k__law_worth, bd__law_worth⟩
  have g__law_parts : FnG l.prog w K mg base "_law_parts" 3 0 2 m__law_parts := ⟨_, _, _, ok__law_parts F__law_parts z_len z_range g__law_cell_at g__law_drawn g__law_pool g__law_worth, PySem.W.mg_of X G a__law_parts, k__law_parts, bd__law_parts⟩
  have g__law_spoiled : FnO l.prog w K mg base "_law_spoiled" 1 [2, 0, 0, 0, 0] 0 3 m__law_spoiled_v2 := ⟨_, _, _, ok__law_spoiled F__law_spoiled z_list, PySem.W.mg_of X G a__law_spoiled, k__law_spoiled, bd__law_spoiled⟩
  have g_is_menu : FnG l.prog w K mg base "is_menu" 1 0 2 m_is_menu_v2 := ⟨_, _, _, ok_is_menu F_is_menu z_bool z_dict z_int z_isinstance z_len, PySem.W.mg_of X G a_is_menu, k_is_menu, bd_is_menu⟩
  have g_crossed : FnG l.prog w K mg base "crossed" 1 0 1 m_crossed := ⟨_, _, _, ok_crossed F_crossed, PySem.W.mg_of X G a_crossed, k_crossed, bd_crossed⟩
  have g_others_of : FnG l.prog w K mg base "others_of" 2 0 2 m_others_of := ⟨_, _, _, ok_others_of F_others_of z_len z_range g_crossed, PySem.W.mg_of X G a_others_of, k_others_of, bd_others_of⟩
  have g_are_menus : FnG l.prog w K mg base "are_menus" 3 0 3 m_are_menus_v2 := ⟨_, _, _, ok_are_menus F_are_menus z_dict z_isinstance z_len g_is_menu g_others_of, PySem.W.mg_of X G a_are_menus, k_are_menus, bd_are_menus⟩
  have g_pick : FnG l.prog w K mg base "pick" 1 0 4 m_pick := ⟨_, _, _, ok_pick F_pick z_enumerate, PySem.W.mg_of X G a_pick, k_pick, bd_pick⟩
  have g_row_with : FnG l.prog w K mg base "row_with" 1 0 3 m_row_with := ⟨_, _, _, ok_row_with F_row_with, PySem.W.mg_of X G a_row_with, k_row_with, bd_row_with⟩
  have g_menus_table : FnG l.prog w K mg base "menus_table" 4 0 3 m_menus_table_v2 := ⟨_, _, _, ok_menus_table F_menus_table x_NoMenu g_are_menus g_others_of g_pick g_row_with, PySem.W.mg_of X G a_menus_table, k_menus_table, bd_menus_table⟩
  have g__law_told : FnG l.prog w K mg base "_law_told" 5 0 3 m__law_told_v5 := ⟨_, _, _, ok__law_told F__law_told z_ValueError z_isinstance y_TrueError kx_NoMenu i_NoMenu_NoHouse i_NoMenu_NoMenu i_NoMenu_NoPays i_NoMenu_NoRow i_NoMenu_NoRule i_NoMenu_NoShare i_NoMenu_NoStand i_NoMenu_NoWeight i_NoMenu_NoWord i_NoMenu_ValueError g_menus_table, PySem.W.mg_of X G a__law_told, k__law_told, bd__law_told⟩
  have g_is_name : FnG l.prog w K mg base "is_name" 1 0 1 m_is_name := ⟨_, _, _, ok_is_name F_is_name z_isinstance z_len z_str q_LETTERS, PySem.W.mg_of X G a_is_name, k_is_name, bd_is_name⟩
  have g_are_names : FnG l.prog w K mg base "are_names" 2 0 2 m_are_names := ⟨_, _, _, ok_are_names F_are_names z_isinstance z_len z_list z_set g_is_name, PySem.W.mg_of X G a_are_names, k_are_names, bd_are_names⟩
  have g_is_worth : FnG l.prog w K mg base "is_worth" 1 0 1 m_is_worth := ⟨_, _, _, ok_is_worth F_is_worth z_bool z_int z_isinstance, PySem.W.mg_of X G a_is_worth, k_is_worth, bd_is_worth⟩
  have g_are_worths : FnG l.prog w K mg base "are_worths" 2 0 3 m_are_worths := ⟨_, _, _, ok_are_worths F_are_worths z_isinstance z_len z_list g_is_worth, PySem.W.mg_of X G a_are_worths, k_are_worths, bd_are_worths⟩
  have g_is_hand : FnG l.prog w K mg base "is_hand" 3 0 2 m_is_hand := ⟨_, _, _, ok_is_hand F_is_hand z_isinstance z_len z_tuple g_are_names g_are_worths g_is_name, PySem.W.mg_of X G a_is_hand, k_is_hand, bd_is_hand⟩
  have g_house_of : FnG l.prog w K mg base "house_of" 4 0 2 m_house_of := ⟨_, _, _, ok_house_of F_house_of z_isinstance z_len z_list z_set z_tuple g_are_names g_is_hand, PySem.W.mg_of X G a_house_of, k_house_of, bd_house_of⟩
  exact (ok_law F_law z_dict z_isinstance z_len z_list g__law_cell_at g__law_menus g__law_parts g__law_rows g__law_spoiled g__law_told g_house_of).imp (law_sp hm)
end Lk47
-- TWM
namespace TW
open PySem PySem.Spec PyProof.Rows L2

section
variable {ρ : Rho} {i j : Nat} {a b c : Rho → Res D} {g g' : D → D → Option D} {m mb : Rho → Out}
@[simp] theorem mVar_eq : mVar i ρ = (match ρ[i]? with | some (some d) => .ok d | _ => .stuck) := id rfl
@[simp] theorem mC_eq {d : D} : mC d ρ = .ok d := id rfl
@[simp] theorem m1_eq {g : D → Option D} : m1 g a ρ = (a ρ).bind fun x => ofO (g x) := id rfl
@[simp] theorem m2_eq : m2 g a b ρ = (a ρ).bind fun x => (b ρ).bind fun y => ofO (g x y) := id rfl
@[simp] theorem mA0_eq : mA0 ρ = .ok [] := id rfl
@[simp] theorem mA1_eq {r : Rho → Res (List D)} : mA1 a r ρ = (a ρ).bind fun x => (r ρ).bind fun xs => .ok (x :: xs) := id rfl
@[simp] theorem mArgs_eq {g : List D → Res D} {r : Rho → Res (List D)} : mArgs g r ρ = (r ρ).bind g := id rfl
@[simp] theorem mL_eq {g : List D → Option D} {r : Rho → Res (List D)} : mL g r ρ = (r ρ).bind fun x => ofO (g x) := id rfl
@[simp] theorem mT_eq : mT a ρ = (a ρ).bind ofB := id rfl
@[simp] theorem ofB_eq {t : Bool} : ofB (.bl t) = .ok t := id rfl
@[simp] theorem mFlat_eq : mFlat a ρ = (a ρ).bind fun d => if d.flat then .ok d else .stuck := id rfl
@[simp] theorem flat_int {z : Int} : D.flat (.int z) = true := id rfl
@[simp] theorem flat_bl {z : Bool} : D.flat (.bl z) = true := id rfl
@[simp] theorem flat_str {z : Str} : D.flat (.str z) = true := id rfl
@[simp] theorem flat_non : D.flat .non = true := id rfl
@[simp] theorem mSl_eq {lo hi : Rho → Res (Option Int)} : mSl a lo hi ρ = (a ρ).bind fun d => (lo ρ).bind fun l => (hi ρ).bind fun h => ofO (gSl d l h) := id rfl
@[simp] theorem oNo_eq : oNo ρ = .ok none := id rfl
@[simp] theorem oYes_eq : oYes a ρ = (a ρ).bind ofI := id rfl
@[simp] theorem ofI_eq {z : Int} : ofI (.int z) = .ok (some z) := id rfl
@[simp] theorem mAnd_eq : mAnd a b ρ = (a ρ).bind fun d => match d with | .bl true => b ρ | .bl false => .ok (.bl false) | _ => .stuck := id rfl
@[simp] theorem mOr_eq : mOr a b ρ = (a ρ).bind fun d => match d with | .bl true => .ok (.bl true) | .bl false => b ρ | _ => .stuck := id rfl
@[simp] theorem tAndM_eq {a b : Rho → Res Bool} : tAndM a b ρ = (a ρ).bind fun d => if d = true then b ρ else .ok false := id rfl
@[simp] theorem tOrM_eq {a b : Rho → Res Bool} : tOrM a b ρ = (a ρ).bind fun d => if d = true then .ok true else b ρ := id rfl
@[simp] theorem tNotM_eq {a : Rho → Res Bool} : tNotM a ρ = (a ρ).bind fun d => .ok (!d) := id rfl
@[simp] theorem tYesM_eq : tYesM ρ = .ok true := id rfl
@[simp] theorem mChain_eq : mChain g g' a b c ρ = (a ρ).bind fun x => (b ρ).bind fun y => (ofO (g x y)).bind fun z => match z with
  | .bl true => (c ρ).bind fun w => ofO (g' y w)
  | .bl false => .ok (.bl false)
  | _ => .stuck := id rfl
@[simp] theorem iAny_eq : iAny a ρ = (a ρ).bind fun d => ofO (iLoc d) := id rfl
@[simp] theorem iLoc_lst {l : List D} : iLoc (.lst l) = some l := id rfl
@[simp] theorem iLoc_ftup {l : List D} : iLoc (.ftup l) = some l := id rfl
@[simp] theorem iLoc_tup {l : List D} : iLoc (.tup l) = some l := id rfl
@[simp] theorem iLoc_scr {l : List Int} : iLoc (.scr l) = some (l.map .int) := id rfl
@[simp] theorem pNil_eq : pNil ρ = .ok [] := id rfl
@[simp] theorem pSnoc_eq {p : Rho → Res (List D)} : pSnoc p a ρ = (p ρ).bind fun p => (noX (a ρ)).bind fun j => .ok (p ++ [j]) := id rfl
@[simp] theorem sSet_eq : sSet i a ρ = (a ρ).out ρ fun d => .nx (ρ.set i (some d)) := id rfl
@[simp] theorem sRet_eq : sRet a ρ = (a ρ).out ρ fun d => .rt d := id rfl
@[simp] theorem sDo_eq : sDo a ρ = (a ρ).out ρ fun _ => .nx ρ := id rfl
@[simp] theorem sIf_eq {t : Rho → Res Bool} : sIf t m mb ρ = (t ρ).out ρ fun k => if k = true then m ρ else mb ρ := id rfl
@[simp] theorem sSeq_eq : sSeq m mb ρ = (m ρ).bind mb := id rfl
@[simp] theorem sNil_eq : sNil ρ = .nx ρ := id rfl
@[simp] theorem Out.nx_bind {f : Rho → Out} : (Out.nx ρ).bind f = f ρ := id rfl
@[simp] theorem Out.bind_rt {f : Rho → Out} {d : D} : (Out.rt d).bind f = .rt d := id rfl
@[simp] theorem Out.bind_ex {f : Rho → Out} {e : Str} : (Out.ex e ρ).bind f = .ex e ρ := id rfl
@[simp] theorem Out.bind_stuck {f : Rho → Out} : (Out.stuck).bind f = .stuck := id rfl
@[simp] theorem Out.bind_ite {f : Rho → Out} {p : Prop} [Decidable p] {x y : Out} : (if p then x else y).bind f = if p then x.bind f else y.bind f := by split <;> rfl
@[simp] theorem sApp_eq {mp : Rho → Res (List D)} : sApp i mp a ρ = atS i (fun ρ => (mp ρ).out ρ fun p => (noX (a ρ)).out ρ fun v => mutO i ρ p (nApp v)) ρ := id rfl
@[simp] theorem sAppMv_eq {mp : Rho → Res (List D)} : sAppMv i mp j ρ = atS j (atS i fun ρ => (mp ρ).out ρ fun p => (mVar j ρ).out ρ fun v => mutO i (ρ.set j none) p (nApp v)) ρ := id rfl
@[simp] theorem sPut_eq {mp : Rho → Res (List D)} : sPut i mp a b ρ = atS i (fun ρ => (b ρ).out ρ fun v => (mp ρ).out ρ fun p => (noX (a ρ)).out ρ fun j => mutO i ρ p (nSet j v)) ρ := id rfl
@[simp] theorem sAug_eq {mp : Rho → Res (List D)} : sAug i g mp a b ρ = atS i (fun ρ => (mp ρ).out ρ fun p => (noX (a ρ)).out ρ fun j => (noX (b ρ)).out ρ fun v => mutO i ρ p fun c => (gIx c j).bind fun u => (g u v).bind fun z => nSet j z c) ρ := id rfl
@[simp] theorem sAugN_eq : sAugN i a ρ = atS i (fun ρ => (a ρ).out ρ fun v => (m2 gAddI (mVar i) (mC v) ρ).out ρ fun z => .nx (ρ.set i (some z))) ρ := id rfl
@[simp] theorem atS_eq {f : Rho → Out} : atS i f ρ = (match ρ[i]? with | some (some _) => f ρ | _ => .stuck) := id rfl
@[simp] theorem mutO_eq {p : List D} {f : D → Option D} : mutO i ρ p f = (match ρ[i]? with
  | some (some d) => (match updP d p f with
    | some d' => .nx (ρ.set i (some d'))
    | none => .stuck)
  | _ => .stuck) := id rfl
end
section
variable {i j : Int} {s t : Str} {l r : List D} {ns : List Int}
@[simp] theorem gAdd_int : gAdd (.int i) (.int j) = some (.int (i + j)) := id rfl
@[simp] theorem gAdd_lst (h : l.length + r.length ≤ sizeLine) : gAdd (.lst l) (.lst r) = some (.lst (l ++ r)) := by simp only [gAdd, if_pos h]
@[simp] theorem gAdd_tup (h : l.length + r.length ≤ sizeLine) : gAdd (.tup l) (.tup r) = some (.tup (l ++ r)) := by simp only [gAdd, if_pos h]
@[simp] theorem gSub_int : gSub (.int i) (.int j) = some (.int (i - j)) := id rfl
theorem log2_lt {n k : Nat} (h : n < 2 ^ k) (hk : 0 < k) : n.log2 < k := by
  by_cases e : n = 0
  · subst e; simpa using hk
  · exact (Nat.log2_lt e).mpr h
theorem gMul_int (hi : i.natAbs < 2 ^ 250) (hj : j.natAbs < 2 ^ 250) : gMul (.int i) (.int j) = some (.int (i * j)) := by
  have h1 := log2_lt hi (by decide)
  have h2 := log2_lt hj (by decide)
  show (if _ then _ else _) = _
  rw [if_pos (by omega)]
@[simp] theorem gMod_int (h : 0 < j) : gMod (.int i) (.int j) = some (.int (i % j)) := if_pos h
theorem gDiv_int (h : 0 < j) (h2 : j.natAbs.log2 < 9000) : gDiv (.int i) (.int j) = some (.int (i / j)) := if_pos ⟨h, h2⟩
@[simp] theorem gLt_int : gLt (.int i) (.int j) = some (.bl (decide (i < j))) := id rfl
@[simp] theorem gLe_int : gLe (.int i) (.int j) = some (.bl (decide (i ≤ j))) := id rfl
@[simp] theorem gGt_int : gGt (.int i) (.int j) = some (.bl (decide (j < i))) := id rfl
@[simp] theorem gGe_int : gGe (.int i) (.int j) = some (.bl (decide (j ≤ i))) := id rfl
@[simp] theorem gNot_bl {b : Bool} : gNot (.bl b) = some (.bl (!b)) := id rfl
@[simp] theorem gNeg_int : gNeg (.int i) = some (.int (-i)) := id rfl
@[simp] theorem gLst_eq (h : l.length ≤ sizeLine) : gLst l = some (.lst l) := if_pos h
@[simp] theorem gTup_eq (h : l.length ≤ sizeLine) : gTup l = some (.tup l) := if_pos h
@[simp] theorem gLen_lst : gLen [.lst l] = some (.int l.length) := id rfl
@[simp] theorem gLen_ftup : gLen [.ftup l] = some (.int l.length) := id rfl
@[simp] theorem gLen_tup : gLen [.tup l] = some (.int l.length) := id rfl
@[simp] theorem gLen_scr : gLen [.scr ns] = some (.int ns.length) := id rfl
@[simp] theorem gMax_2 : gMax [.int i, .int j] = some (.int (max i j)) := id rfl
@[simp] theorem gMin_2 : gMin [.int i, .int j] = some (.int (min i j)) := id rfl
@[simp] theorem gInt_int : gInt [.int i] = some (.int i) := id rfl
@[simp] theorem gInt_bl {b : Bool} : gInt [.bl b] = some (.int (if b then 1 else 0)) := id rfl
@[simp] theorem gAbs_int : gAbs [.int i] = some (.int (if i < 0 then -i else i)) := id rfl
@[simp] theorem gList_lst : gList [.lst l] = some (.lst l) := id rfl
@[simp] theorem gList_tup : gList [.tup l] = some (.lst l) := id rfl
@[simp] theorem gList_scr : gList [.scr ns] = some (.lst (ns.map .int)) := id rfl
@[simp] theorem gTuple_lst : gTuple [.lst l] = some (.tup l) := id rfl
@[simp] theorem gTuple_tup : gTuple [.tup l] = some (.tup l) := id rfl
@[simp] theorem gAddI_int : gAddI (.int i) (.int j) = some (.int (i + j)) := id rfl
@[simp] theorem nApp_lst {v : D} (h : l.length < sizeLine) : nApp v (.lst l) = some (.lst (l ++ [v])) := if_pos h
@[simp] theorem updP_nil {d : D} {f : D → Option D} : updP d [] f = f d := by
  unfold updP
  simp only [getP, setP, Option.bind_some]
  cases f d <;> simp
@[simp] theorem isi_int_int : gIsi "int" (.int i) = some (.bl true) := by show (kitB "int" "int").map D.bl = _; rw [show kitB "int" "int" = some true by decide +kernel]; rfl
@[simp] theorem isi_int_bool : gIsi "bool" (.int i) = some (.bl false) := by show (kitB "int" "bool").map D.bl = _; rw [show kitB "int" "bool" = some false by decide +kernel]; rfl
end

theorem b62 {n : Nat} (h : n < 1000000) : -(2 ^ 62 : Int) ≤ (n : Int) ∧ (n : Int) < 2 ^ 62 :=
  ⟨Int.le_trans (show -(2 ^ 62 : Int) ≤ 0 by decide) (Int.natCast_nonneg n), Int.lt_trans (show (n : Int) < 1000000 by omega) (show (1000000 : Int) < 2 ^ 62 by decide)⟩
theorem b24 {n : Nat} (h : n < 1000000) : n < sizeLine := Nat.lt_trans h (show 1000000 < 2 ^ 24 by decide)
theorem b24' {n : Nat} (h : n < 1000000) : n ≤ sizeLine := Nat.le_of_lt (b24 h)
def Pl : Nat → D → Prop
  | _, .non => True
  | _, .int _ => True
  | _, .str s => PySem.PyData.strOk s = true
  | 0, .lst _ => False
  | 0, .tup _ => False
  | n + 1, .lst l => ∀ x ∈ l, Pl n x
  | n + 1, .tup l => ∀ x ∈ l, Pl n x
  | _, .bl _ => False
  | _, .dK _ _ => False
  | _, .dT _ _ => False
  | _, .scr _ => False
  | _, .junk => False
  | _, .ins _ _ _ => False
  | _, .nul _ => False
  | _, .ftup _ => False
theorem pys_of {n : Nat} (ih : ∀ d, Pl n d → ∃ p, toPy d = some p ∧ p.canLay0 = true ∧ p.depth ≤ n) : ∀ l : List D, (∀ x ∈ l, Pl n x) → ∃ ps, toPys l = some ps ∧ PyData.canLayAll0 ps = true ∧ PyData.depthAll ps ≤ n
  | [], _ => ⟨[], rfl, rfl, Nat.zero_le _⟩
  | d :: ds, h => by
    obtain ⟨p, e, c, q⟩ := ih d (h d List.mem_cons_self)
    obtain ⟨ps, e', c', q'⟩ := pys_of ih ds fun x hx => h x (List.mem_cons_of_mem _ hx)
    exact ⟨p :: ps, by simp [toPys, e, e'], by simp [PyData.canLayAll0, c, c'], by simp [PyData.depthAll]; omega⟩
theorem py_of : ∀ (n : Nat) (d : D), Pl n d → ∃ p, toPy d = some p ∧ p.canLay0 = true ∧ p.depth ≤ n
  | n, .non, _ => ⟨.none, rfl, rfl, Nat.zero_le _⟩
  | n, .int i, _ => ⟨.int i, rfl, rfl, Nat.zero_le _⟩
  | n, .str s, h => ⟨.str s, rfl, by cases n <;> exact h, Nat.zero_le _⟩
  | 0, .lst _, h => h.elim
  | 0, .tup _, h => h.elim
  | n + 1, .lst l, h => by
    obtain ⟨ps, e, c, q⟩ := pys_of (py_of n) l h
    exact ⟨.list ps, by simp [toPy, e], c, by simp [PyData.depth]; omega⟩
  | n + 1, .tup l, h => by
    obtain ⟨ps, e, c, q⟩ := pys_of (py_of n) l h
    exact ⟨.tuple ps, by simp [toPy, e], c, by simp [PyData.depth]; omega⟩
  | n, .bl _, h => by cases n <;> exact h.elim
  | n, .dK _ _, h => by cases n <;> exact h.elim
  | n, .dT _ _, h => by cases n <;> exact h.elim
  | n, .scr _, h => by cases n <;> exact h.elim
  | n, .junk, h => by cases n <;> exact h.elim
  | n, .ins _ _ _, h => by cases n <;> exact h.elim
  | n, .nul _, h => by cases n <;> exact h.elim
  | n, .ftup _, h => by cases n <;> exact h.elim
theorem eqvs_iff {n : Nat} (ih : ∀ d e, Pl n d → Pl n e → ∀ p q, toPy d = some p → toPy e = some q → (PyData.eqv p q = true ↔ d = e)) : ∀ l r : List D, (∀ x ∈ l, Pl n x) → (∀ x ∈ r, Pl n x) → ∀ p q, toPys l = some p → toPys r = some q → (PyData.eqvAll p q = true ↔ l = r)
  | [], [], _, _, p, q, hp, hq => by cases hp; cases hq; simp [PyData.eqvAll]
  | [], d :: ds, _, h, p, q, hp, hq => by
    obtain ⟨y, e, c, _⟩ := py_of n d (h d List.mem_cons_self)
    obtain ⟨ys, e', c', _⟩ := pys_of (py_of n) ds fun x hx => h x (List.mem_cons_of_mem _ hx)
    cases hp
    simp [toPys, e, e'] at hq
    subst hq
    simp [PyData.eqvAll]
  | d :: ds, [], h, _, p, q, hp, hq => by
    obtain ⟨y, e, c, _⟩ := py_of n d (h d List.mem_cons_self)
    obtain ⟨ys, e', c', _⟩ := pys_of (py_of n) ds fun x hx => h x (List.mem_cons_of_mem _ hx)
    cases hq
    simp [toPys, e, e'] at hp
    subst hp
    simp [PyData.eqvAll]
  | d :: ds, e :: es, h, g, p, q, hp, hq => by
    obtain ⟨y, e1, _, _⟩ := py_of n d (h d List.mem_cons_self)
    obtain ⟨ys, e2, _, _⟩ := pys_of (py_of n) ds fun x hx => h x (List.mem_cons_of_mem _ hx)
    obtain ⟨z, e3, _, _⟩ := py_of n e (g e List.mem_cons_self)
    obtain ⟨zs, e4, _, _⟩ := pys_of (py_of n) es fun x hx => g x (List.mem_cons_of_mem _ hx)
    simp [toPys, e1, e2] at hp
    simp [toPys, e3, e4] at hq
    subst hp hq
    simp only [PyData.eqvAll, Bool.and_eq_true, List.cons.injEq]
    rw [ih d e (h d List.mem_cons_self) (g e List.mem_cons_self) y z e1 e3, eqvs_iff ih ds es (fun x hx => h x (List.mem_cons_of_mem _ hx)) (fun x hx => g x (List.mem_cons_of_mem _ hx)) ys zs e2 e4]
theorem pys_inv {l : List D} {p : PyData} (h : toPy (.lst l) = some p) : ∃ ps, toPys l = some ps ∧ p = .list ps := by
  simp only [toPy, Option.map_eq_some_iff] at h
  obtain ⟨ps, e, rfl⟩ := h
  exact ⟨ps, e, rfl⟩
theorem pyt_inv {l : List D} {p : PyData} (h : toPy (.tup l) = some p) : ∃ ps, toPys l = some ps ∧ p = .tuple ps := by
  simp only [toPy, Option.map_eq_some_iff] at h
  obtain ⟨ps, e, rfl⟩ := h
  exact ⟨ps, e, rfl⟩
theorem pl_no {n : Nat} {d : D} (h : Pl n d) : (∃ i, d = .int i) ∨ d = .non ∨ (∃ s, d = .str s) ∨ (∃ m l, n = m + 1 ∧ d = .lst l ∧ ∀ x ∈ l, Pl m x) ∨ ∃ m l, n = m + 1 ∧ d = .tup l ∧ ∀ x ∈ l, Pl m x := by
  cases d with
  | int i => exact .inl ⟨i, rfl⟩
  | non => exact .inr (.inl rfl)
  | str s => exact .inr (.inr (.inl ⟨s, rfl⟩))
  | lst l => cases n with
    | zero => exact h.elim
    | succ m => exact .inr (.inr (.inr (.inl ⟨m, l, rfl, rfl, h⟩)))
  | tup l => cases n with
    | zero => exact h.elim
    | succ m => exact .inr (.inr (.inr (.inr ⟨m, l, rfl, rfl, h⟩)))
  | bl _ => cases n <;> exact h.elim
  | dK _ _ => cases n <;> exact h.elim
  | dT _ _ => cases n <;> exact h.elim
  | scr _ => cases n <;> exact h.elim
  | junk => cases n <;> exact h.elim
  | ins _ _ _ => cases n <;> exact h.elim
  | nul _ => cases n <;> exact h.elim
  | ftup _ => cases n <;> exact h.elim
theorem eqv_iff : ∀ (n : Nat) (d e : D), Pl n d → Pl n e → ∀ p q, toPy d = some p → toPy e = some q → (PyData.eqv p q = true ↔ d = e) := by
  intro n
  induction n with
  | zero =>
    intro d e hd he p q hp hq
    rcases pl_no hd with ⟨i, rfl⟩ | rfl | ⟨s, rfl⟩ | ⟨m, l, h, _⟩ | ⟨m, l, h, _⟩
    all_goals first | (exact absurd h (by omega)) | skip
    all_goals rcases pl_no he with ⟨j, rfl⟩ | rfl | ⟨t, rfl⟩ | ⟨m, r, h, _⟩ | ⟨m, r, h, _⟩
    all_goals first | (exact absurd h (by omega)) | skip
    all_goals (cases hp; cases hq; simp [PyData.eqv])
  | succ n ih =>
    intro d e hd he p q hp hq
    rcases pl_no hd with ⟨i, rfl⟩ | rfl | ⟨s, rfl⟩ | ⟨m, l, h, rfl, hl⟩ | ⟨m, l, h, rfl, hl⟩
    all_goals rcases pl_no he with ⟨j, rfl⟩ | rfl | ⟨t, rfl⟩ | ⟨m', r, h', rfl, hr⟩ | ⟨m', r, h', rfl, hr⟩
    all_goals first | (cases h; cases h') | cases h | cases h' | skip
    all_goals first | (obtain ⟨ps, e1, rfl⟩ := pys_inv hp) | (obtain ⟨ps, e1, rfl⟩ := pyt_inv hp) | cases hp
    all_goals first | (obtain ⟨qs, e2, rfl⟩ := pys_inv hq) | (obtain ⟨qs, e2, rfl⟩ := pyt_inv hq) | cases hq
    all_goals first | (simp [PyData.eqv]; done) | (simp only [PyData.eqv, D.lst.injEq]; exact eqvs_iff ih l r hl hr ps qs e1 e2) | (simp only [PyData.eqv, D.tup.injEq]; exact eqvs_iff ih l r hl hr ps qs e1 e2)
theorem gEq_pl {n : Nat} {d e : D} (hd : Pl n d) (he : Pl n e) (hn : n ≤ 64 := by decide) : ∃ b, gEq d e = some (.bl b) ∧ gNe d e = some (.bl !b) ∧ (b = true ↔ d = e) := by
  obtain ⟨p, e1, c1, q1⟩ := py_of n d hd
  obtain ⟨q, e2, c2, q2⟩ := py_of n e he
  refine ⟨PyData.eqv p q, ?_, ?_, eqv_iff n d e hd he p q e1 e2⟩
  · simp [gEq, e1, e2, SeqAt.shaped, c1, c2, show p.depth ≤ 64 by omega, show q.depth ≤ 64 by omega]
  · simp [gNe, e1, e2, SeqAt.shaped, c1, c2, show p.depth ≤ 64 by omega, show q.depth ≤ 64 by omega]
@[simp] theorem gEq_int {i j : Int} : gEq (.int i) (.int j) = some (.bl (decide (i = j))) := by
  obtain ⟨b, g, _, q⟩ := gEq_pl (n := 0) (d := .int i) (e := .int j) trivial trivial
  rw [g]; congr 2
  exact Bool.eq_iff_iff.mpr (q.trans (by simp))
@[simp] theorem gNe_int {i j : Int} : gNe (.int i) (.int j) = some (.bl (!decide (i = j))) := by
  obtain ⟨b, _, g, q⟩ := gEq_pl (n := 0) (d := .int i) (e := .int j) trivial trivial
  rw [g]; congr 3
  exact Bool.eq_iff_iff.mpr (q.trans (by simp))
def Pr : Nat → D → Prop
  | _, .non => True
  | _, .int _ => True
  | _, .bl _ => True
  | _, .str s => PySem.PyData.strOk s = true
  | 0, .lst _ => False
  | 0, .tup _ => False
  | n + 1, .lst l => ∀ x ∈ l, Pr n x
  | n + 1, .tup l => ∀ x ∈ l, Pr n x
  | _, .dK _ _ => False
  | _, .dT _ _ => False
  | _, .scr _ => False
  | _, .junk => False
  | _, .ins _ _ _ => False
  | _, .nul _ => False
  | _, .ftup _ => False
theorem rys_of {n : Nat} (ih : ∀ d, Pr n d → ∃ p, toPy d = some p ∧ p.canLay0 = true ∧ p.depth ≤ n ∧ PyData.eqv p p = true) : ∀ l : List D, (∀ x ∈ l, Pr n x) → ∃ ps, toPys l = some ps ∧ PyData.canLayAll0 ps = true ∧ PyData.depthAll ps ≤ n ∧ PyData.eqvAll ps ps = true
  | [], _ => ⟨[], rfl, rfl, Nat.zero_le _, rfl⟩
  | d :: ds, h => by
    obtain ⟨p, e, c, q, r⟩ := ih d (h d List.mem_cons_self)
    obtain ⟨ps, e', c', q', r'⟩ := rys_of ih ds fun x hx => h x (List.mem_cons_of_mem _ hx)
    exact ⟨p :: ps, by simp [toPys, e, e'], by simp [PyData.canLayAll0, c, c'], by simp [PyData.depthAll]; omega, by simp [PyData.eqvAll, r, r']⟩
theorem ry_of : ∀ (n : Nat) (d : D), Pr n d → ∃ p, toPy d = some p ∧ p.canLay0 = true ∧ p.depth ≤ n ∧ PyData.eqv p p = true
  | n, .non, _ => ⟨.none, rfl, rfl, Nat.zero_le _, rfl⟩
  | n, .int i, _ => ⟨.int i, rfl, rfl, Nat.zero_le _, by simp [PyData.eqv]⟩
  | n, .bl i, _ => ⟨.bool i, rfl, rfl, Nat.zero_le _, by simp [PyData.eqv]⟩
  | n, .str s, h => ⟨.str s, rfl, by cases n <;> exact h, Nat.zero_le _, by simp [PyData.eqv]⟩
  | 0, .lst _, h => h.elim
  | 0, .tup _, h => h.elim
  | n + 1, .lst l, h => by
    obtain ⟨ps, e, c, q, r⟩ := rys_of (ry_of n) l h
    exact ⟨.list ps, by simp [toPy, e], c, by simp [PyData.depth]; omega, by simp [PyData.eqv, r]⟩
  | n + 1, .tup l, h => by
    obtain ⟨ps, e, c, q, r⟩ := rys_of (ry_of n) l h
    exact ⟨.tuple ps, by simp [toPy, e], c, by simp [PyData.depth]; omega, by simp [PyData.eqv, r]⟩
  | n, .dK _ _, h => by cases n <;> exact h.elim
  | n, .dT _ _, h => by cases n <;> exact h.elim
  | n, .scr _, h => by cases n <;> exact h.elim
  | n, .junk, h => by cases n <;> exact h.elim
  | n, .ins _ _ _, h => by cases n <;> exact h.elim
  | n, .nul _, h => by cases n <;> exact h.elim
  | n, .ftup _, h => by cases n <;> exact h.elim
theorem gNe_refl {n : Nat} {d : D} (hd : Pr n d) (hn : n ≤ 64 := by decide) : gNe d d = some (.bl false) := by
  obtain ⟨p, e, c, q, r⟩ := ry_of n d hd
  simp [gNe, e, SeqAt.shaped, c, show p.depth ≤ 64 by omega, r]
theorem isi_list_list {l : List D} : gIsi "list" (.lst l) = some (.bl true) := by show (kitB "list" "list").map D.bl = _; rw [show kitB "list" "list" = some true by decide +kernel]; rfl
theorem callM_eq {N : Nat} {b : Rho → Out} {ds : List D} : callM N b ds = (match b (ds.map some ++ List.replicate (N - ds.length) none) with
  | .rt d => .ok d
  | .nx _ => .ok .non
  | .ex c _ => .exn c
  | .stuck => .stuck) := id rfl
theorem call_rt {N : Nat} {b : Rho → Out} {ds : List D} {d : D} (h : b (ds.map some ++ List.replicate (N - ds.length) none) = .rt d) : callM N b ds = .ok d := by rw [callM_eq, h]
theorem iR1_ok {ρ : Rho} {mi : Rho → Res D} {n : Nat} (hm : mi ρ = .ok (.int n)) (hn : n < 1000000) : iR1 mi ρ = .ok ((List.range n).map fun k : Nat => .int k) := by
  unfold iR1
  rw [hm, Res.bind_ok]
  show (if _ then _ else _) = _
  rw [if_pos (b62 hn), Int.toNat_natCast]
section
variable {f : D → Rho → Option Rho} {b : Rho → Out} {j : Nat} {ρ : Rho} {mi : Rho → Res D}
theorem forL_ix (I : Nat → Rho → Prop) (Q : D → Prop) : ∀ (ds : List D) (k : Nat) (ρ : Rho), I k ρ →
    (∀ i d ρ, ds[i]? = some d → I (k + i) ρ → ∃ ρ1, f d ρ = some ρ1 ∧ ((∃ ρ2, b ρ1 = .nx ρ2 ∧ I (k + i + 1) ρ2) ∨ ∃ d, b ρ1 = .rt d ∧ Q d)) →
    (∃ ρ', forL f b ds ρ = .nx ρ' ∧ I (k + ds.length) ρ') ∨ ∃ d, forL f b ds ρ = .rt d ∧ Q d
  | [], k, ρ, h, _ => .inl ⟨ρ, rfl, h⟩
  | d :: ds, k, ρ, h, st => by
    obtain ⟨ρ1, e1, h1⟩ := st 0 d ρ rfl h
    rcases h1 with ⟨ρ2, e2, h2⟩ | ⟨r, e2, h2⟩
    · have := forL_ix I Q ds (k + 1) ρ2 h2 fun i d ρ e hI => by
        have := st (i + 1) d ρ e (by rw [show k + (i + 1) = k + 1 + i by omega]; exact hI)
        rw [show k + (i + 1) + 1 = k + 1 + i + 1 by omega] at this
        exact this
      simp only [forL, e1, e2, Out.nx_bind, List.length_cons]
      rw [show k + (ds.length + 1) = k + 1 + ds.length by omega]
      exact this
    · exact .inr ⟨r, by simp only [forL, e1, e2, Out.bind_rt], h2⟩
theorem for_rX (I : Nat → Rho → Prop) (Q : D → Prop) (n : Nat) (hm : mi ρ = .ok (.int n)) (hn : n < 1000000) (h0 : I 0 ρ)
    (st : ∀ i ρ, i < n → I i ρ → (∃ ρ2, b (ρ.set j (some (.int i))) = .nx ρ2 ∧ I (i + 1) ρ2) ∨ ∃ d, b (ρ.set j (some (.int i))) = .rt d ∧ Q d) :
    (∃ ρ', sFor (tgN j) (iR1 mi) b ρ = .nx ρ' ∧ I n ρ') ∨ ∃ d, sFor (tgN j) (iR1 mi) b ρ = .rt d ∧ Q d := by
  have e : sFor (tgN j) (iR1 mi) b ρ = forL (tgN j) b ((List.range n).map fun k : Nat => .int k) ρ := by
    unfold sFor
    rw [iR1_ok hm hn, Res.out_ok]
  rw [e]
  have := forL_ix (f := tgN j) (b := b) I Q ((List.range n).map fun k : Nat => .int k) 0 ρ h0 fun i d ρ e hI => by
    rw [List.getElem?_map] at e
    by_cases hi : i < n
    · rw [List.getElem?_range hi] at e
      cases e
      refine ⟨_, rfl, ?_⟩
      have := st i ρ hi (by simpa using hI)
      simpa using this
    · rw [List.getElem?_eq_none (by simpa using hi)] at e
      cases e
  simpa using this
theorem for_r (I : Nat → Rho → Prop) (n : Nat) (hm : mi ρ = .ok (.int n)) (hn : n < 1000000) (h0 : I 0 ρ)
    (st : ∀ i ρ, i < n → I i ρ → ∃ ρ2, b (ρ.set j (some (.int i))) = .nx ρ2 ∧ I (i + 1) ρ2) :
    ∃ ρ', sFor (tgN j) (iR1 mi) b ρ = .nx ρ' ∧ I n ρ' := by
  rcases for_rX I (fun _ => False) n hm hn h0 fun i ρ hi h => .inl (st i ρ hi h) with h | ⟨_, _, h⟩
  · exact h
  · exact h.elim
theorem for_lX {m : Rho → Res (List D)} (I : Nat → Rho → Prop) (Q : D → Prop) (ds : List D) (hm : m ρ = .ok ds) (h0 : I 0 ρ)
    (st : ∀ i d ρ, ds[i]? = some d → I i ρ → ∃ ρ1, f d ρ = some ρ1 ∧ ((∃ ρ2, b ρ1 = .nx ρ2 ∧ I (i + 1) ρ2) ∨ ∃ d, b ρ1 = .rt d ∧ Q d)) :
    (∃ ρ', sFor f m b ρ = .nx ρ' ∧ I ds.length ρ') ∨ ∃ d, sFor f m b ρ = .rt d ∧ Q d := by
  have e : sFor f m b ρ = forL f b ds ρ := by
    unfold sFor
    rw [hm]; rfl
  rw [e]
  have := forL_ix (f := f) (b := b) I Q ds 0 ρ h0 fun i d ρ e hI => by
    have := st i d ρ e (by simpa using hI)
    simpa using this
  simpa using this
theorem for_l {m : Rho → Res (List D)} (I : Nat → Rho → Prop) (ds : List D) (hm : m ρ = .ok ds) (h0 : I 0 ρ)
    (st : ∀ i d ρ, ds[i]? = some d → I i ρ → ∃ ρ1 ρ2, f d ρ = some ρ1 ∧ b ρ1 = .nx ρ2 ∧ I (i + 1) ρ2) :
    ∃ ρ', sFor f m b ρ = .nx ρ' ∧ I ds.length ρ' := by
  rcases for_lX I (fun _ => False) ds hm h0 fun i d ρ e h => (let ⟨ρ1, ρ2, e1, e2, h⟩ := st i d ρ e h; ⟨ρ1, e1, .inl ⟨ρ2, e2, h⟩⟩) with h | ⟨_, _, h⟩
  · exact h
  · exact h.elim
variable {vs : List Nat} {me : Rho → Res D} {tt : Rho → Res Bool}
theorem compL_map {F : D → Res (Option D)} {g : D → Option D} : ∀ (ds : List D), (∀ d ∈ ds, F d = .ok (g d)) → compL F ds = .ok (ds.filterMap g)
  | [], _ => rfl
  | d :: ds, h => by
    simp only [compL, h d List.mem_cons_self, noX_ok, Res.bind_ok, compL_map ds fun x hx => h x (List.mem_cons_of_mem _ hx), List.filterMap_cons]
    cases g d <;> rfl
theorem lc_gen {it : Rho → Res (List D)} (ds : List D) (g : D → Option D) (hm : it ρ = .ok ds) (hn : ds.length < sizeLine)
    (h : ∀ d ∈ ds, ∃ ρ', f d (wipeR ρ vs) = some ρ' ∧ ((tt ρ' = .ok false ∧ g d = none) ∨ ∃ v, tt ρ' = .ok true ∧ me ρ' = .ok v ∧ g d = some v)) : mLc vs f it tt me ρ = .ok (.lst (ds.filterMap g)) := by
  unfold mLc
  rw [hm, Res.bind_ok, if_pos hn, compL_map (g := g) ds, Res.bind_ok]
  intro d hd
  obtain ⟨ρ', e, q⟩ := h d hd
  rw [e]
  rcases q with ⟨q, r⟩ | ⟨v, q, q2, r⟩
  · simp [q, r]
  · simp [q, q2, r]
theorem lc_r (n : Nat) (g : Nat → D) (hm : mi ρ = .ok (.int n)) (hn : n < 1000000)
    (h : ∀ k, k < n → me ((wipeR ρ vs).set j (some (.int k))) = .ok (g k)) : mLc vs (tgN j) (iR1 mi) tYesM me ρ = .ok (.lst ((List.range n).map g)) := by
  have e := iR1_ok hm hn
  rw [lc_gen (tt := tYesM) _ (fun d => match d with | .int k => some (g k.toNat) | _ => none) e (by rw [List.length_map, List.length_range]; exact b24 hn)]
  · congr 2
    rw [List.filterMap_map]
    rw [← List.filterMap_eq_map']
    rfl
  · intro d hd
    obtain ⟨k, hk, rfl⟩ := List.mem_map.mp hd
    exact ⟨_, rfl, .inr ⟨g k, rfl, h k (List.mem_range.mp hk), by simp⟩⟩
end

theorem ixN_of {n k : Nat} (h : k < n) : ixN n (k : Int) = some k := by
  unfold ixN
  rw [if_pos (by omega), if_pos (by omega)]
  rfl
theorem atI_nat {α : Type} {l : List α} {k : Nat} (h : k < l.length) : atI l (k : Int) = l[k]? := by
  unfold atI
  rw [ixN_of h]; rfl
end TW
-- TWGrid
namespace TW
open PySem PySem.Spec PyProof.Rows L2
def cel (ns : List Int) (k : Nat) : Int := ns.getD k 0
def num (c top : Int) : Int :=
  if c % 4 = 0 then c / 4 % 19 - 9 else if c % 4 = 1 then c / 4 % 3 - 1 else if c % 4 = 2 then c / 4 % (2 * 10 ^ 18) - 10 ^ 18 else c / 4 % (2 * top + 1) - top
theorem gPow_10 {k : Nat} (h : k ≤ 1000000) : gPow (.int 10) (.int k) = some (.int (10 ^ k)) := by
  show (if _ then _ else _) = _
  rw [if_pos ⟨by omega, by omega, by decide⟩]
  rfl
def rowD (n : Nat) (f : Nat → Int) : D := .lst ((List.range n).map fun s => .int (f s))
def gridD (n : Nat) (G : Nat → Nat → Int) : D := .lst ((List.range n).map fun t => rowD n (G t))
theorem rowD_congr {n : Nat} {f g : Nat → Int} (h : ∀ s, s < n → f s = g s) : rowD n f = rowD n g := by
  unfold rowD
  congr 1
  exact List.map_congr_left fun s hs => by rw [h s (List.mem_range.mp hs)]
end TW

namespace TW
open PySem PySem.Spec PyProof.Rows L2
def T60 : Int := 10 ^ 60
theorem pow60 : gPow (.int 10) (.int 60) = some (.int T60) := gPow_10 (k := 60) (by decide)
def up (G : Nat → Nat → Int) (a b : Nat) (x : Int) (t s : Nat) : Int := if t = a ∧ s = b then G t s + x else G t s
end TW
-- TWAlong
namespace TW
open PySem PySem.Spec PyProof.Rows L2
theorem seq_set {i : Nat} {m : Rho → Res D} {b : Rho → Out} {ρ : Rho} {d : D} (h : m ρ = .ok d) : sSeq (sSet i m) b ρ = b (ρ.set i (some d)) := by
  rw [sSeq_eq, sSet_eq, h, Res.out_ok, Out.nx_bind]
theorem for_lN {m : Rho → Res (List D)} {b : Rho → Out} {j : Nat} {ρ : Rho} (I : Nat → Rho → Prop) (ds : List D) (hm : m ρ = .ok ds) (h0 : I 0 ρ)
    (st : ∀ i d ρ, ds[i]? = some d → I i ρ → ∃ ρ2, b (ρ.set j (some d)) = .nx ρ2 ∧ I (i + 1) ρ2) : ∃ ρ', sFor (tgN j) m b ρ = .nx ρ' ∧ I ds.length ρ' :=
  for_l (f := tgN j) I ds hm h0 fun i d ρ e hI => let ⟨ρ2, e2, h2⟩ := st i d ρ e hI; ⟨_, ρ2, rfl, e2, h2⟩
end TW
-- TWGain
namespace TW
open PySem PySem.Spec PyProof.Rows L2
def trip (M : Nat → Nat → Int) (t s : Nat) : D := .tup [.int t, .int s, .int (M t s)]
def IsFirst (M : Nat → Nat → Int) (n : Nat) (d : D) : Prop :=
  (d = .non ∧ ∀ t s, t < n → s < n → M t s ≤ 0) ∨ ∃ t s, t < n ∧ s < n ∧ d = trip M t s ∧ 0 < M t s ∧ (∀ t' s', t' < t → s' < n → M t' s' ≤ 0) ∧ ∀ s', s' < s → M t s' ≤ 0
theorem IsFirst.pl {M : Nat → Nat → Int} {n : Nat} {d : D} (h : IsFirst M n d) : Pl 1 d := by
  rcases h with ⟨rfl, _⟩ | ⟨t, s, _, _, rfl, _⟩
  · trivial
  · intro x hx
    simp at hx
    rcases hx with rfl | rfl | rfl <;> trivial
theorem tup3 (a b c : D) : gTup [a, b, c] = some (.tup [a, b, c]) := gTup_eq (show 3 ≤ sizeLine by decide)
theorem IsFirst.still {M : Nat → Nat → Int} {n : Nat} {d : D} (h : IsFirst M n d) : d.still = true := by
  rcases h with ⟨rfl, _⟩ | ⟨t, s, _, _, rfl, _⟩ <;> rfl
theorem isi_tup {l : List D} : gIsi "tuple" (.tup l) = some (.bl true) := by show (kitB "tuple" "tuple").map D.bl = _; rw [show kitB "tuple" "tuple" = some true by decide +kernel]; rfl
end TW
-- TWHon
namespace TW
open PySem PySem.Spec PyProof.Rows L2
def Hon (n : Nat) (G : Nat → Nat → Int) (P : Nat → Int) : Prop := ∀ t s, t < n → s < n → G t s - G t t ≤ P s - P t
end TW
-- TWWalk
namespace TW
def wt (T : Nat → Nat → Int) : List Nat → Int
  | a :: b :: l => T a b + wt T (b :: l)
  | _ => 0
def cw (T : Nat → Nat → Int) (l : List Nat) : Int := wt T l + T (l.getLastD 0) (l.headD 0)
section
variable {T : Nat → Nat → Int}
theorem wt_cons {a b : Nat} {l : List Nat} : wt T (a :: b :: l) = T a b + wt T (b :: l) := rfl
theorem wt_app : ∀ (p : List Nat) (x : Nat) (q : List Nat), wt T (p ++ x :: q) = wt T (p ++ [x]) + wt T (x :: q)
  | [], x, q => by simp [wt]
  | [a], x, q => by simp [wt]
  | a :: b :: p, x, q => by
    have := wt_app (b :: p) x q
    simp only [List.cons_append] at this ⊢
    rw [wt_cons, wt_cons, this]
    omega
theorem wt_snoc (p : List Nat) (x y : Nat) : wt T (p ++ [x, y]) = wt T (p ++ [x]) + T x y := by
  rw [wt_app p x [y]]
  simp [wt]
theorem wt_snoc' {l : List Nat} (h : l ≠ []) (y : Nat) : wt T (l ++ [y]) = wt T l + T (l.getLastD 0) y := by
  obtain ⟨p, x, rfl⟩ : ∃ p x, l = p ++ [x] := ⟨l.dropLast, l.getLast h, (List.dropLast_concat_getLast h).symm⟩
  rw [List.append_assoc]
  rw [show [x] ++ [y] = [x, y] from rfl, wt_snoc]
  simp
theorem cw_eq {l : List Nat} (h : l ≠ []) : cw T l = wt T (l ++ [l.headD 0]) := (wt_snoc' h _).symm
theorem cw_split (p : List Nat) (x : Nat) (q r : List Nat) : cw T (p ++ x :: (q ++ x :: r)) = cw T (x :: q) + cw T (p ++ x :: r) := by
  have n1 : p ++ x :: (q ++ x :: r) ≠ [] := by simp
  have n2 : x :: q ≠ [] := by simp
  have n3 : p ++ x :: r ≠ [] := by simp
  rw [cw_eq n1, cw_eq n2, cw_eq n3]
  have h1 : (p ++ x :: (q ++ x :: r)).headD 0 = (p ++ x :: r).headD 0 := by cases p <;> rfl
  rw [h1]
  generalize (p ++ x :: r).headD 0 = y
  have e1 : p ++ x :: (q ++ x :: r) ++ [y] = p ++ x :: (q ++ x :: (r ++ [y])) := by simp
  have e2 : p ++ x :: r ++ [y] = p ++ x :: (r ++ [y]) := by simp
  rw [e1, e2, wt_app p x (q ++ x :: (r ++ [y])), wt_app p x (r ++ [y])]
  have e3 : x :: (q ++ x :: (r ++ [y])) = (x :: q) ++ x :: (r ++ [y]) := by simp
  rw [e3, wt_app (x :: q) x (r ++ [y])]
  simp
  omega
theorem dup_split : ∀ {l : List Nat}, ¬ l.Nodup → ∃ p x q r, l = p ++ x :: (q ++ x :: r)
  | [], h => absurd List.nodup_nil h
  | a :: l, h => by
    by_cases ha : a ∈ l
    · obtain ⟨q, r, rfl⟩ := List.append_of_mem ha
      exact ⟨[], a, q, r, rfl⟩
    · have : ¬ l.Nodup := fun hl => h (List.nodup_cons.mpr ⟨ha, hl⟩)
      obtain ⟨p, x, q, r, rfl⟩ := dup_split this
      exact ⟨a :: p, x, q, r, rfl⟩
def NoNeg (T : Nat → Nat → Int) (n m : Nat) : Prop := ∀ l : List Nat, l ≠ [] → (∀ x ∈ l, x < n) → l.length ≤ m → 0 ≤ cw T l
theorem nodup_le : ∀ {n : Nat} {l : List Nat}, l.Nodup → (∀ x ∈ l, x < n) → l.length ≤ n
  | 0, l, _, hl => by
    cases l with
    | nil => exact Nat.le_refl _
    | cons a l => exact absurd (hl a (by simp)) (Nat.not_lt_zero _)
  | n + 1, l, h, hl => by
    by_cases hn : n ∈ l
    · have := nodup_le (n := n) (h.erase n) fun x hx => by
        have h1 := hl x (List.mem_of_mem_erase hx)
        have h2 : x ≠ n := fun e => by
          subst e
          exact (List.Nodup.not_mem_erase h) hx
        omega
      rw [List.length_erase_of_mem hn] at this
      omega
    · have := nodup_le (n := n) h fun x hx => by
        have h1 := hl x hx
        have h2 : x ≠ n := fun e => hn (e ▸ hx)
        omega
      omega
theorem NoNeg.nodup {n m : Nat} (h : NoNeg T n m) {l : List Nat} (hl : ∀ x ∈ l, x < n) (hm : l.length ≤ m + 1) (hc : cw T l < 0) : l.Nodup := by
  refine Classical.byContradiction fun hd => ?_
  obtain ⟨p, x, q, r, rfl⟩ := dup_split hd
  rw [cw_split] at hc
  simp at hm hl
  have h1 := h (x :: q) (by simp) (fun y hy => by
    rcases List.mem_cons.mp hy with rfl | hy
    · exact hl y (by simp)
    · exact hl y (by simp [hy])) (by simp; omega)
  have h2 := h (p ++ x :: r) (by simp) (fun y hy => by
    rcases List.mem_append.mp hy with hy | hy
    · exact hl y (by simp [hy])
    · rcases List.mem_cons.mp hy with rfl | hy
      · exact hl y (by simp)
      · exact hl y (by simp [hy])) (by simp; omega)
  omega
theorem NoNeg.all {n : Nat} (h : NoNeg T n n) : ∀ m, NoNeg T n m
  | 0 => fun l hl _ hm => by
    cases l with
    | nil => exact absurd rfl hl
    | cons a l => simp at hm
  | m + 1 => fun l hl hx hm => by
    have ih := NoNeg.all h m
    refine Classical.byContradiction fun hc => ?_
    have nd := ih.nodup hx hm (by omega)
    have := h l hl hx (nodup_le nd hx)
    omega
theorem wt_pot {P : Nat → Int} {n : Nat} (h : ∀ s t, s < n → t < n → P t - P s ≤ T s t) : ∀ (l : List Nat), l ≠ [] → (∀ x ∈ l, x < n) → P (l.getLastD 0) - P (l.headD 0) ≤ wt T l
  | [a], _, _ => by simp [wt]
  | a :: b :: l, _, hl => by
    have := wt_pot h (b :: l) (by simp) fun x hx => hl x (List.mem_cons_of_mem _ hx)
    have h1 := h a b (hl a (by simp)) (hl b (by simp))
    rw [wt_cons]
    simp only [List.headD_cons] at this ⊢
    have : (a :: b :: l).getLastD 0 = (b :: l).getLastD 0 := rfl
    rw [this]
    omega
structure Good (T : Nat → Nat → Int) (n k : Nat) (S : Nat → Nat → Int) (W : Nat → Nat → List Nat) : Prop where
  ne : ∀ a b, a < n → b < n → W a b ≠ []
  hd : ∀ a b, a < n → b < n → (W a b).headD 0 = a
  la : ∀ a b, a < n → b < n → (W a b).getLastD 0 = b
  lt : ∀ a b, a < n → b < n → ∀ x ∈ W a b, x < n
  ln : ∀ a b, a < n → b < n → (W a b).length ≤ k
  eq : ∀ a b, a < n → b < n → wt T (W a b) = S a b
  le : ∀ l : List Nat, l ≠ [] → (∀ x ∈ l, x < n) → l.length ≤ k → S (l.headD 0) (l.getLastD 0) ≤ wt T l
theorem Good.start {n : Nat} (h0 : ∀ a, T a a = 0) : Good T n 2 T (fun a b => if a = b then [a] else [a, b]) where
  ne := fun a b _ _ => by split <;> simp
  hd := fun a b _ _ => by split <;> simp
  la := fun a b _ _ => by
    split
    · simp; assumption
    · simp
  lt := fun a b ha hb x hx => by
    split at hx
    · simp at hx; omega
    · simp at hx; omega
  ln := fun a b _ _ => by split <;> simp
  eq := fun a b _ _ => by
    split
    · rename_i h; subst h; rw [h0]; rfl
    · simp [wt]
  le := fun l hl hx hk => by
    match l, hl, hk with
    | [a], _, _ => simp [wt, h0]
    | [a, b], _, _ => simp [wt]
theorem Good.step {n k : Nat} {S : Nat → Nat → Int} {W : Nat → Nat → List Nat} (g : Good T n k S W) (hk : 1 ≤ k) (h0 : ∀ a, T a a = 0) (L : Nat → Nat → Nat) (hL : ∀ a b, a < n → b < n → L a b < n)
    (hm : ∀ a b c, a < n → b < n → c < n → S a (L a b) + T (L a b) b ≤ S a c + T c b) :
    Good T n (k + 1) (fun a b => S a (L a b) + T (L a b) b) (fun a b => W a (L a b) ++ (if L a b = b then [] else [b])) where
  ne := fun a b ha hb => by
    have := g.ne a (L a b) ha (hL a b ha hb)
    simp [this]
  hd := fun a b ha hb => by
    have h1 := g.ne a (L a b) ha (hL a b ha hb)
    have h2 := g.hd a (L a b) ha (hL a b ha hb)
    cases e : W a (L a b) with
    | nil => exact absurd e h1
    | cons x l => rw [e] at h2; simpa [e] using h2
  la := fun a b ha hb => by
    split
    · rename_i h
      rw [List.append_nil, g.la a _ ha (hL a b ha hb), h]
    · rw [List.getLastD_eq_getLast?, List.getLast?_append]; simp
  lt := fun a b ha hb x hx => by
    rcases List.mem_append.mp hx with hx | hx
    · exact g.lt a _ ha (hL a b ha hb) x hx
    · split at hx
      · simp at hx
      · simp at hx; omega
  ln := fun a b ha hb => by
    have := g.ln a _ ha (hL a b ha hb)
    rw [List.length_append]
    split
    · simp; omega
    · simp; omega
  eq := fun a b ha hb => by
    have h1 := g.eq a _ ha (hL a b ha hb)
    split
    · rename_i h
      rw [List.append_nil, h1, h, h0]; omega
    · rw [wt_snoc' (g.ne a _ ha (hL a b ha hb)), h1, g.la a _ ha (hL a b ha hb)]
  le := fun l hl hx hlen => by
    obtain ⟨p, y, rfl⟩ : ∃ p y, l = p ++ [y] := ⟨l.dropLast, l.getLast hl, (List.dropLast_concat_getLast hl).symm⟩
    have hy : y < n := hx y (by simp)
    have hlast : (p ++ [y]).getLastD 0 = y := by rw [List.getLastD_eq_getLast?, List.getLast?_append]; simp
    rw [hlast]
    by_cases hp : p = []
    · subst hp
      have h1 := hm y y y hy hy hy
      have h2 := g.le [y] (by simp) (by simpa using hy) (by simpa using hk)
      simp [wt] at h2 ⊢
      rw [h0] at h1
      omega
    · have hpx : ∀ x ∈ p, x < n := fun x hx' => hx x (by simp [hx'])
      have hz : p.getLastD 0 < n := by
        obtain ⟨q, z, rfl⟩ : ∃ q z, p = q ++ [z] := ⟨p.dropLast, p.getLast hp, (List.dropLast_concat_getLast hp).symm⟩
        rw [List.getLastD_eq_getLast?, List.getLast?_append]
        simpa using hpx z (by simp)
      have hh : (p ++ [y]).headD 0 = p.headD 0 := by
        cases p with
        | nil => exact absurd rfl hp
        | cons a p => rfl
      have hhn : p.headD 0 < n := by
        cases p with
        | nil => exact absurd rfl hp
        | cons a p => exact hpx a (by simp)
      rw [hh, wt_snoc' hp]
      have h1 := g.le p hp hpx (by simp at hlen; omega)
      have h2 := hm (p.headD 0) y (p.getLastD 0) hhn hy hz
      omega
theorem Good.cw {n k : Nat} {S : Nat → Nat → Int} {W : Nat → Nat → List Nat} (g : Good T n k S W) {a c : Nat} (ha : a < n) (hc : c < n) : TW.cw T (W a c) = S a c + T c a := by
  unfold TW.cw
  rw [g.eq a c ha hc, g.la a c ha hc, g.hd a c ha hc]
structure IsRing (T : Nat → Nat → Int) (n : Nat) (l : List Nat) : Prop where
  lt : ∀ x ∈ l, x < n
  nd : l.Nodup
  two : 2 ≤ l.length
  neg : cw T l < 0
  few : NoNeg T n (l.length - 1)
theorem NoNeg.one {n : Nat} (h0 : ∀ a, T a a = 0) : NoNeg T n 1 := by
  intro l hl _ hk
  match l, hl, hk with
  | [a], _, _ => simp [cw, wt, h0]
theorem NoNeg.mono {n m k : Nat} (h : NoNeg T n m) (hk : k ≤ m) : NoNeg T n k := fun l a b c => h l a b (by omega)
theorem Good.ring {n k : Nat} {S : Nat → Nat → Int} {W : Nat → Nat → List Nat} (g : Good T n k S W) (hk : 2 ≤ k) (hn : NoNeg T n (k - 1)) {a c : Nat} (ha : a < n) (hc : c < n) (h : S a c + T c a < 0) : IsRing T n (W a c) := by
  have h1 : TW.cw T (W a c) < 0 := by rw [g.cw ha hc]; exact h
  have h2 := g.ln a c ha hc
  have h3 : k ≤ (W a c).length := by
    refine Classical.byContradiction fun q => ?_
    have := hn _ (g.ne a c ha hc) (g.lt a c ha hc) (by omega)
    omega
  exact ⟨g.lt a c ha hc, hn.nodup (g.lt a c ha hc) (by omega) h1, by omega, h1, hn.mono (by omega)⟩
end
end TW
-- TWRing
namespace TW
open PySem PySem.Spec PyProof.Rows L2
def Tn (G : Nat → Nat → Int) (a b : Nat) : Int := G b b - G b a
def lD (l : List Nat) : D := .lst (l.map fun x : Nat => .int x)
def wrow (n : Nat) (f : Nat → List Nat) : D := .lst ((List.range n).map fun b => lD (f b))
theorem one_l {x : D} : gLst [x] = some (.lst [x]) := gLst_eq (show 1 ≤ sizeLine by decide)
theorem nil_l : gLst [] = some (.lst []) := gLst_eq (Nat.zero_le _)
theorem tup2 (a b : D) : gTup [a, b] = some (.tup [a, b]) := gTup_eq (show 2 ≤ sizeLine by decide)
end TW
-- TWBf
namespace TW
section
variable {T : Nat → Nat → Int} {n : Nat}
theorem last_app {p : List Nat} {y d : Nat} : (p ++ [y]).getLastD d = y := by rw [List.getLastD_eq_getLast?, List.getLast?_append]; simp
theorem head_app {p : List Nat} {y d : Nat} (h : p ≠ []) : (p ++ [y]).headD d = p.headD d := by
  cases p with
  | nil => exact absurd rfl h
  | cons a p => rfl
theorem snoc_of {l : List Nat} (h : l ≠ []) : ∃ p y, l = p ++ [y] := ⟨l.dropLast, l.getLast h, (List.dropLast_concat_getLast h).symm⟩
structure Fit (T : Nat → Nat → Int) (n : Nat) (P0 P : Nat → Int) (R : Nat → List Nat) : Prop where
  ne : ∀ t, t < n → R t ≠ []
  la : ∀ t, t < n → (R t).getLastD 0 = t
  lt : ∀ t, t < n → ∀ x ∈ R t, x < n
  eq : ∀ t, t < n → P t = P0 ((R t).headD 0) + wt T (R t)
  pre : ∀ t, t < n → ∀ p u q, R t = p ++ u :: q → P u ≤ P0 ((R t).headD 0) + wt T (p ++ [u])
  nd : ∀ t, t < n → (R t).Nodup
  le : ∀ t, t < n → P t ≤ P0 t
theorem Fit.start {P0 : Nat → Int} : Fit T n P0 P0 (fun t => [t]) where
  ne := fun t _ => by simp
  la := fun t _ => by simp
  lt := fun t ht x hx => by simp at hx; omega
  eq := fun t _ => by simp [wt]
  pre := fun t _ p u q e => by
    cases p with
    | nil => simp at e; simp [wt, e.1]
    | cons a p => simp at e
  nd := fun t _ => by simp
  le := fun t _ => Int.le_refl _
def Bnd (T : Nat → Nat → Int) (n : Nat) (P0 P : Nat → Int) (i : Nat) : Prop := ∀ l : List Nat, l ≠ [] → (∀ x ∈ l, x < n) → l.length ≤ i + 1 → P (l.getLastD 0) ≤ P0 (l.headD 0) + wt T l
theorem Bnd.zero {P0 : Nat → Int} : Bnd T n P0 P0 0 := fun l hl _ hk => by
  match l, hl, hk with
  | [a], _, _ => simp [wt]
theorem Bnd.step {P0 P P' : Nat → Int} {i : Nat} (b : Bnd T n P0 P i) (hle : ∀ t, t < n → P' t ≤ P t) (hs : ∀ s t, s < n → t < n → P' t ≤ P s + T s t) : Bnd T n P0 P' (i + 1) := fun l hl hx hk => by
  obtain ⟨p, y, rfl⟩ := snoc_of hl
  have hy : y < n := hx y (by simp)
  rw [last_app]
  by_cases hp : p = []
  · subst hp
    have := b [y] (by simp) (by simpa using hy) (by simp)
    have h2 := hle y hy
    simp [wt] at this ⊢
    omega
  · have hpx : ∀ x ∈ p, x < n := fun x hx' => hx x (by simp [hx'])
    have hz : p.getLastD 0 < n := by
      obtain ⟨q, z, rfl⟩ := snoc_of hp
      rw [last_app]
      exact hpx z (by simp)
    rw [head_app hp, wt_snoc' hp]
    have h1 := b p hp hpx (by simp at hk; omega)
    have h2 := hs _ _ hz hy
    omega
end
end TW
-- TWSettled
namespace TW
open PySem PySem.Spec PyProof.Rows L2
structure Pass (T : Nat → Nat → Int) (n : Nat) (P0 Q P : Nat → Int) (R : Nat → List Nat) (f : Bool) : Prop where
  fit : Fit T n P0 P R
  le : ∀ u, u < n → P u ≤ Q u
  up : f = true → ∃ u, u < n ∧ P u < Q u
  same : f = false → ∀ u, u < n → P u = Q u
end TW
-- TWRev
namespace TW
end TW
-- TWLeast
namespace TW
open PySem PySem.Spec PyProof.Rows L2
end TW
-- TWRoom
namespace TW
open PySem PySem.Spec PyProof.Rows L2
theorem tup_2i0 (a b : D) : gIx (.tup [a, b]) (.int 0) = some a := id rfl
theorem head_lt {n : Nat} {l : List Nat} (h : l ≠ []) (hx : ∀ x ∈ l, x < n) : l.headD 0 < n := by
  cases l with
  | nil => exact absurd rfl h
  | cons a l => exact hx a (by simp)
theorem Fit.max {T : Nat → Nat → Int} {n : Nat} {P0 P Q : Nat → Int} {R : Nat → List Nat} (f : Fit T n P0 P R) (hQ : ∀ s t, s < n → t < n → Q t - Q s ≤ T s t) (h0 : ∀ t, t < n → Q t ≤ P0 t) {t : Nat} (ht : t < n) : Q t ≤ P t := by
  have h1 := wt_pot hQ (R t) (f.ne t ht) (f.lt t ht)
  have h2 := h0 _ (head_lt (f.ne t ht) (f.lt t ht))
  rw [f.la t ht] at h1
  rw [f.eq t ht]
  omega
end TW
-- TWGreat
namespace TW
open PySem PySem.Spec PyProof.Rows L2
section
variable {n : Nat} {G : Nat → Nat → Int} {P Q : Nat → Int} {R : Nat → List Nat}
theorem hon_T : Hon n G P ↔ ∀ s t, s < n → t < n → P t ≤ P s + Tn G s t :=
  ⟨fun h s t hs ht => by have := h t s ht hs; unfold Tn; omega, fun h t s ht hs => by have := h s t hs ht; unfold Tn at this; omega⟩
end
end TW
-- TWNames
namespace TW
open PySem PySem.Spec PyProof.Rows L2
def txt (l : List Nat) : Str := ⟨l.toArray⟩
theorem abc_eq : ("abcdefghijklmnopqrstuvwxyz" : Str) = txt ((List.range 26).map fun k => 97 + k) := by decide +kernel
structure IsName (s : Str) : Prop where
  lo : 1 ≤ s.length
  hi : s.length ≤ 8
  abc : ∀ c ∈ s.cps.toList, 97 ≤ c ∧ c < 123
theorem IsName.ok {s : Str} (h : IsName s) : PyData.strOk s = true := by
  unfold PyData.strOk
  rw [Array.all_eq_true']
  intro c hc
  have := h.abc c (Array.mem_toList_iff.mpr hc)
  simp; omega
theorem gLen_str {s : Str} (h : s.length ≤ 1000) : gLen [.str s] = some (.int s.length) := if_pos (Nat.le_trans h (by decide))
theorem nat250 {z : Int} (h : z.natAbs < 1000) : z.natAbs < 2 ^ 250 := Nat.lt_trans h (by decide)
theorem isi_str {s : Str} : gIsi "str" (.str s) = some (.bl true) := by show (kitB "str" "str").map D.bl = _; rw [show kitB "str" "str" = some true by decide +kernel]; rfl
theorem iLoc_str {s : Str} : iLoc (.str s) = some (s.cps.toList.map fun c => .str ⟨#[c]⟩) := id rfl
theorem nin_abc {c : Nat} (h : 97 ≤ c ∧ c < 123) : gNin (.str ⟨#[c]⟩) (.str "abcdefghijklmnopqrstuvwxyz") = some (.bl false) := by
  have : decide (c ∈ ("abcdefghijklmnopqrstuvwxyz" : Str).cps.toList) = true := by
    rw [abc_eq]
    refine decide_eq_true ?_
    show c ∈ ((List.range 26).map fun k => 97 + k).toArray.toList
    simp
    exact ⟨c - 97, by omega, by omega⟩
  show (some (D.bl (decide (c ∈ ("abcdefghijklmnopqrstuvwxyz" : Str).cps.toList)))).bind _ = _
  rw [this]; rfl
theorem is_name_ok {s : Str} (h : IsName s) : m_is_name [.str s] = .ok (.bl true) := by
  rw [m_is_name]
  refine call_rt ?_
  rw [b_is_name]
  have h1 := h.lo
  have h2 := h.hi
  simp only [List.map_cons, List.map_nil, List.length_cons, List.length_nil, List.cons_append, List.nil_append, List.replicate, Nat.zero_add, Nat.reduceAdd, Nat.reduceSub, List.set_cons_zero, List.set_cons_succ]
  rw [sSeq_eq, show sIf (tOrM (tNotM (mT (m1 (gIsi "str") (mVar 0)))) (tNotM (mT (mChain gLe gLe (mC (.int 1)) (mL gLen (mA1 (mVar 0) (mA0))) (mC (.int 8)))))) (sRet (mC (.bl false))) (sNil) [some (.str s), none] = .nx [some (.str s), none] from by
    simp [isi_str, gLen_str (show s.length ≤ 1000 by omega), show (1 : Int) ≤ s.length by omega]; omega, Out.nx_bind, sSeq_eq]
  obtain ⟨ρ', e, x1, rfl⟩ := for_lN (j := 1) (m := iAny (mVar 0)) (b := sIf (mT (m2 gNin (mVar 1) (mC (.str "abcdefghijklmnopqrstuvwxyz")))) (sRet (mC (.bl false))) (sNil)) (ρ := [some (.str s), none])
    (fun k ρ => ∃ x1, ρ = [some (.str s), x1]) (s.cps.toList.map fun c => .str ⟨#[c]⟩) (by simp [iLoc_str]) ⟨_, rfl⟩ (by
      rintro k d ρ hd ⟨x1, rfl⟩
      obtain ⟨c, hc, rfl⟩ := List.mem_map.mp (List.mem_of_getElem? hd)
      exact ⟨_, by simp [nin_abc (h.abc c hc)]; rfl, _, rfl⟩)
  rw [e]
  simp
def namesD (ss : List Str) : D := .lst (ss.map D.str)
theorem foldl_addU : ∀ (l m : List Str), (m ++ l).Nodup → l.foldl addU m = m ++ l
  | [], m, _ => by simp
  | z :: l, m, h => by
    have : addU m z = m ++ [z] := by
      unfold addU
      rw [if_neg]
      intro q
      obtain ⟨y, hy, e⟩ := List.any_eq_true.mp q
      have e := eq_of_beq e
      subst e
      exact (List.nodup_append.mp h).2.2 y hy y List.mem_cons_self rfl
    rw [List.foldl_cons, this, foldl_addU l (m ++ [z]) (by simpa using h)]
    simp
theorem unlike_nodup {l : List Str} (h : l.Nodup) : unlike l = l := by
  have := foldl_addU l [] (by simpa using h)
  simpa [unlike] using this
theorem lenset_names {ss : List Str} (h : ss.Nodup) (hl : ss.length ≤ 4000) : gLenSetT (namesD ss) = some (.int ss.length) := by
  show ((strsOf (ss.map D.str)).bind fun ss => if ss.length ≤ 4000 then some (D.int (unlike ss).length) else none) = _
  rw [strsOf_map]
  show (if ss.length ≤ 4000 then some (D.int (unlike ss).length) else none) = _
  rw [if_pos hl, unlike_nodup h]
theorem len_names {ss : List Str} : gLen [namesD ss] = some (.int ss.length) := by unfold namesD; simp
theorem iLoc_names {ss : List Str} : iLoc (namesD ss) = some (ss.map D.str) := id rfl
structure AreNames (ss : List Str) (top : Nat) : Prop where
  lo : 1 ≤ ss.length
  hi : ss.length ≤ top
  nd : ss.Nodup
  nm : ∀ s ∈ ss, IsName s
theorem are_names_ok {ss : List Str} {top : Nat} (h : AreNames ss top) (ht : top ≤ 4000) : m_are_names [namesD ss, .int top] = .ok (.bl true) := by
  have h1 := h.lo
  have h2 := h.hi
  rw [m_are_names]
  refine call_rt ?_
  rw [b_are_names]
  simp only [List.map_cons, List.map_nil, List.length_cons, List.length_nil, List.cons_append, List.nil_append, List.replicate, Nat.zero_add, Nat.reduceAdd, Nat.reduceSub, List.set_cons_zero, List.set_cons_succ]
  rw [sSeq_eq, show sIf (tOrM (tNotM (mT (m1 (gIsi "list") (mVar 0)))) (tNotM (mT (mChain gLe gLe (mC (.int 1)) (mL gLen (mA1 (mVar 0) (mA0))) (mVar 1))))) (sRet (mC (.bl false))) (sNil) [some (namesD ss), some (.int top), none] = .nx [some (namesD ss), some (.int top), none] from by
    simp [show gIsi "list" (namesD ss) = some (.bl true) from isi_list_list, len_names, show (1 : Int) ≤ ss.length by omega]; omega, Out.nx_bind, sSeq_eq]
  obtain ⟨ρ', e, x2, rfl⟩ := for_lN (j := 2) (m := iAny (mVar 0)) (b := sIf (tNotM (mT (mArgs m_is_name (mA1 (mVar 2) (mA0))))) (sRet (mC (.bl false))) (sNil)) (ρ := [some (namesD ss), some (.int top), none])
    (fun k ρ => ∃ x2, ρ = [some (namesD ss), some (.int top), x2]) (ss.map D.str) (by simp [iLoc_names]) ⟨_, rfl⟩ (by
      rintro k d ρ hd ⟨x1, rfl⟩
      obtain ⟨c, hc, rfl⟩ := List.mem_map.mp (List.mem_of_getElem? hd)
      exact ⟨_, by simp [is_name_ok (h.nm c hc)]; rfl, _, rfl⟩)
  rw [e]
  simp [lenset_names h.nd (by omega), len_names]
def sgn (z : Int) : Str := txt [97 + z.toNat]
theorem ix_abc {z : Int} (h : 0 ≤ z) (h2 : z < 26) : gIx (.str "abcdefghijklmnopqrstuvwxyz") (.int z) = some (.str (sgn z)) := by
  obtain ⟨m, rfl⟩ := Int.eq_ofNat_of_zero_le h
  show (if ("abcdefghijklmnopqrstuvwxyz" : Str).length ≤ sizeLine then (atI ("abcdefghijklmnopqrstuvwxyz" : Str).cps.toList ((m : Nat) : Int)).map fun c => D.str ⟨#[c]⟩ else none) = _
  rw [abc_eq]
  rw [if_pos (by decide), show (txt ((List.range 26).map fun k => 97 + k)).cps.toList = (List.range 26).map fun k => 97 + k by simp [txt], atI_nat (by simp; omega), List.getElem?_map, List.getElem?_range (by omega)]
  rfl
theorem mul_str {s : Str} {k : Int} (h0 : 0 ≤ k) (hk : k < 100) (hs : s.length ≤ 100) : gMul (.str s) (.int k) = some (.str (strRep s k.toNat)) := by
  refine if_pos ⟨by omega, by omega, ?_⟩
  have : s.length * k.toNat ≤ 100 * 100 := Nat.mul_le_mul hs (by omega)
  exact Nat.le_trans this (by decide)
theorem add_str {s t : Str} (h : s.length + t.length ≤ 10000) : gAdd (.str s) (.str t) = some (.str (s ++ t)) := if_pos (Nat.le_trans h (by decide))
theorem str_append_length {s t : Str} : (s ++ t).length = s.length + t.length := by show (s.cps ++ t.cps).size = _; rw [Array.size_append]; rfl
theorem str_append_list {s t : Str} : (s ++ t).cps.toList = s.cps.toList ++ t.cps.toList := by show (s.cps ++ t.cps).toList = _; simp
theorem sgn_length {z : Int} : (sgn z).length = 1 := rfl
theorem sgn_list {z : Int} : (sgn z).cps.toList = [97 + z.toNat] := rfl
def nmA (c : Int) (k : Nat) : Str := strRep (sgn (c / 3 % 26)) (k + 1)
def nmB (c : Int) (k : Nat) : Str := strRep (sgn (c / 468 % 26)) (c / 5 % 4).toNat ++ sgn ((c / 3 + k * (1 + 2 * (c / 78 % 6))) % 26) ++ strRep (sgn (c / 468 % 26)) (c / 7 % 4).toNat
def nms (c : Int) (k : Nat) : Str := if c % 3 = 0 then nmA c k else nmB c k
theorem rep_mem {z : Int} {k x : Nat} (h : x ∈ (strRep (sgn z) k).cps.toList) : x = 97 + z.toNat := by
  rw [strRep_list, sgn_list] at h
  obtain ⟨l, hl, hx⟩ := List.mem_flatten.mp h
  rw [List.eq_of_mem_replicate hl] at hx
  exact List.mem_singleton.mp hx
def drawn (c : Int) (many : Nat) : List Str := (List.range many).map (nms c)
end TW
-- TWHouse
namespace TW
open PySem PySem.Spec PyProof.Rows L2
theorem for_m {α : Type} {m : Rho → Res (List D)} {b : Rho → Out} {j : Nat} {ρ : Rho} (I : Nat → Rho → Prop) (xs : List α) (f : α → D) (hm : m ρ = .ok (xs.map f)) (h0 : I 0 ρ)
    (st : ∀ i x ρ, xs[i]? = some x → I i ρ → ∃ ρ2, b (ρ.set j (some (f x))) = .nx ρ2 ∧ I (i + 1) ρ2) : ∃ ρ', sFor (tgN j) m b ρ = .nx ρ' ∧ I xs.length ρ' := by
  obtain ⟨ρ', e, h⟩ := for_lN (j := j) (b := b) I (xs.map f) hm h0 (fun i d ρ hd h => by
    rw [List.getElem?_map] at hd
    cases hx : xs[i]? with
    | none => rw [hx] at hd; cases hd
    | some x => rw [hx] at hd; cases hd; exact st i x ρ hx h)
  rw [List.length_map] at h
  exact ⟨ρ', e, h⟩
theorem compL_m {α : Type} {F : D → Res (Option D)} {f g : α → D} : ∀ xs : List α, (∀ x ∈ xs, F (f x) = .ok (some (g x))) → compL F (xs.map f) = .ok (xs.map g)
  | [], _ => rfl
  | x :: xs, h => by
    rw [List.map_cons, List.map_cons, compL, h x List.mem_cons_self, compL_m xs fun y hy => h y (List.mem_cons_of_mem _ hy)]
    rfl
theorem lc_m {α : Type} {ρ : Rho} {vs : List Nat} {v : Nat} {m : Rho → Res (List D)} {me : Rho → Res D} (xs : List α) (f g : α → D) (hm : m ρ = .ok (xs.map f)) (hl : xs.length < 1000000) (h : ∀ x ∈ xs, me ((wipeR ρ vs).set v (some (f x))) = .ok (g x)) :
    mLc vs (tgN v) m tYesM me ρ = .ok (.lst (xs.map g)) := by
  unfold mLc
  rw [hm, Res.bind_ok, if_pos (by rw [List.length_map]; exact b24 hl), compL_m (g := g) xs (fun x hx => by
    show (match some ((wipeR ρ vs).set v (some (f x))) with
      | some ρ' => (tYesM ρ').bind fun k => if k = true then (me ρ').bind fun v => .ok (some v) else .ok none
      | none => .stuck) = _
    dsimp only
    rw [h x hx]; rfl)]
  rfl
structure Hand where
  name : Str
  words : List Str
  worths : List (List Int)
def numsD (l : List Int) : D := .lst (l.map D.int)
def wD (w : List (List Int)) : D := .lst (w.map numsD)
def Hand.d (h : Hand) : D := .tup [.str h.name, namesD h.words, wD h.worths]
def tints (l : List Int) : D := .tup (l.map D.int)
def Hand.m (h : Hand) : D := .tup [.str h.name, .ftup (h.words.map D.str), .tup (h.worths.map tints)]
def handsD (hs : List Hand) : D := .lst (hs.map Hand.d)
def houseD (outs : List Str) (hs : List Hand) : D := .tup [.ftup (outs.map D.str), .tup (hs.map Hand.m)]
structure Hand.Ok (p : Nat) (h : Hand) : Prop where
  name : IsName h.name
  words : AreNames h.words 8
  len : h.worths.length = h.words.length
  row : ∀ r ∈ h.worths, r.length = p
  num : ∀ r ∈ h.worths, ∀ z ∈ r, -T60 < z ∧ z < T60
def ways : List Hand → Nat
  | [] => 1
  | h :: hs => h.words.length * ways hs
structure HandsOk (p : Nat) (hs : List Hand) : Prop where
  lo : 1 ≤ hs.length
  hi : hs.length ≤ 4
  ok : ∀ h ∈ hs, h.Ok p
  many : ways hs ≤ 256
  nd : (hs.map Hand.name).Nodup
theorem nums_len {l : List Int} : gLen [numsD l] = some (.int l.length) := by unfold numsD; simp
theorem wD_len {l : List (List Int)} : gLen [wD l] = some (.int l.length) := by unfold wD; simp
theorem is_worth_ok {z : Int} (h : -T60 < z ∧ z < T60) : m_is_worth [.int z] = .ok (.bl true) := by
  rw [m_is_worth]
  refine call_rt ?_
  rw [b_is_worth]
  simp only [List.map_cons, List.map_nil, List.length_cons, List.length_nil, List.cons_append, List.nil_append, List.replicate, Nat.zero_add, Nat.reduceAdd, Nat.reduceSub, List.set_cons_zero, List.set_cons_succ]
  have h1 : 0 - T60 < z := by have := h.1; omega
  have e1 : gLt (.int (0 - T60)) (.int z) = some (.bl true) := by rw [gLt_int, decide_eq_true h1]
  have e2 : gLt (.int z) (.int T60) = some (.bl true) := by rw [gLt_int, decide_eq_true h.2]
  simp only [sRet_eq, mAnd_eq, m1_eq, mVar_eq, List.getElem?_cons_zero, Res.bind_ok, isi_int_int, isi_int_bool, ofO_some, gNot_bl, Bool.not_false, mChain_eq, m2_eq, mC_eq, pow60, gSub_int, e1, e2, Res.out_ok]
theorem are_worths_ok {w : List (List Int)} {p : Nat} (hr : ∀ r ∈ w, r.length = p) (hn : ∀ r ∈ w, ∀ z ∈ r, -T60 < z ∧ z < T60) : m_are_worths [wD w, .int w.length, .int p] = .ok (.bl true) := by
  rw [m_are_worths]
  refine call_rt ?_
  rw [b_are_worths]
  simp only [List.map_cons, List.map_nil, List.length_cons, List.length_nil, List.cons_append, List.nil_append, List.replicate, Nat.zero_add, Nat.reduceAdd, Nat.reduceSub, List.set_cons_zero, List.set_cons_succ]
  rw [sSeq_eq, show sIf (tOrM (tNotM (mT (m1 (gIsi "list") (mVar 0)))) (mT (m2 gNe (mL gLen (mA1 (mVar 0) (mA0))) (mVar 1)))) (sRet (mC (.bl false))) (sNil) [some (wD w), some (.int w.length), some (.int p), none, none] = .nx _ from by
    simp [show gIsi "list" (wD w) = some (.bl true) from isi_list_list, wD_len]; rfl, Out.nx_bind, sSeq_eq]
  generalize hb : sSeq (sIf _ _ _) (sFor _ _ _) = b
  obtain ⟨ρ', e, x3, x4, rfl⟩ := for_m (j := 3) (m := iAny (mVar 0)) (b := b) (ρ := [some (wD w), some (.int w.length), some (.int p), none, none])
    (fun k ρ => ∃ x3 x4, ρ = [some (wD w), some (.int w.length), some (.int p), x3, x4]) w numsD (by simp [wD]) ⟨_, _, rfl⟩ (by
      rintro k r ρ hd ⟨x3, x4, rfl⟩
      have hw := List.mem_of_getElem? hd
      subst hb
      simp only [List.map_cons, List.map_nil, List.length_cons, List.length_nil, List.cons_append, List.nil_append, List.replicate, Nat.zero_add, Nat.reduceAdd, Nat.reduceSub, List.set_cons_zero, List.set_cons_succ]
      rw [sSeq_eq, show sIf (tOrM (tNotM (mT (m1 (gIsi "list") (mVar 3)))) (mT (m2 gNe (mL gLen (mA1 (mVar 3) (mA0))) (mVar 2)))) (sRet (mC (.bl false))) (sNil) [some (wD w), some (.int w.length), some (.int p), some (numsD r), x4] = .nx _ from by
        simp [show gIsi "list" (numsD r) = some (.bl true) from isi_list_list, nums_len, hr r hw]; rfl, Out.nx_bind]
      obtain ⟨ρ', e, y4, rfl⟩ := for_m (j := 4) (m := iAny (mVar 3)) (b := sIf (tNotM (mT (mArgs m_is_worth (mA1 (mVar 4) (mA0))))) (sRet (mC (.bl false))) (sNil)) (ρ := [some (wD w), some (.int w.length), some (.int p), some (numsD r), x4])
        (fun k ρ => ∃ x4, ρ = [some (wD w), some (.int w.length), some (.int p), some (numsD r), x4]) r D.int (by simp [numsD]) ⟨_, rfl⟩ (by
          rintro k z ρ hd ⟨x4, rfl⟩
          have hz := List.mem_of_getElem? hd
          exact ⟨_, by simp [is_worth_ok (hn r hw z hz)]; rfl, _, rfl⟩)
      exact ⟨_, e, _, _, rfl⟩)
  rw [e]
  simp
theorem is_hand_ok {h : Hand} {p : Nat} (o : h.Ok p) : m_is_hand [h.d, .int p] = .ok (.bl true) := by
  have a := are_names_ok o.words (by decide)
  have b := are_worths_ok o.row o.num
  have l := o.len
  rw [l] at b
  rw [m_is_hand]
  refine call_rt ?_
  rw [b_is_hand]
  simp only [List.map_cons, List.map_nil, List.length_cons, List.length_nil, List.cons_append, List.nil_append, List.replicate, Nat.zero_add, Nat.reduceAdd, Nat.reduceSub, List.set_cons_zero, List.set_cons_succ]
  have i0 : gIx h.d (.int 0) = some (.str h.name) := id rfl
  have i1 : gIx h.d (.int 1) = some (namesD h.words) := id rfl
  have i2 : gIx h.d (.int 2) = some (wD h.worths) := id rfl
  have l3 : gLen [h.d] = some (.int 3) := id rfl
  simp [show gIsi "tuple" h.d = some (.bl true) from isi_tup, i0, i1, i2, l3, is_name_ok o.name, len_names, b, show m_are_names [namesD h.words, .int 8] = .ok (.bl true) from a]
theorem mul_nat {a b : Nat} (ha : a < 1000) (hb : b < 1000) : gMul (.int a) (.int b) = some (.int ((a * b : Nat) : Int)) := by
  rw [gMul_int (nat250 (by omega)) (nat250 (by omega))]; simp
theorem ways_snoc {hs : List Hand} {h : Hand} : ways (hs ++ [h]) = ways hs * h.words.length := by
  induction hs with
  | nil => simp [ways]
  | cons g hs ih => simp only [List.cons_append, ways, ih, Nat.mul_assoc]
theorem ways_pos : ∀ {hs : List Hand}, (∀ h ∈ hs, 1 ≤ h.words.length) → 1 ≤ ways hs
  | [], _ => Nat.le_refl _
  | h :: hs, ho => Nat.mul_pos (ho h List.mem_cons_self) (ways_pos fun g hg => ho g (List.mem_cons_of_mem _ hg))
theorem ways_take {hs : List Hand} (ho : ∀ h ∈ hs, 1 ≤ h.words.length) (k : Nat) : ways (hs.take k) ≤ ways hs := by
  induction hs generalizing k with
  | nil => simp
  | cons h hs ih =>
    cases k with
    | zero => exact ways_pos ho
    | succ k => exact Nat.mul_le_mul_left _ (ih (fun g hg => ho g (List.mem_cons_of_mem _ hg)) k)
theorem house_of_ok {outs : List Str} {hs : List Hand} (ho : AreNames outs 8) (hh : HandsOk outs.length hs) : m_house_of [namesD outs, handsD hs] = .ok (houseD outs hs) := by
  have a := are_names_ok ho (by decide)
  have hlo := hh.lo
  have hhi := hh.hi
  have wpos : ∀ h ∈ hs, 1 ≤ h.words.length := fun h hm => (hh.ok h hm).words.lo
  rw [m_house_of]
  refine call_rt ?_
  rw [b_house_of]
  simp only [List.map_cons, List.map_nil, List.length_cons, List.length_nil, List.cons_append, List.nil_append, List.replicate, Nat.zero_add, Nat.reduceAdd, Nat.reduceSub, List.set_cons_zero, List.set_cons_succ]
  have ln : gLen [handsD hs] = some (.int hs.length) := by unfold handsD; simp
  rw [sSeq_eq, show sIf (tNotM (mT (mArgs m_are_names (mA1 (mVar 0) (mA1 (mC (.int 8)) (mA0)))))) (sDead) (sNil) [some (namesD outs), some (handsD hs), none, none, none, none] = .nx _ from by
    simp [show m_are_names [namesD outs, .int 8] = .ok (.bl true) from a]; rfl, Out.nx_bind]
  rw [sSeq_eq, show sIf (tOrM (tNotM (mT (m1 (gIsi "list") (mVar 1)))) (tNotM (mT (mChain gLe gLe (mC (.int 1)) (mL gLen (mA1 (mVar 1) (mA0))) (mC (.int 4)))))) (sDead) (sNil) [some (namesD outs), some (handsD hs), none, none, none, none] = .nx [some (namesD outs), some (handsD hs), none, none, none, none] from by
    simp [show gIsi "list" (handsD hs) = some (.bl true) from isi_list_list, ln, show (1 : Int) ≤ hs.length by omega]; omega, Out.nx_bind]
  rw [seq_set (d := .int 1) (by simp), seq_set (d := .lst []) (by simp [nil_l])]
  simp only [List.map_cons, List.map_nil, List.length_cons, List.length_nil, List.cons_append, List.nil_append, List.replicate, Nat.zero_add, Nat.reduceAdd, Nat.reduceSub, List.set_cons_zero, List.set_cons_succ]
  rw [sSeq_eq]
  generalize hb : sSeq (sIf _ sDead _) _ = b
  obtain ⟨ρ', e, x4, x5, rfl⟩ := for_m (j := 4) (m := iAny (mVar 1)) (b := b) (ρ := [some (namesD outs), some (handsD hs), some (.int 1), some (.lst []), none, none])
    (fun k ρ => ∃ x4 x5, ρ = [some (namesD outs), some (handsD hs), some (.int (ways (hs.take k))), some (.lst ((hs.take k).map Hand.m)), x4, x5]) hs Hand.d (by simp [handsD]) ⟨_, _, rfl⟩ (by
      rintro k h ρ hd ⟨x4, x5, rfl⟩
      have hm := List.mem_of_getElem? hd
      have o := hh.ok h hm
      have hk : k < hs.length := (List.getElem?_eq_some_iff.mp hd).1
      subst hb
      simp only [List.map_cons, List.map_nil, List.length_cons, List.length_nil, List.cons_append, List.nil_append, List.replicate, Nat.zero_add, Nat.reduceAdd, Nat.reduceSub, List.set_cons_zero, List.set_cons_succ]
      have t1 : hs.take (k + 1) = hs.take k ++ [h] := by rw [List.take_add_one, hd]; rfl
      have t2 : (hs.take (k + 1)).map Hand.m = (hs.take k).map Hand.m ++ [h.m] := by rw [t1, List.map_append]; rfl
      have hM1 : ((hs.take k).map Hand.m).length < 1000000 := by rw [List.length_map, List.length_take]; omega
      generalize (hs.take k).map Hand.m = M at *
      have i0 : gIx h.d (.int 0) = some (.str h.name) := id rfl
      have i1 : gIx h.d (.int 1) = some (namesD h.words) := id rfl
      have i2 : gIx h.d (.int 2) = some (wD h.worths) := id rfl
      rw [sSeq_eq, show sIf (tNotM (mT (mArgs m_is_hand (mA1 (mVar 4) (mA1 (mL gLen (mA1 (mVar 0) (mA0))) (mA0)))))) (sDead) (sNil) [some (namesD outs), some (handsD hs), some (.int (ways (hs.take k))), some (.lst M), some h.d, x5] = .nx _ from by
        simp [len_names, is_hand_ok o]; rfl, Out.nx_bind]
      have w1 := ways_take wpos k
      have w2 := hh.many
      have w3 := o.words.hi
      rw [seq_set (d := .int (ways (hs.take (k + 1)))) (by
        rw [t1, ways_snoc]
        simp [i1, len_names]
        rw [mul_nat (by omega) (by omega)]; simp)]
      simp only [List.map_cons, List.map_nil, List.length_cons, List.length_nil, List.cons_append, List.nil_append, List.replicate, Nat.zero_add, Nat.reduceAdd, Nat.reduceSub, List.set_cons_zero, List.set_cons_succ]
      have lc : mLc [5] (tgN 5) (iAny (m2 gIx (mVar 4) (mC (.int 2)))) (tYesM) (mL gTuple (mA1 (mVar 5) (mA0))) [some (namesD outs), some (handsD hs), some (.int (ways (hs.take (k + 1)))), some (.lst M), some h.d, x5] = .ok (.lst (h.worths.map tints)) := by
        refine lc_m h.worths numsD tints (by simp [i2, wD]) ?_ (fun x hx => by simp [wipeR, numsD, tints])
        have := o.len; omega
      have ap : nApp h.m (.lst M) = some (.lst (M ++ [h.m])) := by
        rw [nApp_lst (b24 hM1)]
      have tp : gTup [.str h.name, .ftup (h.words.map D.str), .tup (h.worths.map tints)] = some h.m := tup3 _ _ _
      rw [t2]
      refine ⟨[some (namesD outs), some (handsD hs), some (.int (ways (hs.take (k + 1)))), some (.lst (M ++ [h.m])), some h.d, x5], ?_, _, _, rfl⟩
      simp [lc, i0, i1, show gTupF [namesD h.words] = some (.ftup (h.words.map D.str)) from id rfl, tp, ap])
  rw [e, Out.nx_bind]
  rw [List.take_length]
  have lcn : ∀ x4 x5, mLc [4] (tgN 4) (iAny (mVar 3)) (tYesM) (m2 gIx (mVar 4) (mC (.int 0))) [some (namesD outs), some (handsD hs), some (.int (ways hs)), some (.lst (hs.map Hand.m)), x4, x5] = .ok (namesD (hs.map Hand.name)) := fun x4 x5 => by
    rw [lc_m hs Hand.m (fun h => .str h.name) (by simp) (by omega) (fun x hx => by simp [wipeR, show gIx x.m (.int 0) = some (.str x.name) from id rfl])]
    unfold namesD; rw [List.map_map]; rfl
  have w2 := hh.many
  rw [sSeq_eq, show ∀ x4 x5, sIf (tOrM (mT (m2 gGt (mVar 2) (mC (.int 256)))) (mT (m2 gNe (m1 gLenSetT (mLc [4] (tgN 4) (iAny (mVar 3)) (tYesM) (m2 gIx (mVar 4) (mC (.int 0))))) (mL gLen (mA1 (mVar 3) (mA0)))))) (sDead) (sNil) [some (namesD outs), some (handsD hs), some (.int (ways hs)), some (.lst (hs.map Hand.m)), x4, x5] = .nx [some (namesD outs), some (handsD hs), some (.int (ways hs)), some (.lst (hs.map Hand.m)), x4, x5] from fun x4 x5 => by
    have : ¬ (256 : Int) < (ways hs : Int) := by omega
    simp [lcn, lenset_names hh.nd (by simp; omega), this], Out.nx_bind]
  simp [show gTupF [namesD outs] = some (.ftup (outs.map D.str)) from id rfl, tup2]
  rfl
end TW
-- TWHands
namespace TW
open PySem PySem.Spec PyProof.Rows L2
theorem mod_bnd (a : Int) {k : Int} (h : 0 < k) : 0 ≤ a % k ∧ a % k < k := ⟨Int.emod_nonneg _ (by omega), Int.emod_lt_of_pos _ h⟩
def sz (ns : List Int) (k : Nat) : Nat := (1 + cel ns 1 / 3 ^ k % 3).toNat
def wor (ns : List Int) (p : Nat) (top : Int) (s t : Nat) : List Int := (List.range p).map fun j => num (cel ns (s + t * p + j)) top
theorem names_ix {ss : List Str} {k : Nat} {s : Str} (h : ss[k]? = some s) : gIx (namesD ss) (.int k) = some (.str s) := by
  have hk : k < (ss.map D.str).length := by rw [List.length_map]; exact (List.getElem?_eq_some_iff.mp h).1
  show atI (ss.map D.str) (k : Int) = _
  rw [atI_nat hk, List.getElem?_map, h]; rfl
def pl (ns : List Int) : Nat := (1 + cel ns 0 % 4).toNat
def crossR (rows : List (List Str)) (words : List Str) : List (List Str) := rows.flatMap fun row => words.map fun w => row ++ [w]
def rowsW (ws : List (List Str)) : List (List Str) := ws.foldl crossR [[]]
def rowT (row : List Str) : D := .tup (row.map D.str)
def rowsD (rows : List (List Str)) : D := .lst (rows.map rowT)
theorem crossR_len (rows : List (List Str)) (words : List Str) : (crossR rows words).length = rows.length * words.length := by
  unfold crossR
  induction rows with
  | nil => simp
  | cons r rows ih => rw [List.flatMap_cons, List.length_append, ih, List.length_map, List.length_cons, Nat.add_mul, Nat.one_mul]; omega
end TW
-- TWParts
namespace TW
open PySem PySem.Spec PyProof.Rows L2
theorem cellat_ok (ns : List Int) (k : Nat) : m__law_cell_at [.scr ns, .int k] = .ok (.int (cel ns k)) := by
  rw [m__law_cell_at]
  refine call_rt ?_
  rw [b__law_cell_at]
  unfold cel
  by_cases h : k < ns.length
  · have e : gIx (.scr ns) (.int k) = some (.int (ns.getD k 0)) := by
      show (atI ns (k : Int)).map D.int = _
      rw [atI_nat h, List.getElem?_eq_getElem h, List.getD_eq_getElem?_getD, List.getElem?_eq_getElem h]; rfl
    simp [h, e]
  · simp [h, List.getD_eq_getElem?_getD, List.getElem?_eq_none (show ns.length ≤ k by omega)]
theorem cellat (ns : List Int) {i : Int} (k : Nat) (h : i = k) : m__law_cell_at [.scr ns, .int i] = .ok (.int (cel ns k)) := by rw [h]; exact cellat_ok ns k
theorem big250 {z : Int} (h0 : 0 ≤ z) (h : z < 2 ^ 64) : z.natAbs < 2 ^ 250 := by
  have : z.natAbs < 2 ^ 64 := by omega
  exact Nat.lt_trans this (by decide)
def pn (c : Int) : Int := (c % 2147483647 * 48271 + 11) % 2147483647
def stepOf (N : Int) : Int := match (N / 2028 % 12).toNat with
  | 0 => 1 | 1 => 3 | 2 => 5 | 3 => 7 | 4 => 9 | 5 => 11 | 6 => 15 | 7 => 17 | 8 => 19 | 9 => 21 | 10 => 23 | _ => 25
def pszI (N : Int) : Int := 1 + N / 24336 % 8
def pplI (N : Int) : Int := N / 194688 % pszI N
def poolA (N : Int) (k : Nat) : Str := strRep (sgn (N % 26)) (k + 1)
def poolB (N : Int) (k : Nat) : Str := strRep (sgn (N % 26)) (pplI N).toNat ++ sgn ((N / 78 % 26 + stepOf N * k) % 26) ++ strRep (sgn (N % 26)) (pszI N - 1 - pplI N).toNat
def poolN (c : Int) (k : Nat) : Str := if pn c / 26 % 3 = 1 then poolA (pn c) k else poolB (pn c) k
def pool (c : Int) (many : Nat) : List Str := (List.range many).map (poolN c)
theorem step_cases (N : Int) : stepOf N = 1 ∨ stepOf N = 3 ∨ stepOf N = 5 ∨ stepOf N = 7 ∨ stepOf N = 9 ∨ stepOf N = 11 ∨ stepOf N = 15 ∨ stepOf N = 17 ∨ stepOf N = 19 ∨ stepOf N = 21 ∨ stepOf N = 23 ∨ stepOf N = 25 := by
  unfold stepOf
  split <;> simp
theorem psz_bnd (N : Int) : 1 ≤ pszI N ∧ pszI N ≤ 8 := by
  have := mod_bnd (N / 24336) (k := 8) (by decide)
  unfold pszI; omega
theorem ppl_bnd (N : Int) : 0 ≤ pplI N ∧ pplI N < pszI N := mod_bnd (N / 194688) (by have := psz_bnd N; omega)
theorem pool_name (c : Int) {k : Nat} (hk : k < 8) : IsName (poolN c k) := by
  generalize hN : pn c = N
  have a := mod_bnd N (k := 26) (by decide)
  have b := mod_bnd (N / 78 % 26 + stepOf N * k) (k := 26) (by decide)
  have s := psz_bnd N
  have p := ppl_bnd N
  unfold poolN
  rw [hN]
  split
  · unfold poolA
    have : (strRep (sgn (N % 26)) (k + 1)).length = k + 1 := by rw [strRep_length, sgn_length]; omega
    exact ⟨by omega, by omega, fun x hx => by have := rep_mem hx; omega⟩
  · unfold poolB
    refine ⟨?_, ?_, fun x hx => ?_⟩
    · rw [str_append_length, str_append_length, sgn_length]; omega
    · rw [str_append_length, str_append_length, sgn_length, strRep_length, strRep_length, sgn_length]; omega
    · rw [str_append_list, str_append_list, sgn_list] at hx
      rcases List.mem_append.mp hx with hx | hx
      · rcases List.mem_append.mp hx with hx | hx
        · have := rep_mem hx; omega
        · have := List.mem_singleton.mp hx; omega
      · have := rep_mem hx; omega
theorem pool_inj (c : Int) {k j : Nat} (hk : k < 8) (hj : j < 8) (h : poolN c k = poolN c j) : k = j := by
  generalize hN : pn c = N at *
  unfold poolN at h
  rw [hN] at h
  split at h
  · have := congrArg Str.length h
    unfold poolA at this
    rw [strRep_length, strRep_length, sgn_length] at this
    omega
  · have := congrArg (fun s : Str => s.cps.toList) h
    replace this : (poolB N k).cps.toList = (poolB N j).cps.toList := this
    unfold poolB at this
    simp only [str_append_list, List.append_assoc] at this
    have := List.append_cancel_left this
    rw [sgn_list, sgn_list] at this
    have := (List.cons.inj this).1
    have st := step_cases N
    generalize N / 78 % 26 = a at *
    generalize stepOf N = m at *
    rcases st with rfl | rfl | rfl | rfl | rfl | rfl | rfl | rfl | rfl | rfl | rfl | rfl <;> omega
theorem pool_are (c : Int) {many : Nat} (h0 : 1 ≤ many) (h : many ≤ 8) : AreNames (pool c many) 8 where
  lo := by unfold pool; simpa using h0
  hi := by unfold pool; simpa using h
  nd := by
    unfold pool
    rw [List.Nodup, List.pairwise_map]
    refine List.Pairwise.imp_of_mem ?_ (List.nodup_range (n := many))
    intro x y hx hy hne e
    have := List.mem_range.mp hx
    have := List.mem_range.mp hy
    exact hne (pool_inj c (by omega) (by omega) e)
  nm := fun s hs => by
    obtain ⟨k, hk, rfl⟩ := List.mem_map.mp hs
    exact pool_name c (by have := List.mem_range.mp hk; omega)
theorem pool_len {c : Int} {many : Nat} : (pool c many).length = many := by unfold pool; simp
theorem pool_at {c : Int} {many k : Nat} (h : k < many) : (pool c many)[k]? = some (poolN c k) := by
  unfold pool
  rw [List.getElem?_map, List.getElem?_range h]; rfl
theorem pool_ok (c : Int) {many : Nat} (h : many ≤ 8) : m__law_pool [.int c, .int many] = .ok (namesD (pool c many)) := by
  have m0 := mod_bnd c (k := 2147483647) (by decide)
  have n0 := mod_bnd (c % 2147483647 * 48271 + 11) (k := 2147483647) (by decide)
  have d26 : ∀ z : Int, gDiv (.int z) (.int 26) = some (.int (z / 26)) := fun z => gDiv_int (by decide) (by decide)
  have d78 : ∀ z : Int, gDiv (.int z) (.int 78) = some (.int (z / 78)) := fun z => gDiv_int (by decide) (by decide)
  have d2028 : ∀ z : Int, gDiv (.int z) (.int 2028) = some (.int (z / 2028)) := fun z => gDiv_int (by decide) (by decide)
  have d24336 : ∀ z : Int, gDiv (.int z) (.int 24336) = some (.int (z / 24336)) := fun z => gDiv_int (by decide) (by decide)
  have d194688 : ∀ z : Int, gDiv (.int z) (.int 194688) = some (.int (z / 194688)) := fun z => gDiv_int (by decide) (by decide)
  have e1 : gMul (.int (c % 2147483647)) (.int 48271) = some (.int (c % 2147483647 * 48271)) := gMul_int (big250 m0.1 (by omega)) (by decide)
  rw [m__law_pool]
  refine call_rt ?_
  rw [b__law_pool]
  simp only [List.map_cons, List.map_nil, List.length_cons, List.length_nil, List.cons_append, List.nil_append, List.replicate, Nat.zero_add, Nat.reduceAdd, Nat.reduceSub, List.set_cons_zero, List.set_cons_succ]
  rw [seq_set (d := .str "abcdefghijklmnopqrstuvwxyz") (by simp)]
  simp only [List.map_cons, List.map_nil, List.length_cons, List.length_nil, List.cons_append, List.nil_append, List.replicate, Nat.zero_add, Nat.reduceAdd, Nat.reduceSub, List.set_cons_zero, List.set_cons_succ]
  have eN : pn c = (c % 2147483647 * 48271 + 11) % 2147483647 := rfl
  rw [seq_set (d := .int (pn c)) (by
    rw [eN]
    simp only [m2_eq, mVar_eq, mC_eq, List.getElem?_cons_zero, Res.bind_ok, gMod_int (show (0 : Int) < 2147483647 by decide), ofO_some, e1, gAdd_int])]
  simp only [List.map_cons, List.map_nil, List.length_cons, List.length_nil, List.cons_append, List.nil_append, List.replicate, Nat.zero_add, Nat.reduceAdd, Nat.reduceSub, List.set_cons_zero, List.set_cons_succ]
  have pd : pool c many = (List.range many).map fun k => if pn c / 26 % 3 = 1 then poolA (pn c) k else poolB (pn c) k := rfl
  rw [pd]
  generalize pn c = N at *
  have a := mod_bnd N (k := 26) (by decide)
  have s := psz_bnd N
  have p := ppl_bnd N
  rw [seq_set (d := .str (sgn (N % 26))) (by simp [ix_abc a.1 a.2])]
  simp only [List.map_cons, List.map_nil, List.length_cons, List.length_nil, List.cons_append, List.nil_append, List.replicate, Nat.zero_add, Nat.reduceAdd, Nat.reduceSub, List.set_cons_zero, List.set_cons_succ]
  by_cases h3 : N / 26 % 3 = 1
  · have e : mLc [11] (tgN 11) (iR1 (mVar 1)) (tYesM) (m2 gMul (mVar 4) (m2 gAdd (mVar 11) (mC (.int 1)))) [some (.int c), some (.int many), some (.str "abcdefghijklmnopqrstuvwxyz"), some (.int N), some (.str (sgn (N % 26))), none, none, none, none, none, none, none] = .ok (namesD ((List.range many).map fun k => if N / 26 % 3 = 1 then poolA N k else poolB N k)) := by
      rw [lc_r (j := 11) many (fun k => .str (if N / 26 % 3 = 1 then poolA N k else poolB N k)) (by simp) (by omega) (fun k hk => by
        rw [if_pos h3]
        simp only [wipeR]
        simp [mul_str (s := sgn (N % 26)) (k := (k : Int) + 1) (by omega) (by omega) (by rw [sgn_length]; decide)]
        rfl)]
      unfold namesD
      rw [List.map_map]; rfl
    generalize ((List.range many).map fun k => if N / 26 % 3 = 1 then poolA N k else poolB N k) = L at *
    simp [d26, h3, e]
  · rw [sSeq_eq, show sIf (mT (m2 gEq (m2 gMod (m2 gDiv (mVar 3) (mC (.int 26))) (mC (.int 3))) (mC (.int 1)))) (sRet (mLc [11] (tgN 11) (iR1 (mVar 1)) (tYesM) (m2 gMul (mVar 4) (m2 gAdd (mVar 11) (mC (.int 1)))))) (sNil) [some (.int c), some (.int many), some (.str "abcdefghijklmnopqrstuvwxyz"), some (.int N), some (.str (sgn (N % 26))), none, none, none, none, none, none, none] = .nx _ from by simp [d26, h3]; rfl, Out.nx_bind]
    have tw := mod_bnd (N / 2028) (k := 12) (by decide)
    have stp : ∃ L, gLst [.int 1, .int 3, .int 5, .int 7, .int 9, .int 11, .int 15, .int 17, .int 19, .int 21, .int 23, .int 25] = some L ∧ gIx L (.int (N / 2028 % 12)) = some (.int (stepOf N)) := by
      refine ⟨_, gLst_eq (show 12 ≤ sizeLine by decide), ?_⟩
      unfold stepOf
      generalize N / 2028 % 12 = q at *
      have : q = 0 ∨ q = 1 ∨ q = 2 ∨ q = 3 ∨ q = 4 ∨ q = 5 ∨ q = 6 ∨ q = 7 ∨ q = 8 ∨ q = 9 ∨ q = 10 ∨ q = 11 := by omega
      rcases this with rfl | rfl | rfl | rfl | rfl | rfl | rfl | rfl | rfl | rfl | rfl | rfl <;> rfl
    obtain ⟨SL, sl1, sl2⟩ := stp
    rw [seq_set (d := .int (N / 78 % 26)) (by simp [d78])]
    simp only [List.map_cons, List.map_nil, List.length_cons, List.length_nil, List.cons_append, List.nil_append, List.replicate, Nat.zero_add, Nat.reduceAdd, Nat.reduceSub, List.set_cons_zero, List.set_cons_succ]
    rw [seq_set (d := .int (stepOf N)) (by simp [sl1, sl2, d2028])]
    simp only [List.map_cons, List.map_nil, List.length_cons, List.length_nil, List.cons_append, List.nil_append, List.replicate, Nat.zero_add, Nat.reduceAdd, Nat.reduceSub, List.set_cons_zero, List.set_cons_succ]
    rw [seq_set (d := .int (pszI N)) (by simp [d24336]; rfl)]
    simp only [List.map_cons, List.map_nil, List.length_cons, List.length_nil, List.cons_append, List.nil_append, List.replicate, Nat.zero_add, Nat.reduceAdd, Nat.reduceSub, List.set_cons_zero, List.set_cons_succ]
    rw [seq_set (d := .int (pplI N)) (by simp [d194688, gMod_int (show (0 : Int) < pszI N by omega)]; rfl)]
    simp only [List.map_cons, List.map_nil, List.length_cons, List.length_nil, List.cons_append, List.nil_append, List.replicate, Nat.zero_add, Nat.reduceAdd, Nat.reduceSub, List.set_cons_zero, List.set_cons_succ]
    rw [seq_set (d := .str (strRep (sgn (N % 26)) (pplI N).toNat)) (by simp [mul_str (s := sgn (N % 26)) (k := pplI N) p.1 (by omega) (by rw [sgn_length]; decide)])]
    simp only [List.map_cons, List.map_nil, List.length_cons, List.length_nil, List.cons_append, List.nil_append, List.replicate, Nat.zero_add, Nat.reduceAdd, Nat.reduceSub, List.set_cons_zero, List.set_cons_succ]
    rw [seq_set (d := .str (strRep (sgn (N % 26)) (pszI N - 1 - pplI N).toNat)) (by simp [mul_str (s := sgn (N % 26)) (k := pszI N - 1 - pplI N) (by omega) (by omega) (by rw [sgn_length]; decide)])]
    simp only [List.map_cons, List.map_nil, List.length_cons, List.length_nil, List.cons_append, List.nil_append, List.replicate, Nat.zero_add, Nat.reduceAdd, Nat.reduceSub, List.set_cons_zero, List.set_cons_succ]
    have l1 : (strRep (sgn (N % 26)) (pplI N).toNat).length ≤ 8 := by rw [strRep_length, sgn_length]; omega
    have l2 : (strRep (sgn (N % 26)) (pszI N - 1 - pplI N).toNat).length ≤ 8 := by rw [strRep_length, sgn_length]; omega
    have sc := step_cases N
    rw [sRet_eq, lc_r (j := 11) many (fun k => .str (if N / 26 % 3 = 1 then poolA N k else poolB N k)) (by simp) (by omega) (fun k hk => by
      rw [if_neg h3]
      have b := mod_bnd (N / 78 % 26 + stepOf N * k) (k := 26) (by decide)
      have g2 : gMul (.int (stepOf N)) (.int k) = some (.int (stepOf N * k)) := gMul_int (nat250 (by omega)) (nat250 (by omega))
      have e1 : gAdd (.str (strRep (sgn (N % 26)) (pplI N).toNat)) (.str (sgn ((N / 78 % 26 + stepOf N * k) % 26))) = some (.str _) := add_str (by rw [sgn_length]; omega)
      have e2 : gAdd (.str (strRep (sgn (N % 26)) (pplI N).toNat ++ sgn ((N / 78 % 26 + stepOf N * k) % 26))) (.str (strRep (sgn (N % 26)) (pszI N - 1 - pplI N).toNat)) = some (.str (poolB N k)) := by
        rw [add_str (by rw [str_append_length, sgn_length]; omega)]
        rfl
      have ix2 : gIx (.str "abcdefghijklmnopqrstuvwxyz") (.int ((N / 78 + stepOf N * k) % 26)) = some (.str (sgn ((N / 78 % 26 + stepOf N * k) % 26))) := by
        rw [show (N / 78 + stepOf N * k) % 26 = (N / 78 % 26 + stepOf N * k) % 26 by omega]
        exact ix_abc b.1 b.2
      generalize sgn ((N / 78 % 26 + stepOf N * k) % 26) = Z at e1 e2 ix2
      simp only [wipeR]
      simp [g2, ix2, e1, e2])]
    rw [Res.out_ok]
    unfold namesD
    rw [List.map_map]; rfl
theorem worth_ok (z : Int) : ∃ y, m__law_worth [.int z] = .ok (.int y) ∧ -T60 < y ∧ y < T60 := by
  have p18 : gPow (.int 10) (.int 18) = some (.int (10 ^ 18)) := gPow_10 (k := 18) (by decide)
  have p17 : gPow (.int 10) (.int 17) = some (.int (10 ^ 17)) := gPow_10 (k := 17) (by decide)
  have d5 : ∀ z : Int, gDiv (.int z) (.int 5) = some (.int (z / 5)) := fun z => gDiv_int (by decide) (by decide)
  have e5 : gMul (.int 5) (.int (10 ^ 17)) = some (.int (5 * 10 ^ 17)) := gMul_int (by decide) (by decide)
  have e2 : gMul (.int 2) (.int T60) = some (.int (2 * T60)) := gMul_int (by decide) (by decide)
  have m18 : gMod (.int (z / 5)) (.int (10 ^ 18)) = some (.int (z / 5 % 10 ^ 18)) := gMod_int (by decide)
  have mT : gMod (.int (z / 5)) (.int (2 * T60 - 1)) = some (.int (z / 5 % (2 * T60 - 1))) := gMod_int (by decide)
  have b18 := mod_bnd (z / 5) (k := 10 ^ 18) (by decide)
  have bT := mod_bnd (z / 5) (k := 2 * T60 - 1) (by decide)
  have b19 := mod_bnd (z / 5) (k := 19) (by decide)
  have t18 : (10 : Int) ^ 18 < T60 := by decide
  have tp : 19 < T60 := by decide
  have h17 : (10 : Int) ^ 17 * 10 = 10 ^ 18 := by decide
  generalize hq18 : (10 : Int) ^ 18 = q18 at *
  generalize hq17 : (10 : Int) ^ 17 = q17 at *
  suffices h : ∃ y, b__law_worth ([D.int z].map some ++ List.replicate (1 - [D.int z].length) none) = .rt (.int y) ∧ -T60 < y ∧ y < T60 by
    obtain ⟨y, e, h⟩ := h
    refine ⟨y, ?_, h⟩
    rw [m__law_worth]
    exact call_rt e
  rw [b__law_worth]
  simp only [List.map_cons, List.map_nil, List.length_cons, List.length_nil, List.cons_append, List.nil_append, List.replicate, Nat.zero_add, Nat.reduceAdd, Nat.reduceSub, List.set_cons_zero, List.set_cons_succ]
  have b0 := mod_bnd z (k := 5) (by decide)
  have : z % 5 = 0 ∨ z % 5 = 1 ∨ z % 5 = 2 ∨ z % 5 = 3 ∨ z % 5 = 4 := by omega
  rcases this with h | h | h | h | h
  · exact ⟨z / 5 % 19 - 9, by simp [h, d5], by omega, by omega⟩
  · exact ⟨z / 5 % 19 - 9, by simp [h, d5], by omega, by omega⟩
  · exact ⟨z / 5 % q18 - 5 * q17, by simp [h, d5, p18, p17, e5, m18], by omega, by omega⟩
  · exact ⟨z / 5 % (2 * T60 - 1) - T60 + 1, by simp [h, d5, pow60, e2, mT], by omega, by omega⟩
  · exact ⟨0, by simp [h], by omega, by omega⟩
theorem drawnk_ok (ns : List Int) (hl : ns.length ≤ 1000) (k : Nat) (hk : k < 100000) : ∃ y, m__law_drawn [.scr ns, .int k] = .ok (.int y) := by
  suffices h : ∃ y, b__law_drawn ([D.scr ns, D.int k].map some ++ List.replicate (5 - [D.scr ns, D.int k].length) none) = .rt (.int y) by
    obtain ⟨y, e⟩ := h
    refine ⟨y, ?_⟩
    rw [m__law_drawn]
    exact call_rt e
  rw [b__law_drawn]
  simp only [List.map_cons, List.map_nil, List.length_cons, List.length_nil, List.cons_append, List.nil_append, List.replicate, Nat.zero_add, Nat.reduceAdd, Nat.reduceSub, List.set_cons_zero, List.set_cons_succ]
  obtain ⟨m, hm⟩ : ∃ m : Nat, max 1 (min (ns.length : Int) 63 - 5) = m := ⟨(max 1 (min (ns.length : Int) 63 - 5)).toNat, by omega⟩
  have mge : 1 ≤ m := by omega
  have mle : m ≤ 63 := by omega
  have mpos : (0 : Int) < m := by omega
  rw [seq_set (d := .int m) (by simp [hm])]
  simp only [List.map_cons, List.map_nil, List.length_cons, List.length_nil, List.cons_append, List.nil_append, List.replicate, Nat.zero_add, Nat.reduceAdd, Nat.reduceSub, List.set_cons_zero, List.set_cons_succ]
  have cc : m__law_cell_at [.scr ns, .int (5 + (k : Int) % m)] = .ok (.int (cel ns (5 + k % m))) := cellat ns (5 + k % m) (by simp)
  rw [seq_set (d := .int (cel ns (5 + k % m))) (by simp [gMod_int mpos, cc])]
  simp only [List.map_cons, List.map_nil, List.length_cons, List.length_nil, List.cons_append, List.nil_append, List.replicate, Nat.zero_add, Nat.reduceAdd, Nat.reduceSub, List.set_cons_zero, List.set_cons_succ]
  generalize cel ns (5 + k % m) = z
  by_cases h : k < m
  · exact ⟨z, by simp [h]⟩
  · rw [sSeq_eq, show sIf (mT (m2 gLt (mVar 1) (mVar 2))) (sRet (mVar 3)) (sNil) [some (.scr ns), some (.int k), some (.int m), some (.int z), none] = .nx _ from by simp [h]; rfl, Out.nx_bind]
    have a := mod_bnd z (k := 2147483647) (by decide)
    have e1 : gMul (.int (z % 2147483647)) (.int 48271) = some (.int (z % 2147483647 * 48271)) := gMul_int (big250 a.1 (by omega)) (by decide)
    have gd : gDiv (.int k) (.int m) = some (.int (((k / m : Nat) : Int))) := by
      rw [gDiv_int mpos (Nat.lt_trans (log2_lt (k := 64) (show (m : Int).natAbs < 2 ^ 64 by omega) (by decide)) (by decide))]
      simp
    have kd : k / m ≤ k := Nat.div_le_self _ _
    generalize k / m = qn at gd kd
    have e2 : gMul (.int (qn : Int)) (.int 7919) = some (.int ((qn : Int) * 7919)) := gMul_int (big250 (by omega) (by omega)) (by decide)
    have gm : ∀ y : Int, gMod (.int y) (.int 2147483647) = some (.int (y % 2147483647)) := fun y => gMod_int (by decide)
    have gm2 : ∀ y : Int, gMod (.int y) (.int 2147483629) = some (.int (y % 2147483629)) := fun y => gMod_int (by decide)
    generalize (qn : Int) = q at *
    obtain ⟨w, hw⟩ : ∃ w, (z % 2147483647 * 48271 + q * 7919 + k) % 2147483647 = w := ⟨_, rfl⟩
    have wb := mod_bnd (z % 2147483647 * 48271 + q * 7919 + k) (k := 2147483647) (by decide)
    rw [hw] at wb
    have e3 : gMul (.int w) (.int w) = some (.int (w * w)) := gMul_int (big250 wb.1 (by omega)) (big250 wb.1 (by omega))
    rw [seq_set (d := .int w) (by
      simp only [m2_eq, mVar_eq, mC_eq, List.getElem?_cons_zero, List.getElem?_cons_succ, Res.bind_ok, gm, ofO_some, e1, gAdd_int, gd, e2, hw])]
    simp only [List.map_cons, List.map_nil, List.length_cons, List.length_nil, List.cons_append, List.nil_append, List.replicate, Nat.zero_add, Nat.reduceAdd, Nat.reduceSub, List.set_cons_zero, List.set_cons_succ]
    exact ⟨w * w % 2147483629, by
      simp only [sRet_eq, m2_eq, mVar_eq, mC_eq, List.getElem?_cons_zero, List.getElem?_cons_succ, Res.bind_ok, e3, ofO_some, gm2, Res.out_ok]⟩
def wdr (ns : List Int) (k : Nat) : Int := match (m__law_drawn [.scr ns, .int k]).bind fun d => m__law_worth [d] with
  | .ok (.int y) => y
  | _ => 0
theorem wdr_ok (ns : List Int) (hl : ns.length ≤ 1000) (k : Nat) (hk : k < 100000) : ∃ z, m__law_drawn [.scr ns, .int k] = .ok (.int z) ∧ m__law_worth [.int z] = .ok (.int (wdr ns k)) ∧ -T60 < wdr ns k ∧ wdr ns k < T60 := by
  obtain ⟨z, ez⟩ := drawnk_ok ns hl k hk
  obtain ⟨y, ey, b⟩ := worth_ok z
  have : wdr ns k = y := by
    unfold wdr
    rw [ez, Res.bind_ok, ey]
  rw [this]
  exact ⟨z, ez, ey, b⟩
structure Tops (ts : List Int) (T : Nat → Nat) : Prop where
  at' : ∀ j : Nat, j < 4 → gIx (.lst (ts.map D.int)) (.int j) = some (.int (T j))
  lo : ∀ j : Nat, j < 4 → 1 ≤ T j ∧ T j ≤ 8
  way : ∀ j : Nat, j < 4 → T j ^ (j + 1) ≤ 256
theorem ways_pow {t : Nat} : ∀ {hs : List Hand}, (∀ h ∈ hs, h.words.length ≤ t) → ways hs ≤ t ^ hs.length
  | [], _ => Nat.le_refl _
  | h :: hs, ho => by
    have a := ho h List.mem_cons_self
    have b := ways_pow (hs := hs) fun g hg => ho g (List.mem_cons_of_mem _ hg)
    show h.words.length * ways hs ≤ t ^ (hs.length + 1)
    rw [Nat.pow_succ, Nat.mul_comm (t ^ hs.length)]
    exact Nat.mul_le_mul a b
theorem parts_are (ns : List Int) (hl : ns.length ≤ 63) {ts : List Int} {T : Nat → Nat} (hT : Tops ts T) :
    ∃ outs hs, m__law_parts [.scr ns, .lst (ts.map D.int)] = .ok (.tup [namesD outs, handsD hs]) ∧ AreNames outs 8 ∧ HandsOk outs.length hs := by
  have d3 : ∀ (z k : Int), 0 < k → k < 1000 → gDiv (.int z) (.int k) = some (.int (z / k)) := fun z k h1 h2 => gDiv_int h1 (Nat.lt_trans (log2_lt (k := 64) (show k.natAbs < 2 ^ 64 by omega) (by decide)) (by decide))
  suffices h : ∃ outs hs, b__law_parts ([D.scr ns, .lst (ts.map D.int)].map some ++ List.replicate (13 - [D.scr ns, .lst (ts.map D.int)].length) none) = .rt (.tup [namesD outs, handsD hs]) ∧ AreNames outs 8 ∧ HandsOk outs.length hs by
    obtain ⟨outs, hs, e, h⟩ := h
    refine ⟨outs, hs, ?_, h⟩
    rw [m__law_parts]
    exact call_rt e
  rw [b__law_parts]
  generalize hLt : (.lst (ts.map D.int) : D) = Lt at *
  simp only [List.map_cons, List.map_nil, List.length_cons, List.length_nil, List.cons_append, List.nil_append, List.replicate, Nat.zero_add, Nat.reduceAdd, Nat.reduceSub, List.set_cons_zero, List.set_cons_succ]
  have a0 := cellat ns (i := 0) 0 rfl
  have a1 := cellat ns (i := 1) 1 rfl
  have a2 := cellat ns (i := 2) 2 rfl
  have a3 := cellat ns (i := 3) 3 rfl
  rw [seq_set (d := .int (cel ns 0)) (by simp [a0]), seq_set (d := .int (cel ns 1)) (by simp [a1])]
  simp only [List.map_cons, List.map_nil, List.length_cons, List.length_nil, List.cons_append, List.nil_append, List.replicate, Nat.zero_add, Nat.reduceAdd, Nat.reduceSub, List.set_cons_zero, List.set_cons_succ]
  generalize cel ns 0 = f at *
  generalize cel ns 1 = sh at *
  have b8 := mod_bnd sh (k := 8) (by decide)
  obtain ⟨p, hp⟩ : ∃ p : Nat, 1 + sh % 8 = p := ⟨(1 + sh % 8).toNat, by omega⟩
  have po := pool_ok f (many := p) (by omega)
  have pa := pool_are f (many := p) (by omega) (by omega)
  have pl := pool_len (c := f) (many := p)
  rw [seq_set (d := namesD (pool f p)) (by simp [hp, po])]
  simp only [List.map_cons, List.map_nil, List.length_cons, List.length_nil, List.cons_append, List.nil_append, List.replicate, Nat.zero_add, Nat.reduceAdd, Nat.reduceSub, List.set_cons_zero, List.set_cons_succ]
  refine ⟨pool f p, ?_⟩
  rw [pl]
  generalize pool f p = outs at *
  rw [seq_set (d := .lst []) (by simp [nil_l]), seq_set (d := .int 0) (by simp)]
  simp only [List.map_cons, List.map_nil, List.length_cons, List.length_nil, List.cons_append, List.nil_append, List.replicate, Nat.zero_add, Nat.reduceAdd, Nat.reduceSub, List.set_cons_zero, List.set_cons_succ]
  have b4 := mod_bnd (sh / 8) (k := 4) (by decide)
  obtain ⟨n, hn⟩ : ∃ n : Nat, sh / 8 % 4 = n := ⟨(sh / 8 % 4).toNat, by omega⟩
  have hn4 : n < 4 := by omega
  obtain ⟨hT1, hT2⟩ := hT.lo n hn4
  have hTa : gIx Lt (.int n) = some (.int (T n)) := by rw [← hLt]; exact hT.at' n hn4
  have hTw := hT.way n hn4
  generalize T n = tt at *
  rw [sSeq_eq]
  generalize hb : sSeq (sSet 8 _) _ = b
  -- the names' seed
  have c2 : ∃ y, gIx (.lst [.int f, .int (f / 7 + 2)]) (.int (sh / 96 % 2)) = some (.int y) := by
    have := mod_bnd (sh / 96) (k := 2) (by decide)
    have : sh / 96 % 2 = 0 ∨ sh / 96 % 2 = 1 := by omega
    rcases this with h | h <;> rw [h] <;> exact ⟨_, rfl⟩
  obtain ⟨y2, c2⟩ := c2
  have two : ∀ a b : D, gLst [a, b] = some (.lst [a, b]) := fun a b => gLst_eq (show 2 ≤ sizeLine by decide)
  have three : ∀ a b c : D, gLst [a, b, c] = some (.lst [a, b, c]) := fun a b c => gLst_eq (show 3 ≤ sizeLine by decide)
  have four : gLst [.int 1, .int 9, .int 83, .int 761] = some (.lst [.int 1, .int 9, .int 83, .int 761]) := gLst_eq (show 4 ≤ sizeLine by decide)
  have p4 := pool_ok y2 (many := 4) (by decide)
  obtain ⟨ρ', e, x7, x8, x9, x10, x11, x12, hs, K, ok, nm, wd, hk, rfl⟩ := for_r (j := 7) (mi := m2 gAdd (mC (.int 1)) (m2 gMod (m2 gDiv (mVar 3) (mC (.int 8))) (mC (.int 4)))) (b := b) (ρ := [some (.scr ns), some Lt, some (.int f), some (.int sh), some (namesD outs), some (.lst []), some (.int 0), none, none, none, none, none, none])
    (fun j ρ => ∃ x7 x8 x9 x10 x11 x12, ∃ (hs : List Hand) (K : Nat), (∀ h ∈ hs, h.Ok p) ∧ hs.map Hand.name = (List.range j).map (poolN y2) ∧ (∀ h ∈ hs, h.words.length ≤ tt) ∧ K ≤ j * 100 ∧ ρ = [some (.scr ns), some Lt, some (.int f), some (.int sh), some (namesD outs), some (handsD hs), some (.int K), x7, x8, x9, x10, x11, x12]) (n + 1) (by simp [d3, hn]; omega) (by omega) ⟨_, _, _, _, _, _, [], 0, by simp, rfl, by simp, by omega, rfl⟩ (by
      rintro j ρ hj ⟨x7, x8, x9, x10, x11, x12, hs, K, ok, nm, wd, hK, rfl⟩
      subst hb
      have hlen : hs.length = j := by have := congrArg List.length nm; simpa using this
      simp only [List.map_cons, List.map_nil, List.length_cons, List.length_nil, List.cons_append, List.nil_append, List.replicate, Nat.zero_add, Nat.reduceAdd, Nat.reduceSub, List.set_cons_zero, List.set_cons_succ]
      have dj : ∃ q : Int, gIx (.lst [.int 1, .int 9, .int 83, .int 761]) (.int j) = some (.int q) ∧ 0 < q ∧ q < 1000 := by
        have : j = 0 ∨ j = 1 ∨ j = 2 ∨ j = 3 := by omega
        rcases this with rfl | rfl | rfl | rfl <;> exact ⟨_, rfl, by decide, by decide⟩
      obtain ⟨q, dj, q0, q1⟩ := dj
      have tb := mod_bnd (cel ns 2 / q) (k := (tt : Int)) (by omega)
      obtain ⟨sz, hsz⟩ : ∃ s : Nat, 1 + cel ns 2 / q % tt = s := ⟨(1 + cel ns 2 / q % tt).toNat, by omega⟩
      rw [seq_set (d := .int sz) (by simp [a2, four, dj, d3 _ q q0 q1, d3, hn, hTa, gMod_int (show (0 : Int) < tt by omega), hsz])]
      simp only [List.map_cons, List.map_nil, List.length_cons, List.length_nil, List.cons_append, List.nil_append, List.replicate, Nat.zero_add, Nat.reduceAdd, Nat.reduceSub, List.set_cons_zero, List.set_cons_succ]
      have c3 : ∃ y, gIx (.lst [.int f, .int (f / 5 + j), .int (cel ns 3 + 31 * j)]) (.int (sh / 32 % 3)) = some (.int y) := by
        have := mod_bnd (sh / 32) (k := 3) (by decide)
        have : sh / 32 % 3 = 0 ∨ sh / 32 % 3 = 1 ∨ sh / 32 % 3 = 2 := by omega
        rcases this with h | h | h <;> rw [h] <;> exact ⟨_, rfl⟩
      obtain ⟨y3, c3⟩ := c3
      have e31 : gMul (.int 31) (.int j) = some (.int (31 * (j : Int))) := gMul_int (nat250 (by decide)) (nat250 (by omega))
      have pw := pool_ok y3 (many := sz) (by omega)
      have paw := pool_are y3 (many := sz) (by omega) (by omega)
      have plw := pool_len (c := y3) (many := sz)
      rw [seq_set (d := namesD (pool y3 sz)) (by simp [a3, three, d3, e31, c3, pw])]
      simp only [List.map_cons, List.map_nil, List.length_cons, List.length_nil, List.cons_append, List.nil_append, List.replicate, Nat.zero_add, Nat.reduceAdd, Nat.reduceSub, List.set_cons_zero, List.set_cons_succ]
      generalize pool y3 sz = words at *
      rw [seq_set (d := .lst []) (by simp [nil_l])]
      simp only [List.map_cons, List.map_nil, List.length_cons, List.length_nil, List.cons_append, List.nil_append, List.replicate, Nat.zero_add, Nat.reduceAdd, Nat.reduceSub, List.set_cons_zero, List.set_cons_succ]
      rw [sSeq_eq]
      generalize hb : sSeq (sApp 10 _ _) _ = b
      obtain ⟨ρ', e, z11, z12, ws, K2, wlen, wrow, wnum, hK2, rfl⟩ := for_m (j := 11) (m := iAny (mVar 9)) (b := b) (ρ := [some (.scr ns), some Lt, some (.int f), some (.int sh), some (namesD outs), some (handsD hs), some (.int K), some (.int j), some (.int sz), some (namesD words), some (.lst []), x11, x12])
        (fun t ρ => ∃ z11 z12, ∃ (ws : List (List Int)) (K2 : Nat), ws.length = t ∧ (∀ r ∈ ws, r.length = p) ∧ (∀ r ∈ ws, ∀ z ∈ r, -T60 < z ∧ z < T60) ∧ K2 = K + t * p ∧ ρ = [some (.scr ns), some Lt, some (.int f), some (.int sh), some (namesD outs), some (handsD hs), some (.int K2), some (.int j), some (.int sz), some (namesD words), some (wD ws), z11, z12]) words D.str (by simp [iLoc_names]) ⟨_, _, [], K, rfl, by simp, by simp, by omega, rfl⟩ (by
          rintro t w ρ hd ⟨z11, z12, ws, K2, wlen, wrow, wnum, hK2, rfl⟩
          subst hb
          have ht := (List.getElem?_eq_some_iff.mp hd).1
          have htp : t * p ≤ 8 * 8 := Nat.mul_le_mul (by omega) (by omega)
          simp only [List.map_cons, List.map_nil, List.length_cons, List.length_nil, List.cons_append, List.nil_append, List.replicate, Nat.zero_add, Nat.reduceAdd, Nat.reduceSub, List.set_cons_zero, List.set_cons_succ]
          have lc : mLc [12] (tgN 12) (iR1 (mL gLen (mA1 (mVar 4) (mA0)))) (tYesM) (mArgs m__law_worth (mA1 (mArgs m__law_drawn (mA1 (mVar 0) (mA1 (m2 gAdd (mVar 6) (mVar 12)) (mA0)))) (mA0))) [some (.scr ns), some Lt, some (.int f), some (.int sh), some (namesD outs), some (handsD hs), some (.int K2), some (.int j), some (.int sz), some (namesD words), some (wD ws), some (.str w), z12] = .ok (numsD ((List.range p).map fun i => wdr ns (K2 + i))) := by
            rw [lc_r (j := 12) p (fun i => .int (wdr ns (K2 + i))) (by simp [len_names, pl]) (by omega) (fun i hi => by
              obtain ⟨z, e1, e2, _⟩ := wdr_ok ns (by omega) (K2 + i) (by omega)
              have e1' : m__law_drawn [.scr ns, .int ((K2 : Int) + i)] = .ok (.int z) := by
                rw [show (K2 : Int) + i = ((K2 + i : Nat) : Int) by simp]; exact e1
              simp only [wipeR]
              simp [e1', e2])]
            unfold numsD
            rw [List.map_map]; rfl
          have ap : nApp (numsD ((List.range p).map fun i => wdr ns (K2 + i))) (wD ws) = some (wD (ws ++ [(List.range p).map fun i => wdr ns (K2 + i)])) := by
            unfold wD
            rw [nApp_lst (b24 (by rw [List.length_map]; omega)), List.map_append]; rfl
          refine ⟨[some (.scr ns), some Lt, some (.int f), some (.int sh), some (namesD outs), some (handsD hs), some (.int (K2 + p : Nat)), some (.int j), some (.int sz), some (namesD words), some (wD (ws ++ [(List.range p).map fun i => wdr ns (K2 + i)])), some (.str w), z12], by simp [lc, ap, len_names, pl], _, _, ws ++ [(List.range p).map fun i => wdr ns (K2 + i)], K2 + p, by simp [wlen], ?_, ?_, by rw [hK2, Nat.add_mul]; omega, rfl⟩
          · intro r hr
            rcases List.mem_append.mp hr with hr | hr
            · exact wrow r hr
            · rw [List.mem_singleton.mp hr]; simp
          · intro r hr z hz
            rcases List.mem_append.mp hr with hr | hr
            · exact wnum r hr z hz
            · rw [List.mem_singleton.mp hr] at hz
              obtain ⟨i, hi, rfl⟩ := List.mem_map.mp hz
              have := List.mem_range.mp hi
              obtain ⟨_, _, _, b⟩ := wdr_ok ns (by omega) (K2 + i) (by omega)
              exact b)
      rw [e, Out.nx_bind]
      have ixn : gIx (namesD (pool y2 4)) (.int j) = some (.str (poolN y2 j)) := names_ix (pool_at (by omega))
      have wl : words.length * p ≤ 8 * 8 := Nat.mul_le_mul (by omega) (by omega)
      have ap : nApp (Hand.d ⟨poolN y2 j, words, ws⟩) (handsD hs) = some (handsD (hs ++ [⟨poolN y2 j, words, ws⟩])) := by
        unfold handsD
        rw [nApp_lst (b24 (by rw [List.length_map]; omega)), List.map_append]; rfl
      have tp : gTup [.str (poolN y2 j), namesD words, wD ws] = some (Hand.d ⟨poolN y2 j, words, ws⟩) := gTup_eq (show 3 ≤ sizeLine by decide)
      refine ⟨[some (.scr ns), some Lt, some (.int f), some (.int sh), some (namesD outs), some (handsD (hs ++ [⟨poolN y2 j, words, ws⟩])), some (.int K2), some (.int j), some (.int sz), some (namesD words), some (wD ws), z11, z12], ?_, _, _, _, _, _, _, hs ++ [⟨poolN y2 j, words, ws⟩], K2, ?_, ?_, ?_, by omega, rfl⟩
      · have p4' : m__law_pool [.int y2, .int 4] = .ok (namesD (pool y2 4)) := p4
        simp [d3, two, c2, p4', ixn, tp, ap]
      · intro h hh
        rcases List.mem_append.mp hh with hh | hh
        · exact ok h hh
        · rw [List.mem_singleton.mp hh]
          exact ⟨pool_name y2 (by omega), paw, wlen, wrow, wnum⟩
      · rw [List.map_append, nm, List.range_succ, List.map_append]; rfl
      · intro h hh
        rcases List.mem_append.mp hh with hh | hh
        · exact wd h hh
        · rw [List.mem_singleton.mp hh]
          show words.length ≤ tt
          omega)
  rw [e, Out.nx_bind]
  have hlen : hs.length = n + 1 := by have := congrArg List.length nm; simpa using this
  refine ⟨hs, by simp [tup2], pa, ?_⟩
  exact {
    lo := by omega
    hi := by omega
    ok := ok
    many := by
      have := ways_pow wd
      rw [hlen] at this
      omega
    nd := by
      rw [nm, List.Nodup, List.pairwise_map]
      refine List.Pairwise.imp_of_mem ?_ (List.nodup_range (n := n + 1))
      intro x y hx hy hne e
      have := List.mem_range.mp hx
      have := List.mem_range.mp hy
      exact hne (pool_inj y2 (by omega) (by omega) e) }
end TW
-- TWRows
namespace TW
open PySem PySem.Spec PyProof.Rows L2
theorem crossR_snoc {rows : List (List Str)} {r : List Str} {words : List Str} : crossR (rows ++ [r]) words = crossR rows words ++ words.map (fun w => r ++ [w]) := by
  unfold crossR; rw [List.flatMap_append]; simp
theorem rowsD_snoc {rows : List (List Str)} {r : List Str} (h : rows.length < 1000000) : nApp (rowT r) (rowsD rows) = some (rowsD (rows ++ [r])) := by
  unfold rowsD
  rw [nApp_lst (b24 (by rw [List.length_map]; exact h)), List.map_append]; rfl
theorem rowT_add {r : List Str} {w : Str} (h : r.length < 1000) : gAdd (rowT r) (.tup [.str w]) = some (rowT (r ++ [w])) := by
  unfold rowT
  rw [gAdd_tup (b24' (by simp; omega)), List.map_append]; rfl
theorem one_t {x : D} : gTup [x] = some (.tup [x]) := gTup_eq (show 1 ≤ sizeLine by decide)
theorem cross_loop {mi : Rho → Res (List D)} {x0 x2 x4 x5 : Option D} {rows : List (List Str)} {words : List Str} (hm : ∀ x3 x4 x5, mi [x0, some (rowsD rows), x2, x3, x4, x5] = .ok (words.map D.str)) (hl : rows.length * words.length < 1000000) (hr : ∀ r ∈ rows, r.length < 1000) :
    ∃ y4 y5, sFor (tgN 4) (iAny (mVar 1)) (sFor (tgN 5) mi (sApp 3 (pNil) (m2 gAdd (mVar 4) (mL gTup (mA1 (mVar 5) (mA0)))))) [x0, some (rowsD rows), x2, some (.lst []), x4, x5] = .nx [x0, some (rowsD rows), x2, some (rowsD (crossR rows words)), y4, y5] := by
  obtain ⟨ρ', e, y4, y5, rfl⟩ := for_m (j := 4) (m := iAny (mVar 1)) (b := sFor (tgN 5) mi (sApp 3 (pNil) (m2 gAdd (mVar 4) (mL gTup (mA1 (mVar 5) (mA0)))))) (ρ := [x0, some (rowsD rows), x2, some (.lst []), x4, x5])
    (fun i ρ => ∃ y4 y5, ρ = [x0, some (rowsD rows), x2, some (rowsD (crossR (rows.take i) words)), y4, y5]) rows rowT (by simp [rowsD]) ⟨_, _, rfl⟩ (by
      rintro i r ρ hd ⟨y4, y5, rfl⟩
      have hrm := hr r (List.mem_of_getElem? hd)
      have hi : i < rows.length := (List.getElem?_eq_some_iff.mp hd).1
      have t1 : rows.take (i + 1) = rows.take i ++ [r] := by rw [List.take_add_one, hd]; rfl
      have hc : (rows.take i).length * words.length + words.length < 1000000 := by
        have : (i + 1) * words.length ≤ rows.length * words.length := Nat.mul_le_mul_right _ (by omega)
        rw [List.length_take, Nat.min_eq_left (by omega)]
        rw [Nat.add_mul, Nat.one_mul] at this
        omega
      simp only [List.map_cons, List.map_nil, List.length_cons, List.length_nil, List.cons_append, List.nil_append, List.replicate, Nat.zero_add, Nat.reduceAdd, Nat.reduceSub, List.set_cons_zero, List.set_cons_succ]
      obtain ⟨ρ', e, z5, rfl⟩ := for_m (j := 5) (m := mi) (b := sApp 3 (pNil) (m2 gAdd (mVar 4) (mL gTup (mA1 (mVar 5) (mA0))))) (ρ := [x0, some (rowsD rows), x2, some (rowsD (crossR (rows.take i) words)), some (rowT r), y5])
        (fun j ρ => ∃ z5, ρ = [x0, some (rowsD rows), x2, some (rowsD (crossR (rows.take i) words ++ (words.take j).map fun w => r ++ [w])), some (rowT r), z5]) words D.str (hm _ _ _) ⟨y5, by simp⟩ (by
          rintro j w ρ hw ⟨z5, rfl⟩
          have hj : j < words.length := (List.getElem?_eq_some_iff.mp hw).1
          have t2 : words.take (j + 1) = words.take j ++ [w] := by rw [List.take_add_one, hw]; rfl
          have ap := rowsD_snoc (rows := crossR (rows.take i) words ++ (words.take j).map fun w => r ++ [w]) (r := r ++ [w]) (by
            have : (words.take j).length ≤ words.length := by rw [List.length_take]; omega
            rw [List.length_append, crossR_len, List.length_map]; omega)
          rw [t2, List.map_append, ← List.append_assoc]
          generalize crossR (rows.take i) words ++ (words.take j).map (fun w => r ++ [w]) = A at *
          simp only [List.map_cons, List.map_nil, List.length_cons, List.length_nil, List.cons_append, List.nil_append, List.replicate, Nat.zero_add, Nat.reduceAdd, Nat.reduceSub, List.set_cons_zero, List.set_cons_succ]
          refine ⟨[x0, some (rowsD rows), x2, some (rowsD (A ++ [r ++ [w]])), some (rowT r), some (.str w)], ?_, _, rfl⟩
          simp [one_t, rowT_add hrm, ap])
      rw [List.take_length] at e
      rw [t1, crossR_snoc]
      exact ⟨_, e, _, _, rfl⟩)
  rw [List.take_length] at e
  exact ⟨y4, y5, e⟩
theorem rowsW_snoc {ws : List (List Str)} {w : List Str} : rowsW (ws ++ [w]) = crossR (rowsW ws) w := by unfold rowsW; rw [List.foldl_append]; rfl
def wordsOf (hs : List Hand) : List (List Str) := hs.map Hand.words
theorem rowsW_len : ∀ hs : List Hand, (rowsW (wordsOf hs)).length = ways hs := by
  intro hs
  have : ∀ (hs : List Hand) (rows : List (List Str)), ((wordsOf hs).foldl crossR rows).length = rows.length * ways hs := by
    intro hs
    induction hs with
    | nil => intro rows; simp [wordsOf, ways]
    | cons h hs ih =>
      intro rows
      show ((wordsOf hs).foldl crossR (crossR rows h.words)).length = rows.length * (h.words.length * ways hs)
      rw [ih, crossR_len, Nat.mul_assoc]
  have := this hs [[]]
  simpa [rowsW] using this
theorem mem_crossR {rows : List (List Str)} {words : List Str} {x : List Str} : x ∈ crossR rows words ↔ ∃ r ∈ rows, ∃ w ∈ words, x = r ++ [w] := by
  unfold crossR
  rw [List.mem_flatMap]
  constructor
  · rintro ⟨r, hr, hx⟩
    obtain ⟨w, hw, rfl⟩ := List.mem_map.mp hx
    exact ⟨r, hr, w, hw, rfl⟩
  · rintro ⟨r, hr, w, hw, rfl⟩
    exact ⟨r, hr, List.mem_map.mpr ⟨w, hw, rfl⟩⟩
def Row : List (List Str) → List Str → Prop
  | [], r => r = []
  | w :: ws, r => ∃ x r', r = x :: r' ∧ x ∈ w ∧ Row ws r'
theorem row_snoc : ∀ {ws : List (List Str)} {w : List Str} {r : List Str}, Row (ws ++ [w]) r ↔ ∃ r' x, r = r' ++ [x] ∧ Row ws r' ∧ x ∈ w
  | [], w, r => by
    constructor
    · rintro ⟨x, r', rfl, hx, h⟩
      exact ⟨[], x, by rw [show r' = [] from h]; rfl, rfl, hx⟩
    · rintro ⟨r', x, rfl, h, hx⟩
      exact ⟨x, [], by rw [show r' = [] from h]; rfl, hx, rfl⟩
  | v :: ws, w, r => by
    constructor
    · rintro ⟨x, r', rfl, hx, h⟩
      obtain ⟨r2, y, rfl, h2, hy⟩ := row_snoc.mp h
      exact ⟨x :: r2, y, rfl, ⟨x, r2, rfl, hx, h2⟩, hy⟩
    · rintro ⟨r2, y, rfl, ⟨x, r', rfl, hx, h⟩, hy⟩
      exact ⟨x, r' ++ [y], rfl, hx, row_snoc.mpr ⟨r', y, rfl, h, hy⟩⟩
theorem row_iff {ws : List (List Str)} : ∀ {r : List Str}, r ∈ rowsW ws ↔ Row ws r := by
  suffices h : ∀ vs : List (List Str), (∀ r, r ∈ rowsW vs.reverse ↔ Row vs.reverse r) by
    intro r
    have := h ws.reverse r
    rwa [List.reverse_reverse] at this
  intro vs
  induction vs with
  | nil => intro r; simp [rowsW, Row]
  | cons v vs ih =>
    intro r
    rw [List.reverse_cons, rowsW_snoc, mem_crossR, row_snoc]
    constructor
    · rintro ⟨r', h, x, hx, rfl⟩; exact ⟨r', x, rfl, (ih r').mp h, hx⟩
    · rintro ⟨r', x, rfl, h, hx⟩; exact ⟨r', (ih r').mpr h, x, hx, rfl⟩
theorem Row.len : ∀ {ws : List (List Str)} {r : List Str}, Row ws r → r.length = ws.length
  | [], r, h => by rw [show r = [] from h]; rfl
  | w :: ws, r, ⟨x, r', e, _, h⟩ => by rw [e, List.length_cons, List.length_cons, Row.len h]
theorem Row.at : ∀ {ws : List (List Str)} {r : List Str}, Row ws r → ∀ {k : Nat} {w : List Str}, ws[k]? = some w → ∃ x, r[k]? = some x ∧ x ∈ w
  | w :: ws, r, ⟨x, r', e, hx, h⟩, 0, v, hv => by cases hv; exact ⟨x, by rw [e]; rfl, hx⟩
  | w :: ws, r, ⟨x, r', e, hx, h⟩, k + 1, v, hv => by
    obtain ⟨y, hy, hm⟩ := Row.at h (k := k) hv
    exact ⟨y, by rw [e]; exact hy, hm⟩
theorem rows_len_lt {hs : List Hand} {r : List Str} (h : r ∈ rowsW (wordsOf hs)) : r.length = hs.length := by
  rw [(row_iff.mp h).len]; unfold wordsOf; simp
theorem crossed_gen {hs : List Hand} (hl : hs.length < 900) (hw : ways hs < 1000) (ho : ∀ h ∈ hs, 1 ≤ h.words.length) : m_crossed [.lst (hs.map fun h => .ftup (h.words.map D.str))] = .ok (rowsD (rowsW (wordsOf hs))) := by
  rw [m_crossed]
  refine call_rt ?_
  rw [b_crossed]
  simp only [List.map_cons, List.map_nil, List.length_cons, List.length_nil, List.cons_append, List.nil_append, List.replicate, Nat.zero_add, Nat.reduceAdd, Nat.reduceSub, List.set_cons_zero, List.set_cons_succ]
  rw [seq_set (d := rowsD [[]]) (by
    simp [show gTup [] = some (.tup []) from gTup_eq (Nat.zero_le _), one_l]; rfl)]
  simp only [List.map_cons, List.map_nil, List.length_cons, List.length_nil, List.cons_append, List.nil_append, List.replicate, Nat.zero_add, Nat.reduceAdd, Nat.reduceSub, List.set_cons_zero, List.set_cons_succ]
  rw [sSeq_eq]
  generalize hb : sSeq (sSet 3 _) _ = b
  generalize hx0 : (D.lst (hs.map fun h => .ftup (h.words.map D.str))) = x0
  obtain ⟨ρ', e, x2, x3, x4, x5, rfl⟩ := for_m (j := 2) (m := iAny (mVar 0)) (b := b) (ρ := [some x0, some (rowsD [[]]), none, none, none, none])
    (fun i ρ => ∃ x2 x3 x4 x5, ρ = [some x0, some (rowsD (rowsW (wordsOf (hs.take i)))), x2, x3, x4, x5]) hs (fun h => .ftup (h.words.map D.str)) (by subst hx0; simp) ⟨_, _, _, _, rfl⟩ (by
      rintro i h ρ hd ⟨x2, x3, x4, x5, rfl⟩
      subst hb
      have hi : i < hs.length := (List.getElem?_eq_some_iff.mp hd).1
      have t1 : hs.take (i + 1) = hs.take i ++ [h] := by rw [List.take_add_one, hd]; rfl
      have w1 := ways_take ho (i + 1)
      rw [t1, ways_snoc] at w1
      have t2 : rowsW (wordsOf (hs.take (i + 1))) = crossR (rowsW (wordsOf (hs.take i))) h.words := by
        rw [t1, ← rowsW_snoc]; unfold wordsOf; rw [List.map_append]; rfl
      have hr : ∀ r ∈ rowsW (wordsOf (hs.take i)), r.length < 1000 := fun r hr => by
        have := rows_len_lt hr
        rw [List.length_take] at this; omega
      have rl := rowsW_len (hs.take i)
      rw [t2]
      generalize rowsW (wordsOf (hs.take i)) = R at *
      simp only [List.map_cons, List.map_nil, List.length_cons, List.length_nil, List.cons_append, List.nil_append, List.replicate, Nat.zero_add, Nat.reduceAdd, Nat.reduceSub, List.set_cons_zero, List.set_cons_succ]
      rw [seq_set (d := .lst []) (by simp [nil_l])]
      simp only [List.map_cons, List.map_nil, List.length_cons, List.length_nil, List.cons_append, List.nil_append, List.replicate, Nat.zero_add, Nat.reduceAdd, Nat.reduceSub, List.set_cons_zero, List.set_cons_succ]
      obtain ⟨y4, y5, e⟩ := cross_loop (mi := iAny (mVar 2)) (x0 := some x0) (x2 := some (.ftup (h.words.map D.str))) (x4 := x4) (x5 := x5) (rows := R) (words := h.words) (fun x3 x4 x5 => by simp) (by rw [rl]; omega) hr
      refine ⟨[some x0, some (rowsD (crossR R h.words)), some (.ftup (h.words.map D.str)), some (rowsD (crossR R h.words)), y4, y5], ?_, _, _, _, _, rfl⟩
      rw [sSeq_eq, e]
      simp)
  rw [e, List.take_length]
  simp
theorem HandsOk.pos {p : Nat} {hs : List Hand} (h : HandsOk p hs) : ∀ g ∈ hs, 1 ≤ g.words.length := fun g hg => (h.ok g hg).words.lo
end TW
-- TWScores
namespace TW
open PySem PySem.Spec PyProof.Rows L2
def wf (h : Hand) (w : Str) (j : Nat) : Int := (h.worths.getD (h.words.idxOf w) []).getD j 0
def nilH : Hand := ⟨Str.empty, [], []⟩
def hat (hs : List Hand) (k : Nat) : Hand := hs.getD k nilH
def wat (row : List Str) (k : Nat) : Str := row.getD k Str.empty
def sc (hs : List Hand) (W C : Nat → Int) (row : List Str) : Nat → Nat → Int
  | 0, j => C j
  | k + 1, j => sc hs W C row k j + W k * wf (hat hs k) (wat row k) j
theorem hat_at {hs : List Hand} {k : Nat} (h : k < hs.length) : hs[k]? = some (hat hs k) := by unfold hat; rw [List.getD_eq_getElem?_getD, List.getElem?_eq_getElem h]; rfl
theorem hat_mem {hs : List Hand} {k : Nat} (h : k < hs.length) : hat hs k ∈ hs := List.mem_of_getElem? (hat_at h)
theorem wat_at {row : List Str} {k : Nat} (h : k < row.length) : row[k]? = some (wat row k) := by unfold wat; rw [List.getD_eq_getElem?_getD, List.getElem?_eq_getElem h]; rfl
def RowOf (hs : List Hand) (row : List Str) : Prop := row.length = hs.length ∧ ∀ k, k < hs.length → wat row k ∈ (hat hs k).words
theorem Row.of {hs : List Hand} {row : List Str} (h : Row (wordsOf hs) row) : RowOf hs row := by
  have hl : row.length = hs.length := by rw [h.len]; unfold wordsOf; simp
  refine ⟨hl, fun k hk => ?_⟩
  obtain ⟨x, e, hx⟩ := h.at (k := k) (w := (hat hs k).words) (by unfold wordsOf; rw [List.getElem?_map, hat_at hk]; rfl)
  rw [wat_at (by omega)] at e
  cases e
  exact hx
section
variable {hs : List Hand} {outs : List Str} {p : Nat} {row : List Str} {W C : Nat → Int}
theorem house_hand {k : Nat} (hk : k < hs.length) : gIx (.tup (hs.map Hand.m)) (.int k) = some (hat hs k).m := by
  show atI (hs.map Hand.m) (k : Int) = _
  rw [atI_nat (by simpa using hk), List.getElem?_map, hat_at hk]; rfl
theorem hands_hand {k : Nat} (hk : k < hs.length) : gIx (handsD hs) (.int k) = some (hat hs k).d := by
  show atI (hs.map Hand.d) (k : Int) = _
  rw [atI_nat (by simpa using hk), List.getElem?_map, hat_at hk]; rfl
theorem idx_find {l : List Str} {w : Str} (h : w ∈ l) : l.findIdx? (· == w) = some (l.idxOf w) :=
  List.findIdx?_eq_some_of_exists ⟨w, h, beq_self_eq_true w⟩
theorem index_ft {l : List Str} {w : Str} (h : w ∈ l) : gIndex (.ftup (l.map D.str)) (.str w) = some (.int (l.idxOf w)) := by
  show ((strsOf (l.map D.str)).bind fun ss => (ss.findIdx? (· == w)).map fun j : Nat => D.int j) = _
  rw [strsOf_map]
  show ((l.findIdx? (· == w)).map fun j : Nat => D.int j) = _
  rw [idx_find h]; rfl
theorem index_names {l : List Str} {w : Str} (h : w ∈ l) : gIndex (namesD l) (.str w) = some (.int (l.idxOf w)) := by
  show ((strsOf (l.map D.str)).bind fun ss => (ss.findIdx? (· == w)).map fun j : Nat => D.int j) = _
  rw [strsOf_map]
  show ((l.findIdx? (· == w)).map fun j : Nat => D.int j) = _
  rw [idx_find h]; rfl
theorem Hand.Ok.wor {h : Hand} (o : h.Ok p) {w : Str} (hw : w ∈ h.words) : ∃ r, h.worths[h.words.idxOf w]? = some r ∧ r.length = p ∧ (∀ z ∈ r, -T60 < z ∧ z < T60) ∧ ∀ j, wf h w j = r.getD j 0 := by
  have hi := List.idxOf_lt_length_iff.mpr hw
  have hl : h.words.idxOf w < h.worths.length := by rw [o.len]; exact hi
  refine ⟨h.worths[h.words.idxOf w], List.getElem?_eq_getElem hl, o.row _ (List.getElem_mem _), o.num _ (List.getElem_mem _), fun j => ?_⟩
  unfold wf
  rw [List.getD_eq_getElem?_getD (l := h.worths), List.getElem?_eq_getElem hl]; rfl
theorem map_range {α β : Type} {r : List α} {d : α} (g : α → β) : r.map g = (List.range r.length).map fun j => g (r.getD j d) := by
  refine List.ext_getElem (by simp) fun i h1 h2 => ?_
  rw [List.getElem_map, List.getElem_map, List.getElem_range]
  rw [List.getD_eq_getElem?_getD, List.getElem?_eq_getElem (by simpa using h1)]; rfl
theorem nums_row {r : List Int} (h : r.length = p) : numsD r = rowD p fun j => r.getD j 0 := by
  unfold numsD rowD
  rw [map_range (d := 0) (r := r), h]
theorem worths_at {k : Nat} {h : Hand} (o : h.Ok p) {w : Str} (hw : w ∈ h.words) : ∃ r, gIx (.tup (h.worths.map tints)) (.int (h.words.idxOf w)) = some (tints r) ∧ gIx (wD h.worths) (.int (h.words.idxOf w)) = some (rowD p (wf h w)) ∧ r.length = p ∧ (∀ z ∈ r, -T60 < z ∧ z < T60) ∧ ∀ j, wf h w j = r.getD j 0 := by
  obtain ⟨r, e, a, b, c⟩ := o.wor hw
  have hl := (List.getElem?_eq_some_iff.mp e).1
  refine ⟨r, ?_, ?_, a, b, c⟩
  · show atI _ ((h.words.idxOf w : Nat) : Int) = _
    rw [atI_nat (by simpa using hl), List.getElem?_map, e]; rfl
  · rw [show rowD p (wf h w) = numsD r from (rowD_congr fun j _ => c j).trans (nums_row a).symm]
    show atI _ ((h.words.idxOf w : Nat) : Int) = _
    rw [atI_nat (by simpa using hl), List.getElem?_map, e]; rfl
end
end TW
-- TWBest
namespace TW
open PySem PySem.Spec PyProof.Rows L2
def best (f : Nat → Int) : Nat → Nat
  | 0 => 0
  | n + 1 => if f (best f n) < f n then n else best f n
section
variable {hs : List Hand} {outs : List Str} {p : Nat} {row : List Str} {W C : Nat → Int}
end
end TW
-- TWTable
namespace TW
open PySem PySem.Spec PyProof.Rows L2
def rkey (r : List Str) : List Key := r.map Sum.inr
theorem rkey_inj {r s : List Str} (h : rkey r = rkey s) : r = s := by
  unfold rkey at h
  exact List.map_inj_right (fun x y e => Sum.inr.inj e) |>.mp h
theorem keysD_row : ∀ r : List Str, keysD (r.map D.str) = some (rkey r)
  | [] => rfl
  | x :: r => by show (keyD (.str x)).bind (fun k => (keysD (r.map D.str)).map fun s => k :: s) = _; rw [keysD_row r]; rfl
def tabD (rows : List (List Str)) (g : List Str → D) : D := .dT (rows.map rkey) (rows.map g)
theorem lookK_map {rows : List (List Str)} {g : List Str → D} {r : List Str} (h : r ∈ rows) : lookK (rows.map rkey) (rows.map g) (rkey r) = some (g r) := by
  induction rows with
  | nil => cases h
  | cons s rows ih =>
    show (if rkey s = rkey r then some (g s) else lookK (rows.map rkey) (rows.map g) (rkey r)) = _
    by_cases e : rkey s = rkey r
    · rw [if_pos e, rkey_inj e]
    · rw [if_neg e]
      rcases List.mem_cons.mp h with rfl | h
      · exact absurd rfl e
      · exact ih h
theorem tab_look {rows : List (List Str)} {g : List Str → D} {r : List Str} (h : r ∈ rows) : lookD (tabD rows g) (rowT r) = some (some (g r)) := by
  show (keysD (r.map D.str)).map (fun k => lookK (rows.map rkey) (rows.map g) k) = _
  rw [keysD_row]
  exact congrArg some (lookK_map h)
theorem tab_ix {rows : List (List Str)} {g : List Str → D} {r : List Str} (h : r ∈ rows) : gIx (tabD rows g) (rowT r) = some (g r) := by
  show (lookD (tabD rows g) (rowT r)).bind id = _
  rw [tab_look h]; rfl
theorem tab_nin {rows : List (List Str)} {g : List Str → D} {r : List Str} (h : r ∈ rows) : gNin (rowT r) (tabD rows g) = some (.bl false) := by
  show ((lookD (tabD rows g) (rowT r)).map fun o => D.bl o.isSome).bind _ = _
  rw [tab_look h]; rfl
theorem putL_new {κ : Type} [DecidableEq κ] {ks : List κ} {vs : List D} {k : κ} {v : D} (h : k ∉ ks) : putL ks vs k v = (ks ++ [k], vs ++ [v]) := by
  unfold putL
  rw [List.idxOf?_eq_none_iff.mpr h]
theorem tab_put {rows : List (List Str)} {g : List Str → D} {r : List Str} (h : r ∉ rows) (hl : rows.length < 1000000) : putD (tabD rows g) (rowT r) (g r) = some (tabD (rows ++ [r]) g) := by
  show (if (rows.map rkey).length < sizeLine then (keysD (r.map D.str)).map fun k => D.dT (putL (rows.map rkey) (rows.map g) k (g r)).1 (putL (rows.map rkey) (rows.map g) k (g r)).2 else none) = _
  rw [if_pos (b24 (by rw [List.length_map]; exact hl)), keysD_row]
  show some (D.dT (putL (rows.map rkey) (rows.map g) (rkey r) (g r)).1 (putL (rows.map rkey) (rows.map g) (rkey r) (g r)).2) = _
  rw [putL_new fun q => by
    obtain ⟨s, hs, e⟩ := List.mem_map.mp q
    rw [rkey_inj e] at hs
    exact h hs]
  unfold tabD
  rw [List.map_append, List.map_append]; rfl
theorem tab_len {rows : List (List Str)} {g : List Str → D} : gLen [tabD rows g] = some (.int rows.length) := by
  show some (D.int ((rows.map rkey).length : Nat)) = _
  rw [List.length_map]
theorem isi_tab {rows : List (List Str)} {g : List Str → D} : gIsi "dict" (tabD rows g) = some (.bl true) := by show (kitB "dict" "dict").map D.bl = _; rw [show kitB "dict" "dict" = some true by decide +kernel]; rfl
theorem crossR_nodup {words : List Str} (hw : words.Nodup) : ∀ {rows : List (List Str)}, rows.Nodup → (crossR rows words).Nodup
  | [], _ => List.nodup_nil
  | r :: rows, h => by
    obtain ⟨h1, h2⟩ := List.nodup_cons.mp h
    unfold crossR
    rw [List.flatMap_cons]
    refine List.nodup_append.mpr ⟨?_, crossR_nodup hw h2, ?_⟩
    · rw [List.Nodup, List.pairwise_map]
      refine List.Pairwise.imp ?_ hw
      intro x y hne e
      exact hne (List.cons.inj (List.append_cancel_left e)).1
    · intro a ha b hb e
      subst e
      obtain ⟨x, _, rfl⟩ := List.mem_map.mp ha
      obtain ⟨s, hs, y, _, e⟩ := mem_crossR.mp hb
      have : r = s := (List.append_inj' e rfl).1
      exact h1 (this ▸ hs)
theorem rowsW_nodup {hs : List Hand} (h : ∀ g ∈ hs, g.words.Nodup) : (rowsW (wordsOf hs)).Nodup := by
  have : ∀ (hs : List Hand) (rows : List (List Str)), (∀ g ∈ hs, g.words.Nodup) → rows.Nodup → ((wordsOf hs).foldl crossR rows).Nodup := by
    intro hs
    induction hs with
    | nil => intro rows _ h; exact h
    | cons g hs ih =>
      intro rows hg h
      exact ih _ (fun x hx => hg x (List.mem_cons_of_mem _ hx)) (crossR_nodup (hg g List.mem_cons_self) h)
  exact this hs [[]] h (by simp)
theorem HandsOk.wnd {p : Nat} {hs : List Hand} (h : HandsOk p hs) : ∀ g ∈ hs, g.words.Nodup := fun g hg => (h.ok g hg).words.nd
section
variable {hs : List Hand} {outs : List Str} {p : Nat} {W C : Nat → Int}
end
end TW
-- TWLawRing
namespace TW
open PySem PySem.Spec PyProof.Rows L2
end TW
-- TWColumn
namespace TW
open PySem PySem.Spec PyProof.Rows L2
theorem cut_to {α : Type} {l : List α} {k : Nat} (h : k ≤ l.length) : cutD l none (some (k : Int)) = l.take k := by
  unfold cutD
  rw [HT.sIx_none, HT.sIx_nat, List.drop_zero, Nat.sub_zero, Nat.min_eq_left h]
theorem cut_from {α : Type} {l : List α} {k : Nat} : cutD l (some (k : Int)) none = l.drop k := by
  unfold cutD
  rw [HT.sIx_none, HT.sIx_nat]
  by_cases h : k ≤ l.length
  · rw [Nat.min_eq_left h, List.take_of_length_le (by rw [List.length_drop]; omega)]
  · rw [Nat.min_eq_right (by omega), List.drop_eq_nil_of_le (by omega), List.drop_eq_nil_of_le (by omega), List.take_nil]
def oth (hs : List Hand) (k : Nat) : List Hand := hs.take k ++ hs.drop (k + 1)
def ins (k : Nat) (w : Str) (r : List Str) : List Str := r.take k ++ [w] ++ r.drop k
theorem row_app : ∀ {ws vs : List (List Str)} {r : List Str}, Row (ws ++ vs) r ↔ ∃ r1 r2, r = r1 ++ r2 ∧ Row ws r1 ∧ Row vs r2
  | [], vs, r => ⟨fun h => ⟨[], r, rfl, rfl, h⟩, fun ⟨r1, r2, e, h1, h2⟩ => by rw [show r1 = [] from h1] at e; rw [e]; exact h2⟩
  | w :: ws, vs, r => by
    constructor
    · rintro ⟨x, r', rfl, hx, h⟩
      obtain ⟨r1, r2, rfl, h1, h2⟩ := row_app.mp h
      exact ⟨x :: r1, r2, rfl, ⟨x, r1, rfl, hx, h1⟩, h2⟩
    · rintro ⟨_, r2, rfl, ⟨x, r1, rfl, hx, h1⟩, h2⟩
      exact ⟨x, r1 ++ r2, rfl, hx, row_app.mpr ⟨r1, r2, rfl, h1, h2⟩⟩
section
variable {hs : List Hand} {outs : List Str} {p k : Nat} {W C : Nat → Int} {r : List Str}
theorem oth_len (hk : k < hs.length) : (oth hs k).length + 1 = hs.length := by unfold oth; rw [List.length_append, List.length_take, List.length_drop]; omega
theorem oth_mem {h : Hand} (hm : h ∈ oth hs k) : h ∈ hs := by
  rcases List.mem_append.mp hm with q | q
  · exact List.mem_of_mem_take q
  · exact List.mem_of_mem_drop q
theorem split_at (hk : k < hs.length) : hs = hs.take k ++ hat hs k :: hs.drop (k + 1) := by
  have : hs.drop k = hat hs k :: hs.drop (k + 1) := by
    rw [List.drop_eq_getElem_cons hk]
    have := hat_at hk
    rw [List.getElem?_eq_getElem hk] at this
    rw [Option.some.inj this]
  rw [← this, List.take_append_drop]
theorem ways_app {a b : List Hand} : ways (a ++ b) = ways a * ways b := by
  induction a with
  | nil => simp [ways]
  | cons h a ih => simp only [List.cons_append, ways, ih, Nat.mul_assoc]
theorem oth_ways (hh : HandsOk p hs) (hk : k < hs.length) : ways (oth hs k) ≤ 256 := by
  have := hh.many
  rw [split_at hk, ways_app] at this
  unfold oth
  rw [ways_app]
  have h1 := hh.pos _ (hat_mem hk)
  have : ways (hs.take k) * ways (hs.drop (k + 1)) ≤ ways (hs.take k) * ways (hat hs k :: hs.drop (k + 1)) := by
    refine Nat.mul_le_mul_left _ ?_
    show _ ≤ (hat hs k).words.length * ways (hs.drop (k + 1))
    exact Nat.le_mul_of_pos_left _ h1
  omega
theorem oth_row (hk : k < hs.length) (h : Row (wordsOf (oth hs k)) r) : r.length + 1 = hs.length := by
  have := h.len
  unfold wordsOf at this
  rw [List.length_map] at this
  have := oth_len hk
  omega
theorem rowT_slice {w : Str} (hk : k ≤ r.length) (hr : r.length < 1000) : ∃ a b, gSl (rowT r) none (some (k : Int)) = some a ∧ gSl (rowT r) (some (k : Int)) none = some b ∧ (∃ c, gAdd a (.tup [.str w]) = some c ∧ gAdd c b = some (rowT (ins k w r))) := by
  refine ⟨rowT (r.take k), rowT (r.drop k), ?_, ?_, rowT (r.take k ++ [w]), ?_, ?_⟩
  · show some (D.tup (cutD (r.map D.str) none (some (k : Int)))) = _
    rw [cut_to (by simpa using hk)]
    unfold rowT; rw [List.map_take]
  · show some (D.tup (cutD (r.map D.str) (some (k : Int)) none)) = _
    rw [cut_from]
    unfold rowT; rw [List.map_drop]
  · exact rowT_add (by rw [List.length_take]; omega)
  · unfold rowT ins
    rw [gAdd_tup (b24' (by simp; omega))]
    refine congrArg some (congrArg D.tup ?_)
    simp
theorem row_with_ok {w : Str} (hk : k ≤ r.length) (hr : r.length < 1000) : m_row_with [rowT r, .int k, .str w] = .ok (rowT (ins k w r)) := by
  obtain ⟨a, b, e1, e2, c, e3, e4⟩ := rowT_slice (w := w) hk hr
  rw [m_row_with]
  refine call_rt ?_
  rw [b_row_with]
  simp only [List.map_cons, List.map_nil, List.length_cons, List.length_nil, List.cons_append, List.nil_append, List.replicate, Nat.zero_add, Nat.reduceAdd, Nat.reduceSub, List.set_cons_zero, List.set_cons_succ]
  simp [e1, e2, one_t, e3, e4]
def wn (hs : List Hand) (k : Nat) : Nat := (hat hs k).words.length
def Gcol (hs : List Hand) (q : List Str → Nat) (k : Nat) (r : List Str) (t s : Nat) : Int := wf (hat hs k) (wat (hat hs k).words t) (q (ins k (wat (hat hs k).words s) r))
theorem wat_mem {l : List Str} {t : Nat} (ht : t < l.length) : wat l t ∈ l := List.mem_of_getElem? (wat_at ht)
theorem idx_wat {l : List Str} (nd : l.Nodup) {t : Nat} (ht : t < l.length) : l.idxOf (wat l t) = t := by
  have e : wat l t = l[t] := by
    have := wat_at ht
    rw [List.getElem?_eq_getElem ht] at this
    exact (Option.some.inj this).symm
  rw [e]; exact nd.idxOf_getElem t ht
theorem tints_at {w : List Int} {j : Nat} (h : j < w.length) : gIx (tints w) (.int j) = some (.int (w.getD j 0)) := by
  show atI (w.map D.int) (j : Int) = _
  rw [atI_nat (by simpa using h), List.getElem?_map, List.getElem?_eq_getElem h, List.getD_eq_getElem?_getD, List.getElem?_eq_getElem h]; rfl
theorem nums_at {w : List Int} {j : Nat} (h : j < w.length) : gIx (numsD w) (.int j) = some (.int (w.getD j 0)) := by
  show atI (w.map D.int) (j : Int) = _
  rw [atI_nat (by simpa using h), List.getElem?_map, List.getElem?_eq_getElem h, List.getD_eq_getElem?_getD, List.getElem?_eq_getElem h]; rfl
def TabQ (T : D) (outs : List Str) (hs : List Hand) (q : List Str → Nat) : Prop := ∀ row, Row (wordsOf hs) row → gIx T (rowT row) = some (.str (wat outs (q row)))
end
end TW
-- TWPlaces
namespace TW
open PySem PySem.Spec PyProof.Rows L2
theorem rows2_gen {hs : List Hand} (hl : hs.length < 900) (hw : ways hs < 1000) (ho : ∀ h ∈ hs, 1 ≤ h.words.length) : m__law_rows_v2 [handsD hs] = .ok (rowsD (rowsW (wordsOf hs))) := by
  rw [m__law_rows_v2]
  refine call_rt ?_
  rw [b__law_rows_v2]
  simp only [List.map_cons, List.map_nil, List.length_cons, List.length_nil, List.cons_append, List.nil_append, List.replicate, Nat.zero_add, Nat.reduceAdd, Nat.reduceSub, List.set_cons_zero, List.set_cons_succ]
  rw [seq_set (d := rowsD [[]]) (by
    simp [show gTup [] = some (.tup []) from gTup_eq (Nat.zero_le _), one_l]; rfl)]
  simp only [List.map_cons, List.map_nil, List.length_cons, List.length_nil, List.cons_append, List.nil_append, List.replicate, Nat.zero_add, Nat.reduceAdd, Nat.reduceSub, List.set_cons_zero, List.set_cons_succ]
  rw [sSeq_eq]
  generalize hb : sSeq (sSet 3 _) _ = b
  obtain ⟨ρ', e, x2, x3, x4, x5, rfl⟩ := for_m (j := 2) (m := iAny (mVar 0)) (b := b) (ρ := [some (handsD hs), some (rowsD [[]]), none, none, none, none])
    (fun i ρ => ∃ x2 x3 x4 x5, ρ = [some (handsD hs), some (rowsD (rowsW (wordsOf (hs.take i)))), x2, x3, x4, x5]) hs Hand.d (by simp [handsD]) ⟨_, _, _, _, rfl⟩ (by
      rintro i h ρ hd ⟨x2, x3, x4, x5, rfl⟩
      subst hb
      have hi : i < hs.length := (List.getElem?_eq_some_iff.mp hd).1
      have t1 : hs.take (i + 1) = hs.take i ++ [h] := by rw [List.take_add_one, hd]; rfl
      have w1 := ways_take ho (i + 1)
      rw [t1, ways_snoc] at w1
      have i1 : gIx h.d (.int 1) = some (namesD h.words) := id rfl
      have t2 : rowsW (wordsOf (hs.take (i + 1))) = crossR (rowsW (wordsOf (hs.take i))) h.words := by
        rw [t1, ← rowsW_snoc]; unfold wordsOf; rw [List.map_append]; rfl
      have hr : ∀ r ∈ rowsW (wordsOf (hs.take i)), r.length < 1000 := fun r hr => by
        have := rows_len_lt hr
        rw [List.length_take] at this; omega
      have rl := rowsW_len (hs.take i)
      rw [t2]
      generalize rowsW (wordsOf (hs.take i)) = R at *
      simp only [List.map_cons, List.map_nil, List.length_cons, List.length_nil, List.cons_append, List.nil_append, List.replicate, Nat.zero_add, Nat.reduceAdd, Nat.reduceSub, List.set_cons_zero, List.set_cons_succ]
      rw [seq_set (d := rowsD []) (by simp [nil_l]; rfl)]
      simp only [List.map_cons, List.map_nil, List.length_cons, List.length_nil, List.cons_append, List.nil_append, List.replicate, Nat.zero_add, Nat.reduceAdd, Nat.reduceSub, List.set_cons_zero, List.set_cons_succ]
      rw [sSeq_eq]
      obtain ⟨ρ', e, y4, y5, rfl⟩ := for_m (j := 4) (m := iAny (mVar 1)) (b := sSet 3 (m2 gAdd (mVar 3) (mLc [5] (tgN 5) (iAny (m2 gIx (mVar 2) (mC (.int 1)))) (tYesM) (m2 gAdd (mVar 4) (mL gTup (mA1 (mVar 5) (mA0))))))) (ρ := [some (handsD hs), some (rowsD R), some h.d, some (rowsD []), x4, x5])
        (fun i ρ => ∃ y4 y5, ρ = [some (handsD hs), some (rowsD R), some h.d, some (rowsD (crossR (R.take i) h.words)), y4, y5]) R rowT (by simp [rowsD]) ⟨_, _, rfl⟩ (by
          rintro k r ρ hd ⟨y4, y5, rfl⟩
          have hrm := hr r (List.mem_of_getElem? hd)
          have hk := (List.getElem?_eq_some_iff.mp hd).1
          have t3 : R.take (k + 1) = R.take k ++ [r] := by rw [List.take_add_one, hd]; rfl
          have hc : (crossR (R.take k) h.words).length + h.words.length < 1000000 := by
            have : (k + 1) * h.words.length ≤ R.length * h.words.length := Nat.mul_le_mul_right _ (by omega)
            rw [crossR_len, List.length_take, Nat.min_eq_left (by omega)]
            rw [Nat.add_mul, Nat.one_mul] at this
            rw [rl] at this
            omega
          rw [t3, crossR_snoc]
          generalize crossR (R.take k) h.words = A at *
          simp only [List.map_cons, List.map_nil, List.length_cons, List.length_nil, List.cons_append, List.nil_append, List.replicate, Nat.zero_add, Nat.reduceAdd, Nat.reduceSub, List.set_cons_zero, List.set_cons_succ]
          have lc : mLc [5] (tgN 5) (iAny (m2 gIx (mVar 2) (mC (.int 1)))) (tYesM) (m2 gAdd (mVar 4) (mL gTup (mA1 (mVar 5) (mA0)))) [some (handsD hs), some (rowsD R), some h.d, some (rowsD A), some (rowT r), y5] = .ok (rowsD (h.words.map fun w => r ++ [w])) := by
            rw [lc_m h.words D.str (fun w => rowT (r ++ [w])) (by simp [i1, iLoc_names]) (by omega) (fun w _ => by simp [wipeR, one_t, rowT_add hrm])]
            unfold rowsD
            rw [List.map_map]; rfl
          have ad : gAdd (rowsD A) (rowsD (h.words.map fun w => r ++ [w])) = some (rowsD (A ++ h.words.map fun w => r ++ [w])) := by
            unfold rowsD
            rw [gAdd_lst (b24' (by simp; omega)), List.map_append]
          exact ⟨[some (handsD hs), some (rowsD R), some h.d, some (rowsD (A ++ h.words.map fun w => r ++ [w])), some (rowT r), y5], by simp [lc, ad], _, _, rfl⟩)
      rw [e, Out.nx_bind, List.take_length]
      exact ⟨[some (handsD hs), some (rowsD (crossR R h.words)), some h.d, some (rowsD (crossR R h.words)), y4, y5], by simp, _, _, _, _, rfl⟩)
  rw [e, List.take_length]
  simp
section
variable {hs : List Hand} {outs : List Str} {p : Nat} {row : List Str} {W : Nat → Int}
theorem rows2_ok (h : HandsOk p hs) : m__law_rows_v2 [handsD hs] = .ok (rowsD (rowsW (wordsOf hs))) := rows2_gen (by have := h.hi; omega) (by have := h.many; omega) h.pos
theorem keys_rows {rows : List (List Str)} {g : List Str → D} : gListDT [tabD rows g] = some (rowsD rows) := by
  show some (D.lst ((rows.map rkey).map fun k => .tup (k.map keyToD))) = some (.lst (rows.map rowT))
  rw [List.map_map]
  refine congrArg some (congrArg D.lst (List.map_congr_left fun r _ => ?_))
  show D.tup ((r.map Sum.inr).map keyToD) = .tup (r.map D.str)
  rw [List.map_map]; rfl
theorem tab_congr {rows : List (List Str)} {f g : List Str → D} (h : ∀ r ∈ rows, f r = g r) : tabD rows f = tabD rows g := by
  unfold tabD
  rw [List.map_congr_left h]
theorem putL_old {κ : Type} [DecidableEq κ] {α : Type} {key : α → κ} {g : α → D} {v : D} (inj : ∀ a b, key a = key b → a = b) : ∀ {rows : List α} {r : α}, rows.Nodup → r ∈ rows → ∃ g', (∀ x, x ≠ r → g' x = g x) ∧ g' r = v ∧ putL (rows.map key) (rows.map g) (key r) v = (rows.map key, rows.map g') := by
  intro rows r nd hr
  classical
  refine ⟨fun x => if x = r then v else g x, fun x hx => if_neg hx, if_pos rfl, ?_⟩
  unfold putL
  cases e : (rows.map key).idxOf? (key r) with
  | none => exact absurd (List.mem_map_of_mem hr) (List.idxOf?_eq_none_iff.mp e)
  | some i =>
    dsimp only
    have e2 := List.idxOf?_eq_some_iff.mp e
    obtain ⟨hi, ei, _⟩ := e2
    have hi' : i < rows.length := by simpa using hi
    have er : rows[i] = r := inj _ _ (by simpa using ei)
    congr 1
    refine List.ext_getElem (by simp) fun k h1 h2 => ?_
    have hk : k < rows.length := by simpa using h2
    rw [List.getElem_set, List.getElem_map]
    by_cases q : i = k
    · subst q
      rw [if_pos rfl, List.getElem_map, er, if_pos rfl]
    · rw [if_neg q, List.getElem_map, if_neg]
      intro w
      have pw := List.pairwise_iff_getElem.mp nd
      rcases Nat.lt_or_gt_of_ne q with lt | lt
      · exact pw i k hi' hk lt (by rw [er, w])
      · exact pw k i hk hi' lt (by rw [er, w])
def drw (ns : List Int) (k : Nat) : Int := match m__law_drawn [.scr ns, .int k] with
  | .ok (.int z) => z
  | _ => 0
theorem drw_ok (ns : List Int) (hl : ns.length ≤ 1000) (k : Nat) (hk : k < 100000) {i : Int} (hi : i = k) : m__law_drawn [.scr ns, .int i] = .ok (.int (drw ns k)) := by
  obtain ⟨z, e⟩ := drawnk_ok ns hl k hk
  have : drw ns k = z := by
    unfold drw
    rw [e]
  rw [this, hi]
  exact e
end
end TW
-- TWLess
namespace TW
open PySem PySem.Spec PyProof.Rows L2
section
variable {hs : List Hand} {outs : List Str} {p : Nat} {row : List Str}
def less (row : List Str) (k : Nat) : List Str := row.take k ++ row.drop (k + 1)
theorem less_row {k : Nat} (hk : k < hs.length) (h : Row (wordsOf hs) row) : Row (wordsOf (oth hs k)) (less row k) := by
  have e : wordsOf hs = wordsOf (hs.take k) ++ (hat hs k).words :: wordsOf (hs.drop (k + 1)) := by
    have := congrArg wordsOf (split_at hk)
    unfold wordsOf at this ⊢
    rw [List.map_append, List.map_cons] at this
    exact this
  rw [e] at h
  obtain ⟨r1, r2, rfl, h1, x, r3, rfl, hx, h3⟩ := row_app.mp h
  have l1 : r1.length = k := by rw [h1.len]; unfold wordsOf; rw [List.length_map, List.length_take]; omega
  have : less (r1 ++ x :: r3) k = r1 ++ r3 := by
    unfold less
    rw [List.take_left' l1, List.drop_append, List.drop_eq_nil_of_le (by omega), show k + 1 - r1.length = 1 by omega]
    rfl
  rw [this]
  have e2 : wordsOf (oth hs k) = wordsOf (hs.take k) ++ wordsOf (hs.drop (k + 1)) := by unfold wordsOf oth; rw [List.map_append]
  rw [e2]
  exact row_app.mpr ⟨r1, r3, rfl, h1, h3⟩
theorem less_slices {k : Nat} (hk : k < row.length) (hr : row.length < 1000) : gSl (rowT row) none (some (k : Int)) = some (rowT (row.take k)) ∧ gSl (rowT row) (some ((k : Int) + 1)) none = some (rowT (row.drop (k + 1))) ∧ gAdd (rowT (row.take k)) (rowT (row.drop (k + 1))) = some (rowT (less row k)) := by
  refine ⟨?_, ?_, ?_⟩
  · show some (D.tup (cutD (row.map D.str) none (some (k : Int)))) = _
    rw [cut_to (by simp; omega)]
    unfold rowT; rw [List.map_take]
  · show some (D.tup (cutD (row.map D.str) (some (((k : Int)) + 1)) none)) = _
    rw [show ((k : Int) + 1) = ((k + 1 : Nat) : Int) by omega, cut_from]
    unfold rowT; rw [List.map_drop]
  · unfold rowT less
    rw [gAdd_tup (b24' (by simp; omega)), List.map_append]
theorem tab_look_no {rows : List (List Str)} {g : List Str → D} {r : List Str} (h : r ∉ rows) : lookD (tabD rows g) (rowT r) = some none := by
  have e : lookK (rows.map rkey) (rows.map g) (rkey r) = none := by

    induction rows with
    | nil => rfl
    | cons s rows ih =>
      show (if rkey s = rkey r then some (g s) else lookK (rows.map rkey) (rows.map g) (rkey r)) = _
      rw [if_neg (fun q => h (by rw [rkey_inj q]; exact List.mem_cons_self)), ih fun q => h (List.mem_cons_of_mem _ q)]
  show ((keysD (r.map D.str)).map fun k => lookK (rows.map rkey) (rows.map g) k) = _
  rw [keysD_row, Option.map_some, e]
theorem tab_in_no {rows : List (List Str)} {g : List Str → D} {r : List Str} (h : r ∉ rows) : gIn (rowT r) (tabD rows g) = some (.bl false) := by
  show (lookD (tabD rows g) (rowT r)).map _ = _
  rw [tab_look_no h]; rfl
theorem less_ins {w : Str} {r : List Str} {k : Nat} (hk : k ≤ r.length) : less (ins k w r) k = r := by
  unfold less ins
  have l1 : (r.take k).length = k := by rw [List.length_take]; omega
  rw [List.append_assoc, List.take_left' l1, List.drop_append, List.drop_eq_nil_of_le (by omega), show k + 1 - (r.take k).length = 1 by omega]
  simp
theorem ins_less {k : Nat} (hk : k < row.length) : ins k (wat row k) (less row k) = row := by
  unfold less ins
  have l1 : (row.take k).length = k := by rw [List.length_take]; omega
  rw [List.take_left' l1, List.drop_left' l1]
  have : row.drop k = wat row k :: row.drop (k + 1) := by
    rw [List.drop_eq_getElem_cons hk]
    have := wat_at hk
    rw [List.getElem?_eq_getElem hk] at this
    rw [Option.some.inj this]
  rw [List.append_assoc, List.singleton_append, ← this, List.take_append_drop]
theorem ins_wat {k : Nat} {w : Str} {r : List Str} (hk : k ≤ r.length) : wat (ins k w r) k = w := by
  unfold wat ins
  rw [List.getD_eq_getElem?_getD, List.append_assoc, List.getElem?_append_right (by rw [List.length_take]; omega), List.length_take]
  rw [show k - min k r.length = 0 by omega]; rfl
theorem ins_inj {k : Nat} {w w' : Str} {r r' : List Str} (h : k ≤ r.length) (h' : k ≤ r'.length) (e : ins k w r = ins k w' r') : w = w' ∧ r = r' := by
  have a := congrArg (fun l => wat l k) e
  have b := congrArg (fun l => less l k) e
  simp only [ins_wat h, ins_wat h', less_ins h, less_ins h'] at a b
  exact ⟨a, b⟩
def made (k : Nat) (ws : List Str) (rs : List (List Str)) : List (List Str) := rs.flatMap fun r => ws.map fun w => ins k w r
theorem made_nodup {k : Nat} {ws : List Str} (hw : ws.Nodup) : ∀ {rs : List (List Str)}, rs.Nodup → (∀ r ∈ rs, k ≤ r.length) → (made k ws rs).Nodup
  | [], _, _ => List.nodup_nil
  | r :: rs, nd, hl => by
    obtain ⟨n1, n2⟩ := List.nodup_cons.mp nd
    unfold made
    rw [List.flatMap_cons]
    refine List.nodup_append.mpr ⟨?_, made_nodup hw n2 fun x hx => hl x (List.mem_cons_of_mem _ hx), fun a ha b hb e => ?_⟩
    · have hk := hl r List.mem_cons_self
      clear nd n1 hl
      induction ws with
      | nil => exact List.nodup_nil
      | cons w ws ih =>
        obtain ⟨m1, m2⟩ := List.nodup_cons.mp hw
        rw [List.map_cons]
        refine List.nodup_cons.mpr ⟨fun h => ?_, ih m2⟩
        obtain ⟨v, hv, ev⟩ := List.mem_map.mp h
        rw [(ins_inj hk hk ev).1] at hv
        exact m1 hv
    · subst e
      obtain ⟨w, _, rfl⟩ := List.mem_map.mp ha
      obtain ⟨r', hr', h⟩ := List.mem_flatMap.mp hb
      obtain ⟨w', _, ew⟩ := List.mem_map.mp h
      have := (ins_inj (hl r' (List.mem_cons_of_mem _ hr')) (hl r List.mem_cons_self) ew).2
      subst this
      exact n1 hr'
theorem made_len {k : Nat} {ws : List Str} : ∀ {rs : List (List Str)}, (made k ws rs).length = rs.length * ws.length
  | [] => by simp [made]
  | r :: rs => by
    have := made_len (k := k) (ws := ws) (rs := rs)
    unfold made at this ⊢
    rw [List.flatMap_cons, List.length_append, this, List.length_map, List.length_cons, Nat.succ_mul]; omega
theorem row_made {k : Nat} (hk : k < hs.length) (h : Row (wordsOf hs) row) : row ∈ made k (hat hs k).words (rowsW (wordsOf (oth hs k))) := by
  have ro := h.of
  refine List.mem_flatMap.mpr ⟨less row k, row_iff.mpr (less_row hk h), List.mem_map.mpr ⟨wat row k, ro.2 k hk, ins_less (by rw [ro.1]; exact hk)⟩⟩
end
end TW
-- TWMenu
namespace TW
open PySem PySem.Spec PyProof.Rows L2
def menuD (ks : List Str) (g : Str → Int) : D := .dK (ks.map fun s => .inr s) (ks.map fun s => .int (g s))
theorem lookK_gen {κ α : Type} [DecidableEq κ] {key : α → κ} {g : α → D} (inj : ∀ a b, key a = key b → a = b) [DecidableEq α] : ∀ {l : List α} {r : α}, lookK (l.map key) (l.map g) (key r) = if r ∈ l then some (g r) else none
  | [], r => rfl
  | a :: l, r => by
    show (if key a = key r then some (g a) else lookK (l.map key) (l.map g) (key r)) = _
    rw [lookK_gen inj (l := l)]
    by_cases h : a = r
    · subst h
      rw [if_pos rfl, if_pos List.mem_cons_self]
    · rw [if_neg fun q => h (inj _ _ q)]
      by_cases h2 : r ∈ l
      · rw [if_pos h2, if_pos (List.mem_cons_of_mem _ h2)]
      · rw [if_neg h2, if_neg fun q => (List.mem_cons.mp q).elim (fun e => h e.symm) h2]
theorem inr_inj (a b : Str) (h : (Sum.inr a : Key) = .inr b) : a = b := Sum.inr.inj h
theorem menu_look {ks : List Str} {g : Str → Int} {s : Str} : lookD (menuD ks g) (.str s) = some (if s ∈ ks then some (.int (g s)) else none) := by
  show some (lookK (ks.map fun s => (Sum.inr s : Key)) (ks.map fun s => D.int (g s)) (.inr s)) = _
  rw [lookK_gen (key := fun s => (Sum.inr s : Key)) inr_inj]
theorem menu_in {ks : List Str} {g : Str → Int} {s : Str} : gIn (.str s) (menuD ks g) = some (.bl (decide (s ∈ ks))) := by
  show (lookD (menuD ks g) (.str s)).map (fun o => D.bl o.isSome) = _
  rw [menu_look]
  by_cases h : s ∈ ks
  · rw [if_pos h, decide_eq_true h]; rfl
  · rw [if_neg h, decide_eq_false h]; rfl
theorem menu_nin {ks : List Str} {g : Str → Int} {s : Str} : gNin (.str s) (menuD ks g) = some (.bl (!decide (s ∈ ks))) := by
  show (gIn (.str s) (menuD ks g)).bind _ = _
  rw [menu_in]; rfl
theorem menu_ix {ks : List Str} {g : Str → Int} {s : Str} (h : s ∈ ks) : gIx (menuD ks g) (.str s) = some (.int (g s)) := by
  show (lookD (menuD ks g) (.str s)).bind id = _
  rw [menu_look, if_pos h]; rfl
theorem menu_len {ks : List Str} {g : Str → Int} : gLen [menuD ks g] = some (.int ks.length) := by
  show some (D.int ((ks.map fun s => (Sum.inr s : Key)).length : Nat)) = _
  rw [List.length_map]
theorem menu_put {ks : List Str} {g : Str → Int} {s : Str} {z : Int} (nd : ks.Nodup) (hl : ks.length < 1000000) : ∃ ks' g', putD (menuD ks g) (.str s) (.int z) = some (menuD ks' g') ∧ ks'.Nodup ∧ (∀ t, t ∈ ks' ↔ t ∈ ks ∨ t = s) ∧ g' s = z ∧ ∀ t, t ≠ s → g' t = g t := by
  have e : putD (menuD ks g) (.str s) (.int z) = some (.dK (putL (ks.map fun s => (Sum.inr s : Key)) (ks.map fun s => D.int (g s)) (.inr s) (.int z)).1 (putL (ks.map fun s => (Sum.inr s : Key)) (ks.map fun s => D.int (g s)) (.inr s) (.int z)).2) := by
    show (if (ks.map fun s => (Sum.inr s : Key)).length < sizeLine then _ else none) = _
    rw [if_pos (b24 (by rw [List.length_map]; exact hl))]
    rfl
  rw [e]
  let g' : Str → Int := fun t => if t = s then z else g t
  have gs : g' s = z := if_pos rfl
  have gn : ∀ t, t ≠ s → g' t = g t := fun t h => if_neg h
  by_cases h : s ∈ ks
  · refine ⟨ks, g', ?_, nd, fun t => ⟨.inl, fun q => q.elim id fun e => e ▸ h⟩, gs, gn⟩
    obtain ⟨f, h1, h2, h3⟩ := putL_old (key := fun s => (Sum.inr s : Key)) (g := fun s => D.int (g s)) (v := .int z) inr_inj nd h
    rw [h3]
    have : ks.map f = ks.map fun s => D.int (g' s) := List.map_congr_left fun t _ => by
      by_cases q : t = s
      · rw [q, h2, gs]
      · rw [h1 t q, gn t q]
    show some (D.dK (ks.map _) (ks.map f)) = _
    rw [this]; rfl
  · refine ⟨ks ++ [s], g', ?_, List.nodup_append.mpr ⟨nd, by simp, fun a ha b hb q => h (by rw [List.mem_singleton.mp hb] at q; exact q ▸ ha)⟩, fun t => by simp, gs, gn⟩
    rw [putL_new fun q => by
      obtain ⟨t, ht, e⟩ := List.mem_map.mp q
      exact h (inr_inj _ _ e ▸ ht)]
    unfold menuD
    rw [List.map_append, List.map_append]
    have : ks.map (fun s => D.int (g' s)) = ks.map fun s => D.int (g s) := List.map_congr_left fun t ht => by rw [gn t fun q => h (q ▸ ht)]
    rw [this]
    simp [gs]
structure IsPick (p : Nat) (P : Nat → Prop) (f : Nat → Int) (b : Nat) : Prop where
  lt : b < p
  on : P b
  most : ∀ j, j < p → P j → f j ≤ f b ∧ (f j = f b → b ≤ j)
theorem enum_names {outs : List Str} : iSqE (.ftup (outs.map D.str)) = some ((List.range outs.length).map fun i : Nat => .tup [.int i, .str (wat outs i)]) := by
  show some (enumL 0 (outs.map D.str)) = _
  congr 1
  refine List.ext_getElem? fun i => ?_
  rw [enumL_get, List.getElem?_map, List.getElem?_map, Nat.zero_add]
  by_cases h : i < outs.length
  · rw [wat_at h, List.getElem?_range h]; rfl
  · rw [List.getElem?_eq_none (by omega), List.getElem?_eq_none (by simpa using h)]; rfl
section
variable {hs : List Hand} {outs : List Str} {p k : Nat}
theorem pick_ok (hh : HandsOk p hs) (hp : outs.length = p) (hp8 : p ≤ 8) (hk : k < hs.length) {w : Str} (hw : w ∈ (hat hs k).words) {ks : List Str} {g : Str → Int} (hne : ∃ j, j < p ∧ wat outs j ∈ ks) :
    ∃ b, IsPick p (fun j => wat outs j ∈ ks) (fun j => wf (hat hs k) w j - g (wat outs j)) b ∧ m_pick [houseD outs hs, .int k, menuD ks g, .str w] = .ok (.str (wat outs b)) := by
  obtain ⟨r, e1, _, rl, _, er⟩ := worths_at (k := k) (hh.ok _ (hat_mem hk)) hw
  have i1 : gIx (houseD outs hs) (.int 1) = some (.tup (hs.map Hand.m)) := id rfl
  have i0 : gIx (houseD outs hs) (.int 0) = some (.ftup (outs.map D.str)) := id rfl
  have ih := house_hand hk
  have m2' : ∀ h : Hand, gIx h.m (.int 2) = some (.tup (h.worths.map tints)) := fun h => id rfl
  have m1' : ∀ h : Hand, gIx h.m (.int 1) = some (.ftup (h.words.map D.str)) := fun h => id rfl
  have ix := index_ft hw
  have en := enum_names (outs := outs)
  have hin := fun s => menu_in (ks := ks) (g := g) (s := s)
  have hix := fun s (h : s ∈ ks) => menu_ix (ks := ks) (g := g) (s := s) h
  have hT : ∀ j, j < p → gIx (tints r) (.int j) = some (.int (wf (hat hs k) w j)) := fun j hj => by rw [tints_at (by omega), er j]
  suffices h : ∃ b, IsPick p (fun j => wat outs j ∈ ks) (fun j => wf (hat hs k) w j - g (wat outs j)) b ∧ b_pick ([houseD outs hs, .int k, menuD ks g, .str w].map some ++ List.replicate (9 - [houseD outs hs, D.int k, menuD ks g, .str w].length) none) = .rt (.str (wat outs b)) by
    obtain ⟨b, hb, e⟩ := h
    exact ⟨b, hb, by rw [m_pick]; exact call_rt e⟩
  rw [b_pick]
  generalize houseD outs hs = H at *
  generalize menuD ks g = M at *
  simp only [List.map_cons, List.map_nil, List.length_cons, List.length_nil, List.cons_append, List.nil_append, List.replicate, Nat.zero_add, Nat.reduceAdd, Nat.reduceSub, List.set_cons_zero, List.set_cons_succ]
  rw [seq_set (d := tints r) (by simp [i1, ih, m2', m1', ix, e1])]
  simp only [List.map_cons, List.map_nil, List.length_cons, List.length_nil, List.cons_append, List.nil_append, List.replicate, Nat.zero_add, Nat.reduceAdd, Nat.reduceSub, List.set_cons_zero, List.set_cons_succ]
  rw [seq_set (d := .non) (by simp)]
  simp only [List.map_cons, List.map_nil, List.length_cons, List.length_nil, List.cons_append, List.nil_append, List.replicate, Nat.zero_add, Nat.reduceAdd, Nat.reduceSub, List.set_cons_zero, List.set_cons_succ]
  rw [sSeq_eq]
  generalize hb : sIf (mT (m2 gIn _ _)) _ _ = b
  generalize hP : (fun j => wat outs j ∈ ks) = P at *
  generalize hf : (fun j => wf (hat hs k) w j - g (wat outs j)) = f at *
  obtain ⟨ρ', e, x5, x6, x7, x8, hx, rfl⟩ := for_l (f := tgT [6, 7]) (m := iEnumM (m2 gIx (mVar 0) (mC (.int 0)))) (b := b) (ρ := [some H, some (.int k), some M, some (.str w), some (tints r), some .non, none, none, none])
    (fun i ρ => ∃ x5 x6 x7 x8, ((x5 = D.non ∧ ∀ j, j < i → ¬ P j) ∨ ∃ c, c < i ∧ P c ∧ (∀ j, j < i → P j → f j ≤ f c ∧ (f j = f c → c ≤ j)) ∧ x5 = .tup [.int (f c), .str (wat outs c)]) ∧ ρ = [some H, some (.int k), some M, some (.str w), some (tints r), some x5, x6, x7, x8])
    ((List.range p).map fun i : Nat => .tup [.int i, .str (wat outs i)]) (by simp [i0, en, hp]) ⟨_, _, _, _, .inl ⟨rfl, fun j hj => absurd hj (Nat.not_lt_zero j)⟩, rfl⟩ (by
      rintro i d ρ hd ⟨x5, x6, x7, x8, hx, rfl⟩
      subst hb
      have hi : i < p := by
        have := (List.getElem?_eq_some_iff.mp hd).1
        simpa using this
      rw [List.getElem?_map, List.getElem?_range hi] at hd
      cases hd
      have hfi : f i = wf (hat hs k) w i - g (wat outs i) := by rw [← hf]
      have hPi : P i ↔ wat outs i ∈ ks := by rw [← hP]
      have hTi := hT i hi
      by_cases hin' : wat outs i ∈ ks
      · have pi := hPi.mpr hin'
        have a1 : gIn (.str (wat outs i)) M = some (.bl true) := by rw [hin, decide_eq_true hin']
        have a2 := hix _ hin'
        have tp : gTup [.int (f i), .str (wat outs i)] = some (.tup [.int (f i), .str (wat outs i)]) := tup2 _ _
        rcases hx with ⟨rfl, no⟩ | ⟨c, hc, pc, mo, rfl⟩
        · have n1 : gIsN .non .non = some (.bl true) := id rfl
          refine ⟨_, [some H, some (.int k), some M, some (.str w), some (tints r), some (.tup [.int (f i), .str (wat outs i)]), some (.int i), some (.str (wat outs i)), some (.int (f i))], rfl, ?_, _, _, _, _, .inr ⟨i, by omega, pi, fun j hj pj => ?_, rfl⟩, rfl⟩
          · rw [hfi] at tp ⊢
            simp [a1, a2, hTi, n1, tp]
          · by_cases q : j = i
            · subst q; exact ⟨Int.le_refl _, fun _ => Nat.le_refl _⟩
            · exact absurd pj (no j (by omega))
        · have n1 : gIsN (.tup [.int (f c), .str (wat outs c)]) .non = some (.bl false) := id rfl
          have n2 : gIx (.tup [.int (f c), .str (wat outs c)]) (.int 0) = some (.int (f c)) := tup_2i0 _ _
          by_cases gt : f c < f i
          · refine ⟨_, [some H, some (.int k), some M, some (.str w), some (tints r), some (.tup [.int (f i), .str (wat outs i)]), some (.int i), some (.str (wat outs i)), some (.int (f i))], rfl, ?_, _, _, _, _, .inr ⟨i, by omega, pi, fun j hj pj => ?_, rfl⟩, rfl⟩
            · rw [hfi] at tp gt ⊢
              simp [a1, a2, hTi, n1, n2, tp, gt]
            · by_cases q : j = i
              · subst q; exact ⟨Int.le_refl _, fun _ => Nat.le_refl _⟩
              · have := mo j (by omega) pj
                exact ⟨by omega, fun e => by omega⟩
          · refine ⟨_, [some H, some (.int k), some M, some (.str w), some (tints r), some (.tup [.int (f c), .str (wat outs c)]), some (.int i), some (.str (wat outs i)), some (.int (f i))], rfl, ?_, _, _, _, _, .inr ⟨c, by omega, pc, fun j hj pj => ?_, rfl⟩, rfl⟩
            · rw [hfi] at gt ⊢
              simp [a1, a2, hTi, n1, n2, gt]
            · by_cases q : j = i
              · subst q; exact ⟨by omega, fun _ => by omega⟩
              · exact mo j (by omega) pj
      · have a1 : gIn (.str (wat outs i)) M = some (.bl false) := by rw [hin, decide_eq_false hin']
        refine ⟨_, [some H, some (.int k), some M, some (.str w), some (tints r), some x5, some (.int i), some (.str (wat outs i)), x8], rfl, by simp [a1], _, _, _, _, ?_, rfl⟩
        have np : ¬ P i := fun q => hin' (hPi.mp q)
        rcases hx with ⟨rfl, no⟩ | ⟨c, hc, pc, mo, rfl⟩
        · refine .inl ⟨rfl, fun j hj => ?_⟩
          by_cases q : j = i
          · subst q; exact np
          · exact no j (by omega)
        · refine .inr ⟨c, by omega, pc, fun j hj pj => ?_, rfl⟩
          by_cases q : j = i
          · subst q; exact absurd pj np
          · exact mo j (by omega) pj)
  rw [e, Out.nx_bind]
  have hL : ((List.range p).map fun i : Nat => D.tup [.int i, .str (wat outs i)]).length = p := by simp
  rw [hL] at hx
  rcases hx with ⟨rfl, no⟩ | ⟨c, hc, pc, mo, rfl⟩
  · obtain ⟨j, hj, q⟩ := hne
    exact absurd (by rw [← hP]; exact q) (no j hj)
  · exact ⟨c, ⟨hc, pc, mo⟩, by simp [show gIx (.tup [.int (f c), .str (wat outs c)]) (.int 1) = some (.str (wat outs c)) from id rfl]⟩
end
theorem price_ok (c w : Int) : ∃ z, m__law_price [.int c, .int w] = .ok (.int z) := by
  have d3 : ∀ (z k : Int), 0 < k → k < 1000 → gDiv (.int z) (.int k) = some (.int (z / k)) := fun z k h1 h2 => gDiv_int h1 (Nat.lt_trans (log2_lt (k := 64) (show k.natAbs < 2 ^ 64 by omega) (by decide)) (by decide))
  suffices h : ∃ z, b__law_price ([D.int c, .int w].map some ++ List.replicate (2 - [D.int c, .int w].length) none) = .rt (.int z) by
    obtain ⟨z, e⟩ := h
    exact ⟨z, by rw [m__law_price]; exact call_rt e⟩
  rw [b__law_price]
  simp only [List.map_cons, List.map_nil, List.length_cons, List.length_nil, List.cons_append, List.nil_append, List.replicate, Nat.zero_add, Nat.reduceAdd, Nat.reduceSub, List.set_cons_zero, List.set_cons_succ]
  have p18 : gPow (.int 10) (.int 18) = some (.int (10 ^ 18)) := gPow_10 (k := 18) (by decide)
  have p17 : gPow (.int 10) (.int 17) = some (.int (10 ^ 17)) := gPow_10 (k := 17) (by decide)
  have p57 : gPow (.int 10) (.int 57) = some (.int (10 ^ 57)) := gPow_10 (k := 57) (by decide)
  have p56 : gPow (.int 10) (.int 56) = some (.int (10 ^ 56)) := gPow_10 (k := 56) (by decide)
  have e17 : gMul (.int 5) (.int (10 ^ 17)) = some (.int (5 * 10 ^ 17)) := gMul_int (by decide) (by decide)
  have e56 : gMul (.int 5) (.int (10 ^ 56)) = some (.int (5 * 10 ^ 56)) := gMul_int (by decide) (by decide)
  have m18 : gMod (.int (c / 4)) (.int (10 ^ 18)) = some (.int (c / 4 % 10 ^ 18)) := gMod_int (by decide)
  have m57 : gMod (.int (c / 4)) (.int (10 ^ 57)) = some (.int (c / 4 % 10 ^ 57)) := gMod_int (by decide)
  generalize (10 : Int) ^ 18 = q18 at *
  generalize (10 : Int) ^ 17 = q17 at *
  generalize (10 : Int) ^ 57 = q57 at *
  generalize (10 : Int) ^ 56 = q56 at *
  have b4 := mod_bnd c (k := 4) (by decide)
  have m3 := mod_bnd (c / 4) (k := 3) (by decide)
  have : c % 4 = 0 ∨ c % 4 = 1 ∨ c % 4 = 2 ∨ c % 4 = 3 := by omega
  rcases this with h | h | h | h
  · have gm : ∀ x : Int, (x = 0 ∨ x = 1) → gMul (.int (c / 4 % 3)) (.int x) = some (.int (c / 4 % 3 * x)) := fun x hx => gMul_int (nat250 (by omega)) (nat250 (by omega))
    by_cases q : 0 < w
    · exact ⟨w - c / 4 % 3 * 1, by simp [h, d3, q, gm]⟩
    · exact ⟨w - c / 4 % 3 * 0, by simp [h, d3, q, gm]⟩
  · exact ⟨c / 4 % q18 - 5 * q17, by simp [h, d3, p18, p17, e17, m18]⟩
  · exact ⟨c / 4 % q57 - 5 * q56, by simp [h, d3, p57, p56, e56, m57]⟩
  · exact ⟨c / 4 % 19 - 9, by simp [h, d3]⟩
end TW
-- TWPivot
namespace TW
open PySem PySem.Spec PyProof.Rows L2
section
variable {hs : List Hand} {outs : List Str} {p k : Nat} {W C : Nat → Int} {r : List Str}
end
end TW
-- TWVerdict
namespace TW
open PySem PySem.Spec PyProof.Rows L2
theorem compL_app {F : D → Res (Option D)} {b : List D} {l2 : List D} : ∀ {a l1 : List D}, compL F a = .ok l1 → compL F b = .ok l2 → compL F (a ++ b) = .ok (l1 ++ l2)
  | [], l1, h1, h2 => by cases h1; exact h2
  | d :: a, l1, h1, h2 => by
    rw [compL] at h1
    rw [List.cons_append, compL]
    cases hd : noX (F d) with
    | stuck => rw [hd] at h1; cases h1
    | exn c => rw [hd] at h1; cases h1
    | ok o =>
      rw [hd] at h1
      rw [Res.bind_ok] at h1 ⊢
      cases hr : compL F a with
      | stuck => rw [hr] at h1; cases h1
      | exn c => rw [hr] at h1; cases h1
      | ok r =>
        rw [hr] at h1
        cases h1
        rw [compL_app hr h2, Res.bind_ok, List.append_assoc]
theorem take_range {hs : List Hand} {k : Nat} {α : Type} (g : Hand → α) (hk : k ≤ hs.length) : (hs.take k).map g = (List.range k).map fun j => g (hat hs j) := by
  refine List.ext_getElem (by simp; omega) fun i h1 h2 => ?_
  simp only [List.length_map, List.length_take] at h1
  rw [List.getElem_map, List.getElem_map, List.getElem_range, List.getElem_take]
  have := hat_at (hs := hs) (k := i) (by omega)
  rw [List.getElem?_eq_getElem (by omega)] at this
  rw [Option.some.inj this]
theorem drop_range {hs : List Hand} {k : Nat} {α : Type} (g : Hand → α) : (hs.drop k).map g = (List.range (hs.length - k)).map fun j => g (hat hs (k + j)) := by
  refine List.ext_getElem (by simp) fun i h1 h2 => ?_
  simp only [List.length_map, List.length_drop] at h1
  rw [List.getElem_map, List.getElem_map, List.getElem_range, List.getElem_drop]
  have := hat_at (hs := hs) (k := k + i) (by omega)
  rw [List.getElem?_eq_getElem (by omega)] at this
  rw [Option.some.inj this]
theorem lc_but {ρ : Rho} {vs : List Nat} {v k : Nat} {mi me : Rho → Res D} {tt : Rho → Res Bool} {hs : List Hand} (g : Hand → D) (hk : k < hs.length) (hl : hs.length < 1000000) (hm : mi ρ = .ok (.int hs.length))
    (ht : ∀ j, j < hs.length → tt ((wipeR ρ vs).set v (some (.int j))) = .ok (!decide (j = k))) (he : ∀ j, j < hs.length → me ((wipeR ρ vs).set v (some (.int j))) = .ok (g (hat hs j))) :
    mLc vs (tgN v) (iR1 mi) tt me ρ = .ok (.lst ((oth hs k).map g)) := by
  unfold mLc
  rw [iR1_ok hm hl, Res.bind_ok, if_pos (by rw [List.length_map, List.length_range]; exact b24 hl)]
  have e1 : (List.range hs.length).map (fun j : Nat => D.int j) = (List.range k).map (fun j : Nat => D.int j) ++ ([D.int k] ++ (List.range (hs.length - (k + 1))).map fun j : Nat => D.int ((k + 1 + j : Nat) : Int)) := by
    have : hs.length = k + (1 + (hs.length - (k + 1))) := by omega
    conv => lhs; rw [this]
    rw [List.range_add, List.map_append, List.map_map, Nat.add_comm 1, List.range_succ_eq_map]
    simp [List.map_map]
    intro a ha
    omega
  have yes : ∀ j, j < hs.length → j ≠ k → (match tgN v (.int j) (wipeR ρ vs) with
      | some ρ' => (tt ρ').bind fun q => if q = true then (me ρ').bind fun v => .ok (some v) else .ok none
      | none => .stuck) = .ok (some (g (hat hs j))) := fun j hj hne => by
    show (match some ((wipeR ρ vs).set v (some (.int j))) with
      | some ρ' => (tt ρ').bind fun q => if q = true then (me ρ').bind fun v => .ok (some v) else .ok none
      | none => .stuck) = _
    dsimp only
    rw [ht j hj, he j hj, decide_eq_false hne]; rfl
  rw [e1, compL_app (compL_m (g := fun j => g (hat hs j)) _ fun j hj => yes j (by have := List.mem_range.mp hj; omega) (by have := List.mem_range.mp hj; omega)) (compL_app (l1 := []) ?_ (compL_m (g := fun j => g (hat hs (k + 1 + j))) _ fun j hj => yes (k + 1 + j) (by have := List.mem_range.mp hj; omega) (by omega)))]
  · rw [← take_range g (by omega), ← drop_range g, List.nil_append, ← List.map_append]; rfl
  · rw [compL, compL]
    show (noX (match some ((wipeR ρ vs).set v (some (.int k))) with
      | some ρ' => (tt ρ').bind fun q => if q = true then (me ρ').bind fun v => .ok (some v) else .ok none
      | none => .stuck)).bind _ = _
    dsimp only
    rw [ht k hk, decide_eq_true rfl]; rfl
section
variable {hs : List Hand} {outs : List Str} {p k : Nat} {W C : Nat → Int} {r : List Str}
theorem others_of_ok (hh : HandsOk p hs) (hk : k < hs.length) : m_others_of [houseD outs hs, .int k] = .ok (rowsD (rowsW (wordsOf (oth hs k)))) := by
  have hl := hh.hi
  rw [m_others_of]
  refine call_rt ?_
  rw [b_others_of]
  simp only [List.map_cons, List.map_nil, List.length_cons, List.length_nil, List.cons_append, List.nil_append, List.replicate, Nat.zero_add, Nat.reduceAdd, Nat.reduceSub, List.set_cons_zero, List.set_cons_succ]
  have i1 : gIx (houseD outs hs) (.int 1) = some (.tup (hs.map Hand.m)) := id rfl
  have cr := crossed_gen (hs := oth hs k) (by have := oth_len hk; omega) (by have := oth_ways hh hk; omega) fun g hg => hh.pos g (oth_mem hg)
  have lc : mLc [2] (tgN 2) (iR1 (mL gLen (mA1 (m2 gIx (mVar 0) (mC (.int 1))) (mA0)))) (mT (m2 gNe (mVar 2) (mVar 1))) (m2 gIx (m2 gIx (m2 gIx (mVar 0) (mC (.int 1))) (mVar 2)) (mC (.int 1))) [some (houseD outs hs), some (.int k), none] = .ok (.lst ((oth hs k).map fun h => .ftup (h.words.map D.str))) := by
    refine lc_but _ hk (by omega) (by simp [i1]) (fun j hj => ?_) (fun j hj => ?_)
    · simp [wipeR]
      omega
    · simp [wipeR, i1, house_hand hj, show ∀ h : Hand, gIx h.m (.int 1) = some (.ftup (h.words.map D.str)) from fun h => id rfl]
  simp [lc, cr]
structure Paper (p : Nat) (hs : List Hand) (q : List Str → Nat) (d : D) (k : Nat) (r : List Str) : Prop where
  lt : k < hs.length
  row : Row (wordsOf (oth hs k)) r
  pay : ∃ P R, d = .tup [.int k, rowT r, rowD (wn hs k) P, wrow (wn hs k) R] ∧ Fit (Tn (Gcol hs q k r)) (wn hs k) (fun t => Gcol hs q k r t t) P R ∧ Hon (wn hs k) (Gcol hs q k r) P
end
end TW
-- TWFirst
namespace TW
open PySem PySem.Spec PyProof.Rows L2
section
variable {hs : List Hand} {outs : List Str} {p : Nat} {q : List Str → Nat}
def Calm1 (hs : List Hand) (q : List Str → Nat) (k : Nat) (r : List Str) : Prop := m_ring [gridD (wn hs k) (Gcol hs q k r)] = .ok .non ∧ NoNeg (Tn (Gcol hs q k r)) (wn hs k) (wn hs k)
def oRows (hs : List Hand) (k : Nat) : List (List Str) := rowsW (wordsOf (oth hs k))
structure FirstRing (hs : List Hand) (q : List Str → Nat) (k i : Nat) (r : List Str) (l : List Nat) : Prop where
  lt : k < hs.length
  at' : (oRows hs k)[i]? = some r
  ring : m_ring [gridD (wn hs k) (Gcol hs q k r)] = .ok (lD l)
  is : IsRing (Tn (Gcol hs q k r)) (wn hs k) l
  hands : ∀ k', k' < k → ∀ r ∈ oRows hs k', Calm1 hs q k' r
  rows : ∀ i' r', i' < i → (oRows hs k)[i']? = some r' → Calm1 hs q k r'
end
end TW
-- TWRingLaw
namespace TW
open PySem PySem.Spec PyProof.Rows L2
section
variable {hs : List Hand} {outs : List Str} {p k : Nat} {r : List Str}
structure Wl (n m : Nat) (l : List Nat) : Prop where
  ne : l ≠ []
  len : l.length = m
  lt : ∀ x ∈ l, x < n
end
end TW
-- TWApart
namespace TW
open PySem PySem.Spec PyProof.Rows L2
structure From (n : Nat) (G : Nat → Nat → Int) (s : Nat) (P : Nat → Int) (R : Nat → List Nat) : Prop where
  ne : ∀ x, x < n → R x ≠ []
  hd : ∀ x, x < n → (R x).headD 0 = s
  la : ∀ x, x < n → (R x).getLastD 0 = x
  lt : ∀ x, x < n → ∀ y ∈ R x, y < n
  nd : ∀ x, x < n → (R x).Nodup
  eq : ∀ x, x < n → P x = wt (Tn G) (R x)
  hon : Hon n G P
  z : P s = 0
theorem From.max {n s t : Nat} {G : Nat → Nat → Int} {P Q : Nat → Int} {R : Nat → List Nat} (f : From n G s P R) (h : Hon n G Q) (ht : t < n) : Q t - Q s ≤ P t := by
  have := wt_pot (T := Tn G) (P := Q) (fun a b ha hb => by have := hon_T.mp h a b ha hb; omega) (R t) (f.ne t ht) (f.lt t ht)
  rw [f.la t ht, f.hd t ht, ← f.eq t ht] at this
  exact this
end TW
-- TWWithin
namespace TW
open PySem PySem.Spec PyProof.Rows L2
end TW
-- TWMean
namespace TW
open PySem PySem.Spec PyProof.Rows L2
def sm (S : Nat → Int) (f : Nat → Int) : Nat → Int
  | 0 => 0
  | k + 1 => sm S f k + S k * f k
structure Shares (c : Nat) (S : Nat → Int) : Prop where
  nn : ∀ k, k < c → 0 ≤ S k
  one : ∃ k, k < c ∧ 0 < S k
  sm : ∀ k, k < c → (S k).natAbs < 2 ^ 250
section
variable {c n : Nat} {S : Nat → Int}
end
end TW
-- TWRefuse
namespace TW
open PySem PySem.Spec PyProof.Rows L2
theorem isi_of {d : D} {T : String} {b : Bool} (hj : d.known = true) (e : kitB d.ty T = some b) : gIsi T d = some (.bl b) := by
  have : gIsi T d = (kitB d.ty T).map D.bl := by cases d <;> first | rfl | cases hj
  rw [this, e]; rfl
theorem isi_tup_int {l : List D} : gIsi "int" (.tup l) = some (.bl false) := isi_of rfl (show kitB "tuple" "int" = some false by decide +kernel)
theorem isi_lst_int {l : List D} : gIsi "int" (.lst l) = some (.bl false) := isi_of rfl (show kitB "list" "int" = some false by decide +kernel)
theorem isi_non_int : gIsi "int" .non = some (.bl false) := isi_of rfl (show kitB "NoneType" "int" = some false by decide +kernel)
theorem isi_str_int {s : Str} : gIsi "int" (.str s) = some (.bl false) := isi_of rfl (show kitB "str" "int" = some false by decide +kernel)
theorem isi_bl_int {b : Bool} : gIsi "int" (.bl b) = some (.bl true) := isi_of rfl (show kitB "bool" "int" = some true by decide +kernel)
theorem sFor_L {m : Rho → Res (List D)} {f : D → Rho → Option Rho} {b : Rho → Out} {ds : List D} {ρ : Rho} (h : m ρ = .ok ds) : sFor f m b ρ = forL f b ds ρ := by
  unfold sFor
  rw [h]; rfl
theorem sTryA_nx {i : Nat} {c : Str} {mb ms : Rho → Out} {ρ ρ' : Rho} (h : mb ρ = .nx ρ') : sTryA i c mb ms ρ = .nx ρ' := by
  rw [sTryA_eq, h]
theorem sTryA_ex {i : Nat} {c : Str} {mb ms : Rho → Out} {ρ ρ' ρ2 : Rho} (h : mb ρ = .ex c ρ') (hi : i < ρ'.length) (hs : ms (ρ'.set i (some .junk)) = .nx ρ2) : sTryA i c mb ms ρ = .nx (ρ2.set i none) := by
  rw [sTryA_eq, h]
  dsimp only
  rw [if_pos ⟨rfl, hi⟩, hs]
theorem call_ex {n : Nat} {b : Rho → Out} {ds : List D} {c : Str} {ρ : Rho} (h : b (ds.map some ++ List.replicate (n - ds.length) none) = .ex c ρ) : callM n b ds = .exn c := by
  unfold callM
  rw [h]
section
variable {c n : Nat} {S : Nat → Int}
end
end TW
-- TWMenuT
namespace TW
open PySem PySem.Spec PyProof.Rows L2
structure GoodMenu (outs ks : List Str) : Prop where
  nd : ks.Nodup
  sub : ∀ s ∈ ks, s ∈ outs
  ne : ks ≠ []
theorem in_ft {l : List Str} {s : Str} : gIn (.str s) (.ftup (l.map D.str)) = some (.bl (l.any (· == s))) := by
  show ((strsOf (l.map D.str)).map fun ss => D.bl (ss.any (· == s))) = _
  rw [strsOf_map]; rfl
theorem nin_ft {l : List Str} {s : Str} (h : s ∈ l) : gNin (.str s) (.ftup (l.map D.str)) = some (.bl false) := by
  show (gIn (.str s) (.ftup (l.map D.str))).bind _ = _
  rw [in_ft, show l.any (· == s) = true from List.any_eq_true.mpr ⟨s, h, beq_self_eq_true s⟩]; rfl
theorem menu_items {ks : List Str} {g : Str → Int} : dicItems (menuD ks g) = some (ks.map fun s => .tup [.str s, .int (g s)]) := by
  show some (((ks.map fun s => (Sum.inr s : Key)).zip (ks.map fun s => D.int (g s))).map fun p => D.tup [keyToD p.1, p.2]) = _
  rw [List.zip_map', List.map_map]; rfl
theorem isi_menu {ks : List Str} {g : Str → Int} : gIsi "dict" (menuD ks g) = some (.bl true) := isi_of rfl (show kitB "dict" "dict" = some true by decide +kernel)
section
variable {hs : List Hand} {outs : List Str} {p k : Nat}
theorem is_menu_ok {ks : List Str} {g : Str → Int} (h : GoodMenu outs ks) : m_is_menu [houseD outs hs, menuD ks g] = .ok (.bl true) := by
  have i0 : gIx (houseD outs hs) (.int 0) = some (.ftup (outs.map D.str)) := id rfl
  have ln := menu_len (ks := ks) (g := g)
  have isi := isi_menu (ks := ks) (g := g)
  have it := menu_items (ks := ks) (g := g)
  have l0 : ¬ (ks.length : Int) = 0 := by
    have := h.ne
    intro q
    exact this (List.eq_nil_of_length_eq_zero (by omega))
  rw [m_is_menu]
  refine call_rt ?_
  rw [b_is_menu]
  generalize menuD ks g = M at *
  generalize houseD outs hs = H at *
  simp only [List.map_cons, List.map_nil, List.length_cons, List.length_nil, List.cons_append, List.nil_append, List.replicate, Nat.zero_add, Nat.reduceAdd, Nat.reduceSub, List.set_cons_zero, List.set_cons_succ]
  rw [sSeq_eq, show sIf (tOrM (tNotM (mT (m1 (gIsi "dict") (mVar 1)))) (mT (m2 gEq (mL gLen (mA1 (mVar 1) (mA0))) (mC (.int 0))))) (sRet (mC (.bl false))) (sNil) [some H, some M, none, none] = .nx [some H, some M, none, none] from by simp [isi, ln, l0, h.ne], Out.nx_bind, sSeq_eq]
  obtain ⟨ρ', e, x2, x3, rfl⟩ := for_l (f := tgT [2, 3]) (m := fun _ => .ok (ks.map fun s => .tup [.str s, .int (g s)])) (b := sIf (tOrM (mT (m2 gNin (mVar 2) (m2 gIx (mVar 0) (mC (.int 0))))) (tOrM (tNotM (mT (m1 (gIsi "int") (mVar 3)))) (mT (m1 (gIsi "bool") (mVar 3))))) (sRet (mC (.bl false))) (sNil)) (ρ := [some H, some M, none, none])
    (fun _ ρ => ∃ x2 x3, ρ = [some H, some M, x2, x3]) (ks.map fun s => .tup [.str s, .int (g s)]) rfl ⟨_, _, rfl⟩ (by
      rintro i d ρ hd ⟨x2, x3, rfl⟩
      obtain ⟨s, hs, rfl⟩ := List.mem_map.mp (List.mem_of_getElem? hd)
      have n1 := nin_ft (h.sub s hs)
      exact ⟨[some H, some M, some (.str s), some (.int (g s))], [some H, some M, some (.str s), some (.int (g s))], rfl, by simp [i0, n1, isi_int_int, isi_int_bool], _, _, rfl⟩)
  rw [sFor_L (ds := ks.map fun s => .tup [.str s, .int (g s)]) rfl] at e
  rw [sForDI_nx (d := M) rfl it e, Out.nx_bind]
  simp
structure Menus (outs : List Str) (hs : List Hand) (k : Nat) (rs : List (List Str)) (kf : List Str → List Str) : Prop where
  nd : rs.Nodup
  mem : ∀ r, r ∈ rs ↔ Row (wordsOf (oth hs k)) r
  good : ∀ r, r ∈ rs → GoodMenu outs (kf r)
def mensD (rs : List (List Str)) (kf : List Str → List Str) (gf : List Str → Str → Int) : D := tabD rs fun r => menuD (kf r) (gf r)
theorem Menus.len {rs : List (List Str)} {kf : List Str → List Str} (m : Menus outs hs k rs kf) (hw : ∀ g ∈ hs, g.words.Nodup) : rs.length = (rowsW (wordsOf (oth hs k))).length :=
  ((List.perm_ext_iff_of_nodup m.nd (rowsW_nodup fun g hg => hw g (oth_mem hg))).mpr fun r => (m.mem r).trans row_iff.symm).length_eq
theorem are_menus_ok {rs : List (List Str)} {kf : List Str → List Str} {gf : List Str → Str → Int} (hh : HandsOk p hs) (hk : k < hs.length) (m : Menus outs hs k rs kf) : m_are_menus [houseD outs hs, .int k, mensD rs kf gf] = .ok (.bl true) := by
  have oo := others_of_ok (outs := outs) hh hk
  have ln : gLen [mensD rs kf gf] = some (.int rs.length) := tab_len
  have isi : gIsi "dict" (mensD rs kf gf) = some (.bl true) := isi_tab
  have el := m.len hh.wnd
  have rl : gLen [rowsD (rowsW (wordsOf (oth hs k)))] = some (.int rs.length) := by rw [el]; unfold rowsD; simp
  have nin : ∀ r, Row (wordsOf (oth hs k)) r → gNin (rowT r) (mensD rs kf gf) = some (.bl false) := fun r h => tab_nin ((m.mem r).mpr h)
  have ix : ∀ r, Row (wordsOf (oth hs k)) r → gIx (mensD rs kf gf) (rowT r) = some (menuD (kf r) (gf r)) := fun r h => tab_ix (g := fun r => menuD (kf r) (gf r)) ((m.mem r).mpr h)
  have im : ∀ r, Row (wordsOf (oth hs k)) r → m_is_menu [houseD outs hs, menuD (kf r) (gf r)] = .ok (.bl true) := fun r h => is_menu_ok (m.good r ((m.mem r).mpr h))
  have itr : iLoc (rowsD (rowsW (wordsOf (oth hs k)))) = some ((rowsW (wordsOf (oth hs k))).map rowT) := id rfl
  rw [m_are_menus]
  refine call_rt ?_
  rw [b_are_menus]
  generalize mensD rs kf gf = M at *
  generalize houseD outs hs = H at *
  have hR : ∀ r ∈ rowsW (wordsOf (oth hs k)), Row (wordsOf (oth hs k)) r := fun r h => row_iff.mp h
  generalize hO : rowsD (rowsW (wordsOf (oth hs k))) = O at *
  generalize rowsW (wordsOf (oth hs k)) = rows at *
  simp only [List.map_cons, List.map_nil, List.length_cons, List.length_nil, List.cons_append, List.nil_append, List.replicate, Nat.zero_add, Nat.reduceAdd, Nat.reduceSub, List.set_cons_zero, List.set_cons_succ]
  rw [seq_set (d := O) (by simp [oo])]
  simp only [List.map_cons, List.map_nil, List.length_cons, List.length_nil, List.cons_append, List.nil_append, List.replicate, Nat.zero_add, Nat.reduceAdd, Nat.reduceSub, List.set_cons_zero, List.set_cons_succ]
  rw [sSeq_eq, show sIf (tOrM (tNotM (mT (m1 (gIsi "dict") (mVar 2)))) (mT (m2 gNe (mL gLen (mA1 (mVar 2) (mA0))) (mL gLen (mA1 (mVar 3) (mA0)))))) (sRet (mC (.bl false))) (sNil) [some H, some (.int k), some M, some O, none] = .nx [some H, some (.int k), some M, some O, none] from by simp [isi, ln, rl], Out.nx_bind, sSeq_eq]
  obtain ⟨ρ', e, x4, rfl⟩ := for_m (j := 4) (m := iAny (mVar 3)) (b := sIf (tOrM (mT (m2 gNin (mVar 4) (mVar 2))) (tNotM (mT (mArgs m_is_menu (mA1 (mVar 0) (mA1 (m2 gIx (mVar 2) (mVar 4)) (mA0))))))) (sRet (mC (.bl false))) (sNil)) (ρ := [some H, some (.int k), some M, some O, none])
    (fun _ ρ => ∃ x4, ρ = [some H, some (.int k), some M, some O, x4]) rows rowT (by simp [itr]) ⟨_, rfl⟩ (by
      rintro i r ρ hd ⟨x4, rfl⟩
      have hr := hR r (List.mem_of_getElem? hd)
      exact ⟨[some H, some (.int k), some M, some O, some (rowT r)], by simp [nin r hr, ix r hr, im r hr], _, rfl⟩)
  rw [e, Out.nx_bind]
  simp
theorem mem_made {ws : List Str} {rs : List (List Str)} {row : List Str} {k : Nat} (hk : k < row.length) (hw : wat row k ∈ ws) (hr : less row k ∈ rs) : row ∈ made k ws rs := by
  unfold made
  refine List.mem_flatMap.mpr ⟨less row k, hr, List.mem_map.mpr ⟨wat row k, hw, ins_less hk⟩⟩
theorem menus_table_ok {rs : List (List Str)} {kf : List Str → List Str} {gf : List Str → Str → Int} (hh : HandsOk p hs) (hp : outs.length = p) (h0 : 0 < p) (hp8 : p ≤ 8) (hk : k < hs.length) (m : Menus outs hs k rs kf) :
    ∃ q : List Str → Nat, (∀ r, q r < p) ∧ m_menus_table [houseD outs hs, .int k, mensD rs kf gf] = .ok (tabD (made k (hat hs k).words (rowsW (wordsOf (oth hs k)))) fun row => .str (wat outs (q row))) ∧
      (∀ r, Row (wordsOf (oth hs k)) r → ∀ w ∈ (hat hs k).words, IsPick p (fun j => wat outs j ∈ kf r) (fun j => wf (hat hs k) w j - gf r (wat outs j)) (q (ins k w r))) := by
  have hne : ∀ r, Row (wordsOf (oth hs k)) r → ∃ j, j < p ∧ wat outs j ∈ kf r := fun r h => by
    have g := m.good r ((m.mem r).mpr h)
    obtain ⟨s, hs⟩ := List.exists_mem_of_ne_nil _ g.ne
    have so := g.sub s hs
    refine ⟨outs.idxOf s, by rw [← hp]; exact List.idxOf_lt_length_iff.mpr so, ?_⟩
    have : wat outs (outs.idxOf s) = s := by
      have hi := List.idxOf_lt_length_iff.mpr so
      have := wat_at hi
      rw [List.getElem?_eq_getElem hi] at this
      rw [← Option.some.inj this]
      exact List.getElem_idxOf hi
    rw [this]; exact hs
  have rlen : ∀ r, Row (wordsOf (oth hs k)) r → k ≤ r.length ∧ r.length < 1000 := fun r h => by
    have := oth_row hk h
    have := hh.hi
    omega
  obtain ⟨q, hq⟩ := Classical.axiomOfChoice (r := fun (row : List Str) (b : Nat) => b < p ∧ (Row (wordsOf (oth hs k)) (less row k) → wat row k ∈ (hat hs k).words → IsPick p (fun j => wat outs j ∈ kf (less row k)) (fun j => wf (hat hs k) (wat row k) j - gf (less row k) (wat outs j)) b ∧ m_pick [houseD outs hs, .int k, menuD (kf (less row k)) (gf (less row k)), .str (wat row k)] = .ok (.str (wat outs b)))) (fun row => by
    by_cases h : Row (wordsOf (oth hs k)) (less row k) ∧ wat row k ∈ (hat hs k).words
    · obtain ⟨b, hb, e⟩ := pick_ok (outs := outs) (g := gf (less row k)) hh hp hp8 hk h.2 (hne _ h.1)
      exact ⟨b, hb.lt, fun _ _ => ⟨hb, e⟩⟩
    · exact ⟨0, h0, fun a b => absurd ⟨a, b⟩ h⟩)
  have key : ∀ r, Row (wordsOf (oth hs k)) r → ∀ w ∈ (hat hs k).words, IsPick p (fun j => wat outs j ∈ kf r) (fun j => wf (hat hs k) w j - gf r (wat outs j)) (q (ins k w r)) ∧ m_pick [houseD outs hs, .int k, menuD (kf r) (gf r), .str w] = .ok (.str (wat outs (q (ins k w r)))) := fun r hr w hw => by
    obtain ⟨l1, l2⟩ := rlen r hr
    have := (hq (ins k w r)).2
    rw [less_ins l1, ins_wat l1] at this
    exact this hr hw
  refine ⟨q, fun r => (hq r).1, ?_, fun r hr w hw => (key r hr w hw).1⟩
  have oo := others_of_ok (outs := outs) hh hk
  have am := are_menus_ok (gf := gf) hh hk m
  have ix : ∀ r, Row (wordsOf (oth hs k)) r → gIx (mensD rs kf gf) (rowT r) = some (menuD (kf r) (gf r)) := fun r h => tab_ix (g := fun r => menuD (kf r) (gf r)) ((m.mem r).mpr h)
  have itr : iLoc (rowsD (rowsW (wordsOf (oth hs k)))) = some ((rowsW (wordsOf (oth hs k))).map rowT) := id rfl
  have i1 : gIx (houseD outs hs) (.int 1) = some (.tup (hs.map Hand.m)) := id rfl
  have ih := house_hand hk
  have m1' : ∀ h : Hand, gIx h.m (.int 1) = some (.ftup (h.words.map D.str)) := fun h => id rfl
  have hR : ∀ r ∈ rowsW (wordsOf (oth hs k)), Row (wordsOf (oth hs k)) r := fun r h => row_iff.mp h
  have nd : (rowsW (wordsOf (oth hs k))).Nodup := rowsW_nodup fun g hg => hh.wnd g (oth_mem hg)
  have rl : (rowsW (wordsOf (oth hs k))).length ≤ 256 := by rw [rowsW_len]; exact oth_ways hh hk
  have wnd := hh.wnd _ (hat_mem hk)
  have w8 := (hh.ok _ (hat_mem hk)).words.hi
  rw [m_menus_table]
  refine call_rt ?_
  rw [b_menus_table]
  generalize mensD rs kf gf = M at *
  generalize houseD outs hs = H at *
  generalize rowsW (wordsOf (oth hs k)) = rows at *
  generalize hW : (hat hs k).words = words at *
  simp only [List.map_cons, List.map_nil, List.length_cons, List.length_nil, List.cons_append, List.nil_append, List.replicate, Nat.zero_add, Nat.reduceAdd, Nat.reduceSub, List.set_cons_zero, List.set_cons_succ]
  rw [sSeq_eq, show sIf (tNotM (mT (mArgs m_are_menus (mA1 (mVar 0) (mA1 (mVar 1) (mA1 (mVar 2) (mA0))))))) (sDead) (sNil) [some H, some (.int k), some M, none, none, none] = .nx [some H, some (.int k), some M, none, none, none] from by simp [am], Out.nx_bind]
  rw [seq_set (d := .dT [] []) (by simp)]
  simp only [List.map_cons, List.map_nil, List.length_cons, List.length_nil, List.cons_append, List.nil_append, List.replicate, Nat.zero_add, Nat.reduceAdd, Nat.reduceSub, List.set_cons_zero, List.set_cons_succ]
  rw [sSeq_eq]
  generalize hb : sFor (tgN 5) _ _ = b
  obtain ⟨ρ', e, x4, x5, rfl⟩ := for_m (j := 4) (m := iAny (mArgs m_others_of (mA1 (mVar 0) (mA1 (mVar 1) (mA0))))) (b := b) (ρ := [some H, some (.int k), some M, some (.dT [] []), none, none])
    (fun i ρ => ∃ x4 x5, ρ = [some H, some (.int k), some M, some (tabD (made k words (rows.take i)) fun row => .str (wat outs (q row))), x4, x5]) rows rowT (by simp [oo, itr]) ⟨_, _, rfl⟩ (by
      rintro i r ρ hd ⟨x4, x5, rfl⟩
      subst hb
      have hr := hR r (List.mem_of_getElem? hd)
      have hi := (List.getElem?_eq_some_iff.mp hd).1
      obtain ⟨l1, l2⟩ := rlen r hr
      have t1 : rows.take (i + 1) = rows.take i ++ [r] := by rw [List.take_add_one, hd]; rfl
      have mk1 : made k words (rows.take (i + 1)) = made k words (rows.take i) ++ words.map fun w => ins k w r := by
        rw [t1]; unfold made; rw [List.flatMap_append]; simp
      have mnd : (made k words (rows.take (i + 1))).Nodup := made_nodup wnd (nd.sublist (List.take_sublist _ _)) fun x hx => (rlen x (hR x (List.mem_of_mem_take hx))).1
      have mlen : (made k words (rows.take (i + 1))).length ≤ 256 * 8 := by
        rw [made_len, List.length_take]
        exact Nat.mul_le_mul (by omega) w8
      rw [mk1] at mnd mlen ⊢
      generalize made k words (rows.take i) = L at *
      simp only [List.map_cons, List.map_nil, List.length_cons, List.length_nil, List.cons_append, List.nil_append, List.replicate, Nat.zero_add, Nat.reduceAdd, Nat.reduceSub, List.set_cons_zero, List.set_cons_succ]
      obtain ⟨ρ', e, x5, rfl⟩ := for_m (j := 5) (m := iAny (m2 gIx (m2 gIx (m2 gIx (mVar 0) (mC (.int 1))) (mVar 1)) (mC (.int 1)))) (b := sPutD 3 (pNil) (mArgs m_row_with (mA1 (mVar 4) (mA1 (mVar 1) (mA1 (mVar 5) (mA0))))) (mArgs m_pick (mA1 (mVar 0) (mA1 (mVar 1) (mA1 (m2 gIx (mVar 2) (mVar 4)) (mA1 (mVar 5) (mA0))))))) (ρ := [some H, some (.int k), some M, some (tabD L fun row => .str (wat outs (q row))), some (rowT r), x5])
        (fun t ρ => ∃ x5, ρ = [some H, some (.int k), some M, some (tabD (L ++ (words.take t).map fun w => ins k w r) fun row => .str (wat outs (q row))), some (rowT r), x5]) words D.str (by simp [i1, ih, m1', hW]) ⟨x5, by simp⟩ (by
          rintro t w ρ hd ⟨x5, rfl⟩
          have hw := List.mem_of_getElem? hd
          have t2 : words.take (t + 1) = words.take t ++ [w] := by rw [List.take_add_one, hd]; rfl
          have e2 : (L ++ (words.take (t + 1)).map fun w => ins k w r) = (L ++ (words.take t).map fun w => ins k w r) ++ [ins k w r] := by rw [t2, List.map_append, List.append_assoc]; rfl
          have sub : (L ++ (words.take (t + 1)).map fun w => ins k w r).Sublist (L ++ words.map fun w => ins k w r) := List.Sublist.append (List.Sublist.refl _) ((List.take_sublist _ _).map _)
          have nd2 := mnd.sublist sub
          have len2 := sub.length_le
          rw [e2] at nd2 len2 ⊢
          have nin : ins k w r ∉ (L ++ (words.take t).map fun w => ins k w r) := fun z => (List.nodup_append.mp nd2).2.2 _ z _ (by simp) rfl
          rw [List.length_append, List.length_singleton] at len2
          have pt := tab_put (g := fun row => .str (wat outs (q row))) nin (by omega)
          have rw_ := row_with_ok (w := w) l1 l2
          have pk := (key r hr w hw).2
          have ixr := ix r hr
          generalize (L ++ (words.take t).map fun w => ins k w r) = L2 at *
          exact ⟨[some H, some (.int k), some M, some (tabD (L2 ++ [ins k w r]) fun row => .str (wat outs (q row))), some (rowT r), some (.str w)], by simp [rw_, ixr, pk, pt], _, rfl⟩)
      rw [List.take_length] at e
      exact ⟨_, e, _, _, rfl⟩)
  rw [e, List.take_length, Out.nx_bind]
  simp
theorem tabQ_made {q : List Str → Nat} (hk : k < hs.length) : TabQ (tabD (made k (hat hs k).words (rowsW (wordsOf (oth hs k)))) fun row => .str (wat outs (q row))) outs hs q := fun row h => by
  have ro := Row.of h
  exact tab_ix (g := fun row => .str (wat outs (q row))) (mem_made (by rw [ro.1]; exact hk) (ro.2 k hk) (row_iff.mpr (less_row hk h)))
end
end TW
-- TWBad
namespace TW
open PySem PySem.Spec PyProof.Rows L2
theorem isi_bl_bool {b : Bool} : gIsi "bool" (.bl b) = some (.bl true) := isi_of rfl (show kitB "bool" "bool" = some true by decide +kernel)
def NmOk (d : D) : Prop := (∃ s, d = .str s ∧ s.length ≤ 1000) ∨ gIsi "str" d = some (.bl false)
theorem NmOk.of {s : Str} (h : IsName s) : NmOk (.str s) := .inl ⟨s, rfl, by have := h.hi; omega⟩
section
variable {p : Nat}
end
section
variable {o h : D}
end
end TW
-- Mth_k46
namespace Lk46
open PySem PySem.Spec PyProof.Rows L2 TW
theorem tops_k46 : Tops [8, 5, 4, 2] fun j => match j with | 0 => 8 | 1 => 5 | 2 => 4 | _ => 2 where
  at' := fun j hj => by
    have : j = 0 ∨ j = 1 ∨ j = 2 ∨ j = 3 := by omega
    rcases this with rfl | rfl | rfl | rfl <;> rfl
  lo := fun j hj => by
    have : j = 0 ∨ j = 1 ∨ j = 2 ∨ j = 3 := by omega
    rcases this with rfl | rfl | rfl | rfl <;> decide
  way := fun j hj => by
    have : j = 0 ∨ j = 1 ∨ j = 2 ∨ j = 3 := by omega
    rcases this with rfl | rfl | rfl | rfl <;> decide
theorem putMv_ok {t y : Nat} {mk : Rho → Res D} {ρ : Rho} {c v k c' : D} (h1 : ρ[t]? = some (some c)) (h2 : ρ[y]? = some (some v)) (h3 : mk ρ = .ok k) (h4 : putD c k v = some c') (h5 : t ≠ y) (h6 : c.isDT = true) : sPutMv t mk y ρ = .nx ((ρ.set y none).set t (some c')) := by
  have e : sPutMv t mk y ρ = (match ρ[t]?, ρ[y]? with
    | some (some c), some (some v) => (match mk ρ with
      | .ok k => (match putD c k v with
        | some c' => if t ≠ y ∧ c.isDT = true then .nx ((ρ.set y none).set t (some c')) else .stuck
        | none => .stuck)
      | _ => .stuck)
    | _, _ => .stuck) := id rfl
  rw [e, h1, h2]
  dsimp only
  rw [h3]
  dsimp only
  rw [h4]
  dsimp only
  rw [if_pos ⟨h5, h6⟩]
theorem ruin_ok {h o c l : Nat} {me : Rho → Res D} {ρ : Rho} {ks : List (List Key)} {ds os : List D} {v : D} (h1 : ρ[h]? = some (some (.dT ks ds))) (h2 : ρ[l]? = some (some (.lst os)))
    (hc : (ds.all smallMenu = true ∧ os.all D.isS = true ∧ ks ≠ [] ∧ os ≠ []) ∧ (ks.length ≤ 1000 ∧ os.length ≤ 100) ∧ (h ≠ o ∧ h ≠ c ∧ h ≠ l ∧ o ≠ c ∧ l ≠ o ∧ l ≠ c) ∧ (o < ρ.length ∧ c < ρ.length))
    (hm : me (((ρ.set h (some .junk)).set o (some .junk)).set c (some .junk)) = .ok v) (hv : v.flat = true) : sRuin h o c l me ρ = .nx (((ρ.set h (some .junk)).set o (some .junk)).set c (some .junk)) := by
  have e : sRuin h o c l me ρ = (match ρ[h]?, ρ[l]? with
    | some (some (.dT ks ds)), some (some (.lst os)) =>
      if (ds.all smallMenu = true ∧ os.all D.isS = true ∧ ks ≠ [] ∧ os ≠ []) ∧ (ks.length ≤ 1000 ∧ os.length ≤ 100) ∧ (h ≠ o ∧ h ≠ c ∧ h ≠ l ∧ o ≠ c ∧ l ≠ o ∧ l ≠ c) ∧ (o < ρ.length ∧ c < ρ.length) then
        (match me (((ρ.set h (some .junk)).set o (some .junk)).set c (some .junk)) with
        | .ok v => if v.flat = true then .nx (((ρ.set h (some .junk)).set o (some .junk)).set c (some .junk)) else .stuck
        | _ => .stuck)
      else .stuck
    | _, _ => .stuck) := id rfl
  rw [e, h1, h2]
  dsimp only
  rw [if_pos hc, hm]
  dsimp only
  rw [if_pos hv]
theorem d3 (z k : Int) (h1 : 0 < k) (h2 : k < 10000) : gDiv (.int z) (.int k) = some (.int (z / k)) := gDiv_int h1 (Nat.lt_trans (log2_lt (k := 64) (show k.natAbs < 2 ^ 64 by omega) (by decide)) (by decide))
theorem wD_at {ws : List (List Int)} {t : Nat} (h : t < ws.length) : gIx (wD ws) (.int t) = some (numsD (ws.getD t [])) := by
  show atI (ws.map numsD) (t : Int) = _
  rw [TW.atI_nat (by simpa using h), List.getElem?_map, List.getElem?_eq_getElem h, List.getD_eq_getElem?_getD, List.getElem?_eq_getElem h]
  rfl
theorem turned_rows {rows : List (List Str)} {s : Nat} (hs : s ≤ rows.length) (hl : rows.length < 1000) : ∃ rs : List (List Str), rs.Perm rows ∧ ∃ a b c, gSl (rowsD rows) (some (s : Int)) none = some a ∧ gSl (rowsD rows) none (some (s : Int)) = some b ∧ gAdd a b = some c ∧ stepF c (.ok (.int (1 - 2 * ((s : Int) % 2)))) = .ok (rowsD rs) := by
  have e1 : gSl (rowsD rows) (some (s : Int)) none = some (.lst ((rows.map rowT).drop s)) := by
    show some (D.lst (cutD (rows.map rowT) (some (s : Int)) none)) = _
    rw [cut_from]
  have e2 : gSl (rowsD rows) none (some (s : Int)) = some (.lst ((rows.map rowT).take s)) := by
    show some (D.lst (cutD (rows.map rowT) none (some (s : Int)))) = _
    rw [cut_to (by simpa using hs)]
  have e3 : gAdd (.lst ((rows.map rowT).drop s)) (.lst ((rows.map rowT).take s)) = some (rowsD (rows.drop s ++ rows.take s)) := by
    rw [gAdd_lst (b24' (by simp; omega)), ← List.map_drop, ← List.map_take, ← List.map_append]; rfl
  have pm : (rows.drop s ++ rows.take s).Perm rows := by
    have := List.perm_append_comm (l₁ := rows.drop s) (l₂ := rows.take s)
    rwa [List.take_append_drop] at this
  have : (s : Int) % 2 = 0 ∨ (s : Int) % 2 = 1 := by omega
  rcases this with h | h
  · exact ⟨rows.drop s ++ rows.take s, pm, _, _, _, e1, e2, e3, by rw [h]; rfl⟩
  · refine ⟨(rows.drop s ++ rows.take s).reverse, (List.reverse_perm _).trans pm, _, _, _, e1, e2, e3, ?_⟩
    rw [h]
    show Res.ok (D.lst ((rows.drop s ++ rows.take s).map rowT).reverse) = .ok (D.lst ((rows.drop s ++ rows.take s).reverse.map rowT))
    rw [List.map_reverse]
section
variable {hs : List Hand} {outs : List Str} {p k : Nat}
theorem rows_oth (hh : HandsOk p hs) (hk : k < hs.length) : ∃ a b c, gSl (handsD hs) none (some (k : Int)) = some a ∧ gSl (handsD hs) (some ((k : Int) + 1)) none = some b ∧ gAdd a b = some c ∧ m__law_rows_v2 [c] = .ok (rowsD (rowsW (wordsOf (oth hs k)))) := by
  have hl := hh.hi
  refine ⟨handsD (hs.take k), handsD (hs.drop (k + 1)), handsD (oth hs k), ?_, ?_, ?_, rows2_gen (by have := oth_len hk; omega) (by have := oth_ways hh hk; omega) fun g hg => hh.pos g (oth_mem hg)⟩
  · show some (D.lst (cutD (hs.map Hand.d) none (some (k : Int)))) = _
    rw [cut_to (by simp; omega), ← List.map_take]; rfl
  · show some (D.lst (cutD (hs.map Hand.d) (some ((k : Int) + 1)) none)) = _
    rw [show ((k : Int) + 1) = ((k + 1 : Nat) : Int) by omega, cut_from, ← List.map_drop]; rfl
  · unfold handsD oth
    rw [gAdd_lst (b24' (by simp; omega)), List.map_append]
theorem menus_made (ns : List Int) (hl : ns.length ≤ 1000) (hh : HandsOk p hs) (ao : AreNames outs 8) (hp : outs.length = p) (hk : k < hs.length) :
    ∃ rs kf gf, Menus outs hs k rs kf ∧ m__law_menus_v2 [.scr ns, namesD outs, handsD hs, .int k] = .ok (mensD rs kf gf) := by
  have h0 := ao.lo
  have p8 := ao.hi
  have h4 := hh.hi
  have a4 := cellat ns (i := 4) 4 rfl
  obtain ⟨sa, sb, sc, es1, es2, es3, ero⟩ := rows_oth hh hk
  have r256 : (rowsW (wordsOf (oth hs k))).length ≤ 256 := by rw [rowsW_len]; exact oth_ways hh hk
  have rpos : 1 ≤ (rowsW (wordsOf (oth hs k))).length := by rw [rowsW_len]; exact ways_pos fun g hg => hh.pos g (oth_mem hg)
  have rnd : (rowsW (wordsOf (oth hs k))).Nodup := rowsW_nodup fun g hg => hh.wnd g (oth_mem hg)
  have rmem : ∀ r, r ∈ rowsW (wordsOf (oth hs k)) ↔ Row (wordsOf (oth hs k)) r := fun r => row_iff
  have rlen : gLen [rowsD (rowsW (wordsOf (oth hs k)))] = some (.int (rowsW (wordsOf (oth hs k))).length) := by unfold rowsD; simp
  have ln : gLen [namesD outs] = some (.int p) := by rw [← hp]; exact len_names
  have ixn : ∀ j, j < p → gIx (namesD outs) (.int j) = some (.str (wat outs j)) := fun j hj => names_ix (wat_at (by omega))
  have won : ∀ j, j < p → wat outs j ∈ outs := fun j hj => wat_mem (by omega)
  have ih := hands_hand hk
  have o := hh.ok _ (hat_mem hk)
  have w1 := hh.pos _ (hat_mem hk)
  suffices h : ∃ rs kf gf, Menus outs hs k rs kf ∧ b__law_menus_v2 ([D.scr ns, namesD outs, handsD hs, .int k].map some ++ List.replicate (14 - [D.scr ns, namesD outs, handsD hs, .int k].length) none) = .rt (mensD rs kf gf) by
    obtain ⟨rs, kf, gf, m, e⟩ := h
    exact ⟨rs, kf, gf, m, by rw [m__law_menus_v2]; exact call_rt e⟩
  rw [b__law_menus_v2]
  obtain ⟨O, hO⟩ : ∃ O, namesD outs = O := ⟨_, rfl⟩
  obtain ⟨Hd, hHd⟩ : ∃ Hd, handsD hs = Hd := ⟨_, rfl⟩
  rw [hO] at ln ixn ⊢
  rw [hHd] at es1 es2 ih ⊢
  generalize hat hs k = h at *
  have i2 : gIx h.d (.int 2) = some (wD h.worths) := id rfl
  have i1 : gIx h.d (.int 1) = some (namesD h.words) := id rfl
  have wl : gLen [namesD h.words] = some (.int h.words.length) := len_names
  generalize hRW : rowsW (wordsOf (oth hs k)) = rows at *
  simp only [List.map_cons, List.map_nil, List.length_cons, List.length_nil, List.cons_append, List.nil_append, List.replicate, Nat.zero_add, Nat.reduceAdd, Nat.reduceSub, List.set_cons_zero, List.set_cons_succ]
  rw [seq_set (d := .dT [] []) (by simp), seq_set (d := .int 0) (by simp)]
  simp only [List.map_cons, List.map_nil, List.length_cons, List.length_nil, List.cons_append, List.nil_append, List.replicate, Nat.zero_add, Nat.reduceAdd, Nat.reduceSub, List.set_cons_zero, List.set_cons_succ]
  rw [seq_set (d := rowsD rows) (by simp [es1, es2, es3, ero])]
  simp only [List.map_cons, List.map_nil, List.length_cons, List.length_nil, List.cons_append, List.nil_append, List.replicate, Nat.zero_add, Nat.reduceAdd, Nat.reduceSub, List.set_cons_zero, List.set_cons_succ]
  obtain ⟨st, hst⟩ : ∃ st : Nat, cel ns 4 / 5 % rows.length = st := ⟨(cel ns 4 / 5 % rows.length).toNat, by have := mod_bnd (cel ns 4 / 5) (k := (rows.length : Int)) (by omega); omega⟩
  have hst2 : st < rows.length := by have := mod_bnd (cel ns 4 / 5) (k := (rows.length : Int)) (by omega); omega
  rw [seq_set (d := .int st) (by simp [a4, d3, rlen, gMod_int (show (0 : Int) < rows.length by omega), hst])]
  simp only [List.map_cons, List.map_nil, List.length_cons, List.length_nil, List.cons_append, List.nil_append, List.replicate, Nat.zero_add, Nat.reduceAdd, Nat.reduceSub, List.set_cons_zero, List.set_cons_succ]
  obtain ⟨rs, pm, ta, tb, tc, t1, t2, t3, t4⟩ := turned_rows (rows := rows) (s := st) (by omega) (by omega)
  have nd : rs.Nodup := (pm.nodup_iff).mpr rnd
  have rsl : rs.length = rows.length := pm.length_eq
  have rsm : ∀ r, r ∈ rs ↔ Row (wordsOf (oth hs k)) r := fun r => pm.mem_iff.trans (rmem r)
  have g2 : gMul (.int 2) (.int ((st : Int) % 2)) = some (.int (2 * ((st : Int) % 2))) := gMul_int (by decide) (nat250 (by omega))
  have m2 : gMod (.int st) (.int 2) = some (.int ((st : Int) % 2)) := gMod_int (by decide)
  generalize rowsD rows = RR at *
  rw [sSeq_eq]
  generalize hb : sSeq (sSet 9 _) _ = b
  have itr : iLoc (rowsD rs) = some (rs.map rowT) := id rfl
  obtain ⟨ρ', e, kf, gf, x8, x9, x10, x11, x12, x13, good, rfl⟩ := for_m (j := 8) (m := iAny (mStepL (TW.m2 gAdd (mSl (mVar 6) (oYes (mVar 7)) (oNo)) (mSl (mVar 6) (oNo) (oYes (mVar 7)))) (TW.m2 gSub (mC (.int 1)) (TW.m2 gMul (mC (.int 2)) (TW.m2 gMod (mVar 7) (mC (.int 2))))))) (b := b) (ρ := [some (.scr ns), some O, some Hd, some (.int k), some (.dT [] []), some (.int 0), some RR, some (.int st), none, none, none, none, none, none])
    (fun i ρ => ∃ kf gf x8 x9 x10 x11 x12 x13, (∀ r ∈ rs.take i, GoodMenu outs (kf r)) ∧ ρ = [some (.scr ns), some O, some Hd, some (.int k), some (mensD (rs.take i) kf gf), some (.int i), some RR, some (.int st), x8, x9, x10, x11, x12, x13]) rs rowT (by simp [t1, t2, t3, m2, g2, t4, itr]) ⟨fun _ => [], fun _ _ => 0, _, _, _, _, _, _, by simp, rfl⟩ (by
      rintro j r ρ hd ⟨kf, gf, x8, x9, x10, x11, x12, x13, good, rfl⟩
      subst hb
      have hj := (List.getElem?_eq_some_iff.mp hd).1
      have j256 : j < 256 := by omega
      simp only [List.map_cons, List.map_nil, List.length_cons, List.length_nil, List.cons_append, List.nil_append, List.replicate, Nat.zero_add, Nat.reduceAdd, Nat.reduceSub, List.set_cons_zero, List.set_cons_succ]
      rw [seq_set (d := .dK [] []) (by simp)]
      simp only [List.map_cons, List.map_nil, List.length_cons, List.length_nil, List.cons_append, List.nil_append, List.replicate, Nat.zero_add, Nat.reduceAdd, Nat.reduceSub, List.set_cons_zero, List.set_cons_succ]
      obtain ⟨t0, ht0⟩ : ∃ t : Nat, (j : Int) % h.words.length = t := ⟨((j : Int) % h.words.length).toNat, by have := mod_bnd (j : Int) (k := (h.words.length : Int)) (by omega); omega⟩
      have ht0l : t0 < h.words.length := by have := mod_bnd (j : Int) (k := (h.words.length : Int)) (by omega); omega
      have wa : gIx (wD h.worths) (.int t0) = some (numsD (h.worths.getD t0 [])) := wD_at (by rw [o.len]; exact ht0l)
      have rlen0 : (h.worths.getD t0 []).length = p := by
        have hl : t0 < h.worths.length := by rw [o.len]; exact ht0l
        rw [List.getD_eq_getElem?_getD, List.getElem?_eq_getElem hl]
        exact o.row _ (List.getElem_mem _)
      generalize h.worths.getD t0 [] = wr at *
      have ixw : ∀ i, i < p → gIx (numsD wr) (.int i) = some (.int (wr.getD i 0)) := fun i hi => nums_at (by omega)
      rw [seq_set (d := numsD wr) (by simp [ih, i2, i1, wl, gMod_int (show (0 : Int) < h.words.length by omega), ht0, wa])]
      simp only [List.map_cons, List.map_nil, List.length_cons, List.length_nil, List.cons_append, List.nil_append, List.replicate, Nat.zero_add, Nat.reduceAdd, Nat.reduceSub, List.set_cons_zero, List.set_cons_succ]
      generalize numsD wr = Wd at *
      obtain ⟨F, hF⟩ : ∃ F : Nat → Int, ∀ i, wr.getD i 0 = F i := ⟨_, fun _ => rfl⟩
      simp only [hF] at ixw
      rw [sSeq_eq]
      generalize hMT : mensD (rs.take j) kf gf = MT at *
      generalize hb2 : sSeq (sSet 12 _) _ = b2
      obtain ⟨ρ', e, ks, g, x11, x12, x13, knd, ksub, kl, kne, rfl⟩ := for_r (j := 11) (mi := mL gLen (mA1 (mVar 1) (mA0))) (b := b2) (ρ := [some (.scr ns), some O, some Hd, some (.int k), some MT, some (.int j), some RR, some (.int st), some (rowT r), some (.dK [] []), some Wd, x11, x12, x13])
        (fun i ρ => ∃ ks g x11 x12 x13, ks.Nodup ∧ (∀ s ∈ ks, s ∈ outs) ∧ ks.length ≤ i ∧ (0 < i → ks ≠ []) ∧ ρ = [some (.scr ns), some O, some Hd, some (.int k), some MT, some (.int j), some RR, some (.int st), some (rowT r), some (menuD ks g), some Wd, x11, x12, x13]) p (by simp [ln]) (by omega) ⟨[], fun _ => 0, _, _, _, List.nodup_nil, by simp, Nat.le_refl _, fun h => absurd h (Nat.lt_irrefl 0), rfl⟩ (by
          rintro i ρ hi ⟨ks, g, x11, x12, x13, knd, ksub, kl, kne, rfl⟩
          subst hb2
          obtain ⟨pl, hpl, hpp⟩ : ∃ pl : Nat, ((i : Int) + j) % p = pl ∧ pl < p := ⟨(((i : Int) + j) % p).toNat, by have := mod_bnd ((i : Int) + j) (k := (p : Int)) (by omega); omega, by have := mod_bnd ((i : Int) + j) (k := (p : Int)) (by omega); omega⟩
          simp only [List.map_cons, List.map_nil, List.length_cons, List.length_nil, List.cons_append, List.nil_append, List.replicate, Nat.zero_add, Nat.reduceAdd, Nat.reduceSub, List.set_cons_zero, List.set_cons_succ]
          rw [seq_set (d := .int pl) (by simp [ln, gMod_int (show (0 : Int) < p by omega), hpl])]
          simp only [List.map_cons, List.map_nil, List.length_cons, List.length_nil, List.cons_append, List.nil_append, List.replicate, Nat.zero_add, Nat.reduceAdd, Nat.reduceSub, List.set_cons_zero, List.set_cons_succ]
          have jp : gMul (.int j) (.int p) = some (.int ((j * p : Nat) : Int)) := mul_nat (by omega) (by omega)
          have jp2 : j * p ≤ 256 * 8 := Nat.mul_le_mul (by omega) (by omega)
          have dr := drw_ok ns hl (300 + j * p + i) (by omega) (i := 300 + ((j * p : Nat) : Int) + (i : Int)) (by omega)
          generalize ((j * p : Nat) : Int) = JP at *
          rw [seq_set (d := .int (drw ns (300 + j * p + i))) (by simp [ln, jp, dr])]
          simp only [List.map_cons, List.map_nil, List.length_cons, List.length_nil, List.cons_append, List.nil_append, List.replicate, Nat.zero_add, Nat.reduceAdd, Nat.reduceSub, List.set_cons_zero, List.set_cons_succ]
          generalize drw ns (300 + j * p + i) = c at *
          obtain ⟨z, ez⟩ := price_ok (c / 7) (F pl)
          have m7 : gMod (.int c) (.int 7) = some (.int (c % 7)) := gMod_int (by decide)
          have d7 := d3 c 7 (by decide) (by decide)
          have ixn' := ixn pl hpp
          have ixw' := ixw pl hpp
          by_cases hc : c % 7 < 4 ∨ (i : Int) = 0
          · obtain ⟨ks', g', pt, nd', mem, _, _⟩ := menu_put (g := g) (s := wat outs pl) (z := z) knd (by omega)
            refine ⟨[some (.scr ns), some O, some Hd, some (.int k), some MT, some (.int j), some RR, some (.int st), some (rowT r), some (menuD ks' g'), some Wd, some (.int i), some (.int pl), some (.int c)], ?_, ks', g', _, _, _, nd', fun s hs => ?_, ?_, fun _ q => ?_, rfl⟩
            · by_cases h5 : c % 7 < 4
              · simp [m7, h5, ixn', ixw', d7, ez, pt]
              · have : (i : Int) = 0 := hc.resolve_left h5
                have i0 : i = 0 := by omega
                subst i0
                simp [m7, h5, ixn', ixw', d7, ez, pt]
            · rcases (mem s).mp hs with h | rfl
              · exact ksub s h
              · exact won pl hpp
            · have sub : ∀ t ∈ ks', t ∈ wat outs pl :: ks := fun t ht => by
                rcases (mem t).mp ht with h | h
                · exact List.mem_cons_of_mem _ h
                · rw [h]; exact List.mem_cons_self
              have := nd'.length_le_of_subset sub
              simp only [List.length_cons] at this
              omega
            · have : wat outs pl ∈ ks' := (mem _).mpr (.inr rfl)
              rw [q] at this
              cases this
          · have h5 : ¬ c % 7 < 4 := fun h => hc (.inl h)
            have hi0 : ¬ i = 0 := fun h => hc (.inr (by omega))
            refine ⟨[some (.scr ns), some O, some Hd, some (.int k), some MT, some (.int j), some RR, some (.int st), some (rowT r), some (menuD ks g), some Wd, some (.int i), some (.int pl), some (.int c)], ?_, ks, g, _, _, _, knd, ksub, by omega, fun _ => kne (by omega), rfl⟩
            simp [m7, h5, hi0])
      rw [e, Out.nx_bind]
      have t1 : rs.take (j + 1) = rs.take j ++ [r] := by rw [List.take_add_one, hd]; rfl
      have nin : r ∉ rs.take j := by
        intro q
        have : (rs.take j ++ [r]).Nodup := by rw [← t1]; exact nd.sublist (List.take_sublist _ _)
        exact (List.nodup_append.mp this).2.2 r q r (by simp) rfl
      let kf' : List Str → List Str := fun x => if x = r then ks else kf x
      let gf' : List Str → Str → Int := fun x => if x = r then g else gf x
      have kr : kf' r = ks := if_pos rfl
      have gr : gf' r = g := if_pos rfl
      have kn : ∀ x, x ≠ r → kf' x = kf x := fun x h => if_neg h
      have gn : ∀ x, x ≠ r → gf' x = gf x := fun x h => if_neg h
      have eMT : MT = mensD (rs.take j) kf' gf' := by
        rw [← hMT]
        exact tab_congr fun x hx => by rw [kn x fun q => nin (q ▸ hx), gn x fun q => nin (q ▸ hx)]
      have pt : putD MT (rowT r) (menuD ks g) = some (mensD (rs.take (j + 1)) kf' gf') := by
        have := tab_put (g := fun x => menuD (kf' x) (gf' x)) nin (by rw [List.length_take]; omega)
        rw [kr, gr] at this
        rw [eMT, t1]
        exact this
      refine ⟨[some (.scr ns), some O, some Hd, some (.int k), some (mensD (rs.take (j + 1)) kf' gf'), some (.int (j + 1 : Nat)), some RR, some (.int st), some (rowT r), none, some Wd, x11, x12, x13], ?_, kf', gf', _, _, _, _, _, _, fun x hx => ?_, rfl⟩
      · have dtM : MT.isDT = true := by rw [eMT]; rfl
        generalize mensD (rs.take (j + 1)) kf' gf' = MT2 at *
        generalize menuD ks g = Mn at *
        rw [sSeq_eq, putMv_ok (ρ := [some (.scr ns), some O, some Hd, some (.int k), some MT, some (.int j), some RR, some (.int st), some (rowT r), some Mn, some Wd, x11, x12, x13]) (t := 4) (y := 9) (by rfl) (by rfl) (by simp) pt (by decide) dtM, Out.nx_bind]
        simp only [List.map_cons, List.map_nil, List.length_cons, List.length_nil, List.cons_append, List.nil_append, List.replicate, Nat.zero_add, Nat.reduceAdd, Nat.reduceSub, List.set_cons_zero, List.set_cons_succ]
        simp
      · rw [t1] at hx
        by_cases q : x = r
        · subst q
          rw [kr]
          exact ⟨knd, ksub, kne (by omega)⟩
        · rw [kn x q]
          rcases List.mem_append.mp hx with h | h
          · exact good x h
          · exact absurd (List.mem_singleton.mp h) q)
  rw [e, Out.nx_bind, List.take_length]
  refine ⟨rs, kf, gf, ⟨nd, rsm, ?_⟩, by simp⟩
  rw [List.take_length] at good
  exact good
end

theorem eqFs_refl : ∀ {l : List D}, (∀ d ∈ l, eqF d d = true) → eqFs l l = true
  | [], _ => rfl
  | a :: l, h => by
    show (eqF a a && eqFs l l) = true
    rw [h a List.mem_cons_self, eqFs_refl fun d hd => h d (List.mem_cons_of_mem _ hd)]; rfl
theorem eqMs_refl : ∀ {l : List D}, (∀ d ∈ l, eqM d d = true) → eqMs l l = true
  | [], _ => rfl
  | a :: l, h => by
    show (eqM a a && eqMs l l) = true
    rw [h a List.mem_cons_self, eqMs_refl fun d hd => h d (List.mem_cons_of_mem _ hd)]; rfl
theorem nodup_map {α β : Type} {f : α → β} (inj : ∀ a b, f a = f b → a = b) {l : List α} (nd : l.Nodup) : (l.map f).Nodup := by
  refine List.pairwise_map.mpr (nd.imp fun h q => h (inj _ _ q))
theorem eqM_menu {ks : List Str} {g : Str → Int} (nd : ks.Nodup) : eqM (menuD ks g) (menuD ks g) = true := by
  have n2 : (ks.map fun s => (Sum.inr s : Key)).Nodup := nodup_map (fun a b e => Sum.inr.inj e) nd
  have e : eqM (menuD ks g) (menuD ks g) = (decide ((ks.map fun s => (Sum.inr s : Key)) = ks.map fun s => (Sum.inr s : Key)) && decide (ks.map fun s => (Sum.inr s : Key)).Nodup && eqFs (ks.map fun s => D.int (g s)) (ks.map fun s => D.int (g s))) := id rfl
  rw [e, decide_eq_true rfl, decide_eq_true n2, eqFs_refl fun d hd => by
    obtain ⟨s, _, rfl⟩ := List.mem_map.mp hd
    show decide _ = true
    exact decide_eq_true rfl]
  rfl
theorem mens_eq {rs : List (List Str)} {kf : List Str → List Str} {gf : List Str → Str → Int} (nd : rs.Nodup) (g : ∀ r ∈ rs, (kf r).Nodup) : gNeTT (mensD rs kf gf) (mensD rs kf gf) = some (.bl false) := by
  have n2 : (rs.map rkey).Nodup := nodup_map (fun a b e => rkey_inj e) nd
  have e : gNeTT (mensD rs kf gf) (mensD rs kf gf) = (if rs.map rkey = rs.map rkey ∧ (rs.map rkey).Nodup ∧ eqMs (rs.map fun r => menuD (kf r) (gf r)) (rs.map fun r => menuD (kf r) (gf r)) = true then some (.bl false) else none) := id rfl
  rw [e, if_pos ⟨rfl, n2, eqMs_refl fun d hd => by
    obtain ⟨r, hr, rfl⟩ := List.mem_map.mp hd
    exact eqM_menu (g r hr)⟩]
theorem law_best_ok {outs ks : List Str} {p b : Nat} {wr : List Int} {g : Str → Int} (nd : outs.Nodup) (hp : outs.length = p) (hl : p ≤ 8) (rl : wr.length = p) (pk : IsPick p (fun j => wat outs j ∈ ks) (fun j => wr.getD j 0 - g (wat outs j)) b) : m__law_best [namesD outs, numsD wr, menuD ks g, .str (wat outs b)] = .ok (.bl true) := by
  have hb := pk.lt
  have on := pk.on
  have n1 : gNin (.str (wat outs b)) (menuD ks g) = some (.bl false) := by rw [menu_nin, decide_eq_true on]; rfl
  have hI := index_names (l := outs) (wat_mem (by omega : b < outs.length))
  rw [idx_wat nd (by omega)] at hI
  have hW : ∀ j, j < p → gIx (numsD wr) (.int j) = some (.int (wr.getD j 0)) := fun j hj => nums_at (by omega)
  have hin := fun s => menu_in (ks := ks) (g := g) (s := s)
  have hix := fun s (h : s ∈ ks) => menu_ix (ks := ks) (g := g) (s := s) h
  have ixb := hix _ on
  have ixn : ∀ j, j < p → gIx (namesD outs) (.int j) = some (.str (wat outs j)) := fun j hj => names_ix (wat_at (by omega))
  have ln : gLen [namesD outs] = some (.int p) := by rw [← hp]; exact len_names
  have most : ∀ j, j < p → wat outs j ∈ ks → wr.getD j 0 - g (wat outs j) ≤ wr.getD b 0 - g (wat outs b) ∧ (wr.getD j 0 - g (wat outs j) = wr.getD b 0 - g (wat outs b) → b ≤ j) := pk.most
  have Wb := hW b hb
  rw [m__law_best]
  refine call_rt ?_
  rw [b__law_best]
  generalize namesD outs = O at *
  generalize numsD wr = Wd at *
  generalize menuD ks g = M at *
  simp only [List.map_cons, List.map_nil, List.length_cons, List.length_nil, List.cons_append, List.nil_append, List.replicate, Nat.zero_add, Nat.reduceAdd, Nat.reduceSub, List.set_cons_zero, List.set_cons_succ]
  rw [sSeq_eq, show sIf (tOrM (tNotM (mT (m1 (gIsi "str") (mVar 3)))) (mT (m2 gNin (mVar 3) (mVar 2)))) (sRet (mC (.bl false))) (sNil) [some O, some Wd, some M, some (.str (wat outs b)), none, none, none, none] = .nx [some O, some Wd, some M, some (.str (wat outs b)), none, none, none, none] from by simp [isi_str, n1], Out.nx_bind]
  rw [seq_set (d := .int b) (by simp [hI])]
  simp only [List.map_cons, List.map_nil, List.length_cons, List.length_nil, List.cons_append, List.nil_append, List.replicate, Nat.zero_add, Nat.reduceAdd, Nat.reduceSub, List.set_cons_zero, List.set_cons_succ]
  rw [seq_set (d := .int (wr.getD b 0 - g (wat outs b))) (by simp [Wb, ixb])]
  simp only [List.map_cons, List.map_nil, List.length_cons, List.length_nil, List.cons_append, List.nil_append, List.replicate, Nat.zero_add, Nat.reduceAdd, Nat.reduceSub, List.set_cons_zero, List.set_cons_succ]
  generalize hFb : wr.getD b 0 - g (wat outs b) = fb at *
  rw [sSeq_eq]
  generalize hbb : sIf (mT (m2 gIn _ _)) _ _ = bb
  obtain ⟨ρ', e, x6, x7, rfl⟩ := for_r (j := 6) (mi := mL gLen (mA1 (mVar 0) (mA0))) (b := bb) (ρ := [some O, some Wd, some M, some (.str (wat outs b)), some (.int b), some (.int fb), none, none])
    (fun _ ρ => ∃ x6 x7, ρ = [some O, some Wd, some M, some (.str (wat outs b)), some (.int b), some (.int fb), x6, x7]) p (by simp [ln]) (by omega) ⟨_, _, rfl⟩ (by
      rintro j ρ hj ⟨x6, x7, rfl⟩
      subst hbb
      have o1 := ixn j hj
      by_cases q : wat outs j ∈ ks
      · have a1 : gIn (.str (wat outs j)) M = some (.bl true) := by rw [hin, decide_eq_true q]
        have a2 := hix _ q
        have a3 := hW j hj
        obtain ⟨m1, m2⟩ := most j hj q
        generalize wat outs j = s at *
        generalize wr.getD j 0 = w at *
        refine ⟨[some O, some Wd, some M, some (.str (wat outs b)), some (.int b), some (.int fb), some (.int j), some (.int (w - g s))], ?_, _, _, rfl⟩
        have c1 : ¬ (fb < w - g s) := by omega
        by_cases c2 : w - g s = fb
        · have c3 : ¬ (j < b) := by have := m2 c2; omega
          simp [o1, a1, a2, a3, c1, c2, c3]
        · simp [o1, a1, a2, a3, c1, c2]
      · have a1 : gIn (.str (wat outs j)) M = some (.bl false) := by rw [hin, decide_eq_false q]
        refine ⟨[some O, some Wd, some M, some (.str (wat outs b)), some (.int b), some (.int fb), some (.int j), x7], by simp [o1, a1], _, _, rfl⟩)
  rw [e, Out.nx_bind]
  simp
theorem law_holds : ∀ ns : List Int, ns.length ≤ 63 → (∀ z ∈ ns, Builtin.Int.intBits z ≤ 1048576) → m_law_k46 [.scr ns] = .ok (.bl true) := by
  intro ns hns _
  obtain ⟨outs, hs, ep, ao, hh⟩ := parts_are ns hns tops_k46
  have ho := house_of_ok ao hh
  have hl := hh.hi
  have ll := hh.lo
  have aolo := ao.lo
  have aohi := ao.hi
  have ln : gLen [handsD hs] = some (.int hs.length) := by unfold handsD; simp
  have a4 := cellat ns (i := 4) 4 rfl
  have lr := rows2_ok hh
  have nd := rowsW_nodup hh.wnd
  have rl : (rowsW (wordsOf hs)).length ≤ 256 := by rw [rowsW_len]; exact hh.many
  have rrow : ∀ r ∈ rowsW (wordsOf hs), Row (wordsOf hs) r := fun r h => row_iff.mp h
  rw [m_law_k46]
  refine call_rt ?_
  rw [b_law_k46]
  simp only [List.map_cons, List.map_nil, List.length_cons, List.length_nil, List.cons_append, List.nil_append, List.replicate, Nat.zero_add, Nat.reduceAdd, Nat.reduceSub, List.set_cons_zero, List.set_cons_succ]
  have l4 : TW.gLst [.int 8, .int 5, .int 4, .int 2] = some (.lst ([8, 5, 4, 2].map D.int)) := gLst_eq (show 4 ≤ sizeLine by decide)
  generalize (.lst ([8, 5, 4, 2].map D.int) : D) = L4 at *
  rw [sSeq_eq, show sAsg (tgT [1, 2]) (mArgs m__law_parts (mA1 (mVar 0) (mA1 (mL gLst (mA1 (mC (.int 8)) (mA1 (mC (.int 5)) (mA1 (mC (.int 4)) (mA1 (mC (.int 2)) (mA0)))))) (mA0)))) [some (.scr ns), none, none, none, none, none, none, none, none, none, none, none, none, none] = .nx [some (.scr ns), some (namesD outs), some (handsD hs), none, none, none, none, none, none, none, none, none, none, none] from by simp [l4, ep], Out.nx_bind]
  rw [seq_set (d := houseD outs hs) (by simp [ho])]
  simp only [List.map_cons, List.map_nil, List.length_cons, List.length_nil, List.cons_append, List.nil_append, List.replicate, Nat.zero_add, Nat.reduceAdd, Nat.reduceSub, List.set_cons_zero, List.set_cons_succ]
  obtain ⟨k, hk⟩ : ∃ k : Nat, cel ns 4 % hs.length = k := ⟨(cel ns 4 % hs.length).toNat, by have := mod_bnd (cel ns 4) (k := (hs.length : Int)) (by omega); omega⟩
  have hkl : k < hs.length := by have := mod_bnd (cel ns 4) (k := (hs.length : Int)) (by omega); omega
  rw [seq_set (d := .int k) (by simp [a4, ln, gMod_int (show (0 : Int) < hs.length by omega), hk])]
  simp only [List.map_cons, List.map_nil, List.length_cons, List.length_nil, List.cons_append, List.nil_append, List.replicate, Nat.zero_add, Nat.reduceAdd, Nat.reduceSub, List.set_cons_zero, List.set_cons_succ]
  obtain ⟨rs, kf, gf, mn, em⟩ := menus_made ns (by omega) hh ao rfl hkl
  rw [seq_set (d := mensD rs kf gf) (by simp [em])]
  simp only [List.map_cons, List.map_nil, List.length_cons, List.length_nil, List.cons_append, List.nil_append, List.replicate, Nat.zero_add, Nat.reduceAdd, Nat.reduceSub, List.set_cons_zero, List.set_cons_succ]
  rw [seq_set (d := mensD rs kf gf) (by simp [em])]
  simp only [List.map_cons, List.map_nil, List.length_cons, List.length_nil, List.cons_append, List.nil_append, List.replicate, Nat.zero_add, Nat.reduceAdd, Nat.reduceSub, List.set_cons_zero, List.set_cons_succ]
  obtain ⟨q, hq, et, pick⟩ := menus_table_ok (gf := gf) hh rfl (by omega) ao.hi hkl mn
  have hT := tabQ_made (outs := outs) (q := q) hkl
  have ixm : ∀ r, Row (wordsOf (oth hs k)) r → gIx (mensD rs kf gf) (rowT r) = some (menuD (kf r) (gf r)) := fun r h => tab_ix (g := fun r => menuD (kf r) (gf r)) ((mn.mem r).mpr h)
  have ih := hands_hand hkl
  have o := hh.ok _ (hat_mem hkl)
  have wpos := hh.pos _ (hat_mem hkl)
  have i1 : gIx (hat hs k).d (.int 1) = some (namesD (hat hs k).words) := id rfl
  have i2 : gIx (hat hs k).d (.int 2) = some (wD (hat hs k).worths) := id rfl
  have sha : D.sha 1 (tabD (made k (hat hs k).words (rowsW (wordsOf (oth hs k)))) fun row => .str (wat outs (q row))) = true := by
    show ((made k (hat hs k).words (rowsW (wordsOf (oth hs k)))).map fun row => D.str (wat outs (q row))).all (D.shalF 7 0) = true
    rw [List.all_map]
    exact List.all_eq_true.mpr fun r _ => rfl
  have tl : gLen [tabD (made k (hat hs k).words (rowsW (wordsOf (oth hs k)))) fun row => .str (wat outs (q row))] = some (.int (rowsW (wordsOf hs)).length) := by
    rw [tab_len, made_len, rowsW_len, rowsW_len]
    have : ways hs = ways (oth hs k) * (hat hs k).words.length := by
      conv => lhs; rw [split_at hkl, ways_app]
      unfold oth
      rw [ways_app]
      show _ * ((hat hs k).words.length * _) = _
      rw [Nat.mul_assoc, Nat.mul_comm (hat hs k).words.length]
    rw [this]
  have ti := isi_tab (rows := made k (hat hs k).words (rowsW (wordsOf (oth hs k)))) (g := fun row => .str (wat outs (q row)))
  have tn : ∀ row, Row (wordsOf hs) row → gNin (rowT row) (tabD (made k (hat hs k).words (rowsW (wordsOf (oth hs k)))) fun row => .str (wat outs (q row))) = some (.bl false) := fun row h => tab_nin (row_made hkl h)
  have rlen' : gLen [rowsD (rowsW (wordsOf hs))] = some (.int (rowsW (wordsOf hs)).length) := by unfold rowsD; simp
  generalize hTT : (tabD (made k (hat hs k).words (rowsW (wordsOf (oth hs k)))) fun row => .str (wat outs (q row))) = T at *
  rw [seq_set (d := T) (by simp [et, sha])]
  simp only [List.map_cons, List.map_nil, List.length_cons, List.length_nil, List.cons_append, List.nil_append, List.replicate, Nat.zero_add, Nat.reduceAdd, Nat.reduceSub, List.set_cons_zero, List.set_cons_succ]
  have ne := mens_eq (gf := gf) mn.nd fun r hr => (mn.good r hr).nd
  rw [sSeq_eq, show sIf (mT (m2 gNeTT (mVar 6) (mVar 5))) (sRet (mC (.bl false))) (sNil) [some (.scr ns), some (namesD outs), some (handsD hs), some (houseD outs hs), some (.int k), some (mensD rs kf gf), some (mensD rs kf gf), some T, none, none, none, none, none, none] = .nx [some (.scr ns), some (namesD outs), some (handsD hs), some (houseD outs hs), some (.int k), some (mensD rs kf gf), some (mensD rs kf gf), some T, none, none, none, none, none, none] from by
    generalize mensD rs kf gf = M at *
    simp [ne], Out.nx_bind]
  have rsl : rs.length ≤ 256 := by rw [mn.len hh.wnd, rowsW_len]; exact oth_ways hh hkl
  have w0 : gIx (wD (hat hs k).worths) (.int ((0 : Nat) : Int)) = some (numsD ((hat hs k).worths.getD 0 [])) := wD_at (by rw [o.len]; exact wpos)
  have w0l : ((hat hs k).worths.getD 0 []).length = outs.length := by
    have hl : 0 < (hat hs k).worths.length := by rw [o.len]; exact wpos
    rw [List.getD_eq_getElem?_getD, List.getElem?_eq_getElem hl]
    exact o.row _ (List.getElem_mem _)
  have w00 : gIx (numsD ((hat hs k).worths.getD 0 [])) (.int ((0 : Nat) : Int)) = some (.int (((hat hs k).worths.getD 0 []).getD 0 0)) := nums_at (by omega)
  generalize ((hat hs k).worths.getD 0 []).getD 0 0 = z0 at *
  have rsne : rs ≠ [] := by
    intro z
    have h1 : rs.length = ways (oth hs k) := by rw [mn.len hh.wnd, rowsW_len]
    have h2 : 1 ≤ ways (oth hs k) := ways_pos fun g hg => hh.pos g (oth_mem hg)
    rw [z] at h1
    simp at h1
    omega
  have kfl : ∀ r ∈ rs, (kf r).length ≤ 8 := fun r hr => by
    have := (mn.good r hr).nd.length_le_of_subset (mn.good r hr).sub
    omega
  rw [sSeq_eq, ruin_ok (v := .int (-1 - z0 / 2)) (ks := rs.map rkey) (ds := rs.map fun r => menuD (kf r) (gf r)) (os := outs.map D.str) rfl rfl ⟨⟨?sm, ?st, ?kn, ?on⟩, ⟨by rw [List.length_map]; omega, by rw [List.length_map]; omega⟩, by decide, ⟨by simp, by simp⟩⟩ ?me rfl, Out.nx_bind]
  case sm =>
    rw [List.all_map]
    refine List.all_eq_true.mpr fun r hr => ?_
    show decide ((List.map (fun s => (Sum.inr s : Key)) (kf r)).length ≤ 1000) = true
    rw [List.length_map]
    exact decide_eq_true (by have := kfl r hr; omega)
  case st =>
    rw [List.all_map]
    exact List.all_eq_true.mpr fun r _ => rfl
  case kn =>
    intro z
    exact rsne (List.map_eq_nil_iff.mp z)
  case on =>
    intro z
    have := List.map_eq_nil_iff.mp z
    rw [this] at aolo
    simp at aolo
  case me =>
    generalize mensD rs kf gf = M at *
    generalize handsD hs = Hd at *
    generalize hat hs k = h at *
    generalize houseD outs hs = HH at *
    generalize numsD (h.worths.getD 0 []) = w0d at *
    have gn : gNeg (.int 1) = some (.int (-1)) := rfl
    have w0' : gIx (wD h.worths) (.int 0) = some w0d := w0
    have w00' : gIx w0d (.int 0) = some (.int z0) := w00
    simp only [List.map_cons, List.map_nil, List.length_cons, List.length_nil, List.cons_append, List.nil_append, List.replicate, Nat.zero_add, Nat.reduceAdd, Nat.reduceSub, List.set_cons_zero, List.set_cons_succ]
    simp [ih, i2, w0', w00', d3, gn]
  simp only [List.map_cons, List.map_nil, List.length_cons, List.length_nil, List.cons_append, List.nil_append, List.replicate, Nat.zero_add, Nat.reduceAdd, Nat.reduceSub, List.set_cons_zero, List.set_cons_succ]
  rw [seq_set (d := rowsD (rowsW (wordsOf hs))) (by simp [lr])]
  simp only [List.map_cons, List.map_nil, List.length_cons, List.length_nil, List.cons_append, List.nil_append, List.replicate, Nat.zero_add, Nat.reduceAdd, Nat.reduceSub, List.set_cons_zero, List.set_cons_succ]
  rw [sSeq_eq, show sIf (tOrM (tNotM (mT (m1 (gIsi "dict") (mVar 7)))) (mT (m2 gNe (mL gLen (mA1 (mVar 7) (mA0))) (mL gLen (mA1 (mVar 10) (mA0)))))) (sRet (mC (.bl false))) (sNil) [some (.scr ns), some (namesD outs), some (handsD hs), some (houseD outs hs), some (.int k), some (mensD rs kf gf), some .junk, some T, some .junk, some .junk, some (rowsD (rowsW (wordsOf hs))), none, none, none] = .nx [some (.scr ns), some (namesD outs), some (handsD hs), some (houseD outs hs), some (.int k), some (mensD rs kf gf), some .junk, some T, some .junk, some .junk, some (rowsD (rowsW (wordsOf hs))), none, none, none] from by
    generalize mensD rs kf gf = M at *
    generalize rowsD (rowsW (wordsOf hs)) = RR at *
    simp [ti, tl, rlen'], Out.nx_bind]
  have itr : iLoc (rowsD (rowsW (wordsOf hs))) = some ((rowsW (wordsOf hs)).map rowT) := id rfl
  generalize rowsD (rowsW (wordsOf hs)) = RR at *
  generalize mensD rs kf gf = M at *
  rw [sSeq_eq]
  generalize hb : sSeq (sSet 12 _) _ = b
  obtain ⟨ρ', e, x11, x12, x13, rfl⟩ := for_m (j := 11) (m := iAny (mVar 10)) (b := b) (ρ := [some (.scr ns), some (namesD outs), some (handsD hs), some (houseD outs hs), some (.int k), some M, some .junk, some T, some .junk, some .junk, some RR, none, none, none])
    (fun _ ρ => ∃ x11 x12 x13, ρ = [some (.scr ns), some (namesD outs), some (handsD hs), some (houseD outs hs), some (.int k), some M, some .junk, some T, some .junk, some .junk, some RR, x11, x12, x13]) (rowsW (wordsOf hs)) rowT (by simp [itr]) ⟨_, _, _, rfl⟩ (by
      rintro i row ρ hd ⟨x11, x12, x13, rfl⟩
      subst hb
      have hr := rrow row (List.mem_of_getElem? hd)
      have ro := hr.of
      have rlen : row.length = hs.length := ro.1
      have hw := ro.2 k hkl
      have hless := less_row hkl hr
      obtain ⟨s1, s2, s3⟩ := less_slices (row := row) (k := k) (by omega) (by omega)
      have pk := pick _ hless _ hw
      rw [ins_less (by omega)] at pk
      have hti := hT row hr
      have htn := tn row hr
      have him := ixm _ hless
      have rk : gIx (rowT row) (.int k) = some (.str (wat row k)) := by
        show atI (row.map D.str) (k : Int) = _
        rw [TW.atI_nat (by simp; omega), List.getElem?_map, wat_at (by omega)]; rfl
      have hI := index_names (l := (hat hs k).words) hw
      have hil : (hat hs k).words.idxOf (wat row k) < (hat hs k).worths.length := by rw [o.len]; exact List.idxOf_lt_length_iff.mpr hw
      have hwr := wD_at (ws := (hat hs k).worths) hil
      have wfe : ∀ j, wf (hat hs k) (wat row k) j = ((hat hs k).worths.getD ((hat hs k).words.idxOf (wat row k)) []).getD j 0 := fun j => rfl
      have wrl : ((hat hs k).worths.getD ((hat hs k).words.idxOf (wat row k)) []).length = outs.length := by
        rw [List.getD_eq_getElem?_getD, List.getElem?_eq_getElem hil]
        exact o.row _ (List.getElem_mem _)
      simp only [wfe] at pk
      generalize (hat hs k).worths.getD ((hat hs k).words.idxOf (wat row k)) [] = wr at *
      have lb := law_best_ok (g := gf (less row k)) ao.nd rfl aohi wrl pk
      generalize hat hs k = h at *
      generalize numsD wr = Wd at *
      generalize menuD (kf (less row k)) (gf (less row k)) = Mn at *
      generalize namesD outs = O at *
      generalize handsD hs = Hd at *
      generalize houseD outs hs = HH at *
      simp only [List.map_cons, List.map_nil, List.length_cons, List.length_nil, List.cons_append, List.nil_append, List.replicate, Nat.zero_add, Nat.reduceAdd, Nat.reduceSub, List.set_cons_zero, List.set_cons_succ]
      rw [seq_set (d := Wd) (by simp [ih, i1, i2, rk, hI, hwr])]
      simp only [List.map_cons, List.map_nil, List.length_cons, List.length_nil, List.cons_append, List.nil_append, List.replicate, Nat.zero_add, Nat.reduceAdd, Nat.reduceSub, List.set_cons_zero, List.set_cons_succ]
      rw [seq_set (d := Mn) (by simp [s1, s2, s3, him])]
      simp only [List.map_cons, List.map_nil, List.length_cons, List.length_nil, List.cons_append, List.nil_append, List.replicate, Nat.zero_add, Nat.reduceAdd, Nat.reduceSub, List.set_cons_zero, List.set_cons_succ]
      exact ⟨[some (.scr ns), some O, some Hd, some HH, some (.int k), some M, some .junk, some T, some .junk, some .junk, some RR, some (rowT row), some Wd, some Mn], by simp [htn, hti, lb], _, _, _, rfl⟩)
  rw [e, Out.nx_bind]
  simp
end Lk46
-- TWMenuN
namespace TW
open PySem PySem.Spec PyProof.Rows L2
theorem forL_scanG {α : Type} {f : D → Rho → Option Rho} {b : Rho → Out} {v : D} (mk : α → D) (good : α → Bool) (I : Rho → Prop) : ∀ (xs : List α) (ρ : Rho), I ρ → (∀ x ∈ xs, ∀ ρ, I ρ → ∃ ρ1, f (mk x) ρ = some ρ1 ∧ (good x = true → ∃ ρ2, I ρ2 ∧ b ρ1 = .nx ρ2) ∧ (good x = false → b ρ1 = .rt v)) →
    (xs.all good = true ∧ ∃ ρ2, I ρ2 ∧ forL f b (xs.map mk) ρ = .nx ρ2) ∨ (xs.all good = false ∧ forL f b (xs.map mk) ρ = .rt v)
  | [], ρ, h, _ => .inl ⟨rfl, ρ, h, rfl⟩
  | x :: xs, ρ, h, st => by
    obtain ⟨ρ1, e0, s1, s2⟩ := st x List.mem_cons_self ρ h
    have u : forL f b ((x :: xs).map mk) ρ = match f (mk x) ρ with | some ρ' => (b ρ').bind (forL f b (xs.map mk)) | none => .stuck := id rfl
    rw [u, e0, List.all_cons]
    dsimp only
    cases hg : good x with
    | true =>
      obtain ⟨ρ2, h2, e⟩ := s1 hg
      rw [e, Out.nx_bind, Bool.true_and]
      exact forL_scanG mk good I xs ρ2 h2 fun y hy => st y (List.mem_cons_of_mem _ hy)
    | false =>
      rw [s2 hg]
      exact .inr ⟨rfl, rfl⟩
inductive Val : D → Bool → Prop
  | int (z : Int) : Val (.int z) true
  | no {v : D} : gIsi "int" v = some (.bl false) → Val v false
  | bl (b : Bool) : Val (.bl b) false
inductive Ent (outs : List Str) : D → Bool → Prop
  | non (v : D) : Ent outs (.tup [.non, v]) false
  | str {s : Str} {v : D} {g : Bool} : Val v g → Ent outs (.tup [.str s, v]) (outs.any (· == s) && g)
theorem ninZ_ft {l : List Str} {s : Str} : gNinZ (.str s) (.ftup (l.map D.str)) = some (.bl (!l.any (· == s))) := by
  show gNin (.str s) (.ftup (l.map D.str)) = _
  show (gIn (.str s) (.ftup (l.map D.str))).bind _ = _
  rw [in_ft]; rfl
theorem ninZ_non {l : List Str} : gNinZ .non (.ftup (l.map D.str)) = some (.bl true) := by
  show (strsOf (l.map D.str)).map _ = _
  rw [strsOf_map]; rfl
section
variable {hs : List Hand} {outs : List Str} {p k : Nat}
theorem is_menu_no {X : D} (isi : gIsiN "dict" X = some (.bl false)) : m_is_menu_v2 [houseD outs hs, X] = .ok (.bl false) := by
  rw [m_is_menu_v2]
  refine call_rt ?_
  rw [b_is_menu_v2]
  generalize houseD outs hs = H at *
  simp only [List.map_cons, List.map_nil, List.length_cons, List.length_nil, List.cons_append, List.nil_append, List.replicate, Nat.zero_add, Nat.reduceAdd, Nat.reduceSub, List.set_cons_zero, List.set_cons_succ]
  rw [sSeq_eq, show sIf (tOrM (tNotM (mT (m1 (gIsiN "dict") (mVar 1)))) (mT (m2 gEq (mL gLenN (mA1 (mVar 1) (mA0))) (mC (.int 0))))) (sRet (mC (.bl false))) (sNil) [some H, some X, none, none] = .rt (.bl false) from by simp [isi]]
  rfl
theorem is_menu_nil {X : D} (isi : gIsiN "dict" X = some (.bl true)) (ln : gLenN [X] = some (.int 0)) : m_is_menu_v2 [houseD outs hs, X] = .ok (.bl false) := by
  rw [m_is_menu_v2]
  refine call_rt ?_
  rw [b_is_menu_v2]
  generalize houseD outs hs = H at *
  simp only [List.map_cons, List.map_nil, List.length_cons, List.length_nil, List.cons_append, List.nil_append, List.replicate, Nat.zero_add, Nat.reduceAdd, Nat.reduceSub, List.set_cons_zero, List.set_cons_succ]
  rw [sSeq_eq, show sIf (tOrM (tNotM (mT (m1 (gIsiN "dict") (mVar 1)))) (mT (m2 gEq (mL gLenN (mA1 (mVar 1) (mA0))) (mC (.int 0))))) (sRet (mC (.bl false))) (sNil) [some H, some X, none, none] = .rt (.bl false) from by simp [isi, ln]]
  rfl
theorem is_menu_scan {α : Type} {X : D} {xs : List α} {mk : α → D} {good : α → Bool} {n : Nat} (isi : gIsiN "dict" X = some (.bl true)) (ln : gLenN [X] = some (.int n)) (hn : 0 < n) (it : dicItemsN X = some (xs.map mk)) (hL : ∀ x ∈ xs, Ent outs (mk x) (good x)) : m_is_menu_v2 [houseD outs hs, X] = .ok (.bl (xs.all good)) := by
  have i0 : gIx (houseD outs hs) (.int 0) = some (.ftup (outs.map D.str)) := id rfl
  have l0 : ¬ (n : Int) = 0 := by omega
  have l1 : ¬ n = 0 := by omega
  rw [m_is_menu_v2]
  refine call_rt ?_
  rw [b_is_menu_v2]
  generalize houseD outs hs = H at *
  simp only [List.map_cons, List.map_nil, List.length_cons, List.length_nil, List.cons_append, List.nil_append, List.replicate, Nat.zero_add, Nat.reduceAdd, Nat.reduceSub, List.set_cons_zero, List.set_cons_succ]
  rw [sSeq_eq, show sIf (tOrM (tNotM (mT (m1 (gIsiN "dict") (mVar 1)))) (mT (m2 gEq (mL gLenN (mA1 (mVar 1) (mA0))) (mC (.int 0))))) (sRet (mC (.bl false))) (sNil) [some H, some X, none, none] = .nx [some H, some X, none, none] from by simp [isi, ln, l0, l1], Out.nx_bind, sSeq_eq]
  have sc := forL_scanG (f := tgT [2, 3]) (b := sIf (tOrM (mT (m2 gNinZ (mVar 2) (m2 gIx (mVar 0) (mC (.int 0))))) (tOrM (tNotM (mT (m1 (gIsi "int") (mVar 3)))) (mT (m1 (gIsi "bool") (mVar 3))))) (sRet (mC (.bl false))) (sNil)) (v := .bl false) mk good (fun ρ => ∃ x2 x3, ρ = [some H, some X, x2, x3]) xs [some H, some X, none, none] ⟨_, _, rfl⟩ (by
    rintro x hx ρ ⟨x2, x3, rfl⟩
    have he := hL x hx
    generalize hm : mk x = d at he
    generalize hg : good x = gx at he
    have z1 := ninZ_non (l := outs)
    have z2 := fun s => ninZ_ft (l := outs) (s := s)
    generalize outs.map D.str = OL at *
    cases he with
    | non v =>
      refine ⟨[some H, some X, some .non, some v], rfl, fun z => (nomatch z), fun _ => ?_⟩
      simp [i0, z1]
    | @str s v g hv =>
      have z3 := z2 s
      cases hc : outs.any (· == s) with
      | false =>
        rw [hc] at z3
        refine ⟨[some H, some X, some (.str s), some v], rfl, fun z => (nomatch z), fun _ => ?_⟩
        simp [i0, z3]
      | true =>
        rw [hc] at z3
        cases hv with
        | int z => exact ⟨[some H, some X, some (.str s), some (.int z)], rfl, fun _ => ⟨[some H, some X, some (.str s), some (.int z)], ⟨_, _, rfl⟩, by simp [i0, z3, isi_int_int, isi_int_bool]⟩, fun z => (nomatch z)⟩
        | no e => exact ⟨[some H, some X, some (.str s), some v], rfl, fun z => (nomatch z), fun _ => by simp [i0, z3, e]⟩
        | bl b => exact ⟨[some H, some X, some (.str s), some (.bl b)], rfl, fun z => (nomatch z), fun _ => by simp [i0, z3, isi_bl_int, isi_bl_bool]⟩)
  rcases sc with ⟨e1, ρ2, ⟨x2, x3, rfl⟩, e2⟩ | ⟨e1, e2⟩
  · rw [sForDN_nx (d := X) rfl it e2, Out.nx_bind, e1]
    simp
  · rw [sForDN_rt (d := X) rfl it e2, e1]
    rfl
theorem isiN_menu {ks : List Str} {g : Str → Int} : gIsiN "dict" (menuD ks g) = some (.bl true) := by
  show gIsi "dict" (menuD ks g) = _
  exact isi_menu
theorem lenN_menu {ks : List Str} {g : Str → Int} : gLenN [menuD ks g] = some (.int ks.length) := by
  show gLen [menuD ks g] = _
  exact menu_len
theorem is_menu_v2_ok {ks : List Str} {g : Str → Int} (h : GoodMenu outs ks) : m_is_menu_v2 [houseD outs hs, menuD ks g] = .ok (.bl true) := by
  have e := is_menu_scan (hs := hs) (outs := outs) (X := menuD ks g) (xs := ks) (mk := fun s => .tup [.str s, .int (g s)]) (good := fun s => outs.any (· == s) && true) (n := ks.length) isiN_menu lenN_menu (List.length_pos_iff.mpr h.ne) menu_items fun s hs => .str (.int _)
  rw [e, List.all_eq_true.mpr fun s hs => ?_]
  rw [Bool.and_true]
  exact List.any_eq_true.mpr ⟨s, h.sub s hs, beq_self_eq_true s⟩
theorem are_menus_no {T : D} (hh : HandsOk p hs) (hk : k < hs.length) (isi : gIsi "dict" T = some (.bl false)) : m_are_menus_v2 [houseD outs hs, .int k, T] = .ok (.bl false) := by
  have oo := others_of_ok (outs := outs) hh hk
  rw [m_are_menus_v2]
  refine call_rt ?_
  rw [b_are_menus_v2]
  generalize houseD outs hs = H at *
  generalize rowsD (rowsW (wordsOf (oth hs k))) = O at *
  simp only [List.map_cons, List.map_nil, List.length_cons, List.length_nil, List.cons_append, List.nil_append, List.replicate, Nat.zero_add, Nat.reduceAdd, Nat.reduceSub, List.set_cons_zero, List.set_cons_succ]
  rw [seq_set (d := O) (by simp [oo])]
  simp only [List.map_cons, List.map_nil, List.length_cons, List.length_nil, List.cons_append, List.nil_append, List.replicate, Nat.zero_add, Nat.reduceAdd, Nat.reduceSub, List.set_cons_zero, List.set_cons_succ]
  rw [sSeq_eq, show sIf (tOrM (tNotM (mT (m1 (gIsi "dict") (mVar 2)))) (mT (m2 gNe (mL gLen (mA1 (mVar 2) (mA0))) (mL gLen (mA1 (mVar 3) (mA0)))))) (sRet (mC (.bl false))) (sNil) [some H, some (.int k), some T, some O, none] = .rt (.bl false) from by simp [isi]]
  rfl
theorem are_menus_len {T : D} {n : Nat} (hh : HandsOk p hs) (hk : k < hs.length) (isi : gIsi "dict" T = some (.bl true)) (ln : gLen [T] = some (.int n)) (hn : n ≠ (rowsW (wordsOf (oth hs k))).length) : m_are_menus_v2 [houseD outs hs, .int k, T] = .ok (.bl false) := by
  have oo := others_of_ok (outs := outs) hh hk
  have rl : gLen [rowsD (rowsW (wordsOf (oth hs k)))] = some (.int (rowsW (wordsOf (oth hs k))).length) := by unfold rowsD; simp
  have hn2 : ¬ (n : Int) = ((rowsW (wordsOf (oth hs k))).length : Int) := by omega
  rw [m_are_menus_v2]
  refine call_rt ?_
  rw [b_are_menus_v2]
  generalize houseD outs hs = H at *
  generalize hO : rowsD (rowsW (wordsOf (oth hs k))) = O at *
  generalize (rowsW (wordsOf (oth hs k))).length = l at *
  simp only [List.map_cons, List.map_nil, List.length_cons, List.length_nil, List.cons_append, List.nil_append, List.replicate, Nat.zero_add, Nat.reduceAdd, Nat.reduceSub, List.set_cons_zero, List.set_cons_succ]
  rw [seq_set (d := O) (by simp [oo])]
  simp only [List.map_cons, List.map_nil, List.length_cons, List.length_nil, List.cons_append, List.nil_append, List.replicate, Nat.zero_add, Nat.reduceAdd, Nat.reduceSub, List.set_cons_zero, List.set_cons_succ]
  rw [sSeq_eq, show sIf (tOrM (tNotM (mT (m1 (gIsi "dict") (mVar 2)))) (mT (m2 gNe (mL gLen (mA1 (mVar 2) (mA0))) (mL gLen (mA1 (mVar 3) (mA0)))))) (sRet (mC (.bl false))) (sNil) [some H, some (.int k), some T, some O, none] = .rt (.bl false) from by simp [isi, ln, rl, hn, hn2]]
  rfl
def Asked (H T : D) (r : List Str) (b : Bool) : Prop := (gNinT (rowT r) T = some (.bl true) ∧ b = false) ∨ (gNinT (rowT r) T = some (.bl false) ∧ ∃ X, gIx T (rowT r) = some X ∧ m_is_menu_v2 [H, X] = .ok (.bl b))
theorem are_menus_scan {T : D} {good : List Str → Bool} (hh : HandsOk p hs) (hk : k < hs.length) (isi : gIsi "dict" T = some (.bl true)) (ln : gLen [T] = some (.int (rowsW (wordsOf (oth hs k))).length)) (hg : ∀ r ∈ rowsW (wordsOf (oth hs k)), Asked (houseD outs hs) T r (good r)) : m_are_menus_v2 [houseD outs hs, .int k, T] = .ok (.bl ((rowsW (wordsOf (oth hs k))).all good)) := by
  have oo := others_of_ok (outs := outs) hh hk
  have rl : gLen [rowsD (rowsW (wordsOf (oth hs k)))] = some (.int (rowsW (wordsOf (oth hs k))).length) := by unfold rowsD; simp
  have itr : iLoc (rowsD (rowsW (wordsOf (oth hs k)))) = some ((rowsW (wordsOf (oth hs k))).map rowT) := id rfl
  rw [m_are_menus_v2]
  refine call_rt ?_
  rw [b_are_menus_v2]
  generalize houseD outs hs = H at *
  generalize hO : rowsD (rowsW (wordsOf (oth hs k))) = O at *
  generalize rowsW (wordsOf (oth hs k)) = rows at *
  simp only [List.map_cons, List.map_nil, List.length_cons, List.length_nil, List.cons_append, List.nil_append, List.replicate, Nat.zero_add, Nat.reduceAdd, Nat.reduceSub, List.set_cons_zero, List.set_cons_succ]
  rw [seq_set (d := O) (by simp [oo])]
  simp only [List.map_cons, List.map_nil, List.length_cons, List.length_nil, List.cons_append, List.nil_append, List.replicate, Nat.zero_add, Nat.reduceAdd, Nat.reduceSub, List.set_cons_zero, List.set_cons_succ]
  rw [sSeq_eq, show sIf (tOrM (tNotM (mT (m1 (gIsi "dict") (mVar 2)))) (mT (m2 gNe (mL gLen (mA1 (mVar 2) (mA0))) (mL gLen (mA1 (mVar 3) (mA0)))))) (sRet (mC (.bl false))) (sNil) [some H, some (.int k), some T, some O, none] = .nx [some H, some (.int k), some T, some O, none] from by simp [isi, ln, rl], Out.nx_bind, sSeq_eq]
  have sc := forL_scanG (f := tgN 4) (b := sIf (tOrM (mT (m2 gNinT (mVar 4) (mVar 2))) (tNotM (mT (mArgs m_is_menu_v2 (mA1 (mVar 0) (mA1 (m2 gIx (mVar 2) (mVar 4)) (mA0))))))) (sRet (mC (.bl false))) (sNil)) (v := .bl false) rowT good (fun ρ => ∃ x4, ρ = [some H, some (.int k), some T, some O, x4]) rows [some H, some (.int k), some T, some O, none] ⟨_, rfl⟩ (by
    rintro r hr ρ ⟨x4, rfl⟩
    refine ⟨[some H, some (.int k), some T, some O, some (rowT r)], rfl, ?_⟩
    have ha := hg r hr
    unfold Asked at ha
    generalize good r = gx at *
    generalize rowT r = R at *
    rcases ha with ⟨e1, rfl⟩ | ⟨e1, X, e2, e3⟩
    · exact ⟨fun z => (nomatch z), fun _ => by simp [e1]⟩
    · cases gx with
      | true => exact ⟨fun _ => ⟨[some H, some (.int k), some T, some O, some R], ⟨_, rfl⟩, by simp [e1, e2, e3]⟩, fun z => (nomatch z)⟩
      | false => exact ⟨fun z => (nomatch z), fun _ => by simp [e1, e2, e3]⟩)
  rcases sc with ⟨e1, ρ2, ⟨x4, rfl⟩, e2⟩ | ⟨e1, e2⟩
  · rw [sFor_L (ds := rows.map rowT) (by simp [itr]), e2, Out.nx_bind, e1]
    simp
  · rw [sFor_L (ds := rows.map rowT) (by simp [itr]), e2, e1]
    rfl
theorem are_menus_v2_ok {rs : List (List Str)} {kf : List Str → List Str} {gf : List Str → Str → Int} (hh : HandsOk p hs) (hk : k < hs.length) (m : Menus outs hs k rs kf) : m_are_menus_v2 [houseD outs hs, .int k, mensD rs kf gf] = .ok (.bl true) := by
  have ln : gLen [mensD rs kf gf] = some (.int rs.length) := tab_len
  rw [m.len hh.wnd] at ln
  have e := are_menus_scan (outs := outs) (T := mensD rs kf gf) (good := fun _ => true) hh hk isi_tab ln fun r hr => .inr ⟨tab_nin ((m.mem r).mpr (row_iff.mp hr)), _, tab_ix (g := fun r => menuD (kf r) (gf r)) ((m.mem r).mpr (row_iff.mp hr)), is_menu_v2_ok (m.good r ((m.mem r).mpr (row_iff.mp hr)))⟩
  rw [e, List.all_eq_true.mpr fun _ _ => rfl]
theorem menus_table_v2_ok {rs : List (List Str)} {kf : List Str → List Str} {gf : List Str → Str → Int} (hh : HandsOk p hs) (hp : outs.length = p) (h0 : 0 < p) (hp8 : p ≤ 8) (hk : k < hs.length) (m : Menus outs hs k rs kf) :
    ∃ q : List Str → Nat, (∀ r, q r < p) ∧ m_menus_table_v2 [houseD outs hs, .int k, mensD rs kf gf] = .ok (tabD (made k (hat hs k).words (rowsW (wordsOf (oth hs k)))) fun row => .str (wat outs (q row))) ∧
      (∀ r, Row (wordsOf (oth hs k)) r → ∀ w ∈ (hat hs k).words, IsPick p (fun j => wat outs j ∈ kf r) (fun j => wf (hat hs k) w j - gf r (wat outs j)) (q (ins k w r))) := by
  have hne : ∀ r, Row (wordsOf (oth hs k)) r → ∃ j, j < p ∧ wat outs j ∈ kf r := fun r h => by
    have g := m.good r ((m.mem r).mpr h)
    obtain ⟨s, hs⟩ := List.exists_mem_of_ne_nil _ g.ne
    have so := g.sub s hs
    refine ⟨outs.idxOf s, by rw [← hp]; exact List.idxOf_lt_length_iff.mpr so, ?_⟩
    have : wat outs (outs.idxOf s) = s := by
      have hi := List.idxOf_lt_length_iff.mpr so
      have := wat_at hi
      rw [List.getElem?_eq_getElem hi] at this
      rw [← Option.some.inj this]
      exact List.getElem_idxOf hi
    rw [this]; exact hs
  have rlen : ∀ r, Row (wordsOf (oth hs k)) r → k ≤ r.length ∧ r.length < 1000 := fun r h => by
    have := oth_row hk h
    have := hh.hi
    omega
  obtain ⟨q, hq⟩ := Classical.axiomOfChoice (r := fun (row : List Str) (b : Nat) => b < p ∧ (Row (wordsOf (oth hs k)) (less row k) → wat row k ∈ (hat hs k).words → IsPick p (fun j => wat outs j ∈ kf (less row k)) (fun j => wf (hat hs k) (wat row k) j - gf (less row k) (wat outs j)) b ∧ m_pick [houseD outs hs, .int k, menuD (kf (less row k)) (gf (less row k)), .str (wat row k)] = .ok (.str (wat outs b)))) (fun row => by
    by_cases h : Row (wordsOf (oth hs k)) (less row k) ∧ wat row k ∈ (hat hs k).words
    · obtain ⟨b, hb, e⟩ := pick_ok (outs := outs) (g := gf (less row k)) hh hp hp8 hk h.2 (hne _ h.1)
      exact ⟨b, hb.lt, fun _ _ => ⟨hb, e⟩⟩
    · exact ⟨0, h0, fun a b => absurd ⟨a, b⟩ h⟩)
  have key : ∀ r, Row (wordsOf (oth hs k)) r → ∀ w ∈ (hat hs k).words, IsPick p (fun j => wat outs j ∈ kf r) (fun j => wf (hat hs k) w j - gf r (wat outs j)) (q (ins k w r)) ∧ m_pick [houseD outs hs, .int k, menuD (kf r) (gf r), .str w] = .ok (.str (wat outs (q (ins k w r)))) := fun r hr w hw => by
    obtain ⟨l1, l2⟩ := rlen r hr
    have := (hq (ins k w r)).2
    rw [less_ins l1, ins_wat l1] at this
    exact this hr hw
  refine ⟨q, fun r => (hq r).1, ?_, fun r hr w hw => (key r hr w hw).1⟩
  have oo := others_of_ok (outs := outs) hh hk
  have am := are_menus_v2_ok (gf := gf) hh hk m
  have ix : ∀ r, Row (wordsOf (oth hs k)) r → gIx (mensD rs kf gf) (rowT r) = some (menuD (kf r) (gf r)) := fun r h => tab_ix (g := fun r => menuD (kf r) (gf r)) ((m.mem r).mpr h)
  have itr : iLoc (rowsD (rowsW (wordsOf (oth hs k)))) = some ((rowsW (wordsOf (oth hs k))).map rowT) := id rfl
  have i1 : gIx (houseD outs hs) (.int 1) = some (.tup (hs.map Hand.m)) := id rfl
  have ih := house_hand hk
  have m1' : ∀ h : Hand, gIx h.m (.int 1) = some (.ftup (h.words.map D.str)) := fun h => id rfl
  have hR : ∀ r ∈ rowsW (wordsOf (oth hs k)), Row (wordsOf (oth hs k)) r := fun r h => row_iff.mp h
  have nd : (rowsW (wordsOf (oth hs k))).Nodup := rowsW_nodup fun g hg => hh.wnd g (oth_mem hg)
  have rl : (rowsW (wordsOf (oth hs k))).length ≤ 256 := by rw [rowsW_len]; exact oth_ways hh hk
  have wnd := hh.wnd _ (hat_mem hk)
  have w8 := (hh.ok _ (hat_mem hk)).words.hi
  rw [m_menus_table_v2]
  refine call_rt ?_
  rw [b_menus_table_v2]
  generalize mensD rs kf gf = M at *
  generalize houseD outs hs = H at *
  generalize rowsW (wordsOf (oth hs k)) = rows at *
  generalize hW : (hat hs k).words = words at *
  simp only [List.map_cons, List.map_nil, List.length_cons, List.length_nil, List.cons_append, List.nil_append, List.replicate, Nat.zero_add, Nat.reduceAdd, Nat.reduceSub, List.set_cons_zero, List.set_cons_succ]
  rw [sSeq_eq, show sIf (tNotM (mT (mArgs m_are_menus_v2 (mA1 (mVar 0) (mA1 (mVar 1) (mA1 (mVar 2) (mA0))))))) (sRaise "NoMenu") (sNil) [some H, some (.int k), some M, none, none, none] = .nx [some H, some (.int k), some M, none, none, none] from by simp [am], Out.nx_bind]
  rw [seq_set (d := .dT [] []) (by simp)]
  simp only [List.map_cons, List.map_nil, List.length_cons, List.length_nil, List.cons_append, List.nil_append, List.replicate, Nat.zero_add, Nat.reduceAdd, Nat.reduceSub, List.set_cons_zero, List.set_cons_succ]
  rw [sSeq_eq]
  generalize hb : sFor (tgN 5) _ _ = b
  obtain ⟨ρ', e, x4, x5, rfl⟩ := for_m (j := 4) (m := iAny (mArgs m_others_of (mA1 (mVar 0) (mA1 (mVar 1) (mA0))))) (b := b) (ρ := [some H, some (.int k), some M, some (.dT [] []), none, none])
    (fun i ρ => ∃ x4 x5, ρ = [some H, some (.int k), some M, some (tabD (made k words (rows.take i)) fun row => .str (wat outs (q row))), x4, x5]) rows rowT (by simp [oo, itr]) ⟨_, _, rfl⟩ (by
      rintro i r ρ hd ⟨x4, x5, rfl⟩
      subst hb
      have hr := hR r (List.mem_of_getElem? hd)
      have hi := (List.getElem?_eq_some_iff.mp hd).1
      obtain ⟨l1, l2⟩ := rlen r hr
      have t1 : rows.take (i + 1) = rows.take i ++ [r] := by rw [List.take_add_one, hd]; rfl
      have mk1 : made k words (rows.take (i + 1)) = made k words (rows.take i) ++ words.map fun w => ins k w r := by
        rw [t1]; unfold made; rw [List.flatMap_append]; simp
      have mnd : (made k words (rows.take (i + 1))).Nodup := made_nodup wnd (nd.sublist (List.take_sublist _ _)) fun x hx => (rlen x (hR x (List.mem_of_mem_take hx))).1
      have mlen : (made k words (rows.take (i + 1))).length ≤ 256 * 8 := by
        rw [made_len, List.length_take]
        exact Nat.mul_le_mul (by omega) w8
      rw [mk1] at mnd mlen ⊢
      generalize made k words (rows.take i) = L at *
      simp only [List.map_cons, List.map_nil, List.length_cons, List.length_nil, List.cons_append, List.nil_append, List.replicate, Nat.zero_add, Nat.reduceAdd, Nat.reduceSub, List.set_cons_zero, List.set_cons_succ]
      obtain ⟨ρ', e, x5, rfl⟩ := for_m (j := 5) (m := iAny (m2 gIx (m2 gIx (m2 gIx (mVar 0) (mC (.int 1))) (mVar 1)) (mC (.int 1)))) (b := sPutD 3 (pNil) (mArgs m_row_with (mA1 (mVar 4) (mA1 (mVar 1) (mA1 (mVar 5) (mA0))))) (mArgs m_pick (mA1 (mVar 0) (mA1 (mVar 1) (mA1 (m2 gIx (mVar 2) (mVar 4)) (mA1 (mVar 5) (mA0))))))) (ρ := [some H, some (.int k), some M, some (tabD L fun row => .str (wat outs (q row))), some (rowT r), x5])
        (fun t ρ => ∃ x5, ρ = [some H, some (.int k), some M, some (tabD (L ++ (words.take t).map fun w => ins k w r) fun row => .str (wat outs (q row))), some (rowT r), x5]) words D.str (by simp [i1, ih, m1', hW]) ⟨x5, by simp⟩ (by
          rintro t w ρ hd ⟨x5, rfl⟩
          have hw := List.mem_of_getElem? hd
          have t2 : words.take (t + 1) = words.take t ++ [w] := by rw [List.take_add_one, hd]; rfl
          have e2 : (L ++ (words.take (t + 1)).map fun w => ins k w r) = (L ++ (words.take t).map fun w => ins k w r) ++ [ins k w r] := by rw [t2, List.map_append, List.append_assoc]; rfl
          have sub : (L ++ (words.take (t + 1)).map fun w => ins k w r).Sublist (L ++ words.map fun w => ins k w r) := List.Sublist.append (List.Sublist.refl _) ((List.take_sublist _ _).map _)
          have nd2 := mnd.sublist sub
          have len2 := sub.length_le
          rw [e2] at nd2 len2 ⊢
          have nin : ins k w r ∉ (L ++ (words.take t).map fun w => ins k w r) := fun z => (List.nodup_append.mp nd2).2.2 _ z _ (by simp) rfl
          rw [List.length_append, List.length_singleton] at len2
          have pt := tab_put (g := fun row => .str (wat outs (q row))) nin (by omega)
          have rw_ := row_with_ok (w := w) l1 l2
          have pk := (key r hr w hw).2
          have ixr := ix r hr
          generalize (L ++ (words.take t).map fun w => ins k w r) = L2 at *
          exact ⟨[some H, some (.int k), some M, some (tabD (L2 ++ [ins k w r]) fun row => .str (wat outs (q row))), some (rowT r), some (.str w)], by simp [rw_, ixr, pk, pt], _, rfl⟩)
      rw [List.take_length] at e
      exact ⟨_, e, _, _, rfl⟩)
  rw [e, List.take_length, Out.nx_bind]
  simp

theorem menus_table_no {T : D} (am : m_are_menus_v2 [houseD outs hs, .int k, T] = .ok (.bl false)) : m_menus_table_v2 [houseD outs hs, .int k, T] = .exn "NoMenu" := by
  rw [m_menus_table_v2]
  generalize houseD outs hs = H at *
  refine call_ex (ρ := [some H, some (.int k), some T, none, none, none]) ?_
  rw [b_menus_table_v2]
  simp only [List.map_cons, List.map_nil, List.length_cons, List.length_nil, List.cons_append, List.nil_append, List.replicate, Nat.zero_add, Nat.reduceAdd, Nat.reduceSub, List.set_cons_zero, List.set_cons_succ]
  rw [sSeq_eq, show sIf (tNotM (mT (mArgs m_are_menus_v2 (mA1 (mVar 0) (mA1 (mVar 1) (mA1 (mVar 2) (mA0))))))) (sRaise "NoMenu") (sNil) [some H, some (.int k), some T, none, none, none] = .ex "NoMenu" [some H, some (.int k), some T, none, none, none] from by simp [am]]
  rfl
def KTD : D := .lst [.bl true, .bl true, .bl false, .bl false]
theorem told5_no {T : D} (am : m_are_menus_v2 [houseD outs hs, .int k, T] = .ok (.bl false)) : m__law_told_v5 [houseD outs hs, .int k, T] = .ok (.tup [.non, KTD]) := by
  have e := menus_table_no am
  have l4 : gLst [.bl true, .bl true, .bl false, .bl false] = some KTD := gLst_eq (show 4 ≤ sizeLine by decide)
  rw [m__law_told_v5]
  refine call_rt ?_
  rw [b__law_told_v5]
  generalize houseD outs hs = H at *
  generalize KTD = KK at *
  simp only [List.map_cons, List.map_nil, List.length_cons, List.length_nil, List.cons_append, List.nil_append, List.replicate, Nat.zero_add, Nat.reduceAdd, Nat.reduceSub, List.set_cons_zero, List.set_cons_succ]
  rw [seq_set (d := .non) (by simp)]
  simp only [List.map_cons, List.map_nil, List.length_cons, List.length_nil, List.cons_append, List.nil_append, List.replicate, Nat.zero_add, Nat.reduceAdd, Nat.reduceSub, List.set_cons_zero, List.set_cons_succ]
  rw [seq_set (d := .non) (by simp)]
  simp only [List.map_cons, List.map_nil, List.length_cons, List.length_nil, List.cons_append, List.nil_append, List.replicate, Nat.zero_add, Nat.reduceAdd, Nat.reduceSub, List.set_cons_zero, List.set_cons_succ]
  rw [sSeq_eq, sTryA_ex (c := "NoMenu") (ρ' := [some H, some (.int k), some T, some .non, some .non, none]) (ρ2 := [some H, some (.int k), some T, some .non, some KK, some .junk]) (by simp [e]) (by simp) (by simp [l4]), Out.nx_bind]
  simp only [List.map_cons, List.map_nil, List.length_cons, List.length_nil, List.cons_append, List.nil_append, List.replicate, Nat.zero_add, Nat.reduceAdd, Nat.reduceSub, List.set_cons_zero, List.set_cons_succ]
  simp [show ∀ a b : D, gTup [a, b] = some (.tup [a, b]) from fun a b => gTup_eq (show 2 ≤ sizeLine by decide)]
theorem told5_ok {T TB : D} (e : m_menus_table_v2 [houseD outs hs, .int k, T] = .ok TB) : m__law_told_v5 [houseD outs hs, .int k, T] = .ok (.tup [TB, .non]) := by
  rw [m__law_told_v5]
  refine call_rt ?_
  rw [b__law_told_v5]
  generalize houseD outs hs = H at *
  simp only [List.map_cons, List.map_nil, List.length_cons, List.length_nil, List.cons_append, List.nil_append, List.replicate, Nat.zero_add, Nat.reduceAdd, Nat.reduceSub, List.set_cons_zero, List.set_cons_succ]
  rw [seq_set (d := .non) (by simp)]
  simp only [List.map_cons, List.map_nil, List.length_cons, List.length_nil, List.cons_append, List.nil_append, List.replicate, Nat.zero_add, Nat.reduceAdd, Nat.reduceSub, List.set_cons_zero, List.set_cons_succ]
  rw [seq_set (d := .non) (by simp)]
  simp only [List.map_cons, List.map_nil, List.length_cons, List.length_nil, List.cons_append, List.nil_append, List.replicate, Nat.zero_add, Nat.reduceAdd, Nat.reduceSub, List.set_cons_zero, List.set_cons_succ]
  rw [sSeq_eq, sTryA_nx (ρ' := [some H, some (.int k), some T, some TB, some .non, none]) (by simp [e]), Out.nx_bind]
  simp [show ∀ a b : D, gTup [a, b] = some (.tup [a, b]) from fun a b => gTup_eq (show 2 ≤ sizeLine by decide)]
end
end TW
-- TWSpoilN
namespace TW
open PySem PySem.Spec PyProof.Rows L2
theorem idxK_gen {κ α : Type} [DecidableEq κ] {key : α → κ} (inj : ∀ a b, key a = key b → a = b) : ∀ {rows : List α} {r : α}, r ∈ rows → ∃ i, idxK (rows.map key) (key r) = some i ∧ rows[i]? = some r
  | [], r, h => by cases h
  | a :: rows, r, h => by
    unfold idxK
    rw [List.map_cons, List.idxOf?_cons]
    by_cases e : key a = key r
    · refine ⟨0, ?_, by rw [inj _ _ e]; rfl⟩
      simp only [e, beq_self_eq_true, if_true]
    · have ne : (key a == key r) = false := beq_eq_false_iff_ne.mpr e
      have hr : r ∈ rows := by
        rcases List.mem_cons.mp h with z | z
        · exact absurd (by rw [z]) e
        · exact z
      obtain ⟨i, h1, h2⟩ := idxK_gen inj hr
      unfold idxK at h1
      refine ⟨i + 1, ?_, by simpa using h2⟩
      simp only [ne, if_false, Bool.false_eq_true, h1]
      rfl
theorem idx_tab {rows : List (List Str)} {r : List Str} (h : r ∈ rows) : ∃ i, idxK (rows.map rkey) (rkey r) = some i ∧ rows[i]? = some r := idxK_gen (fun a b e => rkey_inj e) h
theorem putL_idx {κ : Type} [DecidableEq κ] {ks : List κ} {vs : List D} {k : κ} {v : D} {i : Nat} (h : idxK ks k = some i) : putL ks vs k v = (ks, vs.set i v) := by
  unfold putL
  rw [show ks.idxOf? k = some i from h]
theorem pop_tab {rows : List (List Str)} {g : List Str → D} {r : List Str} (nd : rows.Nodup) (h : r ∈ rows) : ∃ rows', popK (tabD rows g) (rowT r) = some (tabD rows' g) ∧ rows'.Nodup ∧ (∀ x, x ∈ rows' ↔ x ∈ rows ∧ x ≠ r) ∧ rows'.length + 1 = rows.length := by
  obtain ⟨i, e1, e2⟩ := idx_tab h
  have hi : i < rows.length := (List.getElem?_eq_some_iff.mp e2).1
  refine ⟨rows.eraseIdx i, ?_, nd.sublist (List.eraseIdx_sublist ..), fun x => ?_, by rw [List.length_eraseIdx, if_pos hi]; omega⟩
  · show ((keysD (r.map D.str)).bind fun k => (idxK (rows.map rkey) k).map fun p => D.dT ((rows.map rkey).eraseIdx p) ((rows.map g).eraseIdx p)) = _
    rw [keysD_row]
    show (idxK (rows.map rkey) (rkey r)).map _ = _
    rw [e1]
    show some (D.dT ((rows.map rkey).eraseIdx i) ((rows.map g).eraseIdx i)) = _
    rw [← map_eraseIdx, ← map_eraseIdx]; rfl
  · rw [List.mem_eraseIdx_iff_getElem?]
    constructor
    · rintro ⟨j, hj, e⟩
      refine ⟨List.mem_of_getElem? e, fun z => hj ?_⟩
      subst z
      exact (List.getElem?_inj (List.getElem?_eq_some_iff.mp e).1 nd).mp (e.trans e2.symm)
    · rintro ⟨hx, ne⟩
      obtain ⟨j, hj⟩ := List.mem_iff_getElem?.mp hx
      exact ⟨j, fun z => ne (by subst z; rw [hj] at e2; exact Option.some.inj e2), hj⟩
theorem set_map {α β : Type} [DecidableEq α] {g : α → β} {r : α} {v : β} : ∀ {rows : List α} {i : Nat}, rows.Nodup → rows[i]? = some r → (rows.map g).set i v = rows.map fun x => if x = r then v else g x
  | [], i, _, e => by simp at e
  | a :: rows, 0, nd, e => by
    simp at e
    subst e
    rw [List.nodup_cons] at nd
    simp only [List.map_cons, List.set_cons_zero, if_true]
    refine congrArg _ (List.map_congr_left fun x hx => (if_neg fun z => nd.1 (by rw [← z]; exact hx)).symm)
  | a :: rows, i + 1, nd, e => by
    rw [List.nodup_cons] at nd
    have e' : rows[i]? = some r := by simpa using e
    have ne : a ≠ r := fun z => nd.1 (by rw [z]; exact List.mem_of_getElem? e')
    simp only [List.map_cons, List.set_cons_succ, if_neg ne]
    rw [set_map nd.2 e']
theorem putN_tab {rows : List (List Str)} {g : List Str → D} {r : List Str} {j v X : D} (nd : rows.Nodup) (h : r ∈ rows) (e : putE (g r) j v = some X) : putN (tabD rows g) (rowT r) j v = some (tabD rows fun x => if x = r then X else g x) := by
  obtain ⟨i, e1, e2⟩ := idx_tab h
  show ((keysD (r.map D.str)).bind fun k => (idxK (rows.map rkey) k).bind fun p => ((rows.map g)[p]?).bind fun c => (putE c j v).map fun c' => D.dT (rows.map rkey) ((rows.map g).set p c')) = _
  rw [keysD_row]
  show ((idxK (rows.map rkey) (rkey r)).bind fun p => ((rows.map g)[p]?).bind fun c => (putE c j v).map fun c' => D.dT (rows.map rkey) ((rows.map g).set p c')) = _
  rw [e1]
  show (((rows.map g)[i]?).bind fun c => (putE c j v).map fun c' => D.dT (rows.map rkey) ((rows.map g).set i c')) = _
  rw [List.getElem?_map, e2]
  show (putE (g r) j v).map (fun c' => D.dT (rows.map rkey) ((rows.map g).set i c')) = _
  rw [e]
  show some (D.dT (rows.map rkey) ((rows.map g).set i X)) = _
  rw [set_map nd e2]; rfl
theorem putD_tab {rows : List (List Str)} {g : List Str → D} {r : List Str} {X : D} (nd : rows.Nodup) (h : r ∈ rows) (hl : rows.length < 1000000) : putD (tabD rows g) (rowT r) X = some (tabD rows fun x => if x = r then X else g x) := by
  obtain ⟨i, e1, e2⟩ := idx_tab h
  show (if (rows.map rkey).length < sizeLine then (keysD (r.map D.str)).map fun k => D.dT (putL (rows.map rkey) (rows.map g) k X).1 (putL (rows.map rkey) (rows.map g) k X).2 else none) = _
  rw [if_pos (b24 (by rw [List.length_map]; exact hl)), keysD_row]
  have e : putL (rows.map rkey) (rows.map g) (rkey r) X = (rows.map rkey, (rows.map g).set i X) := putL_idx e1
  show some (D.dT (putL (rows.map rkey) (rows.map g) (rkey r) X).1 (putL (rows.map rkey) (rows.map g) (rkey r) X).2) = _
  rw [e]
  dsimp only
  rw [set_map nd e2]; rfl
def chainS (B : Nat → Rho → Out) : Rho → Out := sSeq (sIf (mT (m2 gLt (mVar 3) (mC (.int 2)))) (B 0) (sNil)) (sSeq (sIf (mT (m2 gEq (mVar 3) (mC (.int 1)))) (B 1) (sNil)) (sSeq (sIf (mT (m2 gEq (mVar 3) (mC (.int 2)))) (B 2) (sNil)) (sSeq (sIf (mT (m2 gEq (mVar 3) (mC (.int 3)))) (B 3) (sNil)) (sSeq (sIf (mT (m2 gEq (mVar 3) (mC (.int 4)))) (B 4) (sNil)) (sSeq (sIf (mT (m2 gEq (mVar 3) (mC (.int 5)))) (B 5) (sNil)) (sSeq (sIf (mT (m2 gEq (mVar 3) (mC (.int 6)))) (B 6) (sNil)) (sSeq (sIf (tAndM (mT (m2 gLt (mVar 3) (mC (.int 10)))) (mT (m2 gGt (mVar 3) (mC (.int 6))))) (B 7) (sNil)) (sSeq (sIf (mT (m2 gEq (mVar 3) (mC (.int 10)))) (B 10) (sNil)) (sSeq (sIf (mT (m2 gEq (mVar 3) (mC (.int 11)))) (B 11) (sNil)) (sRet (mVar 0)))))))))))
def way (T R C F : D) (w : Int) : Rho := [some T, some R, some C, some (.int w), some F]
section
variable {B : Nat → Rho → Out} {M T T1 R C F : D}
theorem chain_put {w : Int} {k : Nat} (hw : w = 2 ∧ k = 2 ∨ w = 3 ∧ k = 3 ∨ w = 4 ∧ k = 4 ∨ w = 5 ∧ k = 5 ∨ w = 6 ∧ k = 6 ∨ (w = 7 ∨ w = 8 ∨ w = 9) ∧ k = 7) (e : B k (way M R C F w) = .nx (way T R C F w)) : chainS B (way M R C F w) = .rt T := by
  unfold way at *
  unfold chainS
  rcases hw with ⟨rfl, rfl⟩ | ⟨rfl, rfl⟩ | ⟨rfl, rfl⟩ | ⟨rfl, rfl⟩ | ⟨rfl, rfl⟩ | ⟨rfl | rfl | rfl, rfl⟩ <;> simp [e]
theorem chain_0 (e : B 0 (way M R C F 0) = .nx (way T R C F 0)) : chainS B (way M R C F 0) = .rt T := by
  unfold way at *
  unfold chainS
  simp [e]
theorem chain_1 (e : B 0 (way M R C F 1) = .nx (way T1 R C F 1)) (e2 : B 1 (way T1 R C F 1) = .nx (way T R C F 1)) : chainS B (way M R C F 1) = .rt T := by
  unfold way at *
  unfold chainS
  simp [e, e2]
theorem chain_rt {w : Int} {k : Nat} (hw : w = 10 ∧ k = 10 ∨ w = 11 ∧ k = 11) (e : B k (way M R C F w) = .rt T) : chainS B (way M R C F w) = .rt T := by
  unfold way at *
  unfold chainS
  rcases hw with ⟨rfl, rfl⟩ | ⟨rfl, rfl⟩ <;> simp [e]
theorem chain_no {w : Int} (hw : w = 12 ∨ w = 13) : chainS B (way M R C F w) = .rt M := by
  unfold way at *
  unfold chainS
  rcases hw with rfl | rfl <;> simp
end
end TW
-- Mth_k47
namespace Lk47
open PySem PySem.Spec PyProof.Rows L2 TW Lk46
section
variable {hs : List Hand} {outs : List Str} {p k : Nat} {rs : List (List Str)} {kf : List Str → List Str} {gf : List Str → Str → Int} {r0 : List Str}
theorem swapped_no {X : D} (hh : HandsOk p hs) (hk : k < hs.length) (m : Menus outs hs k rs kf) (h0 : r0 ∈ rs) (im : m_is_menu_v2 [houseD outs hs, X] = .ok (.bl false)) : m_are_menus_v2 [houseD outs hs, .int k, tabD rs fun x => if x = r0 then X else menuD (kf x) (gf x)] = .ok (.bl false) := by
  have ln := tab_len (rows := rs) (g := fun x => if x = r0 then X else menuD (kf x) (gf x))
  rw [m.len hh.wnd] at ln
  have e := are_menus_scan (outs := outs) (T := tabD rs fun x => if x = r0 then X else menuD (kf x) (gf x)) (good := fun r => decide (r ≠ r0)) hh hk isi_tab ln fun r hr => by
    have hr' := (m.mem r).mpr (row_iff.mp hr)
    refine .inr ⟨tab_nin hr', _, tab_ix (g := fun x => if x = r0 then X else menuD (kf x) (gf x)) hr', ?_⟩
    by_cases q : r = r0
    · rw [if_pos q, decide_eq_false (fun z => z q)]; exact im
    · rw [if_neg q, decide_eq_true q]; exact is_menu_v2_ok (m.good r hr')
  rw [e, List.all_eq_false.mpr ⟨r0, row_iff.mpr ((m.mem r0).mp h0), by simp⟩]
theorem other_len (hk : k < hs.length) (m : Menus outs hs k rs kf) (h0 : r0 ∈ rs) : r0 ++ (["word"] : List Str) ∉ rs := fun z => by
  have h1 := oth_row hk ((m.mem _).mp h0)
  have h2 := oth_row hk ((m.mem _).mp z)
  simp at h2
  omega
theorem popped_no (hh : HandsOk p hs) (hk : k < hs.length) (m : Menus outs hs k rs kf) {rs' : List (List Str)} (hl : rs'.length + 1 = rs.length) {g : List Str → D} : m_are_menus_v2 [houseD outs hs, .int k, tabD rs' g] = .ok (.bl false) :=
  are_menus_len hh hk isi_tab tab_len (by rw [← m.len hh.wnd]; omega)
theorem more_no (hh : HandsOk p hs) (hk : k < hs.length) (m : Menus outs hs k rs kf) {x : List Str} {g : List Str → D} : m_are_menus_v2 [houseD outs hs, .int k, tabD (rs ++ [x]) g] = .ok (.bl false) :=
  are_menus_len hh hk isi_tab tab_len (by rw [← m.len hh.wnd, List.length_append]; simp)
theorem else_no (hh : HandsOk p hs) (hk : k < hs.length) (m : Menus outs hs k rs kf) (h0 : r0 ∈ rs) {rs' : List (List Str)} (hl : rs'.length + 1 = rs.length) (hm : ∀ x, x ∈ rs' ↔ x ∈ rs ∧ x ≠ r0) {g : List Str → D} (hg : ∀ x, x ≠ r0 ++ (["word"] : List Str) → g x = menuD (kf x) (gf x)) : m_are_menus_v2 [houseD outs hs, .int k, tabD (rs' ++ [r0 ++ (["word"] : List Str)]) g] = .ok (.bl false) := by
  have ln := tab_len (rows := rs' ++ [r0 ++ (["word"] : List Str)]) (g := g)
  rw [List.length_append, List.length_singleton, hl, m.len hh.wnd] at ln
  have no := other_len hk m h0
  have e := are_menus_scan (outs := outs) (T := tabD (rs' ++ [r0 ++ (["word"] : List Str)]) g) (good := fun r => decide (r ≠ r0)) hh hk isi_tab ln fun r hr => by
    have hr' := (m.mem r).mpr (row_iff.mp hr)
    by_cases q : r = r0
    · refine .inl ⟨?_, decide_eq_false fun z => z q⟩
      have ni : r ∉ rs' ++ [r0 ++ (["word"] : List Str)] := fun z => by
        rcases List.mem_append.mp z with z | z
        · exact ((hm r).mp z).2 q
        · exact no (by rw [← List.mem_singleton.mp z]; exact hr')
      show (gIn (rowT r) (tabD (rs' ++ [r0 ++ (["word"] : List Str)]) g)).bind _ = _
      rw [tab_in_no ni]; rfl
    · have hin : r ∈ rs' ++ [r0 ++ (["word"] : List Str)] := List.mem_append_left _ ((hm r).mpr ⟨hr', q⟩)
      refine .inr ⟨tab_nin hin, _, tab_ix hin, ?_⟩
      rw [hg r fun z => no (by rw [← z]; exact hr'), decide_eq_true q]
      exact is_menu_v2_ok (m.good r hr')
  rw [e, List.all_eq_false.mpr ⟨r0, row_iff.mpr ((m.mem r0).mp h0), by simp⟩]
theorem row_no (hh : HandsOk p hs) (hk : k < hs.length) (m : Menus outs hs k rs kf) (h0 : r0 ∈ rs) {X : D} : m_are_menus_v2 [houseD outs hs, .int k, .dK [.inr "row"] [X]] = .ok (.bl false) := by
  have isi : gIsi "dict" (.dK [.inr "row"] [X]) = some (.bl true) := isi_of rfl (show kitB "dict" "dict" = some true by decide +kernel)
  have ln : gLen [.dK [.inr "row"] [X]] = some (.int (1 : Nat)) := id rfl
  by_cases h1 : 1 = (rowsW (wordsOf (oth hs k))).length
  · rw [h1] at ln
    have e := are_menus_scan (outs := outs) (T := .dK [.inr "row"] [X]) (good := fun _ => false) hh hk isi ln fun r hr => .inl ⟨by
      show (keysD (r.map D.str)).map _ = _
      rw [keysD_row]; rfl, rfl⟩
    rw [e, List.all_eq_false.mpr ⟨r0, row_iff.mpr ((m.mem r0).mp h0), by simp⟩]
  · exact are_menus_len hh hk isi ln h1
theorem idxK_head {κ : Type} [DecidableEq κ] (k : κ) (ks : List κ) : idxK (k :: ks) k = some 0 := by
  unfold idxK
  rw [List.idxOf?_cons]
  simp
theorem other_no (ao : AreNames outs 8) : ("Other" : Str) ∉ outs := fun z => by
  have := (ao.nm _ z).abc 79 (by decide)
  omega
theorem any_no {s : Str} (h : s ∉ outs) : outs.any (· == s) = false := by
  rw [List.any_eq_false]
  intro x hx z
  exact h (by rw [← beq_iff_eq.mp z]; exact hx)
theorem menu_other {ks : List Str} {g : Str → Int} (ao : AreNames outs 8) (nd : ks.Nodup) (hl : ks.length < 1000000) : ∃ X, putE (menuD ks g) (.str "Other") (.int 1) = some X ∧ m_is_menu_v2 [houseD outs hs, X] = .ok (.bl false) := by
  obtain ⟨ks', g', e, nd', mem, _, _⟩ := menu_put (g := g) (s := "Other") (z := 1) nd hl
  refine ⟨_, e, ?_⟩
  have hm : ("Other" : Str) ∈ ks' := (mem _).mpr (.inr rfl)
  have e2 := is_menu_scan (hs := hs) (outs := outs) (X := menuD ks' g') (xs := ks') (mk := fun s => .tup [.str s, .int (g' s)]) (good := fun s => outs.any (· == s) && true) (n := ks'.length) isiN_menu lenN_menu (List.length_pos_of_mem hm) menu_items fun s hs => .str (.int _)
  rw [e2, List.all_eq_false.mpr ⟨_, hm, by rw [any_no (other_no ao)]; simp⟩]
theorem nulEs_map {g : Str → Int} : ∀ ks : List Str, nulEs (ks.map fun s => .inr s) (ks.map fun s => .int (g s)) = some (ks.map fun s => (s, g s))
  | [] => rfl
  | s :: ks => by
    show (nulEs (ks.map fun s => .inr s) (ks.map fun s => .int (g s))).map (fun r => (s, g s) :: r) = _
    rw [nulEs_map ks]; rfl
theorem menu_nul {ks : List Str} {g : Str → Int} (hl : ks.length < 1000000) : ∃ X, putE (menuD ks g) .non (.int 1) = some X ∧ m_is_menu_v2 [houseD outs hs, X] = .ok (.bl false) := by
  refine ⟨.nul (((ks.map fun s => (s, g s)).map fun p => (some p.1, p.2)) ++ [(none, 1)]), ?_, ?_⟩
  · show (if (ks.map fun s => (Sum.inr s : Key)).length < sizeLine then (nulEs (ks.map fun s => .inr s) (ks.map fun s => .int (g s))).map (fun es => D.nul ((es.map fun p => (some p.1, p.2)) ++ [(none, 1)])) else none) = _
    rw [if_pos (b24 (by rw [List.length_map]; exact hl)), nulEs_map]; rfl
  · generalize hes : ((ks.map fun s => (s, g s)).map fun p => (some p.1, p.2)) ++ [((none : Option Str), (1 : Int))] = es
    have hm : ((none : Option Str), (1 : Int)) ∈ es := by rw [← hes]; simp
    have isi : gIsiN "dict" (.nul es) = some (.bl true) := by show (kitB "dict" "dict").map D.bl = _; rw [show kitB "dict" "dict" = some true by decide +kernel]; rfl
    have e2 := is_menu_scan (hs := hs) (outs := outs) (X := .nul es) (xs := es) (mk := fun p => .tup [oD p.1, .int p.2]) (good := fun p => match p.1 with | some s => outs.any (· == s) && true | none => false) (n := es.length) isi rfl (List.length_pos_of_mem hm) rfl fun p hp => by
      obtain ⟨o, z⟩ := p
      cases o with
      | none => exact .non _
      | some s => exact .str (.int _)
    rw [e2, List.all_eq_false.mpr ⟨_, hm, by simp⟩]
theorem menu_price {f0 : Str} {ks : List Str} {g : Str → Int} {v : D} (hl : (f0 :: ks).length < 1000000) (hv : Val v false) : ∃ X, putE (menuD (f0 :: ks) g) (.str f0) v = some X ∧ m_is_menu_v2 [houseD outs hs, X] = .ok (.bl false) := by
  have ix : idxK ((f0 :: ks).map fun s => (Sum.inr s : Key)) (.inr f0) = some 0 := idxK_head _ _
  refine ⟨.dK ((f0 :: ks).map fun s => .inr s) (v :: ks.map fun s => .int (g s)), ?_, ?_⟩
  · show (if ((f0 :: ks).map fun s => (Sum.inr s : Key)).length < sizeLine then (keyD (.str f0)).map fun k => D.dK (putL ((f0 :: ks).map fun s => (Sum.inr s : Key)) ((f0 :: ks).map fun s => D.int (g s)) k v).1 (putL ((f0 :: ks).map fun s => (Sum.inr s : Key)) ((f0 :: ks).map fun s => D.int (g s)) k v).2 else none) = _
    rw [if_pos (b24 (by rw [List.length_map]; exact hl))]
    show some (D.dK (putL ((f0 :: ks).map fun s => (Sum.inr s : Key)) ((f0 :: ks).map fun s => D.int (g s)) (.inr f0) v).1 (putL ((f0 :: ks).map fun s => (Sum.inr s : Key)) ((f0 :: ks).map fun s => D.int (g s)) (.inr f0) v).2) = _
    rw [putL_idx ix]; rfl
  · have isi : ∀ (a : List Key) (b : List D), gIsiN "dict" (.dK a b) = some (.bl true) := fun a b => by
      show gIsi "dict" (.dK a b) = _
      exact isi_of rfl (show kitB "dict" "dict" = some true by decide +kernel)
    have it : dicItemsN (.dK ((f0 :: ks).map fun s => .inr s) (v :: ks.map fun s => .int (g s))) = some (((f0, v, false) :: ks.map fun s => (s, D.int (g s), true)).map fun q : Str × D × Bool => .tup [.str q.1, q.2.1]) := by
      show some ((((f0 :: ks).map fun s => (Sum.inr s : Key)).zip (v :: ks.map fun s => D.int (g s))).map fun p => D.tup [keyToD p.1, p.2]) = _
      rw [List.map_cons, List.zip_cons_cons, List.zip_map', List.map_cons, List.map_cons, List.map_map, List.map_map]; rfl
    have ln : gLenN [.dK ((f0 :: ks).map fun s => .inr s) (v :: ks.map fun s => .int (g s))] = some (.int (ks.length + 1 : Nat)) := by
      show some (D.int ((((f0 :: ks).map fun s => (Sum.inr s : Key)).length : Nat) : Int)) = _
      rw [List.length_map, List.length_cons]
    have e2 := is_menu_scan (hs := hs) (outs := outs) (good := fun q : Str × D × Bool => outs.any (· == q.1) && q.2.2) (isi _ _) ln (Nat.succ_pos _) it fun q hq => by
      rcases List.mem_cons.mp hq with rfl | hq
      · exact .str hv
      · obtain ⟨s, _, rfl⟩ := List.mem_map.mp hq
        exact .str (.int _)
    rw [e2, List.all_eq_false.mpr ⟨(f0, v, false), List.mem_cons_self, by simp⟩]
def Bs : Nat → Rho → Out := fun k => match k with
  | 0 => sPopT 0 (mVar 1)
  | 1 => sPutD 0 (pNil) (TW.m2 gAdd (mVar 1) (mL gTup (mA1 (mC (.str "word")) (mA0)))) (mD1 (mVar 4) (mC (.int 1)))
  | 2 => sPutD 0 (pNil) (TW.m2 gAdd (mVar 1) (mL gTup (mA1 (mC (.str "word")) (mA0)))) (mD1 (mVar 4) (mC (.int 1)))
  | 3 => sPutD 0 (pNil) (mVar 1) (mC (.dK [] []))
  | 4 => sPutD 0 (pNil) (mVar 1) (TW.m2 gIx (mL gLst (mA1 (mC .non) (mA1 (mL gLst (mA0)) (mA1 (mL gLst (mA1 (mVar 4) (mA0))) (mA1 (mL gTup (mA1 (mVar 4) (mA1 (mC (.int 1)) (mA0)))) (mA1 (mC (.str "menu")) (mA1 (mC (.bl true)) (mA0)))))))) (TW.m2 gMod (TW.m2 gDiv (mVar 2) (mC (.int 14))) (mC (.int 6))))
  | 5 => sPutN 0 (mVar 1) (mC (.str "Other")) (mC (.int 1))
  | 6 => sPutN 0 (mVar 1) (mC .non) (mC (.int 1))
  | 7 => sPutN 0 (mVar 1) (mVar 4) (TW.m2 gIx (mL gLst (mA1 (mC .non) (mA1 (mC (.bl true)) (mA1 (mC (.str "1")) (mA1 (mL gLst (mA1 (mC (.int 1)) (mA0))) (mA1 (mL gTup (mA0)) (mA1 (mC (.bl false)) (mA0)))))))) (TW.m2 gMod (TW.m2 gDiv (mVar 2) (mC (.int 14))) (mC (.int 6))))
  | 10 => sRet (TW.m2 gIx (mL gLst (mA1 (mC .non) (mA1 (mL gLst (mA0)) (mA1 (mL gListDT (mA1 (mVar 0) (mA0))) (mA1 (mC (.str "menus")) (mA1 (mC (.bl true)) (mA0))))))) (TW.m2 gMod (TW.m2 gDiv (mVar 2) (mC (.int 14))) (mC (.int 5))))
  | _ => sRet (mD1 (mC (.str "row")) (TW.m2 gIx (mVar 0) (mVar 1)))
theorem body_is : b__law_spoiled_v2 = sSeq (sSet 3 (TW.m2 gMod (mVar 2) (mC (.int 14)))) (sSeq (sSet 4 (TW.m2 gIx (mL gListK (mA1 (TW.m2 gIx (mVar 0) (mVar 1)) (mA0))) (mC (.int 0)))) (chainS Bs)) := id rfl
theorem div14 {c : Int} : gDiv (.int c) (.int 14) = some (.int (c / 14)) := d3 c 14 (by decide) (by decide)
theorem isiN_non : gIsiN "dict" .non = some (.bl false) := by show gIsi "dict" .non = _; exact isi_of rfl (show kitB "NoneType" "dict" = some false by decide +kernel)
theorem isiN_lst {l : List D} : gIsiN "dict" (.lst l) = some (.bl false) := by show gIsi "dict" (.lst l) = _; exact isi_of rfl (show kitB "list" "dict" = some false by decide +kernel)
theorem isiN_tup {l : List D} : gIsiN "dict" (.tup l) = some (.bl false) := by show gIsi "dict" (.tup l) = _; exact isi_of rfl (show kitB "tuple" "dict" = some false by decide +kernel)
theorem isiN_str {s : Str} : gIsiN "dict" (.str s) = some (.bl false) := by show gIsi "dict" (.str s) = _; exact isi_of rfl (show kitB "str" "dict" = some false by decide +kernel)
theorem isiN_bl {b : Bool} : gIsiN "dict" (.bl b) = some (.bl false) := by show gIsi "dict" (.bl b) = _; exact isi_of rfl (show kitB "bool" "dict" = some false by decide +kernel)
theorem no_menus (j : Int) (h : 0 ≤ j ∧ j < 6) (f0 : Str) : ∃ X, gIx (.lst [.non, .lst [], .lst [.str f0], .tup [.str f0, .int 1], .str "menu", .bl true]) (.int j) = some X ∧ m_is_menu_v2 [houseD outs hs, X] = .ok (.bl false) := by
  have : j = 0 ∨ j = 1 ∨ j = 2 ∨ j = 3 ∨ j = 4 ∨ j = 5 := by omega
  rcases this with rfl | rfl | rfl | rfl | rfl | rfl
  · exact ⟨_, rfl, is_menu_no isiN_non⟩
  · exact ⟨_, rfl, is_menu_no isiN_lst⟩
  · exact ⟨_, rfl, is_menu_no isiN_lst⟩
  · exact ⟨_, rfl, is_menu_no isiN_tup⟩
  · exact ⟨_, rfl, is_menu_no isiN_str⟩
  · exact ⟨_, rfl, is_menu_no isiN_bl⟩
theorem no_prices (j : Int) (h : 0 ≤ j ∧ j < 6) : ∃ X, gIx (.lst [.non, .bl true, .str "1", .lst [.int 1], .tup [], .bl false]) (.int j) = some X ∧ Val X false := by
  have : j = 0 ∨ j = 1 ∨ j = 2 ∨ j = 3 ∨ j = 4 ∨ j = 5 := by omega
  rcases this with rfl | rfl | rfl | rfl | rfl | rfl
  · exact ⟨_, rfl, .no isi_non_int⟩
  · exact ⟨_, rfl, .bl _⟩
  · exact ⟨_, rfl, .no isi_str_int⟩
  · exact ⟨_, rfl, .no isi_lst_int⟩
  · exact ⟨_, rfl, .no isi_tup_int⟩
  · exact ⟨_, rfl, .bl _⟩
theorem no_dicts (j : Int) (h : 0 ≤ j ∧ j < 5) (R : D) (hR : ∃ l, R = .lst l) : ∃ X, gIx (.lst [.non, .lst [], R, .str "menus", .bl true]) (.int j) = some X ∧ gIsi "dict" X = some (.bl false) := by
  obtain ⟨l, rfl⟩ := hR
  have : j = 0 ∨ j = 1 ∨ j = 2 ∨ j = 3 ∨ j = 4 := by omega
  rcases this with rfl | rfl | rfl | rfl | rfl
  · exact ⟨_, rfl, isi_of rfl (show kitB "NoneType" "dict" = some false by decide +kernel)⟩
  · exact ⟨_, rfl, isi_of rfl (show kitB "list" "dict" = some false by decide +kernel)⟩
  · exact ⟨_, rfl, isi_of rfl (show kitB "list" "dict" = some false by decide +kernel)⟩
  · exact ⟨_, rfl, isi_of rfl (show kitB "str" "dict" = some false by decide +kernel)⟩
  · exact ⟨_, rfl, isi_of rfl (show kitB "bool" "dict" = some false by decide +kernel)⟩
theorem way1 {T R C F : D} {w : Int} : mVar 1 (way T R C F w) = .ok R := id rfl
theorem way4 {T R C F : D} {w : Int} : mVar 4 (way T R C F w) = .ok F := id rfl
theorem putD_way {T T' R C F k v : D} {w : Int} {mj me : Rho → Res D} (e1 : me (way T R C F w) = .ok v) (e2 : mj (way T R C F w) = .ok k) (e : putD T k v = some T') : sPutD 0 pNil mj me (way T R C F w) = .nx (way T' R C F w) := by
  unfold way at *
  simp [e1, e2, e]
theorem putN_way {T T' R C F k v : D} {w : Int} {mj me : Rho → Res D} (e1 : me (way T R C F w) = .ok v) (e2 : mj (way T R C F w) = .ok k) (e : putN T R k v = some T') : sPutN 0 (mVar 1) mj me (way T R C F w) = .nx (way T' R C F w) := by
  rw [sPutN_ok (d := T) (v := v) (j1 := R) (j2 := k) rfl e1 way1 e2 e]; rfl
theorem pop_way {T T' R C F : D} {w : Int} (e : popK T R = some T') : sPopT 0 (mVar 1) (way T R C F w) = .nx (way T' R C F w) := by
  rw [sPopT_ok (d := T) (j := R) rfl way1 e]; rfl
theorem first_menu {f0 : Str} {ks : List Str} {g : Str → Int} : gListK [menuD (f0 :: ks) g] = some (.lst (.str f0 :: ks.map D.str)) := by
  show some (D.lst (((f0 :: ks).map fun s => (Sum.inr s : Key)).map keyToD)) = _
  rw [List.map_map]; rfl
theorem spoiled_ok (hh : HandsOk p hs) (hk : k < hs.length) (ao : AreNames outs 8) (m : Menus outs hs k rs kf) (h0 : r0 ∈ rs) (rl : rs.length ≤ 256) (c : Int) :
    ∃ T, m__law_spoiled_v2 [mensD rs kf gf, rowT r0, .int c] = .ok T ∧ (c % 14 < 12 → m_are_menus_v2 [houseD outs hs, .int k, T] = .ok (.bl false)) ∧ (¬ c % 14 < 12 → T = mensD rs kf gf) := by
  obtain ⟨f0, ks, ek⟩ : ∃ f0 ks, kf r0 = f0 :: ks := by
    cases e : kf r0 with
    | nil => exact absurd e (m.good r0 h0).ne
    | cons a b => exact ⟨a, b, rfl⟩
  have kl : (kf r0).length < 1000000 := by
    have := (m.good r0 h0).nd.length_le_of_subset (m.good r0 h0).sub
    have := ao.hi
    omega
  have hM : mensD rs kf gf = tabD rs (fun r => menuD (kf r) (gf r)) := rfl
  have ixM : gIx (mensD rs kf gf) (rowT r0) = some (menuD (kf r0) (gf r0)) := tab_ix (g := fun r => menuD (kf r) (gf r)) h0
  have lk : gListK [menuD (kf r0) (gf r0)] = some (.lst (.str f0 :: ks.map D.str)) := by rw [ek]; exact first_menu
  have l0 : gIx (.lst (.str f0 :: ks.map D.str)) (.int 0) = some (.str f0) := names_ix (k := 0) (show (f0 :: ks)[0]? = some f0 from rfl)
  have w14 : 0 ≤ c % 14 ∧ c % 14 < 14 := by omega
  suffices h : ∃ T, chainS Bs (way (mensD rs kf gf) (rowT r0) (.int c) (.str f0) (c % 14)) = .rt T ∧ (c % 14 < 12 → m_are_menus_v2 [houseD outs hs, .int k, T] = .ok (.bl false)) ∧ (¬ c % 14 < 12 → T = mensD rs kf gf) by
    obtain ⟨T, e, h1, h2⟩ := h
    refine ⟨T, ?_, h1, h2⟩
    rw [m__law_spoiled_v2]
    refine call_rt ?_
    rw [body_is]
    generalize menuD (kf r0) (gf r0) = Mn at *
    generalize (.lst (.str f0 :: ks.map D.str) : D) = FL at *
    generalize mensD rs kf gf = M at *
    generalize rowT r0 = R at *
    simp only [List.map_cons, List.map_nil, List.length_cons, List.length_nil, List.cons_append, List.nil_append, List.replicate, Nat.zero_add, Nat.reduceAdd, Nat.reduceSub, List.set_cons_zero, List.set_cons_succ]
    rw [seq_set (d := .int (c % 14)) (by simp [gMod_int (show (0 : Int) < 14 by decide)])]
    simp only [List.map_cons, List.map_nil, List.length_cons, List.length_nil, List.cons_append, List.nil_append, List.replicate, Nat.zero_add, Nat.reduceAdd, Nat.reduceSub, List.set_cons_zero, List.set_cons_succ]
    rw [seq_set (d := .str f0) (by simp [ixM, lk, l0])]
    simp only [List.map_cons, List.map_nil, List.length_cons, List.length_nil, List.cons_append, List.nil_append, List.replicate, Nat.zero_add, Nat.reduceAdd, Nat.reduceSub, List.set_cons_zero, List.set_cons_succ]
    exact e
  have addW : gAdd (rowT r0) (.tup [.str "word"]) = some (rowT (r0 ++ (["word"] : List Str))) := by
    have := oth_row hk ((m.mem _).mp h0)
    have h4 := hh.hi
    show gAdd (.tup (r0.map D.str)) (.tup [.str "word"]) = _
    rw [gAdd_tup (b24' (by simp; omega))]
    show _ = some (D.tup ((r0 ++ (["word"] : List Str)).map D.str))
    rw [List.map_append]; rfl
  have t1 : gTup [.str "word"] = some (.tup [.str "word"]) := gTup_eq (show 1 ≤ sizeLine by decide)
  have eW : ∀ (T : D) (w : Int), (TW.m2 gAdd (mVar 1) (mL gTup (mA1 (mC (.str "word")) (mA0)))) (way T (rowT r0) (.int c) (.str f0) w) = .ok (rowT (r0 ++ (["word"] : List Str))) := fun T w => by
    generalize hR : rowT r0 = R at *
    generalize rowT (r0 ++ (["word"] : List Str)) = R2 at *
    unfold way
    simp [t1, addW]
  have eF : ∀ (T : D) (w : Int), (mD1 (mVar 4) (mC (.int 1))) (way T (rowT r0) (.int c) (.str f0) w) = .ok (menuD [f0] fun _ => 1) := fun T w => by
    generalize rowT r0 = R at *
    unfold way
    simp [keyD, menuD]
  have noW := other_len hk m h0
  let g2 : List Str → D := fun x => if x = r0 ++ (["word"] : List Str) then menuD [f0] (fun _ => 1) else menuD (kf x) (gf x)
  have g2w : g2 (r0 ++ (["word"] : List Str)) = menuD [f0] (fun _ => 1) := if_pos rfl
  have g2n : ∀ x, x ≠ r0 ++ (["word"] : List Str) → g2 x = menuD (kf x) (gf x) := fun x h => if_neg h
  have putW : ∀ L : List (List Str), (∀ x ∈ L, x ∈ rs) → L.length ≤ 256 → putD (tabD L fun r => menuD (kf r) (gf r)) (rowT (r0 ++ (["word"] : List Str))) (menuD [f0] fun _ => 1) = some (tabD (L ++ [r0 ++ (["word"] : List Str)]) g2) := fun L hL hl => by
    have := tab_put (g := g2) (r := r0 ++ (["word"] : List Str)) (rows := L) (fun z => noW (hL _ z)) (by omega)
    rw [g2w] at this
    rw [← this]
    refine congrArg (fun T => putD T _ _) (tab_congr fun x hx => (g2n x fun z => noW (by rw [← z]; exact hL x hx)).symm)
  have rl6 : rs.length < 1000000 := by omega
  obtain ⟨rs', ep, nd', mem', len'⟩ := pop_tab (g := fun r => menuD (kf r) (gf r)) m.nd h0
  rcases (show c % 14 = 0 ∨ c % 14 = 1 ∨ c % 14 = 2 ∨ c % 14 = 3 ∨ c % 14 = 4 ∨ c % 14 = 5 ∨ c % 14 = 6 ∨ (c % 14 = 7 ∨ c % 14 = 8 ∨ c % 14 = 9) ∨ c % 14 = 10 ∨ c % 14 = 11 ∨ (c % 14 = 12 ∨ c % 14 = 13) by omega) with h | h | h | h | h | h | h | h | h | h | h
  · rw [h]
    exact ⟨_, chain_0 (pop_way ep), fun _ => popped_no hh hk m len', fun z => absurd (by decide) z⟩
  · rw [h]
    exact ⟨_, chain_1 (pop_way ep) (putD_way (eF _ _) (eW _ _) (putW rs' (fun x hx => ((mem' x).mp hx).1) (by omega))), fun _ => else_no hh hk m h0 len' mem' g2n, fun z => absurd (by decide) z⟩
  · rw [h]
    exact ⟨_, chain_put (.inl ⟨rfl, rfl⟩) (putD_way (eF _ _) (eW _ _) (putW rs (fun x hx => hx) rl)), fun _ => more_no hh hk m, fun z => absurd (by decide) z⟩
  · rw [h]
    exact ⟨_, chain_put (.inr (.inl ⟨rfl, rfl⟩)) (putD_way (v := .dK [] []) rfl way1 (putD_tab m.nd h0 rl6)), fun _ => swapped_no hh hk m h0 (is_menu_nil (X := .dK [] []) (show gIsi "dict" (.dK [] []) = some (.bl true) from isi_of rfl (show kitB "dict" "dict" = some true by decide +kernel)) rfl), fun z => absurd (by decide) z⟩
  · rw [h]
    obtain ⟨X, ex, im⟩ := no_menus (hs := hs) (outs := outs) (c / 14 % 6) (by omega) f0
    refine ⟨_, chain_put (.inr (.inr (.inl ⟨rfl, rfl⟩))) (putD_way (v := X) ?_ way1 (putD_tab m.nd h0 rl6)), fun _ => swapped_no hh hk m h0 im, fun z => absurd (by decide) z⟩
    generalize rowT r0 = R at *
    generalize tabD rs (fun r => menuD (kf r) (gf r)) = M at *
    have a1 : TW.gLst [] = some (D.lst []) := gLst_eq (show 0 ≤ sizeLine by decide)
    have a2 : ∀ x : D, gLst [x] = some (.lst [x]) := fun x => gLst_eq (show 1 ≤ sizeLine by decide)
    have a3 : ∀ x y : D, gTup [x, y] = some (.tup [x, y]) := fun x y => gTup_eq (show 2 ≤ sizeLine by decide)
    have a4 : ∀ a b c d e f : D, gLst [a, b, c, d, e, f] = some (.lst [a, b, c, d, e, f]) := fun a b c d e f => gLst_eq (show 6 ≤ sizeLine by decide)
    have a5 : gMod (.int (c / 14)) (.int 6) = some (.int (c / 14 % 6)) := gMod_int (by decide)
    unfold way
    simp [a1, a2, a3, a4, a5, div14, ex]
  · rw [h]
    obtain ⟨X, ex, im⟩ := menu_other (hs := hs) (g := gf r0) ao (m.good r0 h0).nd kl
    exact ⟨_, chain_put (.inr (.inr (.inr (.inl ⟨rfl, rfl⟩)))) (putN_way (v := .int 1) (k := .str "Other") rfl rfl (putN_tab (g := fun r => menuD (kf r) (gf r)) m.nd h0 ex)), fun _ => swapped_no hh hk m h0 im, fun z => absurd (by decide) z⟩
  · rw [h]
    obtain ⟨X, ex, im⟩ := menu_nul (hs := hs) (outs := outs) (g := gf r0) kl
    exact ⟨_, chain_put (.inr (.inr (.inr (.inr (.inl ⟨rfl, rfl⟩))))) (putN_way (v := .int 1) (k := .non) rfl rfl (putN_tab (g := fun r => menuD (kf r) (gf r)) m.nd h0 ex)), fun _ => swapped_no hh hk m h0 im, fun z => absurd (by decide) z⟩
  · obtain ⟨V, ev, hv⟩ := no_prices (c / 14 % 6) (by omega)
    rw [ek] at kl
    obtain ⟨X, ex, im⟩ := menu_price (hs := hs) (outs := outs) (g := gf r0) kl hv
    rw [← ek] at ex
    refine ⟨_, chain_put (.inr (.inr (.inr (.inr (.inr ⟨h, rfl⟩))))) (putN_way (v := V) (k := .str f0) ?_ way4 (putN_tab (g := fun r => menuD (kf r) (gf r)) m.nd h0 ex)), fun _ => swapped_no hh hk m h0 im, fun z => absurd (by omega) z⟩
    generalize rowT r0 = R at *
    generalize tabD rs (fun r => menuD (kf r) (gf r)) = M at *
    have a2 : ∀ x : D, gLst [x] = some (.lst [x]) := fun x => gLst_eq (show 1 ≤ sizeLine by decide)
    have a3 : TW.gTup [] = some (D.tup []) := gTup_eq (show 0 ≤ sizeLine by decide)
    have a4 : ∀ a b c d e f : D, gLst [a, b, c, d, e, f] = some (.lst [a, b, c, d, e, f]) := fun a b c d e f => gLst_eq (show 6 ≤ sizeLine by decide)
    have a5 : gMod (.int (c / 14)) (.int 6) = some (.int (c / 14 % 6)) := gMod_int (by decide)
    unfold way
    simp [a2, a3, a4, a5, div14, ev]
  · rw [h]
    have kr := keys_rows (rows := rs) (g := fun r => menuD (kf r) (gf r))
    obtain ⟨X, ex, im⟩ := no_dicts (c / 14 % 5) (by omega) (rowsD rs) ⟨_, rfl⟩
    refine ⟨X, chain_rt (.inl ⟨rfl, rfl⟩) ?_, fun _ => are_menus_no hh hk im, fun z => absurd (by decide) z⟩
    rw [hM]
    generalize rowT r0 = R at *
    generalize tabD rs (fun r => menuD (kf r) (gf r)) = M at *
    generalize rowsD rs = RR at *
    have a1 : TW.gLst [] = some (D.lst []) := gLst_eq (show 0 ≤ sizeLine by decide)
    have a4 : ∀ a b c d e : D, gLst [a, b, c, d, e] = some (.lst [a, b, c, d, e]) := fun a b c d e => gLst_eq (show 5 ≤ sizeLine by decide)
    have a5 : gMod (.int (c / 14)) (.int 5) = some (.int (c / 14 % 5)) := gMod_int (by decide)
    show sRet _ _ = _
    unfold way
    simp [a1, a4, a5, div14, ex, kr]
  · rw [h]
    refine ⟨.dK [.inr "row"] [menuD (kf r0) (gf r0)], chain_rt (.inr ⟨rfl, rfl⟩) ?_, fun _ => row_no hh hk m h0, fun z => absurd (by decide) z⟩
    generalize menuD (kf r0) (gf r0) = Mn at *
    generalize mensD rs kf gf = M at *
    generalize rowT r0 = R at *
    show sRet _ _ = _
    unfold way
    simp [ixM, keyD]
  · exact ⟨_, chain_no h, fun z => absurd z (by omega), fun _ => rfl⟩
end
theorem ixrow {rows : List (List Str)} {i : Nat} (hi : i < rows.length) : gIx (rowsD rows) (.int i) = some (rowT rows[i]) := by
  show atI (rows.map rowT) (i : Int) = _
  rw [TW.atI_nat (by simpa using hi), List.getElem?_map, List.getElem?_eq_getElem hi]; rfl
theorem kt_ne : gNe KTD KTD = some (.bl false) := gNe_refl (n := 1) (fun x hx => by
  simp at hx
  rcases hx with rfl | rfl <;> trivial)
theorem law_holds : ∀ ns : List Int, ns.length ≤ 63 → (∀ z ∈ ns, Builtin.Int.intBits z ≤ 1048576) → m_law_k47 [.scr ns] = .ok (.bl true) := by
  intro ns hns _
  obtain ⟨outs, hs, ep, ao, hh⟩ := parts_are ns hns tops_k46
  have ho := house_of_ok ao hh
  have hl := hh.hi
  have ll := hh.lo
  have aolo := ao.lo
  have aohi := ao.hi
  have ln : gLen [handsD hs] = some (.int hs.length) := by unfold handsD; simp
  have a4 := cellat ns (i := 4) 4 rfl
  have lr := rows2_ok hh
  have rlen' : gLen [rowsD (rowsW (wordsOf hs))] = some (.int (rowsW (wordsOf hs)).length) := by unfold rowsD; simp
  have p18 : gPow (.int 10) (.int 18) = some (.int (10 ^ 18)) := gPow_10 (k := 18) (by decide)
  have m18 : gMod (.int (cel ns 4)) (.int (10 ^ 18)) = some (.int (cel ns 4 % 10 ^ 18)) := gMod_int (by decide)
  have l4 : TW.gLst [.int 8, .int 5, .int 4, .int 2] = some (.lst ([8, 5, 4, 2].map D.int)) := gLst_eq (show 4 ≤ sizeLine by decide)
  have k4 : TW.gLst [.bl true, .bl true, .bl false, .bl false] = some KTD := gLst_eq (show 4 ≤ sizeLine by decide)
  have kne := kt_ne
  have gnN : gIsN .non .non = some (.bl true) := id rfl
  rw [m_law_k47]
  refine call_rt ?_
  rw [b_law_k47]
  generalize hcell : cel ns 4 % 10 ^ 18 = cell at *
  have c0 : 0 ≤ cell := by rw [← hcell]; exact Int.emod_nonneg _ (by decide)
  generalize ((10 : Int) ^ 18) = TT at *
  simp only [List.map_cons, List.map_nil, List.length_cons, List.length_nil, List.cons_append, List.nil_append, List.replicate, Nat.zero_add, Nat.reduceAdd, Nat.reduceSub, List.set_cons_zero, List.set_cons_succ]
  generalize (.lst ([8, 5, 4, 2].map D.int) : D) = L4 at *
  rw [sSeq_eq, show sAsg (tgT [1, 2]) (mArgs m__law_parts (mA1 (mVar 0) (mA1 (mL gLst (mA1 (mC (.int 8)) (mA1 (mC (.int 5)) (mA1 (mC (.int 4)) (mA1 (mC (.int 2)) (mA0)))))) (mA0)))) [some (.scr ns), none, none, none, none, none, none, none, none, none, none] = .nx [some (.scr ns), some (namesD outs), some (handsD hs), none, none, none, none, none, none, none, none] from by simp [l4, ep], Out.nx_bind]
  rw [seq_set (d := houseD outs hs) (by simp [ho])]
  simp only [List.map_cons, List.map_nil, List.length_cons, List.length_nil, List.cons_append, List.nil_append, List.replicate, Nat.zero_add, Nat.reduceAdd, Nat.reduceSub, List.set_cons_zero, List.set_cons_succ]
  rw [seq_set (d := .int cell) (by simp [a4, p18, m18])]
  simp only [List.map_cons, List.map_nil, List.length_cons, List.length_nil, List.cons_append, List.nil_append, List.replicate, Nat.zero_add, Nat.reduceAdd, Nat.reduceSub, List.set_cons_zero, List.set_cons_succ]
  obtain ⟨k, hk⟩ : ∃ k : Nat, cell % hs.length = k := ⟨(cell % hs.length).toNat, by have := mod_bnd cell (k := (hs.length : Int)) (by omega); omega⟩
  have hkl : k < hs.length := by have := mod_bnd cell (k := (hs.length : Int)) (by omega); omega
  rw [seq_set (d := .int k) (by simp [ln, gMod_int (show (0 : Int) < hs.length by omega), hk])]
  simp only [List.map_cons, List.map_nil, List.length_cons, List.length_nil, List.cons_append, List.nil_append, List.replicate, Nat.zero_add, Nat.reduceAdd, Nat.reduceSub, List.set_cons_zero, List.set_cons_succ]
  obtain ⟨rs, kf, gf, mn, em⟩ := menus_made ns (by omega) hh ao rfl hkl
  have rsl : rs.length ≤ 256 := by rw [mn.len hh.wnd, rowsW_len]; exact oth_ways hh hkl
  have rpos : 1 ≤ rs.length := by rw [mn.len hh.wnd, rowsW_len]; exact ways_pos fun g hg => hh.pos g (oth_mem hg)
  have kr : gListDT [mensD rs kf gf] = some (rowsD rs) := keys_rows
  have rl : gLen [rowsD rs] = some (.int rs.length) := by unfold rowsD; simp
  rw [seq_set (d := mensD rs kf gf) (by simp [em])]
  simp only [List.map_cons, List.map_nil, List.length_cons, List.length_nil, List.cons_append, List.nil_append, List.replicate, Nat.zero_add, Nat.reduceAdd, Nat.reduceSub, List.set_cons_zero, List.set_cons_succ]
  rw [seq_set (d := rowsD rs) (by simp [kr])]
  simp only [List.map_cons, List.map_nil, List.length_cons, List.length_nil, List.cons_append, List.nil_append, List.replicate, Nat.zero_add, Nat.reduceAdd, Nat.reduceSub, List.set_cons_zero, List.set_cons_succ]
  obtain ⟨i0, hi0, hi0l⟩ : ∃ i : Nat, cell / 56 % rs.length = i ∧ i < rs.length := ⟨(cell / 56 % rs.length).toNat, by have := mod_bnd (cell / 56) (k := (rs.length : Int)) (by omega); omega, by have := mod_bnd (cell / 56) (k := (rs.length : Int)) (by omega); omega⟩
  have ixr := ixrow hi0l
  have r0m : rs[i0] ∈ rs := List.getElem_mem hi0l
  generalize rs[i0] = r0 at *
  have d56 := d3 cell 56 (by decide) (by decide)
  have d4 := d3 cell 4 (by decide) (by decide)
  obtain ⟨T, es, sno, syes⟩ := spoiled_ok (gf := gf) hh hkl ao mn r0m rsl (cell / 4)
  have args : (mA1 (TW.m2 gIx (mVar 7) (TW.m2 gMod (TW.m2 gDiv (mVar 4) (mC (.int 56))) (mL gLen (mA1 (mVar 7) (mA0))))) (mA1 (TW.m2 gDiv (mVar 4) (mC (.int 4))) (mA0))) [some (.scr ns), some (namesD outs), some (handsD hs), some (houseD outs hs), some (.int cell), some (.int k), some (mensD rs kf gf), some (rowsD rs), none, none, none] = .ok [rowT r0, .int (cell / 4)] := by
    generalize rowT r0 = R at *
    generalize rowsD rs = RD at *
    generalize mensD rs kf gf = M at *
    simp [d56, d4, rl, gMod_int (show (0 : Int) < rs.length by omega), hi0, ixr]
  rw [sSeq_eq, sSetMvO_ok (i := 8) (j := 6) (d := mensD rs kf gf) rfl args es, Out.nx_bind]
  simp only [List.map_cons, List.map_nil, List.length_cons, List.length_nil, List.cons_append, List.nil_append, List.replicate, Nat.zero_add, Nat.reduceAdd, Nat.reduceSub, List.set_cons_zero, List.set_cons_succ]
  obtain ⟨q, hq, et, _⟩ := menus_table_v2_ok (gf := gf) hh rfl (by omega) ao.hi hkl mn
  have tl : gLen [tabD (made k (hat hs k).words (rowsW (wordsOf (oth hs k)))) fun row => .str (wat outs (q row))] = some (.int (rowsW (wordsOf hs)).length) := by
    rw [tab_len, made_len, rowsW_len, rowsW_len]
    have : ways hs = ways (oth hs k) * (hat hs k).words.length := by
      conv => lhs; rw [split_at hkl, ways_app]
      unfold oth
      rw [ways_app]
      show _ * ((hat hs k).words.length * _) = _
      rw [Nat.mul_assoc, Nat.mul_comm (hat hs k).words.length]
    rw [this]
  have ti := isi_tab (rows := made k (hat hs k).words (rowsW (wordsOf (oth hs k)))) (g := fun row => .str (wat outs (q row)))
  have told := told5_ok et
  generalize hTT : (tabD (made k (hat hs k).words (rowsW (wordsOf (oth hs k)))) fun row => .str (wat outs (q row))) = TB at *
  have ne0 : gEq (.int ((rowsW (wordsOf hs)).length : Int)) (.int ((rowsW (wordsOf hs)).length : Int)) = some (.bl true) := by simp
  generalize rowsD (rowsW (wordsOf hs)) = RR at *
  generalize (rowsW (wordsOf hs)).length = nr at *
  have m14 : gMod (.int (cell / 4)) (.int 14) = some (.int (cell / 4 % 14)) := gMod_int (by decide)
  by_cases hc : cell / 4 % 14 < 12
  · have tno := told5_no (sno hc)
    clear sno syes es
    generalize KTD = KT at *
    generalize mensD rs kf gf = M at *
    generalize houseD outs hs = H at *
    generalize handsD hs = HD at *
    generalize namesD outs = OD at *
    generalize rowsD rs = RD at *
    rw [sSeq_eq, show sAsg (tgT [9, 10]) (mArgs m__law_told_v5 (mA1 (mVar 3) (mA1 (mVar 5) (mA1 (mVar 8) (mA0))))) [some (.scr ns), some OD, some HD, some H, some (.int cell), some (.int k), none, some RD, some T, none, none] = .nx [some (.scr ns), some OD, some HD, some H, some (.int cell), some (.int k), none, some RD, some T, some .non, some KT] from by simp [tno], Out.nx_bind]
    rw [sSeq_eq]
    simp [d4, m14, hc, k4, kne, em, told, gnN, ti, tl, lr, rlen', ne0]
  · rw [syes hc]
    generalize mensD rs kf gf = M at *
    generalize houseD outs hs = H at *
    generalize handsD hs = HD at *
    generalize namesD outs = OD at *
    generalize rowsD rs = RD at *
    rw [sSeq_eq, show sAsg (tgT [9, 10]) (mArgs m__law_told_v5 (mA1 (mVar 3) (mA1 (mVar 5) (mA1 (mVar 8) (mA0))))) [some (.scr ns), some OD, some HD, some H, some (.int cell), some (.int k), none, some RD, some M, none, none] = .nx [some (.scr ns), some OD, some HD, some H, some (.int cell), some (.int k), none, some RD, some M, some TB, some .non] from by simp [told], Out.nx_bind]
    rw [sSeq_eq]
    simp [d4, m14, hc, gnN, ti, tl, lr, rlen', ne0]
end Lk47
-- End_k47
open PySem PySem.W PyProof.Rows
set_option maxHeartbeats 0 in
theorem PySem.Challenge.cw_trueword_k47_no_menus_holds : PySem.Challenge.rw_trueword_k47_no_menus.Holds := by
  w_on; o_law; k_head; (case hw => w_witness2)
  k_fill
  refine L2.walk_ofB (l := PySem.Challenge.rw_trueword_k47_no_menus) (n := 63) (k := 6) (x := "script") (CX := fun w => L2.CX (PySem.Challenge.rw_trueword_k47_no_menus).prog w) (sp := fun w => TW.spLaw _) rfl (by decide) rfl ⟨rfl, by decide, by decide⟩ (fun w h Y => PySem.W.kIn_of Y) ?F (fun _ _ a ns hl hb hO hS => ⟨a, ns, rfl, TW.scr_of hO hS, hl, hb, fun _ => rfl⟩) (fun w H s e s1 h => TW.no_cx (P := (PySem.Challenge.rw_trueword_k47_no_menus).prog) h)
  case F =>
    intro w mg fa h KX G hmg
    refine' Lk47.all_mk KX G hmg ?a_is_name ?l_is_name ?c_is_name ?k_is_name ?a_are_names ?l_are_names ?c_are_names ?k_are_names ?a_is_worth ?l_is_worth ?c_is_worth ?k_is_worth ?a_are_worths ?l_are_worths ?c_are_worths ?k_are_worths ?a_is_hand ?l_is_hand ?c_is_hand ?k_is_hand ?a_house_of ?l_house_of ?c_house_of ?k_house_of ?a_crossed ?l_crossed ?c_crossed ?k_crossed ?a_others_of ?l_others_of ?c_others_of ?k_others_of ?a_row_with ?l_row_with ?c_row_with ?k_row_with ?a_is_menu ?l_is_menu ?c_is_menu ?k_is_menu ?a_are_menus ?l_are_menus ?c_are_menus ?k_are_menus ?a_pick ?l_pick ?c_pick ?k_pick ?a_menus_table ?l_menus_table ?c_menus_table ?k_menus_table ?a__law_cell_at ?l__law_cell_at ?c__law_cell_at ?k__law_cell_at ?a__law_pool ?l__law_pool ?c__law_pool ?k__law_pool ?a__law_drawn ?l__law_drawn ?c__law_drawn ?k__law_drawn ?a__law_worth ?l__law_worth ?c__law_worth ?k__law_worth ?a__law_parts ?l__law_parts ?c__law_parts ?k__law_parts ?a__law_rows ?l__law_rows ?c__law_rows ?k__law_rows ?a__law_price ?l__law_price ?c__law_price ?k__law_price ?a__law_menus ?l__law_menus ?c__law_menus ?k__law_menus ?a__law_told ?l__law_told ?c__law_told ?k__law_told ?a__law_spoiled ?l__law_spoiled ?c__law_spoiled ?k__law_spoiled ?a_law ?l_law ?c_law ?k_law ?n_ValueError ?n_bool ?n_dict ?n_enumerate ?n_int ?n_isinstance ?n_len ?n_list ?n_max ?n_min ?n_range ?n_set ?n_str ?n_tuple ?w_LETTERS ?r_LETTERS ?a_NoMenu ?b_NoMenu ?t_NoMenu ?a_TrueError ?b_TrueError ?t_TrueError ?a_NoHouse ?a_NoPays ?a_NoRow ?a_NoRule ?a_NoShare ?a_NoStand ?a_NoWeight ?a_NoWord ?kg_NoMenu ?kk_NoMenu ?kd_NoMenu ?ka_NoMenu ?km_NoMenu ?kn_ ?kt_ ?vd_NoHouse ?vt_NoHouse ?vd_NoPays ?vt_NoPays ?vd_NoRow ?vt_NoRow ?vd_NoRule ?vt_NoRule ?vd_NoShare ?vt_NoShare ?vd_NoStand ?vt_NoStand ?vd_NoWeight ?vt_NoWeight ?vd_NoWord ?vt_NoWord ?v_NoMenu_NoHouse ?vn_NoMenu_NoHouse ?v_NoMenu_NoPays ?vn_NoMenu_NoPays ?v_NoMenu_NoRow ?vn_NoMenu_NoRow ?v_NoMenu_NoRule ?vn_NoMenu_NoRule ?v_NoMenu_NoShare ?vn_NoMenu_NoShare ?v_NoMenu_NoStand ?vn_NoMenu_NoStand ?v_NoMenu_NoWeight ?vn_NoMenu_NoWeight ?v_NoMenu_NoWord ?vn_NoMenu_NoWord ?v_NoMenu_ValueError ?e_NoMenu ?k_NoMenu ?h_TrueError ?s_TrueError_NoMenu Lk47.law_holds
    (case a_is_name => k_is); (case l_is_name => k_is); (case c_is_name => k_is); (case k_is_name => k_is); (case a_are_names => k_is); (case l_are_names => k_is); (case c_are_names => k_is); (case k_are_names => k_is); (case a_is_worth => k_is); (case l_is_worth => k_is); (case c_is_worth => k_is); (case k_is_worth => k_is); (case a_are_worths => k_is); (case l_are_worths => k_is); (case c_are_worths => k_is); (case k_are_worths => k_is); (case a_is_hand => k_is); (case l_is_hand => k_is); (case c_is_hand => k_is); (case k_is_hand => k_is); (case a_house_of => k_is); (case l_house_of => k_is); (case c_house_of => k_is); (case k_house_of => k_is); (case a_crossed => k_is); (case l_crossed => k_is); (case c_crossed => k_is); (case k_crossed => k_is); (case a_others_of => k_is); (case l_others_of => k_is); (case c_others_of => k_is); (case k_others_of => k_is); (case a_row_with => k_is); (case l_row_with => k_is); (case c_row_with => k_is); (case k_row_with => k_is); (case a_is_menu => k_is); (case l_is_menu => k_is); (case c_is_menu => k_is); (case k_is_menu => k_is); (case a_are_menus => k_is); (case l_are_menus => k_is); (case c_are_menus => k_is); (case k_are_menus => k_is); (case a_pick => k_is); (case l_pick => k_is); (case c_pick => k_is); (case k_pick => k_is); (case a_menus_table => k_is); (case l_menus_table => k_is); (case c_menus_table => k_is); (case k_menus_table => k_is); (case a__law_cell_at => k_is); (case l__law_cell_at => k_is); (case c__law_cell_at => k_is); (case k__law_cell_at => k_is); (case a__law_pool => k_is); (case l__law_pool => k_is); (case c__law_pool => k_is); (case k__law_pool => k_is); (case a__law_drawn => k_is); (case l__law_drawn => k_is); (case c__law_drawn => k_is); (case k__law_drawn => k_is); (case a__law_worth => k_is); (case l__law_worth => k_is); (case c__law_worth => k_is); (case k__law_worth => k_is); (case a__law_parts => k_is); (case l__law_parts => k_is); (case c__law_parts => k_is); (case k__law_parts => k_is); (case a__law_rows => k_is); (case l__law_rows => k_is); (case c__law_rows => k_is); (case k__law_rows => k_is); (case a__law_price => k_is); (case l__law_price => k_is); (case c__law_price => k_is); (case k__law_price => k_is); (case a__law_menus => k_is); (case l__law_menus => k_is); (case c__law_menus => k_is); (case k__law_menus => k_is); (case a__law_told => k_is); (case l__law_told => k_is); (case c__law_told => k_is); (case k__law_told => k_is); (case a__law_spoiled => k_is); (case l__law_spoiled => k_is); (case c__law_spoiled => k_is); (case k__law_spoiled => k_is); (case a_law => k_is); (case l_law => k_is); (case c_law => k_is); (case k_law => k_is); (case n_ValueError => k_is); (case n_bool => k_is); (case n_dict => k_is); (case n_enumerate => k_is); (case n_int => k_is); (case n_isinstance => k_is); (case n_len => k_is); (case n_list => k_is); (case n_max => k_is); (case n_min => k_is); (case n_range => k_is); (case n_set => k_is); (case n_str => k_is); (case n_tuple => k_is); (case w_LETTERS => k_is); (case r_LETTERS => first | exact .int ⟨_, rfl⟩ | exact .str rfl | exact .str ⟨_, rfl⟩); (case a_NoMenu => k_is); (case b_NoMenu => k_is); (case t_NoMenu => k_is); (case a_TrueError => k_is); (case b_TrueError => k_is); (case t_TrueError => k_is); (case a_NoHouse => k_is); (case a_NoPays => k_is); (case a_NoRow => k_is); (case a_NoRule => k_is); (case a_NoShare => k_is); (case a_NoStand => k_is); (case a_NoWeight => k_is); (case a_NoWord => k_is); (case kg_NoMenu => k_is); (case kk_NoMenu => k_is); (case kd_NoMenu => k_is); (case ka_NoMenu => k_is); (case km_NoMenu => k_is); (case kn_ => k_is); (case kt_ => k_is); (case vd_NoHouse => k_is); (case vt_NoHouse => k_is); (case vd_NoPays => k_is); (case vt_NoPays => k_is); (case vd_NoRow => k_is); (case vt_NoRow => k_is); (case vd_NoRule => k_is); (case vt_NoRule => k_is); (case vd_NoShare => k_is); (case vt_NoShare => k_is); (case vd_NoStand => k_is); (case vt_NoStand => k_is); (case vd_NoWeight => k_is); (case vt_NoWeight => k_is); (case vd_NoWord => k_is); (case vt_NoWord => k_is); (case v_NoMenu_NoHouse => first | rfl | k_is); (case vn_NoMenu_NoHouse => first | rfl | decide); (case v_NoMenu_NoPays => first | rfl | k_is); (case vn_NoMenu_NoPays => first | rfl | decide); (case v_NoMenu_NoRow => first | rfl | k_is); (case vn_NoMenu_NoRow => first | rfl | decide); (case v_NoMenu_NoRule => first | rfl | k_is); (case vn_NoMenu_NoRule => first | rfl | decide); (case v_NoMenu_NoShare => first | rfl | k_is); (case vn_NoMenu_NoShare => first | rfl | decide); (case v_NoMenu_NoStand => first | rfl | k_is); (case vn_NoMenu_NoStand => first | rfl | decide); (case v_NoMenu_NoWeight => first | rfl | k_is); (case vn_NoMenu_NoWeight => first | rfl | decide); (case v_NoMenu_NoWord => first | rfl | k_is); (case vn_NoMenu_NoWord => first | rfl | decide); (case v_NoMenu_ValueError => first | rfl | k_is); (case e_NoMenu => k_exc); (case k_NoMenu => k_is); (case h_TrueError => k_is); (case s_TrueError_NoMenu => first | rfl | k_is)
