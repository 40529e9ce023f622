import PyProof.Rows.All
import KE.GoesMore
import HandS.Small
import HandS.TupLe
import Wide.All
import OpenK.AllK
import Wide.FinOn
import HandS.ForMost
import HandS.ForExc
import HandS.Wide
import HandS.IsInst
import HandS.Defaults
import HandS.Iter
import HandS.Comp
import HandS.HeadHook1
import HandS.HeadHook2
import HandS.HeadEnd
import HandS.Head0
import HandS.Head1
import HandS.Head2
import HandS.Text
import HandS.RaiseMore
import HandS.TupAny
import PyProof.ReprRoads
import HandS.Zip
import HandS.Deep
import PyProof.ListRange
import HandS.TryOnly
import HandS.RevTup
import HandS.Rev
import PyProof.ListNew
import HandS.ExcInit
import HandS.ExcOwn
import HandS.TryOnly
import KE.KExcIs
import HandS.ExcIs
import HandS.ExcField
import HandS.SortRule
import HandS.Style
import KE.KEqDict
import PySem.Challenge.RW_ringloads_k68_what_is_a_string
set_option Elab.async false
set_option linter.all false
set_option maxRecDepth 100000
set_option maxHeartbeats 4000000
/-! # Rl: readings over views. A value's meaning (AV) is said over a view of lists and tuples; lists that a body changes are its own (Sl.own); GE, GT, GA, GS run a reading on such slots. -/
namespace Rl
open PySem PySem.Spec PyProof.Rows L2

/-! ### views, meanings -/
/-- t: tuples; l: lists that are only read; c: lists that nobody may write (the script, the module's own); h: other things that are only read; k: the module's classes -/
structure Vw where
  t : Addr → List V → Prop
  l : Addr → List V → Prop
  c : Addr → List V → Prop
  h : Addr → HO → Prop
  k : Str → Addr
structure Vw.Le (G G' : Vw) : Prop where
  t : ∀ a xs, G.t a xs → G'.t a xs
  l : ∀ a xs, G.l a xs → G'.l a xs
  c : ∀ a xs, G.c a xs → G'.c a xs
  h : ∀ a o, G.h a o → G'.h a o
  k : G'.k = G.k
/-- what is only read: no list -/
def Nl : HO → Prop
  | .lst _ => False
  | .ins .. => False
  | .own _ => False
  | .dK _ => False
  | .dT _ => False
  | _ => True
/-- what can be one's own -/
def Ow : HO → Prop
  | .lst _ => True
  | .ins .. => True
  | .own _ => True
  | .dK _ => True
  | .dT _ => True
  | _ => False
theorem ow_nl {o : HO} (h : Ow o) (n : Nl o) : False := by
  cases o <;> first | exact h | exact n
theorem ow_tup {o : HO} {xs : List V} (h : Ow o) : (.tup xs : HO) ≠ o := by
  rintro rfl
  exact h
theorem ow_frz {o u : HO} {ob : Obj} (h : Ow o) : (.frz ob u : HO) ≠ o := by
  rintro rfl
  exact h
theorem Vw.Le.refl (G : Vw) : Vw.Le G G := ⟨fun _ _ h => h, fun _ _ h => h, fun _ _ h => h, fun _ _ h => h, rfl⟩
theorem Vw.Le.trans {G G1 G2 : Vw} (a : Vw.Le G G1) (b : Vw.Le G1 G2) : Vw.Le G G2 := ⟨fun c xs h => b.t c xs (a.t c xs h), fun c xs h => b.l c xs (a.l c xs h), fun c xs h => b.c c xs (a.c c xs h), fun c o h => b.h c o (a.h c o h), b.k.trans a.k⟩
def Vw.addT (G : Vw) (a : Addr) (ys : List V) : Vw := ⟨fun b xs => G.t b xs ∨ (b = a ∧ xs = ys), G.l, G.c, G.h, G.k⟩
def Vw.addL (G : Vw) (a : Addr) (ys : List V) : Vw := ⟨G.t, fun b xs => G.l b xs ∨ (b = a ∧ xs = ys), G.c, G.h, G.k⟩
theorem Vw.leT (G : Vw) (a : Addr) (ys : List V) : Vw.Le G (G.addT a ys) := ⟨fun _ _ h => .inl h, fun _ _ h => h, fun _ _ h => h, fun _ _ h => h, rfl⟩
theorem Vw.leL (G : Vw) (a : Addr) (ys : List V) : Vw.Le G (G.addL a ys) := ⟨fun _ _ h => h, fun _ _ h => .inl h, fun _ _ h => h, fun _ _ h => h, rfl⟩
structure AV where
  p : Vw → V → Prop
  mono : ∀ {G G' : Vw} {v : V}, Vw.Le G G' → p G v → p G' v
def aV (v : V) : AV := ⟨fun _ u => u = v, fun _ h => h⟩
abbrev aInt (i : Int) : AV := aV (.int i)
abbrev aB (b : Bool) : AV := aV (.bl b)
abbrev aS (s : Str) : AV := aV (.str s)
abbrev aN : AV := aV .non
def avs (G : Vw) : List AV → List V → Prop
  | [], vs => vs = []
  | A :: As, vs => ∃ v r, vs = v :: r ∧ A.p G v ∧ avs G As r
theorem avs.mono {G G' : Vw} (le : Vw.Le G G') : ∀ {As : List AV} {vs : List V}, avs G As vs → avs G' As vs
  | [], _, h => h
  | A :: As, _, ⟨v, r, e, h, t⟩ => ⟨v, r, e, A.mono le h, avs.mono le t⟩
theorem avs.length {G : Vw} : ∀ {As : List AV} {vs : List V}, avs G As vs → vs.length = As.length
  | [], _, h => by
    rw [show _ = [] from h]
    rfl
  | A :: As, _, ⟨v, r, e, h, t⟩ => by rw [e, List.length_cons, List.length_cons, avs.length t]
theorem avs.get {G : Vw} : ∀ {As : List AV} {vs : List V} {i : Nat} {A : AV}, avs G As vs → As[i]? = some A → ∃ v, vs[i]? = some v ∧ A.p G v
  | [], _, _, _, _, e => by simp at e
  | B :: As, _, 0, A, ⟨v, r, e, h, t⟩, q => by
    have : B = A := by simpa using q
    subst this; subst e
    exact ⟨v, rfl, h⟩
  | B :: As, _, i + 1, A, ⟨v, r, e, h, t⟩, q => by
    subst e
    obtain ⟨w, h1, h2⟩ := avs.get (i := i) t (by simpa using q)
    exact ⟨w, by simpa using h1, h2⟩
theorem avs.get' {G : Vw} : ∀ {As : List AV} {vs : List V} {i : Nat} {v : V}, avs G As vs → vs[i]? = some v → ∃ A, As[i]? = some A ∧ A.p G v
  | [], _, _, _, h, e => by rw [show _ = [] from h] at e; simp at e
  | B :: As, _, 0, v, ⟨w, r, e, h, t⟩, q => by
    subst e
    have : w = v := by simpa using q
    subst this
    exact ⟨B, rfl, h⟩
  | B :: As, _, i + 1, v, ⟨w, r, e, h, t⟩, q => by
    subst e
    obtain ⟨A, h1, h2⟩ := avs.get' (i := i) t (by simpa using q)
    exact ⟨A, by simpa using h1, h2⟩
theorem avs.append {G : Vw} : ∀ {As Bs : List AV} {vs ws : List V}, avs G As vs → avs G Bs ws → avs G (As ++ Bs) (vs ++ ws)
  | [], _, _, _, h, h' => by rw [show _ = [] from h]; exact h'
  | A :: As, _, _, _, ⟨v, r, e, h, t⟩, h' => by
    subst e
    exact ⟨v, r ++ _, rfl, h, avs.append t h'⟩
theorem avs.one {G : Vw} {A : AV} {v : V} (h : A.p G v) : avs G [A] [v] := ⟨v, [], rfl, h, rfl⟩
theorem avs.set {G : Vw} {A : AV} {v : V} (h : A.p G v) : ∀ {As : List AV} {vs : List V} (i : Nat), avs G As vs → avs G (As.set i A) (vs.set i v)
  | [], _, _, q => by rw [show _ = [] from q]; rfl
  | B :: As, _, 0, ⟨w, r, e, h', t⟩ => by
    subst e
    exact ⟨v, r, rfl, h, t⟩
  | B :: As, _, i + 1, ⟨w, r, e, h', t⟩ => by
    subst e
    exact ⟨w, _, rfl, h', avs.set h i t⟩
theorem avs.drop {G : Vw} : ∀ {As : List AV} {vs : List V} (n : Nat), avs G As vs → avs G (As.drop n) (vs.drop n)
  | _, _, 0, h => h
  | [], _, n + 1, h => by rw [show _ = [] from h]; rfl
  | A :: As, _, n + 1, ⟨v, r, e, h, t⟩ => by
    subst e
    exact avs.drop n t
theorem avs.take {G : Vw} : ∀ {As : List AV} {vs : List V} (n : Nat), avs G As vs → avs G (As.take n) (vs.take n)
  | _, _, 0, _ => by
    rw [List.take_zero, List.take_zero]
    rfl
  | [], _, n + 1, h => by rw [show _ = [] from h]; rfl
  | A :: As, _, n + 1, ⟨v, r, e, h, t⟩ => by
    subst e
    exact ⟨v, _, rfl, h, avs.take n t⟩
theorem avs.reverse {G : Vw} : ∀ {As : List AV} {vs : List V}, avs G As vs → avs G As.reverse vs.reverse
  | [], _, h => by rw [show _ = [] from h]; rfl
  | A :: As, _, ⟨v, r, e, h, t⟩ => by
    subst e
    rw [List.reverse_cons, List.reverse_cons]
    exact (avs.reverse t).append (.one h)
/-- a tuple; a list that is only read -/
def aTup (As : List AV) : AV := ⟨fun G v => ∃ a vs, v = .ref a ∧ G.t a vs ∧ avs G As vs, fun le ⟨a, vs, e, h, q⟩ => ⟨a, vs, e, le.t a vs h, q.mono le⟩⟩
def aLst (As : List AV) : AV := ⟨fun G v => ∃ a vs, v = .ref a ∧ G.l a vs ∧ avs G As vs, fun le ⟨a, vs, e, h, q⟩ => ⟨a, vs, e, le.l a vs h, q.mono le⟩⟩
/-- the law's script: a list that nobody owns, of the written part or a frozen one -/
def aScr (ns : List Int) : AV := ⟨fun G v => ∃ a, v = .ref a ∧ G.c a (ns.map V.int), fun le ⟨a, e, h⟩ => ⟨a, e, le.c _ _ h⟩⟩
abbrev aL {α : Type} (f : α → AV) (xs : List α) : AV := aLst (xs.map f)

/-! ### things with own lists in them -/
/-- an own thing's form: an instance with its dict at dx, its fields' names; a dict, its keys -/
inductive Kd where
  | ins (dx : Addr) (C : Str) (ns : List Str)
  | dk (ks : List Key)
  | dt (ks : List (List Key))
def Kd.side : Kd → List Addr
  | .ins dx _ _ => [dx]
  | _ => []
def Kd.has (F H : Hp) (G : Vw) (a : Addr) : Kd → List V → Prop
  | .ins dx C ns, xs => H a = some (.ins (G.k C) dx (ns.zip xs)) ∧ ns.length = xs.length ∧ H dx = some (.own a) ∧ F dx = none ∧ ∀ ys, ¬ G.l dx ys
  | .dk ks, xs => H a = some (.dK (ks.zip xs)) ∧ ks.length = xs.length
  | .dt ks, xs => H a = some (.dT (ks.zip xs)) ∧ ks.length = xs.length
theorem Kd.has_move {F F' H H' : Hp} {G G' : Vw} (le : Vw.Le G G') {a : Addr} {m : Kd} {xs : List V} (h1 : ∀ b, b = a ∨ b ∈ m.side → ∀ o, H b = some o → H' b = some o) (h2 : ∀ b, b ∈ m.side → H b ≠ none → ∀ ys, G'.l b ys → G.l b ys) (h3 : ∀ b, b ∈ m.side → F b = none → F' b = none) (h : m.has F H G a xs) : m.has F' H' G' a xs := by
  cases m with
  | ins dx C ns =>
    obtain ⟨e1, e2, e3, e4, e5⟩ := h
    have md : dx ∈ (Kd.ins dx C ns).side := List.mem_singleton.mpr rfl
    refine ⟨by rw [le.k]; exact h1 a (.inl rfl) _ e1, e2, h1 dx (.inr md) _ e3, h3 dx md e4, fun ys q => e5 ys (h2 dx md (by rw [e3]; intro z; cases z) ys q)⟩
  | dk ks => exact ⟨h1 a (.inl rfl) _ h.1, h.2⟩
  | dt ks => exact ⟨h1 a (.inl rfl) _ h.1, h.2⟩
theorem Kd.has_at {F H : Hp} {G : Vw} {a : Addr} {m : Kd} {xs : List V} (h : m.has F H G a xs) : ∃ o, H a = some o ∧ Ow o := by
  cases m with
  | ins dx C ns => exact ⟨_, h.1, trivial⟩
  | dk ks => exact ⟨_, h.1, trivial⟩
  | dt ks => exact ⟨_, h.1, trivial⟩
theorem Kd.has_side {F H : Hp} {G : Vw} {a : Addr} {m : Kd} {xs : List V} (h : m.has F H G a xs) {b : Addr} (hb : b ∈ m.side) : F b = none ∧ (∀ ys, ¬ G.l b ys) ∧ ∃ o, H b = some o ∧ Ow o := by
  cases m with
  | ins dx C ns =>
    obtain rfl := List.mem_singleton.mp hb
    exact ⟨h.2.2.2.1, h.2.2.2.2, _, h.2.2.1, trivial⟩
  | dk ks => cases hb
  | dt ks => cases hb
/-- what can be anything -/
def aAny : AV := ⟨fun _ _ => True, fun _ _ => trivial⟩
/-- v: what is known to all; t: a tuple; l: the list at a, one's own; q: an instance or a dict at a, one's own -/
inductive Sh where
  | v (A : AV)
  | t (ss : List Sh)
  | l (a : Addr) (ss : List Sh)
  | q (a : Addr) (m : Kd) (ss : List Sh)
mutual
def Sh.ok (F H : Hp) (G : Vw) : Sh → V → Prop
  | .v A, x => A.p G x
  | .t ss, x => ∃ a xs, x = .ref a ∧ G.t a xs ∧ Sh.okL F H G ss xs
  | .l a ss, x => x = .ref a ∧ F a = none ∧ (∀ ys, ¬ G.l a ys) ∧ ∃ xs, H a = some (.lst xs) ∧ Sh.okL F H G ss xs
  | .q a m ss, x => x = .ref a ∧ F a = none ∧ (∀ ys, ¬ G.l a ys) ∧ ∃ xs, m.has F H G a xs ∧ Sh.okL F H G ss xs
def Sh.okL (F H : Hp) (G : Vw) : List Sh → List V → Prop
  | [], xs => xs = []
  | s :: ss, xs => ∃ x r, xs = x :: r ∧ Sh.ok F H G s x ∧ Sh.okL F H G ss r
end
mutual
def Sh.ads : Sh → List Addr
  | .v _ => []
  | .t ss => Sh.adsL ss
  | .l a ss => a :: Sh.adsL ss
  | .q a m ss => a :: (m.side ++ Sh.adsL ss)
def Sh.adsL : List Sh → List Addr
  | [] => []
  | s :: ss => s.ads ++ Sh.adsL ss
end
mutual
def Sh.av : Sh → AV
  | .v A => A
  | .t ss => aTup (Sh.avL ss)
  | .l _ ss => aLst (Sh.avL ss)
  | .q _ _ _ => aAny
def Sh.avL : List Sh → List AV
  | [] => []
  | s :: ss => s.av :: Sh.avL ss
end
section
variable {F F' H H' : Hp} {G G' : Vw}
mutual
theorem Sh.ok_move (le : Vw.Le G G') : ∀ (S : Sh) (x : V), (∀ b, b ∈ S.ads → ∀ o, H b = some o → H' b = some o) → (∀ b, b ∈ S.ads → H b ≠ none → ∀ ys, G'.l b ys → G.l b ys) → (∀ b, b ∈ S.ads → F b = none → F' b = none) → S.ok F H G x → S.ok F' H' G' x
  | .v A, x, _, _, _, h => by
    rw [Sh.ok] at h ⊢
    exact A.mono le h
  | .t ss, x, h1, h2, h3, h => by
    rw [Sh.ok] at h ⊢
    rw [Sh.ads] at h1 h2 h3
    obtain ⟨a, xs, e, ht, h⟩ := h
    exact ⟨a, xs, e, le.t a xs ht, Sh.okL_move le ss xs h1 h2 h3 h⟩
  | .l a ss, x, h1, h2, h3, h => by
    rw [Sh.ok] at h ⊢
    rw [Sh.ads] at h1 h2 h3
    obtain ⟨e, f, n, xs, hx, h⟩ := h
    refine ⟨e, h3 a (List.mem_cons_self ..) f, fun ys q => n ys (h2 a (List.mem_cons_self ..) (by rw [hx]; intro z; cases z) ys q), xs, h1 a (List.mem_cons_self ..) _ hx, Sh.okL_move le ss xs (fun b hb => h1 b (List.mem_cons_of_mem _ hb)) (fun b hb => h2 b (List.mem_cons_of_mem _ hb)) (fun b hb => h3 b (List.mem_cons_of_mem _ hb)) h⟩
  | .q a m ss, x, h1, h2, h3, h => by
    rw [Sh.ok] at h ⊢
    rw [Sh.ads] at h1 h2 h3
    obtain ⟨e, f, n, xs, hx, h⟩ := h
    obtain ⟨o, ho, _⟩ := Kd.has_at hx
    have ms : ∀ b, b ∈ m.side → b ∈ a :: (m.side ++ Sh.adsL ss) := fun b hb => List.mem_cons_of_mem _ (List.mem_append_left _ hb)
    have mk : ∀ b, b ∈ Sh.adsL ss → b ∈ a :: (m.side ++ Sh.adsL ss) := fun b hb => List.mem_cons_of_mem _ (List.mem_append_right _ hb)
    refine ⟨e, h3 a (List.mem_cons_self ..) f, fun ys q => n ys (h2 a (List.mem_cons_self ..) (by rw [ho]; intro z; cases z) ys q), xs, Kd.has_move le (fun b hb => ?_) (fun b hb => h2 b (ms b hb)) (fun b hb => h3 b (ms b hb)) hx, Sh.okL_move le ss xs (fun b hb => h1 b (mk b hb)) (fun b hb => h2 b (mk b hb)) (fun b hb => h3 b (mk b hb)) h⟩
    rcases hb with rfl | hb
    · exact h1 b (List.mem_cons_self ..)
    · exact h1 b (ms b hb)
theorem Sh.okL_move (le : Vw.Le G G') : ∀ (ss : List Sh) (xs : List V), (∀ b, b ∈ Sh.adsL ss → ∀ o, H b = some o → H' b = some o) → (∀ b, b ∈ Sh.adsL ss → H b ≠ none → ∀ ys, G'.l b ys → G.l b ys) → (∀ b, b ∈ Sh.adsL ss → F b = none → F' b = none) → Sh.okL F H G ss xs → Sh.okL F' H' G' ss xs
  | [], xs, _, _, _, h => by
    rw [Sh.okL] at h ⊢
    exact h
  | s :: ss, xs, h1, h2, h3, h => by
    rw [Sh.okL] at h ⊢
    rw [Sh.adsL] at h1 h2 h3
    obtain ⟨x, r, e, p, q⟩ := h
    exact ⟨x, r, e, Sh.ok_move le s x (fun b hb => h1 b (List.mem_append_left _ hb)) (fun b hb => h2 b (List.mem_append_left _ hb)) (fun b hb => h3 b (List.mem_append_left _ hb)) p, Sh.okL_move le ss r (fun b hb => h1 b (List.mem_append_right _ hb)) (fun b hb => h2 b (List.mem_append_right _ hb)) (fun b hb => h3 b (List.mem_append_right _ hb)) q⟩
end
mutual
theorem Sh.ok_ad : ∀ (S : Sh) (x : V), S.ok F H G x → ∀ b, b ∈ S.ads → F b = none ∧ (∀ ys, ¬ G.l b ys) ∧ ∃ o, H b = some o ∧ Ow o
  | .v A, x, _, b, hb => by
    rw [Sh.ads] at hb
    cases hb
  | .t ss, x, h, b, hb => by
    rw [Sh.ok] at h
    rw [Sh.ads] at hb
    obtain ⟨a, xs, e, ht, h⟩ := h
    exact Sh.okL_ad ss xs h b hb
  | .l a ss, x, h, b, hb => by
    rw [Sh.ok] at h
    rw [Sh.ads] at hb
    obtain ⟨e, f, n, xs, hx, h⟩ := h
    rcases List.mem_cons.mp hb with rfl | hb
    · exact ⟨f, n, _, hx, trivial⟩
    · exact Sh.okL_ad ss xs h b hb
  | .q a m ss, x, h, b, hb => by
    rw [Sh.ok] at h
    rw [Sh.ads] at hb
    obtain ⟨e, f, n, xs, hx, h⟩ := h
    rcases List.mem_cons.mp hb with rfl | hb
    · exact ⟨f, n, Kd.has_at hx⟩
    · rcases List.mem_append.mp hb with hb | hb
      · exact Kd.has_side hx hb
      · exact Sh.okL_ad ss xs h b hb
theorem Sh.okL_ad : ∀ (ss : List Sh) (xs : List V), Sh.okL F H G ss xs → ∀ b, b ∈ Sh.adsL ss → F b = none ∧ (∀ ys, ¬ G.l b ys) ∧ ∃ o, H b = some o ∧ Ow o
  | [], xs, _, b, hb => by
    rw [Sh.adsL] at hb
    cases hb
  | s :: ss, xs, h, b, hb => by
    rw [Sh.okL] at h
    rw [Sh.adsL] at hb
    obtain ⟨x, r, e, p, q⟩ := h
    rcases List.mem_append.mp hb with hb | hb
    · exact Sh.ok_ad s x p b hb
    · exact Sh.okL_ad ss r q b hb
end
/-! all its lists are known to all: it means what it says -/
mutual
theorem Sh.ok_av (le : Vw.Le G G') : ∀ (S : Sh) (x : V), (∀ b, b ∈ S.ads → ∀ xs, H b = some (.lst xs) → G'.l b xs) → S.ok F H G x → S.av.p G' x
  | .v A, x, _, h => by
    rw [Sh.ok] at h
    rw [Sh.av]
    exact A.mono le h
  | .t ss, x, h1, h => by
    rw [Sh.ok] at h
    rw [Sh.ads] at h1
    rw [Sh.av]
    obtain ⟨a, xs, e, ht, h⟩ := h
    exact ⟨a, xs, e, le.t a xs ht, Sh.okL_av le ss xs h1 h⟩
  | .l a ss, x, h1, h => by
    rw [Sh.ok] at h
    rw [Sh.ads] at h1
    rw [Sh.av]
    obtain ⟨e, f, n, xs, hx, h⟩ := h
    exact ⟨a, xs, e, h1 a (List.mem_cons_self ..) xs hx, Sh.okL_av le ss xs (fun b hb => h1 b (List.mem_cons_of_mem _ hb)) h⟩
  | .q a m ss, x, _, _ => by
    rw [Sh.av]
    exact trivial
theorem Sh.okL_av (le : Vw.Le G G') : ∀ (ss : List Sh) (xs : List V), (∀ b, b ∈ Sh.adsL ss → ∀ xs, H b = some (.lst xs) → G'.l b xs) → Sh.okL F H G ss xs → avs G' (Sh.avL ss) xs
  | [], xs, _, h => by
    rw [Sh.okL] at h
    rw [Sh.avL]
    exact h
  | s :: ss, xs, h1, h => by
    rw [Sh.okL] at h
    rw [Sh.adsL] at h1
    rw [Sh.avL]
    obtain ⟨x, r, e, p, q⟩ := h
    exact ⟨x, r, e, Sh.ok_av le s x (fun b hb => h1 b (List.mem_append_left _ hb)) p, Sh.okL_av le ss r (fun b hb => h1 b (List.mem_append_right _ hb)) q⟩
end
end

/-! ### slots -/
/-- own l As: the list at l is this body's own, nobody else knows of it; tr S: a thing with own lists in it -/
inductive Sl where
  | non
  | sh (A : AV)
  | own (l : Addr) (As : List AV)
  | tr (S : Sh)
def Sl.ads : Sl → List Addr
  | .own l _ => [l]
  | .tr S => S.ads
  | _ => []
def slOk (F H : Hp) (G : Vw) : Sl → Option V → Prop
  | .non, _ => True
  | .sh A, o => ∃ v, o = some v ∧ A.p G v
  | .own l As, o => o = some (.ref l) ∧ ∃ vs, H l = some (.lst vs) ∧ F l = none ∧ (∀ ys, ¬ G.l l ys) ∧ avs G As vs
  | .tr S, o => ∃ v, o = some v ∧ S.ok F H G v ∧ S.ads.Nodup
structure See (K : PySem.W.Frag) (G : Vw) (H : Hp) : Prop where
  t : ∀ a xs, G.t a xs → SqT K H a xs
  l : ∀ a xs, G.l a xs → H a = some (.lst xs)
  c : ∀ a xs, G.c a xs → (∃ o, H a = some (.frz o (.lst xs))) ∨ ∃ (o : Obj) (its : Array Value) (n : Nat), K.lookup a = some o ∧ o.cls = .type "list" ∧ o.dict = none ∧ o.data = .seq its n ∧ its.size ≤ sizeLine ∧ Vals xs its.toList
  h : ∀ a o, G.h a o → H a = some o ∧ Nl o
  k : G.k = He.ga K
/-- no two slots have a list between them -/
def Dis (γ : List Sl) : Prop := ∀ (i j : Nat) (S T : Sl) (b : Addr), γ[i]? = some S → γ[j]? = some T → b ∈ S.ads → b ∈ T.ads → i = j
/-- no slot has the list at b -/
def Free (γ : List Sl) (b : Addr) : Prop := ∀ (j : Nat) (T : Sl), γ[j]? = some T → b ∉ T.ads
/-- F: the heap at the entry, without the lists that the body may change; G0: the view at the entry -/
structure At (K : PySem.W.Frag) (F : Hp) (G0 : Vw) (γ : List Sl) (σ : L2.St) (H : Hp) (G : Vw) : Prop where
  le : Vw.Le G0 G
  same : Same F H
  see : See K G H
  hid : ∀ a xs, F a ≠ none → G.l a xs → G0.l a xs
  len : σ.length = γ.length
  slot : ∀ (i : Nat) (S : Sl), γ[i]? = some S → slOk F H G S (σ[i]?.join)
  dis : Dis γ
theorem Same.tup {K : PySem.W.Frag} {H H' : Hp} {a : Addr} {xs : List V} (e : Same H H') (h : SqT K H a xs) : SqT K H' a xs := by
  rcases h with (h | ⟨o, h⟩) | h
  · exact .inl (.inl (e _ _ h))
  · exact .inl (.inr ⟨o, e _ _ h⟩)
  · exact .inr h
theorem See.same {K : PySem.W.Frag} {G : Vw} {H H' : Hp} (s : See K G H) (e : Same H H') : See K G H' := ⟨fun a xs h => Same.tup e (s.t a xs h), fun a xs h => e _ _ (s.l a xs h), fun a xs h => (s.c a xs h).imp (fun ⟨o, h⟩ => ⟨o, e _ _ h⟩) id, fun a o h => ⟨e _ _ (s.h a o h).1, (s.h a o h).2⟩, s.k⟩
theorem See.seq {K : PySem.W.Frag} {G : Vw} {H : Hp} (s : See K G H) {a : Addr} {xs : List V} (h : G.l a xs ∨ G.c a xs) : SqL K H a xs := by
  rcases h with h | h
  · exact SqL.of (s.l a xs h)
  · rcases s.c a xs h with ⟨o, h⟩ | h
    · exact .inl (.inr ⟨o, h⟩)
    · exact .inr h
theorem same_upd {H : Hp} {p : Addr} {o : HO} (h : H p = none) : Same H (upd H p o) := fun b x e => by
  rw [upd_ne (ne_of_none e h)]
  exact e
theorem own_ad {l b : Addr} {As : List AV} (h : b ∈ (Sl.own l As).ads) : b = l := by
  have h : b ∈ [l] := h
  exact List.mem_singleton.mp h
theorem own_ads (l : Addr) (As : List AV) : l ∈ (Sl.own l As).ads := List.mem_singleton.mpr rfl
theorem no_ads {b : Addr} {A : AV} (h : b ∈ (Sl.sh A).ads) : False := by
  have h : b ∈ ([] : List Addr) := h
  cases h
theorem no_adsN {b : Addr} (h : b ∈ (Sl.non).ads) : False := by
  have h : b ∈ ([] : List Addr) := h
  cases h
theorem own_free {γ : List Sl} {l : Addr} {As : List AV} (h : Free γ l) : ∀ b, b ∈ (Sl.own l As).ads → Free γ b := fun b hb => own_ad hb ▸ h
theorem slOk.move {F F' H H' : Hp} {G G' : Vw} {S : Sl} {o : Option V} (le : Vw.Le G G') (h1 : ∀ b, b ∈ S.ads → ∀ o, H b = some o → H' b = some o) (h2 : ∀ b, b ∈ S.ads → H b ≠ none → ∀ ys, G'.l b ys → G.l b ys) (h3 : ∀ b, b ∈ S.ads → F b = none → F' b = none) (h : slOk F H G S o) : slOk F' H' G' S o := by
  cases S with
  | non => trivial
  | sh A =>
    obtain ⟨v, e, p⟩ := h
    exact ⟨v, e, A.mono le p⟩
  | own l As =>
    obtain ⟨e1, vs, q1, q2, q3, q4⟩ := h
    exact ⟨e1, vs, h1 l (own_ads l As) _ q1, h3 l (own_ads l As) q2, fun ys q => q3 ys (h2 l (own_ads l As) (by rw [q1]; intro z; cases z) ys q), q4.mono le⟩
  | tr S =>
    obtain ⟨v, e, p, nd⟩ := h
    exact ⟨v, e, Sh.ok_move le S v h1 h2 h3 p, nd⟩
theorem slOk.ad {F H : Hp} {G : Vw} {S : Sl} {o : Option V} (h : slOk F H G S o) {b : Addr} (hb : b ∈ S.ads) : F b = none ∧ (∀ ys, ¬ G.l b ys) ∧ ∃ o, H b = some o ∧ Ow o := by
  cases S with
  | non => exact (no_adsN hb).elim
  | sh A => exact (no_ads hb).elim
  | own l As =>
    obtain ⟨e1, vs, q1, q2, q3, q4⟩ := h
    rw [own_ad hb]
    exact ⟨q2, q3, _, q1, trivial⟩
  | tr S =>
    obtain ⟨v, e, p, nd⟩ := h
    exact Sh.ok_ad S v p b hb
theorem slOk.same {F H H' : Hp} {G : Vw} {S : Sl} {o : Option V} (e : Same H H') (h : slOk F H G S o) : slOk F H' G S o := h.move (.refl G) (fun b _ => e b) (fun _ _ _ _ q => q) fun _ _ q => q
theorem join_some {σ : L2.St} {i : Nat} {v : V} (h : σ[i]?.join = some v) : σ[i]? = some (some v) := by
  cases e : σ[i]? with
  | none => rw [e] at h; cases h
  | some o =>
    rw [e] at h
    have e4 : o = some v := h
    rw [e4]
theorem set_lt {α : Type} {xs : List α} {i : Nat} {x y : α} (h : (xs.set i x)[i]? = some y) : i < xs.length := by
  have := (List.getElem?_eq_some_iff.mp h).1
  rw [List.length_set] at this
  exact this
theorem dis_set {γ : List Sl} {i : Nat} {S : Sl} (d : Dis γ) (h : ∀ b, b ∈ S.ads → ∀ (j : Nat) (T : Sl), j ≠ i → γ[j]? = some T → b ∉ T.ads) : Dis (γ.set i S) := fun j k T U b h1 h2 hb hc => by
  by_cases hj : i = j
  · by_cases hk : i = k
    · exact hj.symm.trans hk
    · subst hj
      rw [List.getElem?_set_ne hk] at h2
      rw [List.getElem?_set_self (set_lt h1)] at h1
      cases h1
      exact absurd hc (h b hb k U (Ne.symm hk) h2)
  · rw [List.getElem?_set_ne hj] at h1
    by_cases hk : i = k
    · subst hk
      rw [List.getElem?_set_self (set_lt h2)] at h2
      cases h2
      exact absurd hb (h b hc j T (Ne.symm hj) h1)
    · rw [List.getElem?_set_ne hk] at h2
      exact d j k T U b h1 h2 hb hc
theorem dis_sub {γ : List Sl} {i : Nat} {S S' : Sl} (d : Dis γ) (e : γ[i]? = some S) (h : ∀ b, b ∈ S'.ads → b ∈ S.ads) : Dis (γ.set i S') := dis_set d fun b hb j T hj q hc => hj (d j i T S b q e hc (h b hb))
theorem free_set {γ : List Sl} {i : Nat} {S : Sl} {b : Addr} (h : Free γ b) (hS : b ∉ S.ads) : Free (γ.set i S) b := fun j T q => by
  by_cases hj : i = j
  · subst hj
    rw [List.getElem?_set_self (set_lt q)] at q
    cases q
    exact hS
  · rw [List.getElem?_set_ne hj] at q
    exact h j T q
section
variable {K : PySem.W.Frag} {F : Hp} {G0 : Vw} {γ : List Sl} {σ : L2.St} {H H' : Hp} {G : Vw}
theorem At.up (a : At K F G0 γ σ H G) (e : Same H H') : At K F G0 γ σ H' G :=
  ⟨a.le, a.same.trans e, a.see.same e, a.hid, a.len, fun i S h => (a.slot i S h).same e, a.dis⟩
theorem At.shAt (a : At K F G0 γ σ H G) {i : Nat} {A : AV} (h : γ[i]? = some (.sh A)) : ∃ v, σ[i]? = some (some v) ∧ A.p G v := by
  obtain ⟨v, e1, h1⟩ := a.slot i _ h
  exact ⟨v, join_some e1, h1⟩
theorem At.ownAt (a : At K F G0 γ σ H G) {i : Nat} {l : Addr} {As : List AV} (h : γ[i]? = some (.own l As)) : σ[i]? = some (some (.ref l)) ∧ ∃ vs, H l = some (.lst vs) ∧ F l = none ∧ (∀ ys, ¬ G.l l ys) ∧ avs G As vs := by
  obtain ⟨e1, h1⟩ := a.slot i _ h
  exact ⟨join_some e1, h1⟩
theorem At.trAt (a : At K F G0 γ σ H G) {i : Nat} {S : Sh} (h : γ[i]? = some (.tr S)) : ∃ v, σ[i]? = some (some v) ∧ S.ok F H G v ∧ S.ads.Nodup := by
  obtain ⟨v, e1, h1⟩ := a.slot i _ h
  exact ⟨v, join_some e1, h1⟩
/-- a new tuple, or one of the module's -/
theorem At.addT (a : At K F G0 γ σ H G) {p : Addr} {vs : List V} (h : SqT K H p vs) : At K F G0 γ σ H (G.addT p vs) := by
  refine ⟨a.le.trans (G.leT p vs), a.same, ⟨fun b xs q => ?_, a.see.l, a.see.c, a.see.h, a.see.k⟩, a.hid, a.len, fun i S q => (a.slot i S q).move (G.leT p vs) (fun _ _ _ e => e) (fun _ _ _ _ e => e) fun _ _ e => e, a.dis⟩
  rcases q with q | ⟨rfl, rfl⟩
  · exact a.see.t b xs q
  · exact h
/-- a new list is shown to all -/
theorem At.addL (a : At K F G0 γ σ H G) {p : Addr} {vs : List V} (h : H p = some (.lst vs)) (hF : F p = none) (ho : Free γ p) : At K F G0 γ σ H (G.addL p vs) := by
  refine ⟨a.le.trans (G.leL p vs), a.same, ⟨a.see.t, fun b xs q => ?_, a.see.c, a.see.h, a.see.k⟩, fun b xs hb q => ?_, a.len, fun i S q => (a.slot i S q).move (G.leL p vs) (fun _ _ _ e => e) (fun b hb _ ys e => ?_) fun _ _ e => e, a.dis⟩
  · rcases q with q | ⟨rfl, rfl⟩
    · exact a.see.l b xs q
    · exact h
  · rcases q with q | ⟨rfl, rfl⟩
    · exact a.hid b xs hb q
    · exact absurd hF hb
  · rcases e with e | ⟨rfl, _⟩
    · exact e
    · exact absurd hb (ho i S q)
theorem At.set (a : At K F G0 γ σ H G) {i : Nat} {S : Sl} {v : V} (h : slOk F H G S (some v)) (ho : ∀ b, b ∈ S.ads → Free γ b) : At K F G0 (γ.set i S) (σ.set i (some v)) H G := by
  refine ⟨a.le, a.same, a.see, a.hid, by rw [List.length_set, List.length_set, a.len], fun j T q => ?_, dis_set a.dis fun b hb j T _ q => ho b hb j T q⟩
  by_cases hj : i = j
  · subst hj
    have hl := set_lt q
    rw [List.getElem?_set_self hl] at q
    cases q
    rw [List.getElem?_set_self (by rw [a.len]; exact hl)]
    exact h
  · rw [List.getElem?_set_ne hj] at q
    rw [List.getElem?_set_ne hj]
    exact a.slot j T q
theorem At.sets (a : At K F G0 γ σ H G) {i : Nat} {A : AV} {v : V} (h : A.p G v) : At K F G0 (γ.set i (.sh A)) (σ.set i (some v)) H G := At.set (S := .sh A) a ⟨v, rfl, h⟩ fun _ hb => (no_ads hb).elim
/-- an own list is given up: it is shown to all from here on -/
theorem At.freeze (a : At K F G0 γ σ H G) {i : Nat} {l : Addr} {As : List AV} (h : γ[i]? = some (.own l As)) : ∃ vs, σ[i]? = some (some (.ref l)) ∧ avs G As vs ∧ At K F G0 (γ.set i (.sh (aLst As))) σ H (G.addL l vs) := by
  obtain ⟨e2, vs, h1, h2, h3, h4⟩ := a.ownAt h
  have hl : i < γ.length := (List.getElem?_eq_some_iff.mp h).1
  refine ⟨vs, e2, h4, ?_⟩
  refine ⟨a.le.trans (G.leL l vs), a.same, ⟨a.see.t, fun b xs q => ?_, a.see.c, a.see.h, a.see.k⟩, fun b xs hb q => ?_, by rw [List.length_set, a.len], fun j S q => ?_, dis_set a.dis fun b hb => (no_ads hb).elim⟩
  · rcases q with q | ⟨rfl, rfl⟩
    · exact a.see.l b xs q
    · exact h1
  · rcases q with q | ⟨rfl, rfl⟩
    · exact a.hid b xs hb q
    · exact absurd h2 hb
  · by_cases hj : i = j
    · subst hj
      rw [List.getElem?_set_self hl] at q
      cases q
      rw [e2]
      exact ⟨_, rfl, l, vs, rfl, .inr ⟨rfl, rfl⟩, h4.mono (G.leL l vs)⟩
    · rw [List.getElem?_set_ne hj] at q
      refine (a.slot j S q).move (G.leL l vs) (fun _ _ _ e => e) (fun b hb _ ys e => ?_) fun _ _ e => e
      rcases e with e | ⟨rfl, _⟩
      · exact e
      · exact absurd (a.dis i j _ S b h q (own_ads b As) hb) hj
/-- a slot is written anew, and a cell that it has -/
theorem At.rewrite (a : At K F G0 γ σ H G) {i : Nat} {S S' : Sl} {l : Addr} {w : HO} (h : γ[i]? = some S) (hl : l ∈ S.ads) (hs : ∀ b, b ∈ S'.ads → b ∈ S.ads) (ok : slOk F (upd H l w) G S' (σ[i]?.join)) : At K F G0 (γ.set i S') σ (upd H l w) G := by
  obtain ⟨h2, h3, vs, h1, ho⟩ := (a.slot i S h).ad hl
  have hi : i < γ.length := (List.getElem?_eq_some_iff.mp h).1
  refine ⟨a.le, fun b o q => ?_, ⟨fun b xs q => ?_, fun b xs q => ?_, fun b xs q => ?_, fun b o q => ?_, a.see.k⟩, a.hid, by rw [List.length_set, a.len], fun j T q => ?_, dis_sub a.dis h hs⟩
  · have : b ≠ l := fun z => by
      rw [z, h2] at q
      cases q
    rw [upd_ne this]
    exact a.same b o q
  · rcases a.see.t b xs q with (z | ⟨o, z⟩) | z
    · exact .inl (.inl (by rw [upd_ne (ne_of z h1 (ow_tup ho))]; exact z))
    · exact .inl (.inr ⟨o, by rw [upd_ne (ne_of z h1 (ow_frz ho))]; exact z⟩)
    · exact .inr z
  · have nb : b ≠ l := fun z => h3 xs (z ▸ q)
    rw [upd_ne nb]
    exact a.see.l b xs q
  · rcases a.see.c b xs q with ⟨o, z⟩ | z
    · exact .inl ⟨o, by rw [upd_ne (ne_of z h1 (ow_frz ho))]; exact z⟩
    · exact .inr z
  · obtain ⟨z, nl⟩ := a.see.h b o q
    exact ⟨by rw [upd_ne (ne_of z h1 (by rintro rfl; exact ow_nl ho nl))]; exact z, nl⟩
  · by_cases hj : i = j
    · subst hj
      rw [List.getElem?_set_self hi] at q
      cases q
      exact ok
    · rw [List.getElem?_set_ne hj] at q
      refine (a.slot j T q).move (.refl G) (fun b hb o e => ?_) (fun _ _ _ _ e => e) fun _ _ e => e
      rw [upd_ne (fun (z : b = l) => hj (a.dis i j S T l h q hl (z ▸ hb)))]
      exact e
/-- an own list is written -/
theorem At.write (a : At K F G0 γ σ H G) {i : Nat} {As Bs : List AV} {l : Addr} {ws : List V} (h : γ[i]? = some (.own l As)) (hb : avs G Bs ws) : At K F G0 (γ.set i (.own l Bs)) σ (upd H l (.lst ws)) G := by
  obtain ⟨e, vs, h1, h2, h3, h4⟩ := a.ownAt h
  refine a.rewrite h (own_ads l As) (fun b q => own_ad q ▸ own_ads l As) ?_
  rw [e]
  exact ⟨rfl, ws, upd_same, h2, h3, hb⟩
/-- forget what a slot holds -/
theorem At.forget (a : At K F G0 γ σ H G) (i : Nat) : At K F G0 (γ.set i .non) σ H G := by
  refine ⟨a.le, a.same, a.see, a.hid, by rw [List.length_set, a.len], fun j S q => ?_, dis_set a.dis fun b hb => (no_adsN hb).elim⟩
  by_cases hj : i = j
  · subst hj
    rw [List.getElem?_set_self (set_lt q)] at q
    cases q
    trivial
  · rw [List.getElem?_set_ne hj] at q
    exact a.slot j S q
theorem At.noF (a : At K F G0 γ σ H G) {p : Addr} (np : H p = none) : F p = none := by
  cases e : F p with
  | none => rfl
  | some o =>
    have := a.same p o e
    rw [np] at this
    cases this
theorem At.noOwn (a : At K F G0 γ σ H G) {p : Addr} (np : H p = none) : Free γ p := fun j T e hb => by
  obtain ⟨_, _, xs, h, _⟩ := (a.slot j T e).ad hb
  rw [np] at h
  cases h
theorem At.noL (a : At K F G0 γ σ H G) {p : Addr} (np : H p = none) : ∀ ys, ¬ G.l p ys := fun ys q => by
  have := a.see.l p ys q
  rw [np] at this
  cases this
/-- what a slot has is not known to all, and stands -/
theorem At.has (a : At K F G0 γ σ H G) {i : Nat} {S : Sl} (h : γ[i]? = some S) {b : Addr} (hb : b ∈ S.ads) : F b = none ∧ (∀ ys, ¬ G.l b ys) ∧ ∃ o, H b = some o ∧ Ow o := (a.slot i S h).ad hb
/-- behind a call: the heap has grown, the view too -/
theorem At.call (a : At K F G0 γ σ H G) {G' : Vw} (le : Vw.Le G G') (sm : Same H H') (see : See K G' H') (hid : ∀ b xs, H b ≠ none → G'.l b xs → G.l b xs) : At K F G0 γ σ H' G' :=
  ⟨a.le.trans le, a.same.trans sm, see, fun b xs hb q => a.hid b xs hb (hid b xs (fun z => hb (a.noF z)) q), a.len, fun i S q => (a.slot i S q).move le (fun b _ o e => sm b o e) (fun b _ hb ys e => hid b ys hb e) fun _ _ e => e, a.dis⟩
end
end Rl

/-! # Rl, second part: the judgements and their rules -/
namespace Rl
open PySem PySem.Spec PyProof.Rows L2
section
variable (K : PySem.W.Frag) (F : Hp) (G0 : Vw)
def GE (t : TE) (γ : List Sl) (k : AV → List Sl → Prop) : Prop := ∀ σ H G Q, At K F G0 γ σ H G → (∀ A γ' v H' G', k A γ' → Vw.Le G G' → At K F G0 γ' σ H' G' → A.p G' v → Q v H') → t σ H Q
def GT (t : TT) (γ : List Sl) (k : Bool → List Sl → Prop) : Prop := ∀ σ H G Q, At K F G0 γ σ H G → (∀ b γ' H' G', k b γ' → Vw.Le G G' → At K F G0 γ' σ H' G' → Q b H') → t σ H Q
def GA (t : TA) (γ : List Sl) (k : List AV → List Sl → Prop) : Prop := ∀ σ H G Q, At K F G0 γ σ H G → (∀ As γ' vs H' G', k As γ' → Vw.Le G G' → At K F G0 γ' σ H' G' → avs G' As vs → Q vs H') → t σ H Q
/-- a new list that is nobody else's -/
def GO (t : TE) (γ : List Sl) (k : Addr → List AV → List Sl → Prop) : Prop := ∀ σ H G Q, At K F G0 γ σ H G →
  (∀ l As γ' vs H' G', k l As γ' → Vw.Le G G' → At K F G0 γ' σ H' G' → H' l = some (.lst vs) → F l = none → (∀ ys, ¬ G'.l l ys) → avs G' As vs → Free γ' l → Q (.ref l) H') → t σ H Q
def O2 (r : R2) (A B : AV) (γ : List Sl) (k : AV → List Sl → Prop) : Prop := ∀ σ H G x y Q, At K F G0 γ σ H G → A.p G x → B.p G y → (∀ C γ' v H' G', k C γ' → Vw.Le G G' → At K F G0 γ' σ H' G' → C.p G' v → Q v H') → r x y H Q
def O1 (r : V → Hp → VK → Prop) (A : AV) (γ : List Sl) (k : AV → List Sl → Prop) : Prop := ∀ σ H G x Q, At K F G0 γ σ H G → A.p G x → (∀ C γ' v H' G', k C γ' → Vw.Le G G' → At K F G0 γ' σ H' G' → C.p G' v → Q v H') → r x H Q
def ON (r : List V → Hp → VK → Prop) (As : List AV) (γ : List Sl) (k : AV → List Sl → Prop) : Prop := ∀ σ H G xs Q, At K F G0 γ σ H G → avs G As xs → (∀ C γ' v H' G', k C γ' → Vw.Le G G' → At K F G0 γ' σ H' G' → C.p G' v → Q v H') → r xs H Q
/-- what is wanted behind a statement -/
structure KS where
  nx : List Sl → Prop
  rt : AV → List Sl → Prop
  ro : List AV → List Sl → Prop := fun _ _ => False
  bk : List Sl → Prop := fun _ => False
  ct : List Sl → Prop := fun _ => False
  rn : Sh → List Sl → Prop := fun _ _ => False
@[reducible] def KS.nxt (ks : KS) (J : List Sl → Prop) : KS := ⟨J, ks.rt, ks.ro, ks.bk, ks.ct, ks.rn⟩
@[reducible] def KS.lop (ks : KS) (J : List Sl → Prop) : KS := ⟨J, ks.rt, ks.ro, ks.nx, J, ks.rn⟩
structure Sat (k : KS) (D : Ends) (G : Vw) : Prop where
  nx : ∀ γ' σ' H' G', k.nx γ' → Vw.Le G G' → At K F G0 γ' σ' H' G' → D.nx σ' H'
  rt : ∀ A γ' σ' v H' G', k.rt A γ' → Vw.Le G G' → At K F G0 γ' σ' H' G' → A.p G' v → D.rt v H'
  ro : ∀ As γ' σ' l vs H' G', k.ro As γ' → Vw.Le G G' → At K F G0 γ' σ' H' G' → H' l = some (.lst vs) → F l = none → (∀ ys, ¬ G'.l l ys) → avs G' As vs → Free γ' l → D.rt (.ref l) H'
  bk : ∀ γ' σ' H' G', k.bk γ' → Vw.Le G G' → At K F G0 γ' σ' H' G' → D.bk σ' H'
  ct : ∀ γ' σ' H' G', k.ct γ' → Vw.Le G G' → At K F G0 γ' σ' H' G' → D.ct σ' H'
  rn : ∀ S γ' σ' v H' G', k.rn S γ' → Vw.Le G G' → At K F G0 γ' σ' H' G' → S.ok F H' G' v → S.ads.Nodup → (∀ b, b ∈ S.ads → Free γ' b) → D.rt v H'
def GS (t : TS) (γ : List Sl) (k : KS) : Prop := ∀ D σ H G, At K F G0 γ σ H G → Sat K F G0 k D G → t D σ H
/-- a target -/
def GG (t : TG) (A : AV) (γ : List Sl) (k : List Sl → Prop) : Prop := ∀ σ H G v Q, At K F G0 γ σ H G → A.p G v → (∀ γ' σ' H' G', k γ' → Vw.Le G G' → At K F G0 γ' σ' H' G' → Q σ' H') → t v σ H Q
end
/-- the same, ahead of a statement: here the slots are put in order -/
def NX (K : PySem.W.Frag) (F : Hp) (G0 : Vw) (t : TS) (γ : List Sl) (k : KS) : Prop := GS K F G0 t γ k
inductive Nrm : List Sl → List Sl → Prop where
  | nil {γ : List Sl} (e : γ = []) : Nrm γ []
  | cons {γ r r' : List Sl} {a : Sl} (e : γ = a :: r) (h : Nrm r r') : Nrm γ (a :: r')
theorem Nrm.eq : ∀ {γ γ' : List Sl}, Nrm γ γ' → γ = γ'
  | _, _, .nil e => e
  | _, _, .cons e h => by rw [e, h.eq]
theorem nx_in {K : PySem.W.Frag} {F : Hp} {G0 : Vw} {t : TS} {γ γ' : List Sl} {k : KS} (n : Nrm γ γ') (h : GS K F G0 t γ' k) : NX K F G0 t γ k := by
  have e := n.eq
  subst e
  exact h
section
variable {K : PySem.W.Frag} {F : Hp} {G0 : Vw} {γ : List Sl} {t ta tb : TE} {k : AV → List Sl → Prop}
theorem Sat.up {k : KS} {D : Ends} {G G1 : Vw} (s : Sat K F G0 k D G) (le : Vw.Le G G1) : Sat K F G0 k D G1 :=
  ⟨fun γ' σ' H' G' h l => s.nx γ' σ' H' G' h (le.trans l), fun A γ' σ' v H' G' h l => s.rt A γ' σ' v H' G' h (le.trans l), fun As γ' σ' a vs H' G' h l => s.ro As γ' σ' a vs H' G' h (le.trans l), fun γ' σ' H' G' h l => s.bk γ' σ' H' G' h (le.trans l), fun γ' σ' H' G' h l => s.ct γ' σ' H' G' h (le.trans l), fun S γ' σ' v H' G' h l => s.rn S γ' σ' v H' G' h (le.trans l)⟩
theorem GE.mono {k' : AV → List Sl → Prop} (h : GE K F G0 t γ k) (i : ∀ A γ', k A γ' → k' A γ') : GE K F G0 t γ k' := fun σ H G Q a q => h σ H G Q a fun A γ' v H' G' z => q A γ' v H' G' (i A γ' z)
theorem GT.mono {t : TT} {k k' : Bool → List Sl → Prop} (h : GT K F G0 t γ k) (i : ∀ A γ', k A γ' → k' A γ') : GT K F G0 t γ k' := fun σ H G Q a q => h σ H G Q a fun A γ' H' G' z => q A γ' H' G' (i A γ' z)
theorem GS.mono {t : TS} {k k' : KS} (h : GS K F G0 t γ k) (h1 : ∀ γ', k.nx γ' → k'.nx γ') (h2 : ∀ A γ', k.rt A γ' → k'.rt A γ') (h3 : ∀ As γ', k.ro As γ' → k'.ro As γ') (h4 : ∀ γ', k.bk γ' → k'.bk γ') (h5 : ∀ γ', k.ct γ' → k'.ct γ') (h6 : ∀ S γ', k.rn S γ' → k'.rn S γ') : GS K F G0 t γ k' :=
  fun D σ H G a s => h D σ H G a ⟨fun γ' σ' H' G' z => s.nx γ' σ' H' G' (h1 _ z), fun A γ' σ' v H' G' z => s.rt A γ' σ' v H' G' (h2 _ _ z), fun As γ' σ' l vs H' G' z => s.ro As γ' σ' l vs H' G' (h3 _ _ z), fun γ' σ' H' G' z => s.bk γ' σ' H' G' (h4 _ z), fun γ' σ' H' G' z => s.ct γ' σ' H' G' (h5 _ z), fun S γ' σ' v H' G' z => s.rn S γ' σ' v H' G' (h6 _ _ z)⟩

/-! ### expressions -/
theorem ge_var {i : Nat} {A : AV} (h : γ[i]? = some (.sh A)) (q : k A γ) : GE K F G0 (tVar i) γ k := fun σ H G Q a z => by
  obtain ⟨v, e, p⟩ := a.shAt h
  exact ⟨v, e, z A γ v H G q (.refl G) a p⟩
theorem ge_fz {i : Nat} {l : Addr} {As : List AV} (h : γ[i]? = some (.own l As)) (q : k (aLst As) (γ.set i (.sh (aLst As)))) : GE K F G0 (tVar i) γ k := fun σ H G Q a z => by
  obtain ⟨vs, e, hv, a'⟩ := a.freeze h
  exact ⟨.ref l, e, z _ _ _ H _ q (G.leL l vs) a' ⟨l, vs, rfl, .inr ⟨rfl, rfl⟩, hv.mono (G.leL l vs)⟩⟩
theorem ge_c {v : V} (q : k (aV v) γ) : GE K F G0 (tC v) γ k := fun σ H G Q a z => z _ γ v H G q (.refl G) a rfl
/-- a tuple of the module's -/
theorem ge_gt {p : Addr} {As : List AV} {vs : List V} (h : ∀ H, SqT K H p vs) (hv : ∀ G, avs G As vs) (q : k (aTup As) γ) : GE K F G0 (tC (.ref p)) γ k := fun σ H G Q a z =>
  z _ γ _ H _ q (G.leT p vs) (a.addT (h H)) ⟨p, vs, rfl, .inr ⟨rfl, rfl⟩, hv _⟩
theorem ge_op {r : R2} (h : GE K F G0 ta γ fun A γ1 => GE K F G0 tb γ1 fun B γ2 => O2 K F G0 r A B γ2 k) : GE K F G0 (tOp r ta tb) γ k := fun σ H G Q a z =>
  h σ H G _ a fun A γ1 x H1 G1 h1 l1 a1 p1 => h1 σ H1 G1 _ a1 fun B γ2 y H2 G2 h2 l2 a2 p2 => h2 σ H2 G2 x y Q a2 (A.mono l2 p1) p2 fun C γ3 v H3 G3 h3 l3 => z C γ3 v H3 G3 h3 (l1.trans (l2.trans l3))
theorem ge_un {r : V → Hp → VK → Prop} (h : GE K F G0 ta γ fun A γ1 => O1 K F G0 r A γ1 k) : GE K F G0 (tUn r ta) γ k := fun σ H G Q a z =>
  h σ H G _ a fun A γ1 x H1 G1 h1 l1 a1 p1 => h1 σ H1 G1 x Q a1 p1 fun C γ3 v H3 G3 h3 l3 => z C γ3 v H3 G3 h3 (l1.trans l3)
theorem ge_cb {r : List V → Hp → VK → Prop} {t : TA} (h : GA K F G0 t γ fun As γ1 => ON K F G0 r As γ1 k) : GE K F G0 (tCB r t) γ k := fun σ H G Q a z =>
  h σ H G _ a fun A γ1 x H1 G1 h1 l1 a1 p1 => h1 σ H1 G1 x Q a1 p1 fun C γ3 v H3 G3 h3 l3 => z C γ3 v H3 G3 h3 (l1.trans l3)
theorem ga_nil {k : List AV → List Sl → Prop} (q : k [] γ) : GA K F G0 tNil γ k := fun σ H G Q a z => z [] γ [] H G q (.refl G) a rfl
theorem ga_cons {t : TA} {k : List AV → List Sl → Prop} (h : GE K F G0 ta γ fun A γ1 => GA K F G0 t γ1 fun As γ2 => k (A :: As) γ2) : GA K F G0 (tCons ta t) γ k := fun σ H G Q a z =>
  h σ H G _ a fun A γ1 x H1 G1 h1 l1 a1 p1 => h1 σ H1 G1 _ a1 fun As γ2 xs H2 G2 h2 l2 a2 p2 => z (A :: As) γ2 (x :: xs) H2 G2 h2 (l1.trans l2) a2 ⟨x, xs, rfl, A.mono l2 p1, p2⟩
theorem size_ok {n : Nat} (h : n ≤ 100000) : n ≤ sizeLine := by rw [sizeLine_eq]; omega
theorem size_lt {n : Nat} (h : n ≤ 100000) : n < sizeLine := by rw [sizeLine_eq]; omega
theorem ge_tup {t : TA} (h : GA K F G0 t γ fun As γ1 => As.length ≤ 100000 ∧ k (aTup As) γ1) : GE K F G0 (tTup t) γ k := fun σ H G Q a z =>
  h σ H G _ a fun As γ1 vs H1 G1 h1 l1 a1 p1 => ⟨size_ok (by rw [p1.length]; exact h1.1), fun p np => by
    have s := same_upd (o := .tup vs) np
    have a2 := (a1.up s).addT (p := p) (vs := vs) (SqT.of upd_same)
    exact z _ γ1 _ _ _ h1.2 (l1.trans (G1.leT p vs)) a2 ⟨p, vs, rfl, .inr ⟨rfl, rfl⟩, p1.mono (G1.leT p vs)⟩⟩
/-- whatever address a new list has -/
def AllA (p : Addr → Prop) : Prop := ∀ l, p l
theorem all_a {p : Addr → Prop} (h : ∀ l, p l) : AllA p := h
/-- a new list at l: what GO wants of it -/
theorem go_new {σ : L2.St} {H : Hp} {G G1 : Vw} {l : Addr} {vs : List V} {As : List AV} {γ1 : List Sl} {k : Addr → List AV → List Sl → Prop} {Q : VK} (z : ∀ l As γ' vs H' G', k l As γ' → Vw.Le G G' → At K F G0 γ' σ H' G' → H' l = some (.lst vs) → F l = none → (∀ ys, ¬ G'.l l ys) → avs G' As vs → Free γ' l → Q (.ref l) H')
    (a : At K F G0 γ1 σ H G1) (le : Vw.Le G G1) (np : H l = none) (h : k l As γ1) (p : avs G1 As vs) : Q (.ref l) (upd H l (.lst vs)) :=
  z l As γ1 vs _ G1 h le (a.up (same_upd np)) upd_same (a.noF np) (a.noL np) p (a.noOwn np)
/-- a new list is shown to all at once -/
theorem ge_of_go {k : AV → List Sl → Prop} (h : GO K F G0 t γ fun _ As γ1 => k (aLst As) γ1) : GE K F G0 t γ k := fun σ H G Q a z =>
  h σ H G Q a fun l As γ1 vs H1 G1 h1 l1 a1 e1 f1 n1 p1 d1 => z _ γ1 _ H1 _ h1 (l1.trans (G1.leL l vs)) (a1.addL e1 f1 d1) ⟨l, vs, rfl, .inr ⟨rfl, rfl⟩, p1.mono (G1.leL l vs)⟩
theorem go_lst {t : TA} {k : Addr → List AV → List Sl → Prop} (h : GA K F G0 t γ fun As γ1 => As.length ≤ 100000 ∧ AllA fun l => k l As γ1) : GO K F G0 (tLst t) γ k := fun σ H G Q a z =>
  h σ H G _ a fun As γ1 vs H1 G1 h1 l1 a1 p1 => ⟨size_ok (by rw [p1.length]; exact h1.1), fun p np => go_new z a1 l1 np (h1.2 p) p1⟩

theorem ge_lst {t : TA} (h : GA K F G0 t γ fun As γ1 => As.length ≤ 100000 ∧ k (aLst As) γ1) : GE K F G0 (tLst t) γ k := ge_of_go (go_lst fun σ H G Q a z => h σ H G Q a fun As γ1 vs H' G' ⟨h1, h2⟩ => z As γ1 vs H' G' ⟨h1, fun _ => h2⟩)

/-! ### tests -/
section
variable {kt : Bool → List Sl → Prop} {tt uu : TT}
theorem gt_test (h : GE K F G0 t γ fun A γ1 => ∃ b, A = aB b ∧ kt b γ1) : GT K F G0 (tTest t) γ kt := fun σ H G Q a z =>
  h σ H G _ a fun A γ1 v H1 G1 ⟨b, e, h1⟩ l1 a1 p1 => by
    subst e
    exact ⟨b, p1, z b γ1 H1 G1 h1 l1 a1⟩
theorem gt_B (h : GE K F G0 t γ fun A γ1 => ∃ b, A = aB b ∧ kt b γ1) : GT K F G0 (tB t) γ kt := gt_test h
theorem gt_not (h : GT K F G0 tt γ fun b γ1 => kt (!b) γ1) : GT K F G0 (tNot tt) γ kt := fun σ H G Q a z => h σ H G _ a fun b γ1 H1 G1 h1 l1 a1 => z (!b) γ1 H1 G1 h1 l1 a1
theorem gt_and (h : GT K F G0 tt γ fun b γ1 => (b = true → GT K F G0 uu γ1 kt) ∧ (b = false → kt false γ1)) : GT K F G0 (tAnd tt uu) γ kt := fun σ H G Q a z => h σ H G _ a fun b γ1 H1 G1 h1 l1 a1 => by
  cases b with
  | true =>
    rw [if_pos rfl]
    exact h1.1 rfl σ H1 G1 Q a1 fun b' γ2 H2 G2 h2 l2 => z b' γ2 H2 G2 h2 (l1.trans l2)
  | false =>
    rw [if_neg Bool.false_ne_true]
    exact z false γ1 H1 G1 (h1.2 rfl) l1 a1
theorem gt_or (h : GT K F G0 tt γ fun b γ1 => (b = false → GT K F G0 uu γ1 kt) ∧ (b = true → kt true γ1)) : GT K F G0 (tOr tt uu) γ kt := fun σ H G Q a z => h σ H G _ a fun b γ1 H1 G1 h1 l1 a1 => by
  cases b with
  | false =>
    rw [if_neg Bool.false_ne_true]
    exact h1.1 rfl σ H1 G1 Q a1 fun b' γ2 H2 G2 h2 l2 => z b' γ2 H2 G2 h2 (l1.trans l2)
  | true =>
    rw [if_pos rfl]
    exact z true γ1 H1 G1 (h1.2 rfl) l1 a1
theorem ge_if (h : GT K F G0 tt γ fun b γ1 => (b = true → GE K F G0 ta γ1 k) ∧ (b = false → GE K F G0 tb γ1 k)) : GE K F G0 (tIf tt ta tb) γ k := fun σ H G Q a z => h σ H G _ a fun b γ1 H1 G1 h1 l1 a1 => by
  cases b with
  | true =>
    rw [if_pos rfl]
    exact h1.1 rfl σ H1 G1 Q a1 fun A γ2 v H2 G2 h2 l2 => z A γ2 v H2 G2 h2 (l1.trans l2)
  | false =>
    rw [if_neg Bool.false_ne_true]
    exact h1.2 rfl σ H1 G1 Q a1 fun A γ2 v H2 G2 h2 l2 => z A γ2 v H2 G2 h2 (l1.trans l2)
/-- and, or, not as values -/
theorem ge_andV (h : GE K F G0 ta γ fun A γ1 => ∃ b, A = aB b ∧ (b = true → GE K F G0 tb γ1 k) ∧ (b = false → k (aB false) γ1)) : GE K F G0 (tAndV ta tb) γ k := fun σ H G Q a z => h σ H G _ a fun A γ1 v H1 G1 ⟨b, e, h1, h2⟩ l1 a1 p1 => by
  subst e
  refine ⟨b, p1, ?_⟩
  cases b with
  | true =>
    rw [if_pos rfl]
    exact h1 rfl σ H1 G1 Q a1 fun A γ2 v H2 G2 h2 l2 => z A γ2 v H2 G2 h2 (l1.trans l2)
  | false =>
    rw [if_neg Bool.false_ne_true]
    exact z _ γ1 _ H1 G1 (h2 rfl) l1 a1 rfl
theorem ge_orV (h : GE K F G0 ta γ fun A γ1 => ∃ b, A = aB b ∧ (b = false → GE K F G0 tb γ1 k) ∧ (b = true → k (aB true) γ1)) : GE K F G0 (tOrV ta tb) γ k := fun σ H G Q a z => h σ H G _ a fun A γ1 v H1 G1 ⟨b, e, h1, h2⟩ l1 a1 p1 => by
  subst e
  refine ⟨b, p1, ?_⟩
  cases b with
  | false =>
    rw [if_neg Bool.false_ne_true]
    exact h1 rfl σ H1 G1 Q a1 fun A γ2 v H2 G2 h2 l2 => z A γ2 v H2 G2 h2 (l1.trans l2)
  | true =>
    rw [if_pos rfl]
    exact z _ γ1 _ H1 G1 (h2 rfl) l1 a1 rfl
theorem ge_notV (h : GE K F G0 ta γ fun A γ1 => ∃ b, A = aB b ∧ k (aB (!b)) γ1) : GE K F G0 (tNotV ta) γ k := fun σ H G Q a z => h σ H G _ a fun A γ1 v H1 G1 ⟨b, e, h1⟩ l1 a1 p1 => by
  subst e
  exact ⟨b, p1, z _ γ1 _ H1 G1 h1 l1 a1 rfl⟩
end

/-! ### statements -/
section
variable {ks : KS} {ts us : TS} {tt : TT}
theorem gs_seq (h : GS K F G0 ts γ (ks.nxt fun γ1 => NX K F G0 us γ1 ks)) : GS K F G0 (tSeq ts us) γ ks := fun D σ H G a s =>
  h _ σ H G a ⟨fun γ' σ' H' G' z l a' => z D σ' H' G' a' (s.up l), s.rt, s.ro, s.bk, s.ct, s.rn⟩
/-- what holds behind the first, on whatever way -/
theorem gs_join (J : List Sl → Prop) (h1 : GS K F G0 ts γ (ks.nxt J)) (h2 : ∀ γ', J γ' → GS K F G0 us γ' ks) : GS K F G0 (tSeq ts us) γ ks := fun D σ H G a s =>
  h1 _ σ H G a ⟨fun γ' σ' H' G' z l a' => h2 γ' z D σ' H' G' a' (s.up l), s.rt, s.ro, s.bk, s.ct, s.rn⟩
theorem gs_seqA {te : TE} {g : TG} (h : GS K F G0 (tAsg te g) γ (ks.nxt fun γ1 => NX K F G0 us γ1 ks)) : GS K F G0 (tSeq (tAsg te g) us) γ ks := fun D σ H G a s =>
  h _ σ H G a ⟨fun γ' σ' H' G' z l a' => z D σ' H' G' a' (s.up l), s.rt, s.ro, s.bk, s.ct, s.rn⟩
theorem gs_seqD {te : TE} (h : GS K F G0 (tDrop te) γ (ks.nxt fun γ1 => NX K F G0 us γ1 ks)) : GS K F G0 (tSeq (tDrop te) us) γ ks := fun D σ H G a s =>
  h _ σ H G a ⟨fun γ' σ' H' G' z l a' => z D σ' H' G' a' (s.up l), s.rt, s.ro, s.bk, s.ct, s.rn⟩
theorem gs_seqP {i j : Nat} {ta : TA} (h : GS K F G0 (tPar i j ta) γ (ks.nxt fun γ1 => NX K F G0 us γ1 ks)) : GS K F G0 (tSeq (tPar i j ta) us) γ ks := fun D σ H G a s =>
  h _ σ H G a ⟨fun γ' σ' H' G' z l a' => z D σ' H' G' a' (s.up l), s.rt, s.ro, s.bk, s.ct, s.rn⟩
theorem gs_seqU {i : Nat} {te : TE} {ti : TIp} (h : GS K F G0 (tAug i te ti) γ (ks.nxt fun γ1 => NX K F G0 us γ1 ks)) : GS K F G0 (tSeq (tAug i te ti) us) γ ks := fun D σ H G a s =>
  h _ σ H G a ⟨fun γ' σ' H' G' z l a' => z D σ' H' G' a' (s.up l), s.rt, s.ro, s.bk, s.ct, s.rn⟩
theorem gs_next (q : ks.nx γ) : GS K F G0 tNext γ ks := fun D σ H G a s => s.nx γ σ H G q (.refl G) a
theorem gs_brk (q : ks.bk γ) : GS K F G0 tBreak γ ks := fun D σ H G a s => s.bk γ σ H G q (.refl G) a
theorem gs_cont (q : ks.ct γ) : GS K F G0 tCont γ ks := fun D σ H G a s => s.ct γ σ H G q (.refl G) a
theorem gs_set {i : Nat} (h : GE K F G0 t γ fun A γ1 => ks.nx (γ1.set i (.sh A))) : GS K F G0 (tAsg t (gName i)) γ ks := fun D σ H G a s =>
  h σ H G _ a fun A γ1 v H1 G1 h1 l1 a1 p1 => s.nx _ _ H1 G1 h1 l1 (a1.sets p1)
theorem gs_setO {i : Nat} (h : GO K F G0 t γ fun l As γ1 => ks.nx (γ1.set i (.own l As))) : GS K F G0 (tAsg t (gName i)) γ ks := fun D σ H G a s =>
  h σ H G _ a fun l As γ1 vs H1 G1 h1 l1 a1 e1 f1 n1 p1 d1 => s.nx _ _ H1 G1 h1 l1 (At.set (S := .own l As) a1 ⟨rfl, vs, e1, f1, n1, p1⟩ (own_free d1))
theorem gs_asg {g : TG} (h : GE K F G0 t γ fun A γ1 => GG K F G0 g A γ1 ks.nx) : GS K F G0 (tAsg t g) γ ks := fun D σ H G a s =>
  h σ H G _ a fun A γ1 v H1 G1 h1 l1 a1 p1 => h1 σ H1 G1 v D.nx a1 p1 fun γ' σ' H' G' z l => s.nx γ' σ' H' G' z (l1.trans l)
theorem gg_name {i : Nat} {A : AV} {kg : List Sl → Prop} (q : kg (γ.set i (.sh A))) : GG K F G0 (gName i) A γ kg := fun σ H G v Q a p z => z _ _ H G q (.refl G) (a.sets p)
def GGs (K : PySem.W.Frag) (F : Hp) (G0 : Vw) (t : TGs) (As : List AV) (γ : List Sl) (k : List Sl → Prop) : Prop := ∀ σ H G vs Q, At K F G0 γ σ H G → avs G As vs → (∀ γ' σ' H' G', k γ' → Vw.Le G G' → At K F G0 γ' σ' H' G' → Q σ' H') → t vs σ H Q
theorem ggs_nil {kg : List Sl → Prop} (q : kg γ) : GGs K F G0 gNil [] γ kg := fun σ H G vs Q a p z => ⟨p, z γ σ H G q (.refl G) a⟩
theorem ggs_cons {g : TG} {u : TGs} {A : AV} {As : List AV} {kg : List Sl → Prop} (h : GG K F G0 g A γ fun γ1 => GGs K F G0 u As γ1 kg) : GGs K F G0 (gCons g u) (A :: As) γ kg := fun σ H G vs Q a p z => by
  obtain ⟨v, r, rfl, p1, p2⟩ := p
  exact ⟨v, r, rfl, h σ H G v _ a p1 fun γ1 σ1 H1 G1 h1 l1 a1 => h1 σ1 H1 G1 r Q a1 (p2.mono l1) fun γ' σ' H' G' q l => z γ' σ' H' G' q (l1.trans l)⟩
theorem gg_tup {n : Nat} {u : TGs} {As : List AV} {kg : List Sl → Prop} (hn : As.length = n) (h : GGs K F G0 u As γ kg) : GG K F G0 (gTup K n u) (aTup As) γ kg := fun σ H G v Q a p z => by
  obtain ⟨b, vs, rfl, ht, hv⟩ := p
  exact ⟨b, vs, rfl, a.see.t b vs ht, by rw [hv.length, hn], h σ H G vs Q a hv z⟩
theorem gs_drop (h : GE K F G0 t γ fun A γ1 => ks.nx γ1) : GS K F G0 (tDrop t) γ ks := fun D σ H G a s =>
  h σ H G _ a fun A γ1 v H1 G1 h1 l1 a1 p1 => s.nx _ _ H1 G1 h1 l1 a1
theorem gs_ret (h : GE K F G0 t γ fun A γ1 => ks.rt A γ1) : GS K F G0 (tRet t) γ ks := fun D σ H G a s =>
  h σ H G _ a fun A γ1 v H1 G1 h1 l1 a1 p1 => s.rt A γ1 σ v H1 G1 h1 l1 a1 p1
theorem gs_retO (h : GO K F G0 t γ fun _ A γ1 => ks.ro A γ1) : GS K F G0 (tRet t) γ ks := fun D σ H G a s =>
  h σ H G _ a fun l As γ1 vs H1 G1 h1 l1 a1 e1 f1 n1 p1 d1 => s.ro As γ1 σ l vs H1 G1 h1 l1 a1 e1 f1 n1 p1 d1
/-- return of an own list -/
theorem gs_retV {i : Nat} {l : Addr} {As : List AV} (h : γ[i]? = some (.own l As)) (q : ks.ro As (γ.set i .non)) : GS K F G0 (tRet (tVar i)) γ ks := fun D σ H G a s => by
  obtain ⟨e, vs, h1, h2, h3, h4⟩ := a.ownAt h
  refine ⟨_, e, s.ro As _ σ l vs H G q (.refl G) (a.forget i) h1 h2 h3 h4 fun j T z hb => ?_⟩
  by_cases hj : i = j
  · subst hj
    rw [List.getElem?_set_self (set_lt z)] at z
    cases z
    exact no_adsN hb
  · rw [List.getElem?_set_ne hj] at z
    exact hj (a.dis i j _ T l h z (own_ads l As) hb)
theorem gs_retN (q : ks.rt aN γ) : GS K F G0 tRetN γ ks := fun D σ H G a s => s.rt aN γ σ .non H G q (.refl G) a rfl
theorem gs_if (h : GT K F G0 tt γ fun b γ1 => (b = true → GS K F G0 ts γ1 ks) ∧ (b = false → GS K F G0 us γ1 ks)) : GS K F G0 (tIfS tt ts us) γ ks := fun D σ H G a s => h σ H G _ a fun b γ1 H1 G1 h1 l1 a1 => by
  cases b with
  | true =>
    rw [if_pos rfl]
    exact h1.1 rfl D σ H1 G1 a1 (s.up l1)
  | false =>
    rw [if_neg Bool.false_ne_true]
    exact h1.2 rfl D σ H1 G1 a1 (s.up l1)
theorem gs_par {i j : Nat} {ta : TA} (h : GA K F G0 ta γ fun As γ1 => ∃ A B, As = [A, B] ∧ ks.nx ((γ1.set i (.sh A)).set j (.sh B))) : GS K F G0 (tPar i j ta) γ ks := fun D σ H G a s =>
  h σ H G _ a fun As γ1 vs H1 G1 ⟨A, B, e, h1⟩ l1 a1 p1 => by
    subst e
    obtain ⟨v, r, rfl, pv, w, r', rfl, pw, rfl⟩ := p1
    exact ⟨v, w, rfl, s.nx _ _ H1 G1 h1 l1 ((a1.sets pv).sets pw)⟩
theorem gs_aug {i : Nat} {ti : TIp} {A : AV} (h0 : γ[i]? = some (.sh A)) (h : GE K F G0 t γ fun B γ1 => O2 K F G0 ti A B γ1 fun C γ2 => ks.nx (γ2.set i (.sh C))) : GS K F G0 (tAug i t ti) γ ks := fun D σ H G a s => by
  obtain ⟨x, ex, px⟩ := a.shAt h0
  exact ⟨x, ex, h σ H G _ a fun B γ1 v H1 G1 h1 l1 a1 p1 => h1 σ H1 G1 x v _ a1 (A.mono l1 px) p1 fun C γ2 w H2 G2 h2 l2 a2 p2 => s.nx _ _ H2 G2 h2 (l1.trans l2) (a2.sets p2)⟩
/-! ### loops -/
/-- while, by a word with its measure -/
theorem gs_while (W : Nat → List Sl → Prop) (m0 : Nat) (h0 : W m0 γ)
    (hs : ∀ m γ, W m γ → GT K F G0 tt γ fun b γ1 => (b = true → GS K F G0 ts γ1 (ks.lop (fun γ' => ∃ m', m' < m ∧ W m' γ'))) ∧ (b = false → ks.nx γ1)) : GS K F G0 (tWhile tt ts) γ ks := fun D σ H G a s => by
  refine ⟨fun m σ H => ∃ γ1 G', W m γ1 ∧ Vw.Le G G' ∧ At K F G0 γ1 σ H G', ⟨m0, γ, G, h0, .refl G, a⟩, ?_⟩
  rintro m σ1 H1 ⟨γ1, G1, px, l1, a1⟩
  refine hs m γ1 px σ1 H1 G1 _ a1 fun b γ2 H2 G2 h2 l2 a2 => ?_
  cases b with
  | true =>
    rw [if_pos rfl]
    refine ⟨fun σ' H' => ∃ m', m' < m ∧ ∃ γ1 G', W m' γ1 ∧ Vw.Le G G' ∧ At K F G0 γ1 σ' H' G', fun σ' H' ⟨m', q1, q2⟩ => ⟨m', q1, q2⟩, ?_⟩
    have l3 := l1.trans l2
    refine h2.1 rfl _ σ1 H2 G2 a2 ⟨fun γ' σ' H' G' ⟨m', q1, q2⟩ l a' => ⟨m', q1, γ', G', q2, l3.trans l, a'⟩, fun A γ' σ' v H' G' z l => s.rt A γ' σ' v H' G' z (l3.trans l), fun As γ' σ' w vs H' G' z l => s.ro As γ' σ' w vs H' G' z (l3.trans l), fun γ' σ' H' G' z l => s.nx γ' σ' H' G' z (l3.trans l), fun γ' σ' H' G' ⟨m', q1, q2⟩ l a' => ⟨m', q1, γ', G', q2, l3.trans l, a'⟩, fun S γ' σ' v H' G' z l => s.rn S γ' σ' v H' G' z (l3.trans l)⟩
  | false =>
    rw [if_neg Bool.false_ne_true]
    exact s.nx γ2 σ1 H2 G2 (h2.2 rfl) (l1.trans l2) a2
/-- for x in a list that is only read -/
theorem gs_for_list {tl : TE} {g : TG} (I : Nat → List Sl → Prop)
    (h : GE K F G0 tl γ fun A γ1 => ∃ As, A = aLst As ∧ I 0 γ1 ∧ (∀ i B γ2, As[i]? = some B → I i γ2 → GG K F G0 g B γ2 fun γ3 => GS K F G0 ts γ3 (ks.lop (I (i + 1)))) ∧ ∀ γ2, I As.length γ2 → ks.nx γ2) : GS K F G0 (tFor (iList K tl) g ts) γ ks := fun D σ H G a s =>
  h σ H G _ a fun A γ1 v H1 G1 ⟨As, e, h0, hs, hd⟩ l1 a1 p1 => by
    subst e
    obtain ⟨b, vs, rfl, hb, hv⟩ := p1
    refine ⟨b, rfl, ⟨vs, a1.see.seq (.inl hb)⟩, ?_⟩
    refine for_list (xs := vs) (fun i σ H => ∃ γ2 G2, I i γ2 ∧ Vw.Le G1 G2 ∧ At K F G0 γ2 σ H G2) ⟨γ1, G1, h0, .refl G1, a1⟩ (fun i σ H hi ⟨γ2, G2, q1, q2, q3⟩ => q3.see.seq (.inl (q2.l b vs hb))) (fun i x σ H hx ⟨γ2, G2, q1, q2, q3⟩ => ?_) fun σ H ⟨γ2, G2, q1, q2, q3⟩ => s.nx γ2 σ H G2 (hd γ2 (by rw [← hv.length]; exact q1)) (l1.trans q2) q3
    obtain ⟨B, eB, pB⟩ := hv.get' hx
    refine hs i B γ2 eB q1 σ H G2 x _ q3 (B.mono q2 pB) fun γ3 σ3 H3 G3 h3 l3 a3 => ?_
    have l4 := q2.trans l3
    exact h3 _ σ3 H3 G3 a3 ⟨fun γ' σ' H' G' z l a' => ⟨γ', G', z, l4.trans l, a'⟩, fun A γ' σ' v H' G' z l => s.rt A γ' σ' v H' G' z (l1.trans (l4.trans l)), fun As γ' σ' w vs H' G' z l => s.ro As γ' σ' w vs H' G' z (l1.trans (l4.trans l)), fun γ' σ' H' G' z l => s.nx γ' σ' H' G' z (l1.trans (l4.trans l)), fun γ' σ' H' G' z l a' => ⟨γ', G', z, l4.trans l, a'⟩, fun S γ' σ' v H' G' z l => s.rn S γ' σ' v H' G' z (l1.trans (l4.trans l))⟩
theorem gs_for_tup {tl : TE} {g : TG} (I : Nat → List Sl → Prop)
    (h : GE K F G0 tl γ fun A γ1 => ∃ As, A = aTup As ∧ I 0 γ1 ∧ (∀ i B γ2, As[i]? = some B → I i γ2 → GG K F G0 g B γ2 fun γ3 => GS K F G0 ts γ3 (ks.lop (I (i + 1)))) ∧ ∀ γ2, I As.length γ2 → ks.nx γ2) : GS K F G0 (tFor (iTup K tl) g ts) γ ks := fun D σ H G a s =>
  h σ H G _ a fun A γ1 v H1 G1 ⟨As, e, h0, hs, hd⟩ l1 a1 p1 => by
    subst e
    obtain ⟨b, vs, rfl, hb, hv⟩ := p1
    refine ⟨b, rfl, ⟨vs, a1.see.t b vs hb⟩, ?_⟩
    refine for_tup (xs := vs) (fun i σ H => ∃ γ2 G2, I i γ2 ∧ Vw.Le G1 G2 ∧ At K F G0 γ2 σ H G2) ⟨γ1, G1, h0, .refl G1, a1⟩ (fun i σ H hi ⟨γ2, G2, q1, q2, q3⟩ => q3.see.t b vs (q2.t b vs hb)) (fun i x σ H hx ⟨γ2, G2, q1, q2, q3⟩ => ?_) fun σ H ⟨γ2, G2, q1, q2, q3⟩ => s.nx γ2 σ H G2 (hd γ2 (by rw [← hv.length]; exact q1)) (l1.trans q2) q3
    obtain ⟨B, eB, pB⟩ := hv.get' hx
    refine hs i B γ2 eB q1 σ H G2 x _ q3 (B.mono q2 pB) fun γ3 σ3 H3 G3 h3 l3 a3 => ?_
    have l4 := q2.trans l3
    exact h3 _ σ3 H3 G3 a3 ⟨fun γ' σ' H' G' z l a' => ⟨γ', G', z, l4.trans l, a'⟩, fun A γ' σ' v H' G' z l => s.rt A γ' σ' v H' G' z (l1.trans (l4.trans l)), fun As γ' σ' w vs H' G' z l => s.ro As γ' σ' w vs H' G' z (l1.trans (l4.trans l)), fun γ' σ' H' G' z l => s.nx γ' σ' H' G' z (l1.trans (l4.trans l)), fun γ' σ' H' G' z l a' => ⟨γ', G', z, l4.trans l, a'⟩, fun S γ' σ' v H' G' z l => s.rn S γ' σ' v H' G' z (l1.trans (l4.trans l))⟩
theorem gs_for_rng {ta : TA} {g : TG} (I : Nat → List Sl → Prop)
    (h : GA K F G0 ta γ fun As γ1 => ∃ j : Int, As = [aInt j] ∧ -(2 ^ 62) ≤ j ∧ j < 2 ^ 62 ∧ I 0 γ1 ∧ (∀ (i : Nat) γ2, i < j.toNat → I i γ2 → GG K F G0 g (aInt i) γ2 fun γ3 => GS K F G0 ts γ3 (ks.lop (I (i + 1)))) ∧ ∀ γ2, I j.toNat γ2 → ks.nx γ2) : GS K F G0 (tFor (iRng1 ta) g ts) γ ks := fun D σ H G a s =>
  h σ H G _ a fun As γ1 vs H1 G1 ⟨j, e, j1, j2, h0, hs, hd⟩ l1 a1 p1 => by
    subst e
    obtain ⟨v, r, rfl, pv, rfl⟩ := p1
    refine ⟨j, by rw [show v = V.int j from pv], j1, j2, ?_⟩
    refine for_range (lo := 0) (n := j.toNat) (fun i σ H => ∃ γ2 G2, I i γ2 ∧ Vw.Le G1 G2 ∧ At K F G0 γ2 σ H G2) ⟨γ1, G1, h0, .refl G1, a1⟩ (fun i σ H hi ⟨γ2, G2, q1, q2, q3⟩ => ?_) fun σ H ⟨γ2, G2, q1, q2, q3⟩ => s.nx γ2 σ H G2 (hd γ2 q1) (l1.trans q2) q3
    refine hs i γ2 hi q1 σ H G2 _ _ q3 (show V.int (0 + (i : Int)) = V.int i by rw [Int.zero_add]) fun γ3 σ3 H3 G3 h3 l3 a3 => ?_
    have l4 := q2.trans l3
    exact h3 _ σ3 H3 G3 a3 ⟨fun γ' σ' H' G' z l a' => ⟨γ', G', z, l4.trans l, a'⟩, fun A γ' σ' v H' G' z l => s.rt A γ' σ' v H' G' z (l1.trans (l4.trans l)), fun As γ' σ' w vs H' G' z l => s.ro As γ' σ' w vs H' G' z (l1.trans (l4.trans l)), fun γ' σ' H' G' z l => s.nx γ' σ' H' G' z (l1.trans (l4.trans l)), fun γ' σ' H' G' z l a' => ⟨γ', G', z, l4.trans l, a'⟩, fun S γ' σ' v H' G' z l => s.rn S γ' σ' v H' G' z (l1.trans (l4.trans l))⟩
end
end
end Rl

/-! # Rl, third part: operators, calls, contracts -/
namespace Rl
open PySem PySem.Spec PyProof.Rows L2
section
variable {K : PySem.W.Frag} {F : Hp} {G0 : Vw} {γ : List Sl} {t ta tb : TE} {k : AV → List Sl → Prop}
/-! ### operators: a value by values, nothing new -/
theorem o2_pure {r : R2} {A B C : AV} (h : ∀ H G x y Q, See K G H → A.p G x → B.p G y → (∀ v, C.p G v → Q v H) → r x y H Q) (q : k C γ) : O2 K F G0 r A B γ k := fun σ H G x y Q a px py z =>
  h H G x y Q a.see px py fun v pv => z C γ v H G q (.refl G) a pv
theorem on_pure {r : List V → Hp → VK → Prop} {As : List AV} {C : AV} (h : ∀ H G xs Q, See K G H → avs G As xs → (∀ v, C.p G v → Q v H) → r xs H Q) (q : k C γ) : ON K F G0 r As γ k := fun σ H G xs Q a px z =>
  h H G xs Q a.see px fun v pv => z C γ v H G q (.refl G) a pv
/-- + of whatever kind -/
def rAdd (K : PySem.W.Frag) : R2 := fun x y H Q => rI0 (fun i j => .int (i + j)) x y H Q ∨ (∃ i j, x = .str i ∧ y = .str j ∧ i.length + j.length ≤ sizeLine ∧ Q (.str (i ++ j)) H) ∨ rCat x y H Q ∨ rCatA K x y H Q
theorem op_addA {X : Cx} : OpR X (binaryOp .Add) (rAdd X.K) := op_add.or (op_add_str.or (op_cat.or op_catA))
theorem o_add {i j : Int} (q : k (aInt (i + j)) γ) : O2 K F G0 (rAdd K) (aInt i) (aInt j) γ k := o2_pure (fun H G x y Q s px py z => .inl ⟨i, j, px, py, z _ rfl⟩) q
theorem o_adds {i j : Str} (h : i.length + j.length ≤ 100000) (q : k (aS (i ++ j)) γ) : O2 K F G0 (rAdd K) (aS i) (aS j) γ k := o2_pure (fun H G x y Q s px py z => .inr (.inl ⟨i, j, px, py, size_ok h, z _ rfl⟩)) q
/-- xs + ys: a new list -/
theorem go_cat {k : Addr → List AV → List Sl → Prop} (h : GE K F G0 ta γ fun A γ1 => GE K F G0 tb γ1 fun B γ2 => ∃ As Bs, A = aLst As ∧ B = aLst Bs ∧ As.length + Bs.length ≤ 100000 ∧ AllA fun l => k l (As ++ Bs) γ2) : GO K F G0 (tOp (rAdd K) ta tb) γ k := fun σ H G Q a z =>
  h σ H G _ a fun A γ1 v H1 G1 h1 l1 a1 p1 => h1 σ H1 G1 _ a1 fun B γ2 w H2 G2 ⟨As, Bs, e1, e2, hl, h2⟩ l2 a2 p2 => by
    subst e1; subst e2
    obtain ⟨b, vs, rfl, hb, hv⟩ := (aLst As).mono l2 p1
    obtain ⟨c, ws, rfl, hc, hw⟩ := p2
    exact .inr (.inr (.inl ⟨b, c, vs, ws, rfl, rfl, a2.see.l b vs hb, a2.see.l c ws hc, size_ok (by rw [hv.length, hw.length]; exact hl), fun p np => go_new z a2 (l1.trans l2) np (h2 p) (hv.append hw)⟩))
theorem o_sub {i j : Int} (q : k (aInt (i - j)) γ) : O2 K F G0 (rI0 fun i j => .int (i - j)) (aInt i) (aInt j) γ k := o2_pure (fun H G x y Q s px py z => ⟨i, j, px, py, z _ rfl⟩) q
def rMul : R2 := fun x y H Q => rI CMulW (fun i j => .int (i * j)) x y H Q ∨ rRep x y H Q
theorem op_mulA {X : Cx} : OpR X (binaryOp .Mult) rMul := op_mulW.or op_rep
theorem o_mul {i j : Int} (c : CMulW i j) (q : k (aInt (i * j)) γ) : O2 K F G0 rMul (aInt i) (aInt j) γ k := o2_pure (fun H G x y Q s px py z => .inl ⟨i, j, px, py, c, z _ rfl⟩) q
theorem avs.repl {G : Vw} {As : List AV} {vs : List V} (h : avs G As vs) : ∀ n : Nat, avs G (List.replicate n As).flatten (List.replicate n vs).flatten
  | 0 => rfl
  | n + 1 => by
    rw [List.replicate_succ, List.replicate_succ, List.flatten_cons, List.flatten_cons]
    exact h.append (h.repl n)
/-- xs * n: a new list -/
theorem go_rep {k : Addr → List AV → List Sl → Prop} (h : GE K F G0 ta γ fun A γ1 => GE K F G0 tb γ1 fun B γ2 => ∃ As n, A = aLst As ∧ B = aInt n ∧ (-(2 ^ 63) ≤ n ∧ n < 2 ^ 63 ∧ As.length * n.toNat ≤ 100000) ∧ AllA fun l => k l (List.replicate n.toNat As).flatten γ2) : GO K F G0 (tOp rMul ta tb) γ k := fun σ H G Q a z =>
  h σ H G _ a fun A γ1 v H1 G1 h1 l1 a1 p1 => h1 σ H1 G1 _ a1 fun B γ2 w H2 G2 ⟨As, n, e1, e2, ⟨n0, n1, hl⟩, h2⟩ l2 a2 p2 => by
    subst e1; subst e2
    obtain ⟨b, vs, rfl, hb, hv⟩ := (aLst As).mono l2 p1
    exact .inr ⟨b, n, vs, rfl, p2, a2.see.l b vs hb, n0, n1, size_ok (by rw [hv.length]; exact hl), fun p np => go_new z a2 (l1.trans l2) np (h2 p) (hv.repl n.toNat)⟩
/-- // by any divisor of less than 9000 bits -/
def CDivA (_ j : Int) : Prop := j ≠ 0 ∧ j.natAbs.log2 < 9000
theorem op_fdivA {X : Cx} : OpR X (binaryOp .FloorDiv) (rI CDivA fun i j => .int (i.fdiv j)) := opI fun i j _ _ _ _ _ hc q => floordiv_int hc.1 q (.inl (PyProof.noPylong_of_log2 hc.2))
theorem o_fdiv {i j : Int} (c : CDivA i j) (q : k (aInt (i.fdiv j)) γ) : O2 K F G0 (rI CDivA fun i j => .int (i.fdiv j)) (aInt i) (aInt j) γ k := o2_pure (fun H G x y Q s px py z => ⟨i, j, px, py, c, z _ rfl⟩) q
theorem o_mod {i j : Int} (c : j ≠ 0) (q : k (aInt (i.fmod j)) γ) : O2 K F G0 (rI (fun _ j => j ≠ 0) fun i j => .int (i.fmod j)) (aInt i) (aInt j) γ k := o2_pure (fun H G x y Q s px py z => ⟨i, j, px, py, c, z _ rfl⟩) q
theorem o_pow {i j : Int} (c : CPow i j) (q : k (aInt (i ^ j.toNat)) γ) : O2 K F G0 (rI CPow fun i j => .int (i ^ j.toNat)) (aInt i) (aInt j) γ k := o2_pure (fun H G x y Q s px py z => ⟨i, j, px, py, c, z _ rfl⟩) q
theorem o_lt {i j : Int} (q : k (aB (decide (i < j))) γ) : O2 K F G0 (rI0 fun i j => .bl (decide (i < j))) (aInt i) (aInt j) γ k := o2_pure (fun H G x y Q s px py z => ⟨i, j, px, py, z _ rfl⟩) q
theorem o_le {i j : Int} (q : k (aB (decide (i ≤ j))) γ) : O2 K F G0 (rI0 fun i j => .bl (decide (i ≤ j))) (aInt i) (aInt j) γ k := o2_pure (fun H G x y Q s px py z => ⟨i, j, px, py, z _ rfl⟩) q
theorem o_gt {i j : Int} (q : k (aB (decide (j < i))) γ) : O2 K F G0 (rI0 fun i j => .bl (decide (j < i))) (aInt i) (aInt j) γ k := o2_pure (fun H G x y Q s px py z => ⟨i, j, px, py, z _ rfl⟩) q
theorem o_ge {i j : Int} (q : k (aB (decide (j ≤ i))) γ) : O2 K F G0 (rI0 fun i j => .bl (decide (j ≤ i))) (aInt i) (aInt j) γ k := o2_pure (fun H G x y Q s px py z => ⟨i, j, px, py, z _ rfl⟩) q
theorem o_neg {i : Int} (q : k (aInt (-i)) γ) : O1 K F G0 (rU fun i => .int (-i)) (aInt i) γ k := fun σ H G x Q a px z => ⟨i, px, z _ γ _ H G q (.refl G) a rfl⟩

/-- a tuple of the module's -/
def tK (p : Addr) : TE := tC (.ref p)
theorem pe_globT {X : Cx} {x : Str} {p : Addr} {pos : Pos} (hg : Gl X x) (hm : X.mg x = some (.ref p)) (hd : (x == ("__debug__" : Str)) = false := by decide) : PE X (.Name x pos) (tK p) := pe_glob (v := .ref p) hg hm rfl hd
def IsK (K : PySem.W.Frag) (p : Addr) (As : List AV) : Prop := ∃ vs, (∀ H, SqT K H p vs) ∧ ∀ G, avs G As vs
theorem ge_tK {p : Addr} {As : List AV} (h : IsK K p As) (q : k (aTup As) γ) : GE K F G0 (tK p) γ k := by
  obtain ⟨vs, h1, h2⟩ := h
  exact ge_gt h1 h2 q

/-! ### == of data -/
def Isd (A : AV) (d : PyData) : Prop := ∀ (K : PySem.W.Frag) (G : Vw) (H : Hp) (v : V), See K G H → A.p G v → Dp K H v d
theorem isd_int (i : Int) : Isd (aInt i) (.int i) := fun K G H v s p => by
  rw [show v = V.int i from p]
  exact .int i
theorem isd_b (i : Bool) : Isd (aB i) (.bool i) := fun K G H v s p => by
  rw [show v = V.bl i from p]
  exact .bl i
theorem isd_s (i : Str) : Isd (aS i) (.str i) := fun K G H v s p => by
  rw [show v = V.str i from p]
  exact .str i
theorem isd_n : Isd aN .none := fun K G H v s p => by
  rw [show v = V.non from p]
  exact .non
def Isds : List AV → List PyData → Prop
  | [], ds => ds = []
  | A :: As, ds => ∃ d r, ds = d :: r ∧ Isd A d ∧ Isds As r
theorem Isds.dp {K : PySem.W.Frag} {G : Vw} {H : Hp} (s : See K G H) : ∀ {As : List AV} {ds : List PyData} {vs : List V}, Isds As ds → avs G As vs → DpAll K H vs ds
  | [], _, _, h, p => by
    rw [show _ = [] from h, show _ = [] from p]
    exact .nil
  | A :: As, _, _, ⟨d, r, e, h, t⟩, ⟨v, r', e', h', t'⟩ => by
    subst e; subst e'
    exact .cons (h K G H v s h') (Isds.dp s t t')
theorem isd_tup {As : List AV} {ds : List PyData} (h : Isds As ds) : Isd (aTup As) (.tuple ds) := fun K G H v s ⟨a, vs, e, ht, hv⟩ => by
  subst e
  exact .tup (s.t a vs ht) (h.dp s hv)
theorem isd_lst {As : List AV} {ds : List PyData} (h : Isds As ds) : Isd (aLst As) (.list ds) := fun K G H v s ⟨a, vs, e, ht, hv⟩ => by
  subst e
  exact .lst (s.seq (.inl ht)) (h.dp s hv)
theorem isds_nil : Isds [] [] := rfl
theorem isds_cons {A : AV} {As : List AV} {d : PyData} {ds : List PyData} (h : Isd A d) (t : Isds As ds) : Isds (A :: As) (d :: ds) := ⟨d, ds, rfl, h, t⟩
theorem isds_map {α : Type} {f : α → AV} {g : α → PyData} (h : ∀ x, Isd (f x) (g x)) : ∀ xs : List α, Isds (xs.map f) (xs.map g)
  | [] => rfl
  | x :: xs => ⟨_, _, rfl, h x, isds_map h xs⟩
/-- == of what is no class, no function: by kinds -/
def rEqA (K : PySem.W.Frag) : R2 := fun x y H Q => rEq x y H Q ∨ rEqD K x y H Q
def rNeA (K : PySem.W.Frag) : R2 := fun x y H Q => rNe x y H Q ∨ rNeD K x y H Q
theorem op_eqA {X : Cx} {n : Nat} (hr : Room n X.A) : OpR X (compareOp .Eq) (rEqA X.K) := op_eq.or (op_eqD hr.units)
theorem op_neA {X : Cx} {n : Nat} (hr : Room n X.A) : OpR X (compareOp .NotEq) (rNeA X.K) := op_ne.or (op_neD hr.units)
theorem o_eqi {i j : Int} (q : k (aB (decide (i = j))) γ) : O2 K F G0 (rEqA K) (aInt i) (aInt j) γ k := o2_pure (fun H G x y Q s px py z => .inl (by
  rw [show x = V.int i from px, show y = V.int j from py]
  refine ⟨rfl, z _ ?_⟩
  rw [dec_int]
  show V.bl (i == j) = V.bl (decide (i = j))
  rw [Bool.beq_eq_decide_eq])) q
theorem o_nei {i j : Int} (q : k (aB (!decide (i = j))) γ) : O2 K F G0 (rNeA K) (aInt i) (aInt j) γ k := o2_pure (fun H G x y Q s px py z => .inl (by
  rw [show x = V.int i from px, show y = V.int j from py]
  refine ⟨rfl, z _ ?_⟩
  rw [dec_int]
  show V.bl (!(i == j)) = V.bl (!decide (i = j))
  rw [Bool.beq_eq_decide_eq])) q
theorem o_eqs {i j : Str} (q : k (aB (decide (i = j))) γ) : O2 K F G0 (rEqA K) (aS i) (aS j) γ k := o2_pure (fun H G x y Q s px py z => .inl (by
  rw [show x = V.str i from px, show y = V.str j from py]
  refine ⟨rfl, z _ ?_⟩
  show V.bl (decide (V.str i = V.str j)) = V.bl (decide (i = j))
  congr 1
  by_cases h : i = j
  · rw [h, decide_eq_true rfl, decide_eq_true rfl]
  · rw [decide_eq_false h, decide_eq_false (fun e => h (V.str.inj e))])) q
theorem o_nes {i j : Str} (q : k (aB (!decide (i = j))) γ) : O2 K F G0 (rNeA K) (aS i) (aS j) γ k := o2_pure (fun H G x y Q s px py z => .inl (by
  rw [show x = V.str i from px, show y = V.str j from py]
  refine ⟨rfl, z _ ?_⟩
  show V.bl (!decide (V.str i = V.str j)) = V.bl (!decide (i = j))
  congr 2
  by_cases h : i = j
  · rw [h, decide_eq_true rfl, decide_eq_true rfl]
  · rw [decide_eq_false h, decide_eq_false (fun e => h (V.str.inj e))])) q
theorem o_eqb {i j : Bool} (q : k (aB (decide (i = j))) γ) : O2 K F G0 (rEqA K) (aB i) (aB j) γ k := o2_pure (fun H G x y Q s px py z => .inl (by
  rw [show x = V.bl i from px, show y = V.bl j from py]
  refine ⟨rfl, z _ ?_⟩
  show V.bl (decide (V.bl i = V.bl j)) = V.bl (decide (i = j))
  congr 1
  by_cases h : i = j
  · rw [h, decide_eq_true rfl, decide_eq_true rfl]
  · rw [decide_eq_false h, decide_eq_false (fun e => h (V.bl.inj e))])) q
theorem o_neb {i j : Bool} (q : k (aB (!decide (i = j))) γ) : O2 K F G0 (rNeA K) (aB i) (aB j) γ k := o2_pure (fun H G x y Q s px py z => .inl (by
  rw [show x = V.bl i from px, show y = V.bl j from py]
  refine ⟨rfl, z _ ?_⟩
  show V.bl (!decide (V.bl i = V.bl j)) = V.bl (!decide (i = j))
  congr 2
  by_cases h : i = j
  · rw [h, decide_eq_true rfl, decide_eq_true rfl]
  · rw [decide_eq_false h, decide_eq_false (fun e => h (V.bl.inj e))])) q
theorem o_eqd {A B : AV} {d e : PyData} {b : Bool} (ha : Isd A d) (hb : Isd B e) (sd : SeqAt.shaped d = true) (se : SeqAt.shaped e = true) (hv : PyData.eqv d e = b) (q : k (aB b) γ) : O2 K F G0 (rEqA K) A B γ k :=
  o2_pure (fun H G x y Q s px py z => .inr ⟨d, e, ha K G H x s px, hb K G H y s py, sd, se, z _ (by rw [hv]; rfl)⟩) q
theorem o_ned {A B : AV} {d e : PyData} {b : Bool} (ha : Isd A d) (hb : Isd B e) (sd : SeqAt.shaped d = true) (se : SeqAt.shaped e = true) (hv : PyData.eqv d e = b) (q : k (aB (!b)) γ) : O2 K F G0 (rNeA K) A B γ k :=
  o2_pure (fun H G x y Q s px py z => .inr ⟨d, e, ha K G H x s px, hb K G H y s py, sd, se, z _ (by rw [hv]; rfl)⟩) q
/-- is None -/
theorem o_isN {v : V} (q : k (aB (decide (v = .non))) γ) : O2 K F G0 (fun x y H Q => y = .non ∧ Q (.bl (decide (x = .non))) H) (aV v) aN γ k := o2_pure (fun H G x y Q s px py z => ⟨py, z _ (by rw [show x = v from px]; rfl)⟩) q
theorem o_notN {v : V} (q : k (aB (!decide (v = .non))) γ) : O2 K F G0 (fun x y H Q => y = .non ∧ Q (.bl (!decide (x = .non))) H) (aV v) aN γ k := o2_pure (fun H G x y Q s px py z => ⟨py, z _ (by rw [show x = v from px]; rfl)⟩) q
theorem o_isNr {A : AV} (hA : ∀ G v, A.p G v → ∃ a, v = .ref a) (q : k (aB false) γ) : O2 K F G0 (fun x y H Q => y = .non ∧ Q (.bl (decide (x = .non))) H) A aN γ k := o2_pure (fun H G x y Q s px py z => ⟨py, z _ (by
  obtain ⟨a, e⟩ := hA G x px
  rw [e]
  rfl)⟩) q
theorem o_notNr {A : AV} (hA : ∀ G v, A.p G v → ∃ a, v = .ref a) (q : k (aB true) γ) : O2 K F G0 (fun x y H Q => y = .non ∧ Q (.bl (!decide (x = .non))) H) A aN γ k := o2_pure (fun H G x y Q s px py z => ⟨py, z _ (by
  obtain ⟨a, e⟩ := hA G x px
  rw [e]
  rfl)⟩) q
theorem ref_tup {As : List AV} : ∀ G v, (aTup As).p G v → ∃ a, v = .ref a := fun _ _ ⟨a, _, e, _⟩ => ⟨a, e⟩
theorem ref_lst {As : List AV} : ∀ G v, (aLst As).p G v → ∃ a, v = .ref a := fun _ _ ⟨a, _, e, _⟩ => ⟨a, e⟩

/-! ### subscripts -/
theorem atI_avs {G : Vw} {As : List AV} {vs : List V} {i : Int} {A : AV} (h : avs G As vs) (e : atI As i = some A) : ∃ v, atI vs i = some v ∧ A.p G v := by
  have hl := h.length
  unfold atI at e ⊢
  rw [hl]
  cases hj : ixN As.length i with
  | none => rw [hj] at e; cases e
  | some j =>
    rw [hj] at e
    exact h.get e
theorem o_ixT {As : List AV} {i : Int} {A : AV} (h : atI As i = some A) (q : k A γ) : O2 K F G0 (rIx K) (aTup As) (aInt i) γ k := o2_pure (fun H G x y Q s px py z => by
  obtain ⟨a, vs, e, ht, hv⟩ := px
  obtain ⟨v, e2, pv⟩ := atI_avs hv h
  exact .inr (.inl ⟨a, vs, i, v, e, py, s.t a vs ht, e2, z v pv⟩)) q
theorem o_ixL {As : List AV} {i : Int} {A : AV} (h : atI As i = some A) (q : k A γ) : O2 K F G0 (rIx K) (aLst As) (aInt i) γ k := o2_pure (fun H G x y Q s px py z => by
  obtain ⟨a, vs, e, ht, hv⟩ := px
  obtain ⟨v, e2, pv⟩ := atI_avs hv h
  exact .inl ⟨a, vs, i, v, e, py, s.seq (.inl ht), e2, z v pv⟩) q
theorem atI_map {α : Type} {f : α → AV} {xs : List α} {i : Int} (d : α) (h0 : 0 ≤ i) (h1 : i < xs.length) : atI (xs.map f) i = some (f (xs.getD i.toNat d)) := by
  obtain ⟨n, rfl⟩ := Int.eq_ofNat_of_zero_le h0
  have hn : n < xs.length := by omega
  refine atI_nat ?_
  rw [List.getElem?_map, List.getElem?_eq_getElem hn]
  show some (f xs[n]) = some (f (xs.getD n d))
  rw [List.getD_eq_getElem?_getD, List.getElem?_eq_getElem hn]
  rfl
theorem o_ixM {α : Type} {f : α → AV} {xs : List α} {i : Int} (d : α) (h0 : 0 ≤ i) (h1 : i < xs.length) (q : k (f (xs.getD i.toNat d)) γ) : O2 K F G0 (rIx K) (aLst (xs.map f)) (aInt i) γ k := o_ixL (atI_map d h0 h1) q
/-- an item of an own list -/
theorem ge_ixO {i : Nat} (h : GE K F G0 tb γ fun B γ1 => ∃ l As j A, B = aInt j ∧ γ1[i]? = some (.own l As) ∧ atI As j = some A ∧ k A γ1) (h0 : ∃ l As, γ[i]? = some (.own l As)) : GE K F G0 (tOp (rIx K) (tVar i) tb) γ k := fun σ H G Q a z => by
  obtain ⟨l, As, e0⟩ := h0
  obtain ⟨e1, _⟩ := a.ownAt e0
  refine ⟨_, e1, h σ H G _ a fun B γ1 y H1 G1 ⟨l', As', j, A, e, e2, e3, q⟩ l1 a1 p1 => ?_⟩
  subst e
  obtain ⟨e4, vs, h1, _, _, hv⟩ := a1.ownAt e2
  rw [e1] at e4
  cases e4
  obtain ⟨v, e5, pv⟩ := atI_avs hv e3
  exact .inl ⟨l, vs, j, v, rfl, p1, SqL.of h1, e5, z A γ1 v H1 G1 q l1 a1 pv⟩
/-- an own list's item is written -/
theorem gg_setO {i : Nat} {ti : TE} {A : AV} {kg : List Sl → Prop} (h0 : ∃ l As, γ[i]? = some (.own l As)) (h : GE K F G0 ti γ fun B γ1 => ∃ l As j n, B = aInt j ∧ γ1[i]? = some (.own l As) ∧ ixN As.length j = some n ∧ kg (γ1.set i (.own l (As.set n A)))) : GG K F G0 (gSub (tVar i) ti rSetL) A γ kg := fun σ H G v Q a p z => by
  obtain ⟨l, As, e0⟩ := h0
  obtain ⟨e1, _⟩ := a.ownAt e0
  refine ⟨_, e1, h σ H G _ a fun B γ1 y H1 G1 ⟨l', As', j, n, e, e2, e3, q⟩ l1 a1 p1 => ?_⟩
  subst e
  obtain ⟨e4, vs, h1, _, _, hv⟩ := a1.ownAt e2
  rw [e1] at e4
  cases e4
  exact ⟨l, vs, j, n, rfl, p1, h1, by rw [hv.length]; exact e3, z _ σ _ G1 q l1 (a1.write e2 (hv.set (A.mono l1 p) n))⟩

/-! ### built-ins -/
def rAbs : List V → Hp → VK → Prop := fun xs H Q => ∃ i, xs = [.int i] ∧ Q (.int (if i < 0 then -i else i)) H
theorem call_absA {X : Cx} : CallR X (.builtin "abs") rAbs := call_abs
theorem n_abs {i : Int} (q : k (aInt (if i < 0 then -i else i)) γ) : ON K F G0 rAbs [aInt i] γ k := on_pure (fun H G xs Q s p z => by
  obtain ⟨v, r, rfl, pv, rfl⟩ := p
  exact ⟨i, by rw [show v = V.int i from pv], z _ rfl⟩) q
def rLen (K : PySem.W.Frag) : List V → Hp → VK → Prop := fun xs H Q => ∃ x n, xs = [x] ∧ LenV K x H n ∧ Q (.int n) H
theorem call_lenA {X : Cx} : CallR X (.builtin "len") (rLen X.K) := call_len
theorem n_lenL {As : List AV} (q : k (aInt As.length) γ) : ON K F G0 (rLen K) [aLst As] γ k := on_pure (fun H G xs Q s p z => by
  obtain ⟨v, r, rfl, ⟨a, vs, rfl, ht, hv⟩, rfl⟩ := p
  exact ⟨_, vs.length, rfl, .inl ⟨vs, s.seq (.inl ht), rfl⟩, z _ (by rw [hv.length]; rfl)⟩) q
theorem n_lenT {As : List AV} (q : k (aInt As.length) γ) : ON K F G0 (rLen K) [aTup As] γ k := on_pure (fun H G xs Q s p z => by
  obtain ⟨v, r, rfl, ⟨a, vs, rfl, ht, hv⟩, rfl⟩ := p
  exact ⟨_, vs.length, rfl, .inr ⟨vs, s.t a vs ht, rfl⟩, z _ (by rw [hv.length]; rfl)⟩) q
theorem n_lenS {x : Str} (h : x.length ≤ 100000) (q : k (aInt x.length) γ) : ON K F G0 (rLen K) [aS x] γ k := on_pure (fun H G xs Q s p z => by
  obtain ⟨v, r, rfl, pv, rfl⟩ := p
  have e : v = V.str x := pv
  subst e
  exact ⟨_, x.length, rfl, ⟨size_ok h, rfl⟩, z _ rfl⟩) q
/-- len of an own list -/
theorem ge_lenO {i : Nat} {l : Addr} {As : List AV} (h : γ[i]? = some (.own l As)) (q : k (aInt As.length) γ) : GE K F G0 (tCB (rLen K) (tCons (tVar i) tNil)) γ k := fun σ H G Q a z => by
  obtain ⟨e, vs, h1, _, _, hv⟩ := a.ownAt h
  exact ⟨_, e, _, vs.length, rfl, .inl ⟨vs, SqL.of h1, rfl⟩, z _ γ _ H G q (.refl G) a (by rw [hv.length]; rfl)⟩
def rMin : List V → Hp → VK → Prop := fun xs H Q => ∃ i j, xs = [.int i, .int j] ∧ Q (.int (if j < i then j else i)) H
def rMax : List V → Hp → VK → Prop := fun xs H Q => ∃ i j, xs = [.int i, .int j] ∧ Q (.int (if j > i then j else i)) H
theorem call_minA {X : Cx} (hc : X.calm = true) : CallR X (.builtin "min") rMin := call_min2 hc
theorem call_maxA {X : Cx} (hc : X.calm = true) : CallR X (.builtin "max") rMax := call_max2 hc
theorem n_min {i j : Int} (q : k (aInt (min i j)) γ) : ON K F G0 rMin [aInt i, aInt j] γ k := on_pure (fun H G xs Q s p z => by
  obtain ⟨v, r, rfl, pv, w, r', rfl, pw, rfl⟩ := p
  have e : v = V.int i := pv
  have e' : w = V.int j := pw
  subst e; subst e'
  refine ⟨i, j, rfl, z _ ?_⟩
  show V.int _ = V.int _
  congr 1
  omega) q
theorem n_max {i j : Int} (q : k (aInt (max i j)) γ) : ON K F G0 rMax [aInt i, aInt j] γ k := on_pure (fun H G xs Q s p z => by
  obtain ⟨v, r, rfl, pv, w, r', rfl, pw, rfl⟩ := p
  have e : v = V.int i := pv
  have e' : w = V.int j := pw
  subst e; subst e'
  refine ⟨i, j, rfl, z _ ?_⟩
  show V.int _ = V.int _
  congr 1
  split <;> omega) q
def rInt : List V → Hp → VK → Prop := fun xs H Q => (∃ i, xs = [.int i] ∧ Q (.int i) H) ∨ ∃ k, xs = [.bl k] ∧ Q (.int (if k then 1 else 0)) H
theorem call_intA {X : Cx} : CallR X (.type "int") rInt := call_int1
theorem n_intB {b : Bool} (q : k (aInt (if b then 1 else 0)) γ) : ON K F G0 rInt [aB b] γ k := on_pure (fun H G xs Q s p z => by
  obtain ⟨v, r, rfl, pv, rfl⟩ := p
  exact .inr ⟨b, by rw [show v = V.bl b from pv], z _ rfl⟩) q
/-- list(xs), tuple(xs) -/
def rListOf (K : PySem.W.Frag) : List V → Hp → VK → Prop := fun xs H Q => ∃ p ys, xs = [.ref p] ∧ (SqL K H p ys ∨ SqT K H p ys) ∧ ∀ l, H l = none → Q (.ref l) (upd H l (.lst ys))
theorem call_listA {X : Cx} : CallR X (.type "list") (rListOf X.K) := call_list_of
theorem go_listOf {ta : TA} {k : Addr → List AV → List Sl → Prop} (h : GA K F G0 ta γ fun As γ1 => ∃ Bs, (As = [aLst Bs] ∨ As = [aTup Bs]) ∧ AllA fun l => k l Bs γ1) : GO K F G0 (tCB (rListOf K) ta) γ k := fun σ H G Q a z =>
  h σ H G _ a fun As γ1 vs H1 G1 ⟨Bs, e, h1⟩ l1 a1 p1 => by
    rcases e with e | e
    · subst e
      obtain ⟨v, r, rfl, ⟨b, ws, rfl, ht, hv⟩, rfl⟩ := p1
      exact ⟨b, ws, rfl, .inl (a1.see.seq (.inl ht)), fun l np => go_new z a1 l1 np (h1 l) hv⟩
    · subst e
      obtain ⟨v, r, rfl, ⟨b, ws, rfl, ht, hv⟩, rfl⟩ := p1
      exact ⟨b, ws, rfl, .inr (a1.see.t b ws ht), fun l np => go_new z a1 l1 np (h1 l) hv⟩
/-- list(xs) of an own list, which stays one's own -/
theorem go_listOwn {i : Nat} {l0 : Addr} {As : List AV} {k : Addr → List AV → List Sl → Prop} (h : γ[i]? = some (.own l0 As)) (q : AllA fun l => k l As γ) : GO K F G0 (tCB (rListOf K) (tCons (tVar i) tNil)) γ k := fun σ H G Q a z => by
  obtain ⟨e, vs, h1, _, _, hv⟩ := a.ownAt h
  exact ⟨_, e, l0, vs, rfl, .inl (SqL.of h1), fun l np => go_new z a (.refl G) np (q l) hv⟩
def rTupOf (K : PySem.W.Frag) : List V → Hp → VK → Prop := fun xs H Q => ∃ p ys, xs = [.ref p] ∧ ((SqL K H p ys ∧ ∀ l, H l = none → Q (.ref l) (upd H l (.tup ys))) ∨ (SqT K H p ys ∧ Q (.ref p) H))
theorem call_tupA {X : Cx} : CallR X (.type "tuple") (rTupOf X.K) := call_tuple_of
theorem n_tupOf {Bs : List AV} (q : k (aTup Bs) γ) : ON K F G0 (rTupOf K) [aLst Bs] γ k := fun σ H G xs Q a px z => by
  obtain ⟨v, r, rfl, ⟨b, ws, rfl, ht, hv⟩, rfl⟩ := px
  refine ⟨b, ws, rfl, .inl ⟨a.see.seq (.inl ht), fun p np => ?_⟩⟩
  have s := same_upd (o := .tup ws) np
  have a2 := (a.up s).addT (p := p) (vs := ws) (SqT.of upd_same)
  exact z _ γ _ _ _ q (G.leT p ws) a2 ⟨p, ws, rfl, .inr ⟨rfl, rfl⟩, hv.mono (G.leT p ws)⟩
/-- tuple(xs) of an own list, which stays one's own -/
theorem ge_tupOwn {i : Nat} {l0 : Addr} {As : List AV} (h : γ[i]? = some (.own l0 As)) (q : k (aTup As) γ) : GE K F G0 (tCB (rTupOf K) (tCons (tVar i) tNil)) γ k := fun σ H G Q a z => by
  obtain ⟨e, vs, h1, _, _, hv⟩ := a.ownAt h
  refine ⟨_, e, l0, vs, rfl, .inl ⟨SqL.of h1, fun p np => ?_⟩⟩
  have s := same_upd (o := .tup vs) np
  have a2 := (a.up s).addT (p := p) (vs := vs) (SqT.of upd_same)
  exact z _ γ _ _ _ q (G.leT p vs) a2 ⟨p, vs, rfl, .inr ⟨rfl, rfl⟩, hv.mono (G.leT p vs)⟩
/-- out.append(e) of an own list -/
theorem gs_append {ks : KS} {i : Nat} {te : TE} (h0 : ∃ l As, γ[i]? = some (.own l As)) (h : GE K F G0 te γ fun A γ1 => ∃ l As, γ1[i]? = some (.own l As) ∧ As.length ≤ 100000 ∧ ks.nx (γ1.set i (.own l (As ++ [A])))) : GS K F G0 (tDrop (tBM K "list" rAppend (tVar i) (tCons te tNil))) γ ks := fun D σ H G a s => by
  obtain ⟨l, As, e0⟩ := h0
  obtain ⟨e1, vs0, h10, _⟩ := a.ownAt e0
  refine ⟨_, e1, .inl ⟨rfl, _, SqL.of h10⟩, h σ H G _ a fun A γ1 y H1 G1 ⟨l', As', e2, hl, q⟩ l1 a1 p1 => ?_⟩
  obtain ⟨e4, vs, h1, _, _, hv⟩ := a1.ownAt e2
  rw [e1] at e4
  cases e4
  exact ⟨l, vs, y, rfl, rfl, h1, size_lt (by rw [hv.length]; exact hl), s.nx _ σ _ G1 q l1 (a1.write e2 (hv.append (.one p1)))⟩

/-! ### contracts -/
/-- what a def makes of its arguments: R of a value told, RO of a new list told -/
abbrev Ct := List AV → (AV → Prop) → (List AV → Prop) → Prop
def spOf (K : PySem.W.Frag) (C : Ct) : Sp := fun vs H Q _ => ∃ As R RO G, C As R RO ∧ avs G As vs ∧ See K G H ∧
  (∀ A v H' G', R A → Vw.Le G G' → Same H H' → See K G' H' → (∀ b xs, H b ≠ none → G'.l b xs → G.l b xs) → A.p G' v → Q v H') ∧
  (∀ As' l vs' H' G', RO As' → Vw.Le G G' → Same H H' → See K G' H' → (∀ b xs, H b ≠ none → G'.l b xs → G.l b xs) → H' l = some (.lst vs') → H l = none → (∀ ys, ¬ G'.l l ys) → avs G' As' vs' → Q (.ref l) H')
theorem ge_call {C : Ct} {E : XK} {t : TA} (h : GA K F G0 t γ fun As γ1 => C As (fun A => k A γ1) (fun As' => k (aLst As') γ1)) : GE K F G0 (tCall (spOf K C) [] E t) γ k := fun σ H G Q a z =>
  h σ H G _ a fun As γ1 vs H1 G1 h1 l1 a1 p1 => by
    show spOf K C (vs ++ []) H1 Q E
    rw [List.append_nil]
    refine ⟨As, _, _, G1, h1, p1, a1.see, fun A v H' G' q le sm see hid pv => z A γ1 v H' G' q (l1.trans le) (a1.call le sm see hid) pv, fun As' l vs' H' G' q le sm see hid e1 e2 e3 hv => ?_⟩
    have a2 := a1.call le sm see hid
    exact z _ γ1 _ H' _ q (l1.trans (le.trans (G'.leL l vs'))) (a2.addL e1 (a1.noF e2) (a1.noOwn e2)) ⟨l, vs', rfl, .inr ⟨rfl, rfl⟩, hv.mono (G'.leL l vs')⟩
theorem go_call {C : Ct} {E : XK} {t : TA} {k : Addr → List AV → List Sl → Prop} (h : GA K F G0 t γ fun As γ1 => C As (fun A => False) (fun As' => AllA fun l => k l As' γ1)) : GO K F G0 (tCall (spOf K C) [] E t) γ k := fun σ H G Q a z =>
  h σ H G _ a fun As γ1 vs H1 G1 h1 l1 a1 p1 => by
    show spOf K C (vs ++ []) H1 Q E
    rw [List.append_nil]
    refine ⟨As, _, _, G1, h1, p1, a1.see, fun A v H' G' q le sm see hid pv => q.elim, fun As' l vs' H' G' q le sm see hid e1 e2 e3 hv => ?_⟩
    exact z l As' γ1 vs' H' G' (q l) (l1.trans le) (a1.call le sm see hid) e1 (a1.noF e2) e3 hv (a1.noOwn e2)
/-- x = f(..): a new list that is told is one's own -/
theorem gs_setCall {ks : KS} {C : Ct} {E : XK} {t : TA} {i : Nat} (h : GA K F G0 t γ fun As γ1 => C As (fun A => ks.nx (γ1.set i (.sh A))) (fun As' => AllA fun l => ks.nx (γ1.set i (.own l As')))) : GS K F G0 (tAsg (tCall (spOf K C) [] E t) (gName i)) γ ks := fun D σ H G a s =>
  h σ H G _ a fun As γ1 vs H1 G1 h1 l1 a1 p1 => by
    show spOf K C (vs ++ []) H1 _ E
    rw [List.append_nil]
    refine ⟨As, _, _, G1, h1, p1, a1.see, fun A v H' G' q le sm see hid pv => s.nx _ _ H' G' q (l1.trans le) ((a1.call le sm see hid).sets pv), fun As' l vs' H' G' q le sm see hid e1 e2 e3 hv => ?_⟩
    exact s.nx _ _ H' G' (q l) (l1.trans le) (At.set (S := .own l As') (a1.call le sm see hid) ⟨rfl, vs', e1, a1.noF e2, e3, hv⟩ (own_free (a1.noOwn e2)))
theorem gs_retCall {ks : KS} {C : Ct} {E : XK} {t : TA} (h : GA K F G0 t γ fun As γ1 => C As (fun A => ks.rt A γ1) (fun As' => ks.ro As' γ1)) : GS K F G0 (tRet (tCall (spOf K C) [] E t)) γ ks := fun D σ H G a s =>
  h σ H G _ a fun As γ1 vs H1 G1 h1 l1 a1 p1 => by
    show spOf K C (vs ++ []) H1 _ E
    rw [List.append_nil]
    exact ⟨As, _, _, G1, h1, p1, a1.see, fun A v H' G' q le sm see hid pv => s.rt A γ1 σ v H' G' q (l1.trans le) (a1.call le sm see hid) pv, fun As' l vs' H' G' q le sm see hid e1 e2 e3 hv => s.ro As' γ1 σ l vs' H' G' q (l1.trans le) (a1.call le sm see hid) e1 (a1.noF e2) e3 hv (a1.noOwn e2)⟩
/-- a def that changes its first argument, a list of its caller's own; S: what stands in it -/
abbrev Cm := List AV → List AV → (AV → List AV → Prop) → (List AV → List AV → Prop) → Prop
def hid1 (H : Hp) (l : Addr) : Hp := fun b => if b = l then none else H b
def spM (K : PySem.W.Frag) (C : Cm) : Sp := fun vs H Q _ => ∃ S As R RO G l ws r, C S As R RO ∧ vs = .ref l :: r ∧ avs G As r ∧ See K G H ∧ H l = some (.lst ws) ∧ avs G S ws ∧ (∀ ys, ¬ G.l l ys) ∧
  (∀ A S' v H' G' ws', R A S' → Vw.Le G G' → Same (hid1 H l) H' → See K G' H' → (∀ b xs, H b ≠ none → G'.l b xs → G.l b xs) → H' l = some (.lst ws') → avs G' S' ws' → A.p G' v → Q v H') ∧
  (∀ As' S' m vs' H' G' ws', RO As' S' → Vw.Le G G' → Same (hid1 H l) H' → See K G' H' → (∀ b xs, H b ≠ none → G'.l b xs → G.l b xs) → H' l = some (.lst ws') → avs G' S' ws' → H' m = some (.lst vs') → H m = none → (∀ ys, ¬ G'.l m ys) → avs G' As' vs' → Q (.ref m) H')
theorem At.callM {σ : L2.St} {H H' : Hp} {G G' : Vw} {i : Nat} {l : Addr} {S S' : List AV} {ws' : List V} (a : At K F G0 γ σ H G) (h : γ[i]? = some (.own l S)) (le : Vw.Le G G') (sm : Same (hid1 H l) H') (see : See K G' H') (hid : ∀ b xs, H b ≠ none → G'.l b xs → G.l b xs) (e : H' l = some (.lst ws')) (hv : avs G' S' ws') : At K F G0 (γ.set i (.own l S')) σ H' G' := by
  obtain ⟨e1, vs, h1, h2, h3, h4⟩ := a.ownAt h
  have hl : i < γ.length := (List.getElem?_eq_some_iff.mp h).1
  have hn : ∀ ys, ¬ G'.l l ys := fun ys q => h3 ys (hid l ys (fun z => by rw [z] at h1; cases h1) q)
  refine ⟨a.le.trans le, fun b o q => sm b o ?_, see, fun b xs hb q => a.hid b xs hb (hid b xs (fun z => hb (a.noF z)) q), by rw [List.length_set, a.len], fun j T q => ?_, dis_sub a.dis h fun b hb => own_ad hb ▸ own_ads l S⟩
  · unfold hid1
    rw [if_neg (fun z => by rw [z, h2] at q; cases q)]
    exact a.same b o q
  · by_cases hj : i = j
    · subst hj
      rw [List.getElem?_set_self hl] at q
      cases q
      rw [e1]
      exact ⟨rfl, ws', e, h2, hn, hv⟩
    · rw [List.getElem?_set_ne hj] at q
      refine (a.slot j T q).move le (fun b hb o eo => sm b o ?_) (fun b _ hb ys z => hid b ys hb z) fun _ _ z => z
      unfold hid1
      rw [if_neg (fun (z : b = l) => hj (a.dis i j _ T l h q (own_ads l S) (z ▸ hb)))]
      exact eo
theorem ge_callM {C : Cm} {E : XK} {t : TA} {i : Nat} (h0 : ∃ l S, γ[i]? = some (.own l S)) (h : GA K F G0 t γ fun As γ1 => ∃ l S, γ1[i]? = some (.own l S) ∧ C S As (fun A S' => k A (γ1.set i (.own l S'))) (fun As' S' => k (aLst As') (γ1.set i (.own l S')))) : GE K F G0 (tCall (spM K C) [] E (tCons (tVar i) t)) γ k := fun σ H G Q a z => by
  obtain ⟨l, S, e0⟩ := h0
  obtain ⟨e1, _⟩ := a.ownAt e0
  refine ⟨_, e1, h σ H G _ a fun As γ1 vs H1 G1 ⟨l', S', e2, h1⟩ l1 a1 p1 => ?_⟩
  obtain ⟨e4, ws, g1, g2, g3, g4⟩ := a1.ownAt e2
  rw [e1] at e4
  cases e4
  show spM K C (V.ref l :: vs ++ []) H1 Q E
  rw [List.append_nil]
  refine ⟨S', As, _, _, G1, l, ws, vs, h1, rfl, p1, a1.see, g1, g4, g3, fun A S2 v H' G' ws' q le sm see hid e hv pv => z A _ v H' G' q (l1.trans le) (a1.callM e2 le sm see hid e hv) pv, fun As' S2 m vs' H' G' ws' q le sm see hid e hv e5 e6 e7 hv2 => ?_⟩
  have a2 := a1.callM e2 le sm see hid e hv
  refine z _ _ _ H' _ q (l1.trans (le.trans (G'.leL m vs'))) (a2.addL e5 (a1.noF e6) (free_set (a1.noOwn e6) fun hb => ?_)) ⟨m, vs', rfl, .inr ⟨rfl, rfl⟩, hv2.mono (G'.leL m vs')⟩
  rw [own_ad hb, g1] at e6
  cases e6
end

/-! ### a def -/
section
variable {P : Program} {w : World} {K : PySem.W.Frag} {mg : Str → Option Value} {base : Heap}
/-- a body's context, in the open -/
abbrev cxN (P : Program) (w : World) (K : PySem.W.Frag) (mg : Str → Option Value) (base : Heap) (N : List Str) (qual : Str) (scope : Scope) (f : Addr) (cd : Value) (A : Around) (outer : List Env) (s : Shared) (H : Hp) : Cx where
  prog := P
  w := w
  K := K
  mg := mg
  base := base
  A := A.deeper (envOfC qual scope s.heap.objs.size f cd)
  N := N
  s_0 := s
  H_0 := H
  env := envOfC qual scope s.heap.objs.size f cd
  outer := outer
  stack := envOfC qual scope s.heap.objs.size f cd :: outer
  ex := []
  calm := true
  fn := fun _ => true
  pn := []
  xe := fun _ _ => False
structure Cal (P : Program) (w : World) (K : PySem.W.Frag) (mg : Str → Option Value) (base : Heap) (n : Nat) (x : Str) (ps : List Str) (sp : Sp) : Prop where
  ex : ∃ f fd, FnOk P w K mg base CX0 n f fd ps sp ∧ mg x = some (.ref f) ∧ PySem.W.keepIn K (.ref f) = true ∧ Binds K fd ps []
theorem pe_cal {X : Cx} {n m : Nat} {x : Str} {ps : List Str} {sp : Sp} {e : Expr} {es : List Expr} {t : TA} {p pos : Pos} (c : Cal X.prog X.w X.K X.mg X.base n x ps sp) (hr : Room m X.A) (hg : Gl X x)
    (ha : PA X (e :: es) t) (hn : n ≤ m := by decide) (hdb : (x == ("__debug__" : Str)) = false := by decide) (he : starEach (e :: es) X.env = (false, eval e X.env) :: starEach es X.env := by rfl) (hpl : (backTo pos (starEach es X.env)).any (·.1) = false := by rfl) :
    PE X (.Call (.Name x p) (e :: es) [] pos) (tCall sp [] E0 t) := by
  obtain ⟨f, fd, F, hm, hk, hb⟩ := c.ex
  exact pe_call F (hr.mono hn) hg hm hk hb .nil pass0 ha hdb he hpl
/-- where a def of the module's stands -/
structure Std (K : PySem.W.Frag) (mg : Str → Option Value) (x : Str) (st : Stmt) (ps : List Str) : Prop where
  ex : ∃ f fd, FunD K x x (defArgs st) (defBody st) (defScope st) [] [] f fd ∧ mg x = some (.ref f) ∧ Binds K fd ps []
theorem slots_start {G : Vw} {H F : Hp} : ∀ {As : List AV} {vs : List V} (n : Nat), avs G As vs → ∀ (i : Nat) (S : Sl), (As.map Sl.sh ++ List.replicate n Sl.non)[i]? = some S → slOk F H G S ((vs.map some ++ List.replicate n none)[i]?.join)
  | [], vs, n, h, i, S, q => by
    rw [List.map_nil, List.nil_append] at q
    have := List.mem_of_getElem? q
    rw [List.eq_of_mem_replicate this]
    trivial
  | A :: As, _, n, ⟨v, r, e, pv, t⟩, 0, S, q => by
    subst e
    have : Sl.sh A = S := by simpa using q
    subst this
    exact ⟨v, rfl, pv⟩
  | A :: As, _, n, ⟨v, r, e, pv, t⟩, i + 1, S, q => by
    subst e
    exact slots_start n t i S (by simpa using q)
theorem free_start {As : List AV} {n : Nat} {i : Nat} {T : Sl} {b : Addr} (h : (As.map Sl.sh ++ List.replicate n Sl.non)[i]? = some T) (hb : b ∈ T.ads) : False := by
  rcases List.mem_append.mp (List.mem_of_getElem? h) with z | z
  · obtain ⟨A, _, e⟩ := List.mem_map.mp z
    subst e
    exact no_ads hb
  · rw [List.eq_of_mem_replicate z] at hb
    exact no_adsN hb
theorem dis_start {As : List AV} {n : Nat} : Dis (As.map Sl.sh ++ List.replicate n Sl.non) := fun i j S T b h1 h2 hb hc => (free_start h1 hb).elim
abbrev endK (R : AV → Prop) (RO : List AV → Prop) : KS := { nx := fun _ => R aN, rt := fun A _ => R A, ro := fun As _ => RO As }
theorem fn_ok {x : Str} {st : Stmt} {ps N : List Str} {n : Nat} {C : Ct} (D : Std K mg x st ps) (S : FnScope N ps (defScope st)) (hl : ∀ As R RO, C As R RO → As.length = ps.length)
    (hb : ∀ (f : Addr) (cdv : Value) (A : Around) (outer : List Env) (s : Shared) (H : Hp), Room n (A.deeper (envOfC x (defScope st) s.heap.objs.size f cdv)) →
      ∃ t, PSs (cxN P w K mg base N x (defScope st) f cdv A outer s H) (defBody st) t ∧ ∀ F G0 As R RO, C As R RO → NX K F G0 t (As.map Sl.sh ++ List.replicate (N.length - ps.length) Sl.non) (endK R RO)) : Cal P w K mg base (n + 1) x ps (spOf K C) := by
  obtain ⟨f, fd, F, hm, hbd⟩ := D.ex
  refine ⟨f, fd, F.ok S (fun vs H Q E h => ?_) (fun cdv A outer s H vs Q E hr h => ?_), hm, F.kp, hbd⟩
  · obtain ⟨As, R, RO, G, hc, hv, _⟩ := h
    rw [hv.length]
    exact hl As R RO hc
  · obtain ⟨t, ht, hg⟩ := hb f cdv A outer s H hr
    refine ⟨t, PSs.nox (X := cxOf CX0 P w K mg base N x (defScope st) f cdv A outer s H E) ht, ?_⟩
    obtain ⟨As, R, RO, G, hc, hv, see, q1, q2⟩ := h
    have e : L2.start N vs = vs.map some ++ List.replicate (N.length - ps.length) none := by
      unfold L2.start
      rw [hv.length, hl As R RO hc]
    rw [e]
    have a : At K H G (As.map Sl.sh ++ List.replicate (N.length - ps.length) Sl.non) (vs.map some ++ List.replicate (N.length - ps.length) none) H G :=
      ⟨.refl G, L2.Same.refl H, see, fun _ _ _ q => q, by simp [hv.length], slots_start _ hv, dis_start⟩
    refine hg H G As R RO hc _ _ H G a ⟨fun γ' σ' H' G' h le a' => q1 aN .non H' G' h le a'.same a'.see a'.hid rfl, fun A γ' σ' v H' G' h le a' pv => q1 A v H' G' h le a'.same a'.see a'.hid pv,
      fun As' γ' σ' l vs' H' G' h le a' e1 e2 e3 hv' _ => q2 As' l vs' H' G' h le a'.same a'.see a'.hid e1 e2 e3 hv', fun _ _ _ _ z => z.elim, fun _ _ _ _ z => z.elim, fun _ _ _ _ _ _ z => z.elim⟩
/-- .. that changes its first argument -/
theorem fn_okM {x : Str} {st : Stmt} {p : Str} {ps N : List Str} {n : Nat} {C : Cm} (D : Std K mg x st (p :: ps)) (S : FnScope N (p :: ps) (defScope st)) (hl : ∀ S As R RO, C S As R RO → As.length = ps.length)
    (hb : ∀ (f : Addr) (cdv : Value) (A : Around) (outer : List Env) (s : Shared) (H : Hp), Room n (A.deeper (envOfC x (defScope st) s.heap.objs.size f cdv)) →
      ∃ t, PSs (cxN P w K mg base N x (defScope st) f cdv A outer s H) (defBody st) t ∧ ∀ F G0 l S As R RO, C S As R RO → NX K F G0 t (Sl.own l S :: (As.map Sl.sh ++ List.replicate (N.length - (p :: ps).length) Sl.non))
        { nx := fun γ => ∃ S', γ[0]? = some (.own l S') ∧ R aN S', rt := fun A γ => ∃ S', γ[0]? = some (.own l S') ∧ R A S', ro := fun As γ => ∃ S', γ[0]? = some (.own l S') ∧ RO As S' }) : Cal P w K mg base (n + 1) x (p :: ps) (spM K C) := by
  obtain ⟨f, fd, F, hm, hbd⟩ := D.ex
  refine ⟨f, fd, F.ok S (fun vs H Q E h => ?_) (fun cdv A outer s H vs Q E hr h => ?_), hm, F.kp, hbd⟩
  · obtain ⟨S', As, R, RO, G, l, ws, r, hc, e, hv, _⟩ := h
    rw [e, List.length_cons, List.length_cons, hv.length, hl S' As R RO hc]
  · obtain ⟨t, ht, hg⟩ := hb f cdv A outer s H hr
    refine ⟨t, PSs.nox (X := cxOf CX0 P w K mg base N x (defScope st) f cdv A outer s H E) ht, ?_⟩
    obtain ⟨S', As, R, RO, G, l, ws, r, hc, e, hv, see, hl1, hs, hn, q1, q2⟩ := h
    subst e
    have e : L2.start N (V.ref l :: r) = some (V.ref l) :: (r.map some ++ List.replicate (N.length - (p :: ps).length) none) := by
      unfold L2.start
      rw [List.length_cons, hv.length, hl S' As R RO hc]
      rfl
    rw [e]
    have a : At K (hid1 H l) G (Sl.own l S' :: (As.map Sl.sh ++ List.replicate (N.length - (p :: ps).length) Sl.non)) (some (V.ref l) :: (r.map some ++ List.replicate (N.length - (p :: ps).length) none)) H G := by
      refine ⟨.refl G, fun b o q => ?_, see, fun _ _ _ q => q, by simp [hv.length], fun i T q => ?_, fun i j S T b h1 h2 hb hc => ?_⟩
      · unfold hid1 at q
        by_cases hb : b = l
        · rw [if_pos hb] at q; cases q
        · rw [if_neg hb] at q; exact q
      · cases i with
        | zero =>
          have : Sl.own l S' = T := by simpa using q
          subst this
          exact ⟨rfl, ws, hl1, by unfold hid1; rw [if_pos rfl], hn, hs⟩
        | succ i => exact slots_start _ hv i T (by simpa using q)
      · cases i with
        | zero =>
          cases j with
          | zero => rfl
          | succ j => exact (free_start (by simpa using h2) hc).elim
        | succ i => exact (free_start (by simpa using h1) hb).elim
    have hidd : ∀ {G' : Vw} {H' : Hp} {γ' : List Sl} {σ' : L2.St} {S2 : List AV}, At K (hid1 H l) G γ' σ' H' G' → γ'[0]? = some (.own l S2) → ∀ b xs, H b ≠ none → G'.l b xs → G.l b xs := fun {G' H' γ' σ' S2} a' e0 b xs hb q => by
      by_cases hbl : b = l
      · subst hbl
        obtain ⟨_, _, _, _, g3, _⟩ := a'.ownAt e0
        exact absurd q (g3 xs)
      · exact a'.hid b xs (by unfold hid1; rw [if_neg hbl]; exact hb) q
    refine hg (hid1 H l) G l S' As R RO hc _ _ H G a ⟨fun γ' σ' H' G' ⟨S2, e0, h⟩ le a' => ?_, fun A γ' σ' v H' G' ⟨S2, e0, h⟩ le a' pv => ?_, fun As' γ' σ' m vs' H' G' ⟨S2, e0, h⟩ le a' e1 e2 e3 hv' e4 => ?_, fun _ _ _ _ z => z.elim, fun _ _ _ _ z => z.elim, fun _ _ _ _ _ _ z => z.elim⟩
    · obtain ⟨_, ws', g1, _, _, g4⟩ := a'.ownAt e0
      exact q1 aN S2 .non H' G' ws' h le a'.same a'.see (hidd a' e0) g1 g4 rfl
    · obtain ⟨_, ws', g1, _, _, g4⟩ := a'.ownAt e0
      exact q1 A S2 v H' G' ws' h le a'.same a'.see (hidd a' e0) g1 g4 pv
    · obtain ⟨_, ws', g1, _, g3, g4⟩ := a'.ownAt e0
      refine q2 As' S2 m vs' H' G' ws' h le a'.same a'.see (hidd a' e0) g1 g4 e1 ?_ e3 hv'
      by_cases hm : m = l
      · exact absurd (hm ▸ own_ads m S2) (e4 0 _ e0)
      · unfold hid1 at e2
        rw [if_neg hm] at e2
        exact e2
end
end Rl

/-! # Rl, fourth part: truth, isinstance, in, slices, comprehensions -/
namespace Rl
open PySem PySem.Spec PyProof.Rows L2
section
variable {K : PySem.W.Frag} {F : Hp} {G0 : Vw} {γ : List Sl} {t ta tb : TE} {k : AV → List Sl → Prop} {kt : Bool → List Sl → Prop} {ks : KS} {ts us : TS}
/-! ### for over a list or a tuple -/
def iOr (w1 w2 : TI) : TI := fun σ H R => w1 σ H R ∨ w2 σ H R
theorem pi_or {X : Cx} {tg it : Expr} {w1 w2 : TI} (h1 : PI X tg it w1) (h2 : PI X tg it w2) : PI X tg it (iOr w1 w2) := ⟨fun pins s σ H R I h => h.elim (h1.run pins s σ H R I) (h2.run pins s σ H R I)⟩
theorem gs_for_left {w1 w2 : TI} {g : TG} (h : GS K F G0 (tFor w1 g ts) γ ks) : GS K F G0 (tFor (iOr w1 w2) g ts) γ ks := fun D σ H G a s => .inl (h D σ H G a s)
theorem gs_for_right {w1 w2 : TI} {g : TG} (h : GS K F G0 (tFor w2 g ts) γ ks) : GS K F G0 (tFor (iOr w1 w2) g ts) γ ks := fun D σ H G a s => .inr (h D σ H G a s)
theorem gs_for_rng2 {ta : TA} {g : TG} (I : Nat → List Sl → Prop)
    (h : GA K F G0 ta γ fun As γ1 => ∃ lo j : Int, As = [aInt lo, aInt j] ∧ (-(2 ^ 62) ≤ lo ∧ lo < 2 ^ 62 ∧ -(2 ^ 62) ≤ j ∧ j < 2 ^ 62) ∧ I 0 γ1 ∧ (∀ (i : Nat) γ2, i < (j - lo).toNat → I i γ2 → GG K F G0 g (aInt (lo + i)) γ2 fun γ3 => GS K F G0 ts γ3 (ks.lop (I (i + 1)))) ∧ ∀ γ2, I (j - lo).toNat γ2 → ks.nx γ2) : GS K F G0 (tFor (iRng2 ta) g ts) γ ks := fun D σ H G a s =>
  h σ H G _ a fun As γ1 vs H1 G1 ⟨lo, j, e, j1, h0, hs, hd⟩ l1 a1 p1 => by
    subst e
    obtain ⟨v, r, rfl, pv, w, r', rfl, pw, rfl⟩ := p1
    refine ⟨lo, j, by rw [show v = V.int lo from pv, show w = V.int j from pw], j1, ?_⟩
    refine for_range (lo := lo) (n := (j - lo).toNat) (fun i σ H => ∃ γ2 G2, I i γ2 ∧ Vw.Le G1 G2 ∧ At K F G0 γ2 σ H G2) ⟨γ1, G1, h0, .refl G1, a1⟩ (fun i σ H hi ⟨γ2, G2, q1, q2, q3⟩ => ?_) fun σ H ⟨γ2, G2, q1, q2, q3⟩ => s.nx γ2 σ H G2 (hd γ2 q1) (l1.trans q2) q3
    refine hs i γ2 hi q1 σ H G2 _ _ q3 rfl fun γ3 σ3 H3 G3 h3 l3 a3 => ?_
    have l4 := q2.trans l3
    exact h3 _ σ3 H3 G3 a3 ⟨fun γ' σ' H' G' z l a' => ⟨γ', G', z, l4.trans l, a'⟩, fun A γ' σ' v H' G' z l => s.rt A γ' σ' v H' G' z (l1.trans (l4.trans l)), fun As γ' σ' w vs H' G' z l => s.ro As γ' σ' w vs H' G' z (l1.trans (l4.trans l)), fun γ' σ' H' G' z l => s.nx γ' σ' H' G' z (l1.trans (l4.trans l)), fun γ' σ' H' G' z l a' => ⟨γ', G', z, l4.trans l, a'⟩, fun S γ' σ' v H' G' z l => s.rn S γ' σ' v H' G' z (l1.trans (l4.trans l))⟩
/-- for x in a list of one's own that the body leaves as it is -/
theorem gs_for_own {i : Nat} {l : Addr} {As : List AV} {g : TG} (I : Nat → List Sl → Prop) (e : γ[i]? = some (.own l As)) (hI : ∀ n γ2, I n γ2 → γ2[i]? = some (.own l As))
    (h0 : I 0 γ) (hs : ∀ n B γ2, As[n]? = some B → I n γ2 → GG K F G0 g B γ2 fun γ3 => GS K F G0 ts γ3 (ks.lop (I (n + 1)))) (hd : ∀ γ2, I As.length γ2 → ks.nx γ2) : GS K F G0 (tFor (iList K (tVar i)) g ts) γ ks := fun D σ H G a s => by
  obtain ⟨e1, vs, h1, _, _, hv⟩ := a.ownAt e
  refine ⟨_, e1, l, rfl, ⟨vs, SqL.of h1⟩, ?_⟩
  have same : ∀ {γ2 : List Sl} {σ2 : L2.St} {H2 : Hp} {G2 : Vw} {n : Nat}, I n γ2 → At K F G0 γ2 σ2 H2 G2 → ∃ ws, H2 l = some (.lst ws) ∧ avs G2 As ws := fun {γ2 σ2 H2 G2 n} q a2 => by
    obtain ⟨_, ws, g1, _, _, g2⟩ := a2.ownAt (hI n γ2 q)
    exact ⟨ws, g1, g2⟩
  refine ⟨fun n m σ H => m = As.length - n ∧ n ≤ As.length ∧ ∃ γ2 G2, I n γ2 ∧ Vw.Le G G2 ∧ At K F G0 γ2 σ H G2, ⟨As.length, by simp, Nat.zero_le _, γ, G, h0, .refl G, a⟩, ?_⟩
  rintro n m σ2 H2 ⟨rfl, hn, γ2, G2, q1, q2, q3⟩
  obtain ⟨ws, w1, w2⟩ := same q1 q3
  by_cases hlt : n < As.length
  · have hlt2 : n < ws.length := by rw [w2.length]; exact hlt
    refine .inr ⟨⟨ws, ws[n], SqL.of w1, by simp [hlt2]⟩, fun σ' H' => ∃ γ2 G2, I (n + 1) γ2 ∧ Vw.Le G G2 ∧ At K F G0 γ2 σ' H' G2, fun σ' H' z => ⟨As.length - (n + 1), by omega, rfl, hlt, z⟩, fun x H' y => ?_⟩
    obtain ⟨e', y⟩ := y
    subst e'
    obtain ⟨B, eB, pB⟩ := w2.get' (y ws (SqL.of w1))
    refine hs n B γ2 eB q1 σ2 _ G2 x _ q3 pB fun γ3 σ3 H3 G3 h3 l3 a3 => ?_
    have l4 := q2.trans l3
    exact h3 _ σ3 H3 G3 a3 ⟨fun γ' σ' H' G' z l a' => ⟨γ', G', z, l4.trans l, a'⟩, fun A γ' σ' v H' G' z l => s.rt A γ' σ' v H' G' z (l4.trans l), fun As γ' σ' w vs H' G' z l => s.ro As γ' σ' w vs H' G' z (l4.trans l), fun γ' σ' H' G' z l => s.nx γ' σ' H' G' z (l4.trans l), fun γ' σ' H' G' z l a' => ⟨γ', G', z, l4.trans l, a'⟩, fun S γ' σ' v H' G' z l => s.rn S γ' σ' v H' G' z (l4.trans l)⟩
  · have en : n = As.length := by omega
    subst en
    exact .inl ⟨⟨ws, SqL.of w1, by rw [w2.length]; exact Nat.le_refl _⟩, s.nx γ2 σ2 H2 G2 (hd γ2 q1) q2 q3⟩

/-! ### truth -/
def Tru (A : AV) (b : Bool) : Prop := ∀ (K : PySem.W.Frag) (G : Vw) (H : Hp) (v : V), See K G H → A.p G v → TruV K v H b
theorem tru_b (b : Bool) : Tru (aB b) b := fun K G H v s p => by
  rw [show v = V.bl b from p]
  rfl
theorem tru_int (i : Int) : Tru (aInt i) (i != 0) := fun K G H v s p => by
  rw [show v = V.int i from p]
  rfl
theorem tru_n : Tru aN false := fun K G H v s p => by
  rw [show v = V.non from p]
  rfl
theorem emp_avs {G : Vw} : ∀ {As : List AV} {vs : List V}, avs G As vs → (!As.isEmpty) = !vs.isEmpty
  | [], _, h => by
    rw [show _ = [] from h]
    rfl
  | A :: As, _, ⟨v, r, e, _⟩ => by
    subst e
    rfl
theorem tru_lst (As : List AV) : Tru (aLst As) (!As.isEmpty) := fun K G H v s ⟨a, vs, e, ht, hv⟩ => by
  subst e
  exact .inl ⟨vs, s.seq (.inl ht), emp_avs hv⟩
theorem tru_tup (As : List AV) : Tru (aTup As) (!As.isEmpty) := fun K G H v s ⟨a, vs, e, ht, hv⟩ => by
  subst e
  exact .inr (.inl ⟨vs, s.t a vs ht, emp_avs hv⟩)
def tTr (K : PySem.W.Frag) (ta : TE) : TT := fun σ H Q => ta σ H fun x H' => ∃ k, TruV K x H' k ∧ Q k H'
theorem pt_tr {X : Cx} {a : Expr} {ta : TE} (ha : PE X a ta) (he : ∀ whole, isTrue a X.env whole = (do let v ← whole; standAt a.pos; holding [v] (truthy v)) := by intro _; rfl) : PT X a (tTr X.K ta) := pt_truth ha he
theorem gt_tr (h : GE K F G0 ta γ fun A γ1 => ∃ b, Tru A b ∧ kt b γ1) : GT K F G0 (tTr K ta) γ kt := fun σ H G Q a z =>
  h σ H G _ a fun A γ1 v H1 G1 ⟨b, e, h1⟩ l1 a1 p1 => ⟨b, e K G1 H1 v a1.see p1, z b γ1 H1 G1 h1 l1 a1⟩

/-! ### isinstance -/
def Tya (A : AV) (T : String) : Prop := ∀ (K : PySem.W.Frag) (G : Vw) (H : Hp) (v : V), See K G H → A.p G v → TyX K H v (.type T)
theorem tya_int (i : Int) : Tya (aInt i) "int" := fun K G H v s p => by
  rw [show v = V.int i from p]
  exact .base (.int i)
theorem tya_b (i : Bool) : Tya (aB i) "bool" := fun K G H v s p => by
  rw [show v = V.bl i from p]
  exact .base (.bl i)
theorem tya_s (i : Str) : Tya (aS i) "str" := fun K G H v s p => by
  rw [show v = V.str i from p]
  exact .base (.str i)
theorem tya_n : Tya aN "NoneType" := fun K G H v s p => by
  rw [show v = V.non from p]
  exact .base .non
theorem tya_tup (As : List AV) : Tya (aTup As) "tuple" := fun K G H v s ⟨a, vs, e, ht, hv⟩ => by
  subst e
  rcases s.t a vs ht with (h | ⟨o, h⟩) | ⟨o, its, n, h, hc, _⟩
  · exact .base (.tup h)
  · exact .fTuple h
  · exact .kTuple h hc
theorem tya_lst (As : List AV) : Tya (aLst As) "list" := fun K G H v s ⟨a, vs, e, ht, hv⟩ => by
  subst e
  rcases s.seq (.inl ht) with (h | ⟨o, h⟩) | ⟨o, its, n, h, hc, _⟩
  · exact .base (.lst h)
  · exact .base (.frz h)
  · exact .kList h hc
def rIsiA (K : PySem.W.Frag) : List V → Hp → VK → Prop := fun xs H Q => rIsi K xs H Q ∨ rIsiT K xs H Q
theorem call_isiA {X : Cx} : CallR X (.builtin "isinstance") (rIsiA X.K) := call_isi.or call_isiT
theorem n_isi {A : AV} {T n : String} {b : Bool} (h : Tya A T) (hk : kitB T n = some b) (q : k (aB b) γ) : ON K F G0 (rIsiA K) [A, aV (.ty n)] γ k := on_pure (fun H G xs Q s p z => by
  obtain ⟨v, r, rfl, pv, w, r', rfl, pw, rfl⟩ := p
  have e : w = V.ty n := pw
  subst e
  exact .inl ⟨v, .ty n, .type T, .type n, b, rfl, .ty n, h K G H v s pv, kit_ty hk, z _ rfl⟩) q

/-! ### in, of flat things -/
def rInStr (neg : Bool) : R2 := fun x y H Q => ∃ i j, x = .str i ∧ y = .str j ∧ Q (.bl (if neg then !(!(Builtin.Str.occurrences j i 0 j.length 1).isEmpty) else !(Builtin.Str.occurrences j i 0 j.length 1).isEmpty)) H
def rInSgn (neg : Bool) : R2 := fun x y H Q => ∃ (c : Nat) (z : Str), x = .str ⟨#[c]⟩ ∧ y = .str z ∧ Q (.bl (if neg then !decide (c ∈ z.cps.toList) else decide (c ∈ z.cps.toList))) H
def rInDat (K : PySem.W.Frag) (neg : Bool) : R2 := fun x y H Q => ∃ d ds, Dp K H x d ∧ Dp K H y (.list ds) ∧ SeqAt.shaped d = true ∧ SeqAt.shaped (.list ds) = true ∧ Q (.bl (if neg then !ds.any fun z => PyData.eqv z d else ds.any fun z => PyData.eqv z d)) H
def rInA (K : PySem.W.Frag) (neg : Bool) : R2 := fun x y H Q => rIn K neg x y H Q ∨ rInStr neg x y H Q ∨ rInDat K neg x y H Q ∨ rInSgn neg x y H Q
theorem room65 {n : Nat} {A : Around} (hr : Room n A) : A.units + 65 < cLine := by have := hr.un; omega
theorem op_inA {X : Cx} {n : Nat} (hr : Room n X.A) : OpR X (compareOp .In) (rInA X.K false) := op_in_seq.or (OpR.or (r := rInStr false) op_in_str (OpR.or (r := rInDat X.K false) (op_inD (room65 hr)) op_in_sign))
theorem op_notInA {X : Cx} {n : Nat} (hr : Room n X.A) : OpR X (compareOp .NotIn) (rInA X.K true) := op_notIn_seq.or (OpR.or (r := rInStr true) op_notIn_str (OpR.or (r := rInDat X.K true) (op_notInD (room65 hr)) op_notIn_sign))
theorem avs_flat {G : Vw} {α : Type} {f : α → V} : ∀ {xs : List α} {vs : List V}, avs G (xs.map fun x => aV (f x)) vs → vs = xs.map f
  | [], _, h => h
  | x :: xs, _, ⟨v, r, e, h, t⟩ => by
    subst e
    rw [avs_flat t, show v = f x from h]
    rfl
theorem o_in {α : Type} {f : α → V} {xs : List α} {v : V} {b : Bool} (neg : Bool) (hv : flatV v = true) (hf : ∀ x, flatV (f x) = true) (e : inV v (xs.map f) = b) {A : AV} (hA : A = aLst (xs.map fun x => aV (f x)) ∨ A = aTup (xs.map fun x => aV (f x))) (q : k (aB (if neg then !b else b)) γ) : O2 K F G0 (rInA K neg) (aV v) A γ k := o2_pure (fun H G x y Q s px py z => by
  have ex : x = v := px
  subst ex
  have hall : (xs.map f).all flatV = true := by
    rw [List.all_map, List.all_eq_true]
    intro y _
    exact hf y
  rcases hA with hA | hA
  · subst hA
    obtain ⟨a, vs, rfl, ht, hvs⟩ := py
    have := avs_flat hvs
    subst this
    refine .inl ⟨a, _, rfl, .inl (s.seq (.inl ht)), hv, hall, z _ ?_⟩
    rw [e]
    rfl
  · subst hA
    obtain ⟨a, vs, rfl, ht, hvs⟩ := py
    have := avs_flat hvs
    subst this
    refine .inl ⟨a, _, rfl, .inr (s.t a _ ht), hv, hall, z _ ?_⟩
    rw [e]
    rfl) q
theorem inV_int (i : Int) (xs : List Int) : inV (.int i) (xs.map V.int) = decide (i ∈ xs) := by
  unfold inV
  rw [List.any_map]
  rw [Bool.eq_iff_iff, List.any_eq_true, decide_eq_true_iff]
  constructor
  · rintro ⟨y, hy, e⟩
    have : y = i := by simpa [Function.comp, eqV] using e
    rw [← this]
    exact hy
  · intro h
    exact ⟨i, h, by simp [Function.comp, eqV]⟩
theorem inV_str (i : Str) (xs : List Str) : inV (.str i) (xs.map V.str) = decide (i ∈ xs) := by
  unfold inV
  rw [List.any_map]
  rw [Bool.eq_iff_iff, List.any_eq_true, decide_eq_true_iff]
  constructor
  · rintro ⟨y, hy, e⟩
    have : y = i := by simpa [Function.comp, eqV] using e
    rw [← this]
    exact hy
  · intro h
    exact ⟨i, h, by simp [Function.comp, eqV]⟩
theorem inV_b (i : Bool) (xs : List Bool) : inV (.bl i) (xs.map V.bl) = decide (i ∈ xs) := by
  unfold inV
  rw [List.any_map]
  rw [Bool.eq_iff_iff, List.any_eq_true, decide_eq_true_iff]
  constructor
  · rintro ⟨y, hy, e⟩
    have : y = i := by simpa [Function.comp, eqV] using e
    rw [← this]
    exact hy
  · intro h
    exact ⟨i, h, by simp [Function.comp, eqV]⟩

/-! ### slices -/
def rSlA (K : PySem.W.Frag) : V → Option Int → Option Int → Hp → VK → Prop := fun x lo hi H Q => rSlL K x lo hi H Q ∨ L2.rSlA K x lo hi H Q ∨ rSlS x lo hi H Q
theorem sl_any {X : Cx} : SlR X (rSlA X.K) := sl_list.or (sl_tupA.or sl_str)
def GP (K : PySem.W.Frag) (F : Hp) (G0 : Vw) (t : TO) (γ : List Sl) (k : Option Int → List Sl → Prop) : Prop := ∀ σ H G Q, At K F G0 γ σ H G → (∀ o γ' H' G', k o γ' → Vw.Le G G' → At K F G0 γ' σ H' G' → Q o H') → t σ H Q
theorem gp_no {k : Option Int → List Sl → Prop} (q : k none γ) : GP K F G0 tNoPart γ k := fun σ H G Q a z => z none γ H G q (.refl G) a
theorem gp_some {k : Option Int → List Sl → Prop} (h : GE K F G0 t γ fun A γ1 => ∃ i, A = aInt i ∧ k (some i) γ1) : GP K F G0 (tPart t) γ k := fun σ H G Q a z =>
  h σ H G _ a fun A γ1 v H1 G1 ⟨i, e, h1⟩ l1 a1 p1 => by
    subst e
    exact ⟨i, p1, z _ γ1 H1 G1 h1 l1 a1⟩
/-- the items of a slice -/
def cutL {α : Type} (xs : List α) (lo hi : Option Int) : List α := (xs.drop (HT.sIx xs.length 0 lo)).take (HT.sIx xs.length xs.length hi - HT.sIx xs.length 0 lo)
theorem cutL_map {α β : Type} (f : α → β) (xs : List α) (lo hi : Option Int) : cutL (xs.map f) lo hi = (cutL xs lo hi).map f := by
  unfold cutL
  rw [List.length_map, List.map_take, List.map_drop]
theorem avs.cut {G : Vw} {As : List AV} {vs : List V} (h : avs G As vs) (lo hi : Option Int) : avs G (cutL As lo hi) (cutV vs lo hi) := by
  unfold cutL cutV
  rw [← h.length]
  exact (h.drop _).take _
theorem go_slice {te : TE} {tl th : TO} {k : Addr → List AV → List Sl → Prop} (h : GE K F G0 te γ fun A γ1 => GP K F G0 tl γ1 fun lo γ2 => GP K F G0 th γ2 fun hi γ3 => ∃ As, A = aLst As ∧ AllA fun l => k l (cutL As lo hi) γ3) : GO K F G0 (tSl (rSlA K) te tl th) γ k := fun σ H G Q a z =>
  h σ H G _ a fun A γ1 v H1 G1 h1 l1 a1 p1 => h1 σ H1 G1 _ a1 fun lo γ2 H2 G2 h2 l2 a2 => h2 σ H2 G2 _ a2 fun hi γ3 H3 G3 ⟨As, e, h3⟩ l3 a3 => by
    subst e
    obtain ⟨b, vs, rfl, ht, hv⟩ := (aLst As).mono (l2.trans l3) p1
    exact .inl ⟨b, vs, rfl, a3.see.seq (.inl ht), fun p np => go_new z a3 (l1.trans (l2.trans l3)) np (h3 p) (hv.cut lo hi)⟩
/-- a slice of an own list, which stays one's own -/
theorem go_sliceOwn {i : Nat} {l0 : Addr} {As : List AV} {tl th : TO} {k : Addr → List AV → List Sl → Prop} (e : γ[i]? = some (.own l0 As)) (h : GP K F G0 tl γ fun lo γ2 => γ2 = γ ∧ GP K F G0 th γ2 fun hi γ3 => γ3 = γ ∧ AllA fun l => k l (cutL As lo hi) γ) : GO K F G0 (tSl (rSlA K) (tVar i) tl th) γ k := fun σ H G Q a z => by
  obtain ⟨e1, _⟩ := a.ownAt e
  refine ⟨_, e1, h σ H G _ a fun lo γ2 H2 G2 ⟨g2, h2⟩ l2 a2 => h2 σ H2 G2 _ a2 fun hi γ3 H3 G3 ⟨g3, h3⟩ l3 a3 => ?_⟩
  subst g2; subst g3
  obtain ⟨_, vs, h1, _, _, hv⟩ := a3.ownAt e
  exact .inl ⟨l0, vs, rfl, SqL.of h1, fun p np => go_new z a3 (l2.trans l3) np (h3 p) (hv.cut lo hi)⟩
/-! ### the script -/
theorem n_lenC {ns : List Int} {k : AV → List Sl → Prop} (q : k (aInt ns.length) γ) : ON K F G0 (rLen K) [aScr ns] γ k := on_pure (fun H G xs Q s p z => by
  obtain ⟨v, r, rfl, ⟨a, rfl, ht⟩, rfl⟩ := p
  exact ⟨_, (ns.map V.int).length, rfl, .inl ⟨_, s.seq (.inr ht), rfl⟩, z _ (by rw [List.length_map]; rfl)⟩) q
theorem o_ixC {ns : List Int} {i : Int} {k : AV → List Sl → Prop} (h0 : 0 ≤ i) (h1 : i < ns.length) (q : k (aInt (ns.getD i.toNat 0)) γ) : O2 K F G0 (rIx K) (aScr ns) (aInt i) γ k := o2_pure (fun H G x y Q s px py z => by
  obtain ⟨a, e, ht⟩ := px
  obtain ⟨n, rfl⟩ := Int.eq_ofNat_of_zero_le h0
  have hn : n < ns.length := by omega
  refine .inl ⟨a, _, n, .int (ns.getD n 0), e, py, s.seq (.inr ht), atI_nat ?_, z _ rfl⟩
  rw [List.getElem?_map, List.getElem?_eq_getElem hn, List.getD_eq_getElem?_getD, List.getElem?_eq_getElem hn]
  rfl) q
/-- xs[::-1] -/
def tRev (K : PySem.W.Frag) (te : TE) : TE := fun σ H Q => te σ H fun x H1 => ∃ a xs, x = .ref a ∧ SqL K H1 a xs ∧ ∀ p, H1 p = none → Q (.ref p) (upd H1 p (.lst xs.reverse))
theorem pe_rev {X : Cx} {e : Expr} {te : TE} {p2 p3 p4 pos : Pos} {j : Nat} (he : PE X e te) : PE X (.Subscript e (.Slice none none (some (.UnaryOp .USub (.Constant (.int 1) j p3) p4)) p2) pos) (tRev X.K te) := by
  refine ⟨fun pins s σ H Q I h => ?_⟩
  refine Subscript_ (thn (he.run pins s σ H _ I h) fun v s1 ⟨x, H1, I1, r1, q1⟩ => ?_)
  obtain ⟨a, xs, rfl, hx, q⟩ := q1
  cases r1
  refine wpAny_Slice ?_
  rw [evalPart_none]
  refine wpAny_pure (wpAny_pure ?_)
  rw [evalPart_some]
  refine thn ((pe_un un_neg (pe_int (X := X) (i := 1) (j := j) (pos := p3)) (pos := p4)).run pins s1 σ H1 (fun y H2 => H2 = H1 ∧ y = .int (-1)) I1 ⟨1, rfl, rfl, rfl⟩) fun vk s2 ⟨y, H2, I2, r2, e2, e3⟩ => ?_
  subst e2; subst e3
  obtain ⟨tk, rfl⟩ := r2
  obtain ⟨its, r, ht, hz⟩ := I2.list hx
  have hlen := r.length
  have I4 : Inv X pins σ H2 { s2 with heap := s2.heap.push { cls := .type "slice", data := .fields #[.none, .none, .int (-1) tk] } } := I2.kept (t' := s2.toks) fun b ob q => Heap.get?_push_of_some _ q
  obtain ⟨its4, r4, ht4, hz4⟩ := I4.list hx
  refine tail_any (ops := [.ref a, .ref s2.heap.objs.size]) (ht4.isList.typeIs) slot_list_getitem.lookup ?_ (by with_unfolding_all rfl)
  refine wpAny_getItem_list_slice ht4.isList (Heap.IsSliceOf.new ..) .none .none (.int (-1) tk) (by simp) ?_ (by have := r4.length; rw [List.size_toArray]; omega)
  rw [PySem.W.krv_pick]
  refine ⟨.ref _, _, I4.laid (t' := s2.toks) (o := .lst xs.reverse) (fun b ob q => Heap.get?_push_of_some _ q) (Nat.le_refl _) ?_, rfl, q _ (I4.hok.fresh (Nat.le_refl _))⟩
  exact ⟨by rw [List.length_reverse]; exact hz4, _, 0, r4.reverse, Heap.get?_push_size _ rfl⟩
theorem go_rev {te : TE} {k : Addr → List AV → List Sl → Prop} (h : GE K F G0 te γ fun A γ1 => ∃ As, A = aLst As ∧ AllA fun l => k l As.reverse γ1) : GO K F G0 (tRev K te) γ k := fun σ H G Q a z =>
  h σ H G _ a fun A γ1 v H1 G1 ⟨As, e, h1⟩ l1 a1 p1 => by
    subst e
    obtain ⟨b, vs, rfl, ht, hv⟩ := p1
    exact ⟨b, vs, rfl, a1.see.seq (.inl ht), fun p np => go_new z a1 l1 np (h1 p) hv.reverse⟩
end
end Rl

/-! # Rl, fifth part: what a for walks, comprehensions -/
namespace Rl
open PySem PySem.Spec PyProof.Rows L2
/-- the walked things, one behind the other -/
structure Src (K : PySem.W.Frag) (J : It) (As : List AV) (G1 : Vw) : Prop where
  go : ∀ (i : Nat) H G, Vw.Le G1 G → See K G H → i < As.length → J.go i H
  yld : ∀ (i : Nat) H G B v H', Vw.Le G1 G → See K G H → As[i]? = some B → J.yld i H v H' → Same H H' ∧ ∃ G', Vw.Le G G' ∧ See K G' H' ∧ (∀ b xs, G'.l b xs → G.l b xs) ∧ B.p G' v
  stop : ∀ H G, Vw.Le G1 G → See K G H → J.stop As.length H
def GI (K : PySem.W.Frag) (F : Hp) (G0 : Vw) (wi : TI) (γ : List Sl) (k : List AV → List Sl → Prop) : Prop := ∀ σ H G R, At K F G0 γ σ H G → (∀ As γ' H' G' J, k As γ' → Vw.Le G G' → At K F G0 γ' σ H' G' → Src K J As G' → R J H') → wi σ H R
section
variable {K : PySem.W.Frag} {F : Hp} {G0 : Vw} {γ : List Sl} {k : List AV → List Sl → Prop} {ks : KS} {ts : TS}
theorem See.addT {G : Vw} {H : Hp} {p : Addr} {vs : List V} (s : See K G H) (h : SqT K H p vs) : See K (G.addT p vs) H := ⟨fun a xs q => by
  rcases q with q | ⟨rfl, rfl⟩
  · exact s.t a xs q
  · exact h, s.l, s.c, s.h, s.k⟩
theorem gi_list {te : TE} (h : GE K F G0 te γ fun A γ1 => ∃ As, A = aLst As ∧ k As γ1) : GI K F G0 (iList K te) γ k := fun σ H G R a z =>
  h σ H G _ a fun A γ1 v H1 G1 ⟨As, e, h1⟩ l1 a1 p1 => by
    subst e
    obtain ⟨b, vs, rfl, hb, hv⟩ := p1
    refine ⟨b, rfl, ⟨vs, a1.see.seq (.inl hb)⟩, z As γ1 H1 G1 _ h1 l1 a1 ⟨fun i H G le s hi => ?_, fun i H G B v H' le s hB y => ?_, fun H G le s => ?_⟩⟩
    · have hi' : i < vs.length := by rw [hv.length]; exact hi
      exact ⟨vs, vs[i], s.seq (.inl (le.l b vs hb)), by simp [hi']⟩
    · obtain ⟨e, y⟩ := y
      subst e
      obtain ⟨w, e1, p⟩ := hv.get hB
      have e2 := y vs (s.seq (.inl (le.l b vs hb)))
      rw [e1] at e2
      cases e2
      exact ⟨L2.Same.refl _, G, .refl G, s, fun _ _ q => q, B.mono le p⟩
    · exact ⟨vs, s.seq (.inl (le.l b vs hb)), by rw [hv.length]; exact Nat.le_refl _⟩
theorem gi_tup {te : TE} (h : GE K F G0 te γ fun A γ1 => ∃ As, A = aTup As ∧ k As γ1) : GI K F G0 (iTup K te) γ k := fun σ H G R a z =>
  h σ H G _ a fun A γ1 v H1 G1 ⟨As, e, h1⟩ l1 a1 p1 => by
    subst e
    obtain ⟨b, vs, rfl, hb, hv⟩ := p1
    refine ⟨b, rfl, ⟨vs, a1.see.t b vs hb⟩, z As γ1 H1 G1 _ h1 l1 a1 ⟨fun i H G le s hi => ?_, fun i H G B v H' le s hB y => ?_, fun H G le s => ?_⟩⟩
    · have hi' : i < vs.length := by rw [hv.length]; exact hi
      exact ⟨vs, vs[i], s.t b vs (le.t b vs hb), by simp [hi']⟩
    · obtain ⟨e, y⟩ := y
      subst e
      obtain ⟨w, e1, p⟩ := hv.get hB
      have e2 := y vs (s.t b vs (le.t b vs hb))
      rw [e1] at e2
      cases e2
      exact ⟨L2.Same.refl _, G, .refl G, s, fun _ _ q => q, B.mono le p⟩
    · exact ⟨vs, s.t b vs (le.t b vs hb), by rw [hv.length]; exact Nat.le_refl _⟩
theorem gi_left {w1 w2 : TI} (h : GI K F G0 w1 γ k) : GI K F G0 (iOr w1 w2) γ k := fun σ H G R a z => .inl (h σ H G R a z)
theorem gi_right {w1 w2 : TI} (h : GI K F G0 w2 γ k) : GI K F G0 (iOr w1 w2) γ k := fun σ H G R a z => .inr (h σ H G R a z)
/-- lo, lo + 1, .. -/
def upFrom (lo : Int) (n : Nat) : List Int := (List.range n).map fun i => lo + (i : Nat)
theorem upFrom_len (lo : Int) (n : Nat) : (upFrom lo n).length = n := by
  unfold upFrom
  rw [List.length_map, List.length_range]
theorem upFrom_get {lo : Int} {n i : Nat} {x : Int} (h : (upFrom lo n)[i]? = some x) : x = lo + i ∧ i < n := by
  unfold upFrom at h
  rw [List.getElem?_map] at h
  by_cases hi : i < n
  · rw [List.getElem?_range hi] at h
    cases h
    exact ⟨rfl, hi⟩
  · rw [List.getElem?_eq_none (by rw [List.length_range]; omega)] at h
    cases h
theorem src_rng (G : Vw) (lo : Int) (n : Nat) : Src K (Itr lo n) ((upFrom lo n).map aInt) G := ⟨fun i H G le s hi => by
    rw [List.length_map, upFrom_len] at hi
    exact hi, fun i H G B v H' le s hB y => by
    obtain ⟨e, y⟩ := y
    subst e
    rw [List.getElem?_map] at hB
    cases e : (upFrom lo n)[i]? with
    | none => rw [e] at hB; cases hB
    | some x =>
      rw [e] at hB
      cases hB
      refine ⟨L2.Same.refl _, G, .refl G, s, fun _ _ q => q, ?_⟩
      rw [(upFrom_get e).1]
      exact y, fun H G le s => by
    rw [List.length_map, upFrom_len]
    exact Nat.le_refl _⟩
theorem gi_rng1 {ta : TA} (h : GA K F G0 ta γ fun As γ1 => ∃ j : Int, As = [aInt j] ∧ -(2 ^ 62) ≤ j ∧ j < 2 ^ 62 ∧ k ((upFrom 0 j.toNat).map aInt) γ1) : GI K F G0 (iRng1 ta) γ k := fun σ H G R a z =>
  h σ H G _ a fun As γ1 vs H1 G1 ⟨j, e, j1, j2, h1⟩ l1 a1 p1 => by
    subst e
    obtain ⟨v, r, rfl, pv, rfl⟩ := p1
    exact ⟨j, by rw [show v = V.int j from pv], j1, j2, z _ γ1 H1 G1 _ h1 l1 a1 (src_rng G1 0 j.toNat)⟩
theorem gi_rng2 {ta : TA} (h : GA K F G0 ta γ fun As γ1 => ∃ lo j : Int, As = [aInt lo, aInt j] ∧ (-(2 ^ 62) ≤ lo ∧ lo < 2 ^ 62 ∧ -(2 ^ 62) ≤ j ∧ j < 2 ^ 62) ∧ k ((upFrom lo (j - lo).toNat).map aInt) γ1) : GI K F G0 (iRng2 ta) γ k := fun σ H G R a z =>
  h σ H G _ a fun As γ1 vs H1 G1 ⟨lo, j, e, j1, h1⟩ l1 a1 p1 => by
    subst e
    obtain ⟨v, r, rfl, pv, w, r', rfl, pw, rfl⟩ := p1
    exact ⟨lo, j, by rw [show v = V.int lo from pv, show w = V.int j from pw], j1, z _ γ1 H1 G1 _ h1 l1 a1 (src_rng G1 lo (j - lo).toNat)⟩
theorem gi_str {te : TE} (h : GE K F G0 te γ fun A γ1 => ∃ x : Str, A = aS x ∧ k (x.cps.toList.map fun c => aS ⟨#[c]⟩) γ1) : GI K F G0 (iStr te) γ k := fun σ H G R a z =>
  h σ H G _ a fun A γ1 v H1 G1 ⟨x, e, h1⟩ l1 a1 p1 => by
    subst e
    refine ⟨x, p1, z _ γ1 H1 G1 _ h1 l1 a1 ⟨fun i H G le s hi => ?_, fun i H G B v H' le s hB y => ?_, fun H G le s => ?_⟩⟩
    · rw [List.length_map, Array.length_toList] at hi
      exact hi
    · obtain ⟨e, c, ec, y⟩ := y
      subst e
      rw [List.getElem?_map, Array.getElem?_toList, ec] at hB
      cases hB
      exact ⟨L2.Same.refl _, G, .refl G, s, fun _ _ q => q, y⟩
    · rw [List.length_map, Array.length_toList]
      exact Nat.le_refl _
/-- (0, x), (1, y), .. -/
def enumA : Nat → List AV → List AV
  | _, [] => []
  | n, A :: As => aTup [aInt (n : Nat), A] :: enumA (n + 1) As
theorem enumA_len : ∀ (n : Nat) (As : List AV), (enumA n As).length = As.length
  | _, [] => rfl
  | n, A :: As => by
    show (enumA (n + 1) As).length + 1 = As.length + 1
    rw [enumA_len]
theorem enumA_get : ∀ (n : Nat) (As : List AV) (i : Nat) (B : AV), (enumA n As)[i]? = some B → ∃ A, As[i]? = some A ∧ B = aTup [aInt ((n + i : Nat)), A]
  | _, [], _, _, h => by cases h
  | n, A :: As, 0, B, h => by
    have : aTup [aInt (n : Nat), A] = B := by simpa [enumA] using h
    exact ⟨A, rfl, this.symm⟩
  | n, A :: As, i + 1, B, h => by
    obtain ⟨A', h1, h2⟩ := enumA_get (n + 1) As i B (by simpa [enumA] using h)
    exact ⟨A', by simpa using h1, by rw [h2, show n + 1 + i = n + (i + 1) by omega]⟩
theorem gi_enum {ta : TA} (h : GA K F G0 ta γ fun Cs γ1 => ∃ As, Cs = [aLst As] ∧ k (enumA 0 As) γ1) : GI K F G0 (iEnum K ta) γ k := fun σ H G R a z =>
  h σ H G _ a fun Cs γ1 vs H1 G1 ⟨As, e, h1⟩ l1 a1 p1 => by
    subst e
    obtain ⟨v, r, rfl, ⟨b, ws, rfl, hb, hv⟩, rfl⟩ := p1
    refine ⟨b, ws, rfl, a1.see.seq (.inl hb), z _ γ1 H1 G1 _ h1 l1 a1 ⟨fun i H G le s hi => ?_, fun i H G B v H' le s hB y => ?_, fun H G le s => ?_⟩⟩
    · rw [enumA_len] at hi
      have hi' : i < ws.length := by rw [hv.length]; exact hi
      exact ⟨ws, ws[i], s.seq (.inl (le.l b ws hb)), by simp [hi']⟩
    · obtain ⟨T, x, rfl, nT, rfl, y⟩ := y
      obtain ⟨A, hA, rfl⟩ := enumA_get 0 As i B hB
      obtain ⟨w, e1, p⟩ := hv.get hA
      have e2 := y ws (s.seq (.inl (le.l b ws hb)))
      rw [e1] at e2
      cases e2
      refine ⟨same_upd nT, G.addT T _, G.leT T _, (s.same (same_upd nT)).addT (SqT.of upd_same), fun _ _ q => q, T, _, rfl, .inr ⟨rfl, rfl⟩, _, _, rfl, ?_, _, [], rfl, A.mono (le.trans (G.leT T _)) p, rfl⟩
      show V.int (i : Nat) = V.int ((0 + i : Nat))
      rw [Nat.zero_add]
    · rw [enumA_len]
      exact ⟨ws, s.seq (.inl (le.l b ws hb)), by rw [hv.length]; exact Nat.le_refl _⟩
theorem gi_zip {ta : TA} (h : GA K F G0 ta γ fun Cs γ1 => ∃ As Bs, Cs = [aLst As, aLst Bs] ∧ As.length = Bs.length ∧ k (List.zipWith (fun A B => aTup [A, B]) As Bs) γ1) : GI K F G0 (iZip K ta) γ k := fun σ H G R a z =>
  h σ H G _ a fun Cs γ1 vs H1 G1 ⟨As, Bs, e, el, h1⟩ l1 a1 p1 => by
    subst e
    obtain ⟨v, r, rfl, ⟨b, ws, rfl, hb, hv⟩, v2, r2, rfl, ⟨b2, ws2, rfl, hb2, hv2⟩, rfl⟩ := p1
    have hlen : (List.zipWith (fun A B => aTup [A, B]) As Bs).length = As.length := by rw [List.length_zipWith, el, Nat.min_self]
    refine ⟨b, b2, ws, ws2, rfl, a1.see.seq (.inl hb), a1.see.seq (.inl hb2), z _ γ1 H1 G1 _ h1 l1 a1 ⟨fun i H G le s hi => ?_, fun i H G B v H' le s hB y => ?_, fun H G le s => ?_⟩⟩
    · rw [hlen] at hi
      have hi' : i < ws.length := by rw [hv.length]; exact hi
      have hi2 : i < ws2.length := by rw [hv2.length, ← el]; exact hi
      exact ⟨ws, ws2, ws[i], ws2[i], s.seq (.inl (le.l b ws hb)), s.seq (.inl (le.l b2 ws2 hb2)), by simp [hi'], by simp [hi2]⟩
    · obtain ⟨T, x, x2, rfl, nT, rfl, y, y2⟩ := y
      rw [List.getElem?_zipWith] at hB
      cases eA : As[i]? with
      | none => rw [eA] at hB; cases hB
      | some A =>
        cases eB : Bs[i]? with
        | none => rw [eA, eB] at hB; cases hB
        | some B2 =>
          rw [eA, eB] at hB
          cases hB
          obtain ⟨w, e1, p⟩ := hv.get eA
          obtain ⟨w2, e12, p2⟩ := hv2.get eB
          have e2 := y ws (s.seq (.inl (le.l b ws hb)))
          rw [e1] at e2
          cases e2
          have e3 := y2 ws2 (s.seq (.inl (le.l b2 ws2 hb2)))
          rw [e12] at e3
          cases e3
          exact ⟨same_upd nT, G.addT T _, G.leT T _, (s.same (same_upd nT)).addT (SqT.of upd_same), fun _ _ q => q, T, _, rfl, .inr ⟨rfl, rfl⟩, _, _, rfl, A.mono (le.trans (G.leT T _)) p, _, [], rfl, B2.mono (le.trans (G.leT T _)) p2, rfl⟩
    · rw [hlen]
      exact ⟨ws, ws2, s.seq (.inl (le.l b ws hb)), s.seq (.inl (le.l b2 ws2 hb2)), .inl (by rw [hv.length]; exact Nat.le_refl _)⟩

/-! ### for -/
theorem gs_for {wi : TI} {g : TG} (I : Nat → List Sl → Prop)
    (h : GI K F G0 wi γ fun As γ1 => I 0 γ1 ∧ (∀ i B γ2, As[i]? = some B → I i γ2 → GG K F G0 g B γ2 fun γ3 => GS K F G0 ts γ3 (ks.lop (I (i + 1)))) ∧ ∀ γ2, I As.length γ2 → ks.nx γ2) : GS K F G0 (tFor wi g ts) γ ks := fun D σ H G a s =>
  h σ H G _ a fun As γ1 H1 G1 J ⟨h0, hs, hd⟩ l1 a1 src => by
    refine ⟨fun n m σ H => m = As.length - n ∧ n ≤ As.length ∧ ∃ γ2 G2, I n γ2 ∧ Vw.Le G1 G2 ∧ At K F G0 γ2 σ H G2, ⟨As.length, by simp, Nat.zero_le _, γ1, G1, h0, .refl G1, a1⟩, ?_⟩
    rintro n m σ2 H2 ⟨rfl, hn, γ2, G2, q1, q2, q3⟩
    by_cases hlt : n < As.length
    · refine .inr ⟨src.go n H2 G2 q2 q3.see hlt, fun σ' H' => ∃ γ2 G2, I (n + 1) γ2 ∧ Vw.Le G1 G2 ∧ At K F G0 γ2 σ' H' G2, fun σ' H' z => ⟨As.length - (n + 1), by omega, rfl, hlt, z⟩, fun x H' y => ?_⟩
      have eB : As[n]? = some As[n] := by simp [hlt]
      obtain ⟨sm, G3, le3, see3, hd3, pB⟩ := src.yld n H2 G2 As[n] x H' q2 q3.see eB y
      have a3 := q3.call le3 sm see3 fun b xs _ q => hd3 b xs q
      refine hs n As[n] γ2 eB q1 σ2 H' G3 x _ a3 pB fun γ3 σ3 H3 G4 h3 l3 a4 => ?_
      have l4 := q2.trans (le3.trans l3)
      exact h3 _ σ3 H3 G4 a4 ⟨fun γ' σ' H' G' z l a' => ⟨γ', G', z, l4.trans l, a'⟩, fun A γ' σ' v H' G' z l => s.rt A γ' σ' v H' G' z (l1.trans (l4.trans l)), fun As γ' σ' w vs H' G' z l => s.ro As γ' σ' w vs H' G' z (l1.trans (l4.trans l)), fun γ' σ' H' G' z l => s.nx γ' σ' H' G' z (l1.trans (l4.trans l)), fun γ' σ' H' G' z l a' => ⟨γ', G', z, l4.trans l, a'⟩, fun S γ' σ' v H' G' z l => s.rn S γ' σ' v H' G' z (l1.trans (l4.trans l))⟩
    · have en : n = As.length := by omega
      subst en
      exact .inl ⟨src.stop H2 G2 q2 q3.see, s.nx γ2 σ2 H2 G2 (hd γ2 q1) (l1.trans q2) q3⟩

/-! ### comprehensions -/
def wipeS (γ : List Sl) : List Nat → List Sl
  | [] => γ
  | v :: vs => (wipeS γ vs).set v .non
theorem wipe_len (σ : L2.St) (vs : List Nat) : (wipe σ vs).length = σ.length := wipe_length σ vs
theorem wipe_get {σ : L2.St} : ∀ (vs : List Nat) (i : Nat), i ∉ vs → (wipe σ vs)[i]? = σ[i]?
  | [], _, _ => rfl
  | v :: vs, i, h => by
    rw [List.mem_cons, not_or] at h
    show ((wipe σ vs).set v none)[i]? = σ[i]?
    rw [List.getElem?_set_ne (Ne.symm h.1)]
    exact wipe_get vs i h.2
theorem wipeS_get {γ : List Sl} : ∀ (vs : List Nat) (i : Nat) (S : Sl), (wipeS γ vs)[i]? = some S → S = .non ∨ (i ∉ vs ∧ γ[i]? = some S)
  | [], _, _, h => .inr ⟨by simp, h⟩
  | v :: vs, i, S, h => by
    by_cases hi : v = i
    · subst hi
      have h' : ((wipeS γ vs).set v .non)[v]? = some S := h
      rw [List.getElem?_set_self (set_lt h')] at h'
      cases h'
      exact .inl rfl
    · have h' : ((wipeS γ vs).set v .non)[i]? = some S := h
      rw [List.getElem?_set_ne hi] at h'
      rcases wipeS_get vs i S h' with z | ⟨z1, z2⟩
      · exact .inl z
      · exact .inr ⟨by rw [List.mem_cons, not_or]; exact ⟨Ne.symm hi, z1⟩, z2⟩
theorem wipeS_len (γ : List Sl) : ∀ vs : List Nat, (wipeS γ vs).length = γ.length
  | [] => rfl
  | v :: vs => by
    show ((wipeS γ vs).set v .non).length = γ.length
    rw [List.length_set]
    exact wipeS_len γ vs
theorem At.wipe {σ : L2.St} {H : Hp} {G : Vw} (a : At K F G0 γ σ H G) (vs : List Nat) : At K F G0 (wipeS γ vs) (wipe σ vs) H G := by
  refine ⟨a.le, a.same, a.see, a.hid, by rw [wipe_len, wipeS_len, a.len], fun i S h => ?_, fun i j S T b h1 h2 hb hc => ?_⟩
  · rcases wipeS_get vs i S h with z | ⟨z1, z2⟩
    · rw [z]; trivial
    · rw [wipe_get vs i z1]
      exact a.slot i S z2
  · rcases wipeS_get vs i _ h1 with z | ⟨_, z1⟩
    · rw [z] at hb
      exact (no_adsN hb).elim
    · rcases wipeS_get vs j _ h2 with z | ⟨_, z2⟩
      · rw [z] at hc
        exact (no_adsN hc).elim
      · exact a.dis i j S T b z1 z2 hb hc
theorem free_wipe {γ : List Sl} {b : Addr} {vs : List Nat} (h : Free γ b) : Free (wipeS γ vs) b := fun j T q hb => by
  rcases wipeS_get vs j _ q with z | ⟨_, z1⟩
  · rw [z] at hb
    exact no_adsN hb
  · exact h j T z1 hb
theorem At.unwipe {σ : L2.St} {H : Hp} {G : Vw} {vs : List Nat} (a : At K F G0 γ (L2.wipe σ vs) H G) : At K F G0 γ σ H G := by
  refine ⟨a.le, a.same, a.see, a.hid, (wipe_len σ vs).symm.trans a.len, fun i S h => ?_, a.dis⟩
  have z := a.slot i S h
  have up : ∀ v, (L2.wipe σ vs)[i]?.join = some v → σ[i]?.join = some v := fun v e => by
    rw [(wipe_some (join_some e)).1]
    rfl
  cases S with
  | non => trivial
  | sh A =>
    obtain ⟨v, e, p⟩ := z
    exact ⟨v, up v e, p⟩
  | own l As =>
    obtain ⟨e, p⟩ := z
    exact ⟨up _ e, p⟩
  | tr S =>
    obtain ⟨v, e, p⟩ := z
    exact ⟨v, up v e, p⟩
theorem wipe_none {τ : L2.St} {j : Nat} : ∀ {ws : List Nat}, j ∈ ws → j < τ.length → (L2.wipe τ ws)[j]? = some none
  | w :: ws, z, hl => by
    show ((L2.wipe τ ws).set w none)[j]? = some none
    by_cases hw : w = j
    · subst hw
      rw [List.getElem?_set_self (by rw [wipe_len]; exact hl)]
    · rw [List.getElem?_set_ne hw]
      rcases List.mem_cons.mp z with z | z
      · exact absurd z.symm hw
      · exact wipe_none z hl
theorem wipe_ext {σ τ : L2.St} {vs : List Nat} (hl : σ.length = τ.length) (h : ∀ j, j ∉ vs → σ[j]? = τ[j]?) : L2.wipe σ vs = L2.wipe τ vs := by
  apply List.ext_getElem?
  intro j
  by_cases hm : j ∈ vs
  · by_cases hj : j < σ.length
    · rw [wipe_none hm hj, wipe_none hm (hl ▸ hj)]
    · rw [List.getElem?_eq_none (by rw [wipe_len]; omega), List.getElem?_eq_none (by rw [wipe_len]; omega)]
  · rw [wipe_get vs j hm, wipe_get vs j hm]
    exact h j hm
theorem wipe_set {σ : L2.St} {i : Nat} {x : Option V} {vs : List Nat} (h : i ∈ vs) : L2.wipe (σ.set i x) vs = L2.wipe σ vs :=
  wipe_ext (by rw [List.length_set]) fun j hj => by rw [List.getElem?_set_ne (fun (e : i = j) => hj (e ▸ h))]
theorem wipe_idem (σ : L2.St) (vs : List Nat) : L2.wipe (L2.wipe σ vs) vs = L2.wipe σ vs := wipe_ext (wipe_len σ vs) fun j hj => wipe_get vs j hj
/-- the target's names are all forgotten -/
def Tg (vs : List Nat) (g : TG) : Prop := ∀ (v : V) (σ σ0 : L2.St) (H : Hp) (Q : L2.St → Hp → Prop), L2.wipe σ vs = L2.wipe σ0 vs → (g v σ H fun σ2 H2 => L2.wipe σ2 vs = L2.wipe σ0 vs → Q σ2 H2) → g v σ H fun σ2 H2 => L2.wipe σ2 vs = L2.wipe σ0 vs ∧ Q σ2 H2
theorem tg_name {vs : List Nat} {i : Nat} (h : i ∈ vs) : Tg vs (gName i) := fun v σ σ0 H Q e q => by
  have e' : L2.wipe (σ.set i (some v)) vs = L2.wipe σ0 vs := by rw [wipe_set h]; exact e
  exact ⟨e', q e'⟩
def Tgs (vs : List Nat) (u : TGs) : Prop := ∀ (xs : List V) (σ σ0 : L2.St) (H : Hp) (Q : L2.St → Hp → Prop), L2.wipe σ vs = L2.wipe σ0 vs → (u xs σ H fun σ2 H2 => L2.wipe σ2 vs = L2.wipe σ0 vs → Q σ2 H2) → u xs σ H fun σ2 H2 => L2.wipe σ2 vs = L2.wipe σ0 vs ∧ Q σ2 H2
theorem tgs_nil {vs : List Nat} : Tgs vs gNil := fun xs σ σ0 H Q e q => ⟨q.1, e, q.2 e⟩
theorem tgs_cons {vs : List Nat} {i : Nat} {u : TGs} (h : i ∈ vs) (hu : Tgs vs u) : Tgs vs (gCons (gName i) u) := fun xs σ σ0 H Q e q => by
  obtain ⟨v, r, rfl, q⟩ := q
  exact ⟨v, r, rfl, hu r (σ.set i (some v)) σ0 H Q (by rw [wipe_set h]; exact e) q⟩
theorem tg_tup {vs : List Nat} {n : Nat} {u : TGs} (hu : Tgs vs u) : Tg vs (gTup K n u) := fun v σ σ0 H Q e q => by
  obtain ⟨a, xs, e1, h1, h2, q⟩ := q
  exact ⟨a, xs, e1, h1, h2, hu xs σ σ0 H Q e q⟩
/-- inside: the list that grows is hidden from all -/
theorem At.enter {σ : L2.St} {H : Hp} {G : Vw} (a : At K F G0 γ σ H G) {D : Addr} {acc : List V} (hD : H D = some (.lst acc)) (hn : ∀ ys, ¬ G.l D ys) (ho : Free γ D) : At K (upd F D (.lst acc)) G γ σ H G := by
  refine ⟨.refl G, fun b o q => ?_, a.see, fun _ _ _ q => q, a.len, fun i S h => (a.slot i S h).move (.refl G) (fun _ _ _ e => e) (fun _ _ _ _ e => e) fun b hb e => ?_, a.dis⟩
  · by_cases hb : b = D
    · subst hb
      rw [upd_same] at q
      cases q
      exact hD
    · rw [upd_ne hb] at q
      exact a.same b o q
  · rw [upd_ne (fun (z : b = D) => ho i S h (z ▸ hb))]
    exact e
theorem At.leave {γ' : List Sl} {σ σ' : L2.St} {H H' : Hp} {G G' : Vw} {D : Addr} {acc : List V} (a : At K F G0 γ σ H G) (fD : F D = none) (hn : ∀ ys, ¬ G.l D ys) (b : At K (upd F D (.lst acc)) G γ' σ' H' G') :
    At K F G0 γ' σ' H' G' ∧ H' D = some (.lst acc) ∧ (∀ ys, ¬ G'.l D ys) ∧ Free γ' D := by
  refine ⟨⟨a.le.trans b.le, fun c o q => b.same c o ?_, b.see, fun c xs hc q => a.hid c xs hc (b.hid c xs ?_ q), b.len, fun i S h => (b.slot i S h).move (.refl G') (fun _ _ _ e => e) (fun _ _ _ _ e => e) fun c hc e => ?_, b.dis⟩, b.same D _ upd_same, fun ys q => hn ys (b.hid D ys (by rw [upd_same]; intro z; cases z) q), fun j T z hb => ?_⟩
  · rw [upd_ne (ne_of_none q fD)]
    exact q
  · by_cases hcD : c = D
    · rw [hcD, upd_same]; intro z; cases z
    · rw [upd_ne hcD]; exact hc
  · by_cases hl : c = D
    · rw [hl]; exact fD
    · rw [upd_ne hl] at e; exact e
  · obtain ⟨h2, _⟩ := b.has z hb
    rw [upd_same] at h2
    cases h2
/-- a list is written that no view, no slot tells of -/
theorem At.writeX {σ : L2.St} {H : Hp} {G : Vw} {D : Addr} {acc ws : List V} (a : At K F G0 γ σ H G) (hD : H D = some (.lst acc)) (fD : F D = none) (hn : ∀ ys, ¬ G.l D ys) (ho : Free γ D) : At K F G0 γ σ (upd H D (.lst ws)) G := by
  refine ⟨a.le, fun b o q => ?_, ⟨fun b xs q => ?_, fun b xs q => ?_, fun b xs q => ?_, fun b o q => ⟨by rw [upd_ne (ne_of (a.see.h b o q).1 hD (by rintro rfl; exact (a.see.h b _ q).2))]; exact (a.see.h b o q).1, (a.see.h b o q).2⟩, a.see.k⟩, a.hid, a.len, fun i S h => (a.slot i S h).move (.refl G) (fun b hb o e => ?_) (fun _ _ _ _ e => e) fun _ _ e => e, a.dis⟩
  · rw [upd_ne (ne_of_none q fD)]
    exact a.same b o q
  · rcases a.see.t b xs q with (z | ⟨o, z⟩) | z
    · exact .inl (.inl (by rw [upd_ne (ne_of z hD (by intro y; cases y))]; exact z))
    · exact .inl (.inr ⟨o, by rw [upd_ne (ne_of z hD (by intro y; cases y))]; exact z⟩)
    · exact .inr z
  · rw [upd_ne (fun (z : b = D) => hn xs (z ▸ q))]
    exact a.see.l b xs q
  · rcases a.see.c b xs q with ⟨o, z⟩ | z
    · exact .inl ⟨o, by rw [upd_ne (ne_of z hD (by intro y; cases y))]; exact z⟩
    · exact .inr z
  · rw [upd_ne (fun (z : b = D) => ho i S h (z ▸ hb))]
    exact e
/-- [e for x in xs if t]: a new list; I: the turn, what is made so far, the slots -/
theorem go_comp {wi : TI} {g : TG} {tt : TT} {te : TE} {vs : List Nat} {k : Addr → List AV → List Sl → Prop} (hg : Tg vs g)
    (h : GI K F G0 wi γ fun As γ1 => ∃ I : Nat → List AV → List Sl → Prop, I 0 [] (wipeS γ1 vs) ∧ As.length ≤ 100000 ∧ (∀ i acc γ2, I i acc γ2 → acc.length ≤ i) ∧
      (∀ F' G0' i B acc γ2, As[i]? = some B → I i acc γ2 → GG K F' G0' g B γ2 fun γ3 => GT K F' G0' tt γ3 fun b γ4 => (b = true → GE K F' G0' te γ4 fun C γ5 => I (i + 1) (acc ++ [C]) (wipeS γ5 vs)) ∧ (b = false → I (i + 1) acc (wipeS γ4 vs))) ∧
      ∀ l acc γ2, I As.length acc γ2 → k l acc γ2) : GO K F G0 (tLc wi g tt te vs) γ k := fun σ H G Q a z =>
  h σ H G _ a fun As γ1 H1 G1 J ⟨I, h0, hlen, hacc, hs, hd⟩ l1 a1 src D nD => by
    have fD := a1.noF nD
    have gD := a1.noL nD
    have oD := a1.noOwn nD
    have aw := (a1.up (same_upd (o := .lst []) nD)).wipe vs
    refine ⟨fun n m H => m = As.length - n ∧ n ≤ As.length ∧ ∃ γ2 G2 As' acc, I n As' γ2 ∧ Vw.Le G1 G2 ∧ At K F G0 γ2 (L2.wipe σ vs) H G2 ∧ H D = some (.lst acc) ∧ avs G2 As' acc ∧ (∀ ys, ¬ G2.l D ys) ∧ Free γ2 D,
      ⟨As.length, by simp, Nat.zero_le _, wipeS γ1 vs, G1, [], [], h0, .refl G1, aw, upd_same, rfl, gD, free_wipe oD⟩, ?_⟩
    rintro n m H2 ⟨rfl, hn, γ2, G2, As', acc, q1, q2, q3, q4, q5, q6, q7⟩
    by_cases hlt : n < As.length
    · refine .inr ⟨src.go n H2 G2 q2 q3.see hlt, fun H => ∃ γ2 G2 As' acc, I (n + 1) As' γ2 ∧ Vw.Le G1 G2 ∧ At K F G0 γ2 (L2.wipe σ vs) H G2 ∧ H D = some (.lst acc) ∧ avs G2 As' acc ∧ (∀ ys, ¬ G2.l D ys) ∧ Free γ2 D,
        fun H' y => ⟨As.length - (n + 1), by omega, rfl, hlt, y⟩, fun x H' y => ?_⟩
      have eB : As[n]? = some As[n] := by simp [hlt]
      obtain ⟨sm, G3, le3, see3, hd3, pB⟩ := src.yld n H2 G2 As[n] x H' q2 q3.see eB y
      have a3 := q3.call le3 sm see3 fun b xs _ q => hd3 b xs q
      have gD3 : ∀ ys, ¬ G3.l D ys := fun ys q => q6 ys (hd3 D ys q)
      have b3 := a3.enter (sm _ _ q4) gD3 q7
      have q5' : avs G3 As' acc := q5.mono le3
      refine hg x (L2.wipe σ vs) σ H' _ (wipe_idem σ vs) (hs (upd F D (.lst acc)) G3 n As[n] As' γ2 eB q1 (L2.wipe σ vs) H' G3 x _ b3 pB fun γ3 σ3 H3 G4 h3 l3 a4 hw => ?_)
      refine h3 σ3 H3 G4 _ a4 fun b γ4 H4 G5 h4 l4 a5 => ?_
      cases b with
      | false =>
        rw [if_neg Bool.false_ne_true]
        obtain ⟨a6, d6, n6, o6⟩ := a3.leave fD gD3 a5
        exact ⟨wipeS γ4 vs, G5, As', acc, h4.2 rfl, q2.trans (le3.trans (l3.trans l4)), hw ▸ a6.wipe vs, d6, q5'.mono (l3.trans l4), n6, free_wipe o6⟩
      | true =>
        rw [if_pos rfl]
        refine h4.1 rfl σ3 H4 G5 _ a5 fun C γ5 y H5 G6 h5 l5 a6 pC => ?_
        obtain ⟨a7, d7, n7, o7⟩ := a3.leave fD gD3 a6
        refine ⟨acc, d7, size_lt ?_, wipeS γ5 vs, G6, As' ++ [C], acc ++ [y], h5, q2.trans (le3.trans (l3.trans (l4.trans l5))), hw ▸ (a7.writeX d7 fD n7 o7).wipe vs, upd_same, ((q5'.mono (l3.trans (l4.trans l5))).append (.one pC)), n7, free_wipe o7⟩
        rw [q5.length]
        exact Nat.le_trans (hacc n As' γ2 q1) (by omega)
    · have en : n = As.length := by omega
      subst en
      exact .inl ⟨src.stop H2 G2 q2 q3.see, z D As' γ2 acc H2 G2 (hd D As' γ2 q1) (l1.trans q2) q3.unwipe q4 fD q6 q5 q7⟩
/-- the plain case: the slots stay as they are. e, c: the item's value, its test -/
theorem go_map {α : Type} {wi : TI} {g : TG} {tt : TT} {te : TE} {vs : List Nat} {k : Addr → List AV → List Sl → Prop} (f : α → AV) (xs : List α) (c : α → Bool) (e : α → AV) (hg : Tg vs g)
    (h : GI K F G0 wi γ fun As γ1 => xs.length ≤ 100000 ∧ As = xs.map f ∧
      (∀ F' G0' x, x ∈ xs → GG K F' G0' g (f x) (wipeS γ1 vs) fun γ3 => GT K F' G0' tt γ3 fun b γ4 => b = c x ∧ (b = true → GE K F' G0' te γ4 fun C γ5 => C = e x ∧ wipeS γ5 vs = (wipeS γ1 vs)) ∧ (b = false → wipeS γ4 vs = (wipeS γ1 vs))) ∧
      AllA fun l => k l ((xs.filter c).map e) (wipeS γ1 vs)) : GO K F G0 (tLc wi g tt te vs) γ k := by
  refine go_comp hg ?_
  intro σ H G R a z
  refine h σ H G R a fun As γ1 H1 G1 J ⟨h3, h1, h4, h5⟩ l1 a1 src => z As γ1 H1 G1 J ⟨fun i acc γ2 => γ2 = (wipeS γ1 vs) ∧ acc = ((xs.take i).filter c).map e, ⟨rfl, by rw [List.take_zero]; rfl⟩, by rw [h1, List.length_map]; exact h3, fun i acc γ2 ⟨_, q⟩ => ?_, fun F' G0' i B acc γ2 hB ⟨q1, q2⟩ => ?_, fun l acc γ2 ⟨q1, q2⟩ => ?_⟩ l1 a1 src
  · rw [q, List.length_map]
    exact Nat.le_trans (List.length_filter_le _ _) (by rw [List.length_take]; exact Nat.min_le_left _ _)
  · subst q1
    rw [h1, List.getElem?_map] at hB
    cases ex : xs[i]? with
    | none => rw [ex] at hB; cases hB
    | some x =>
      rw [ex] at hB
      cases hB
      have ht : xs.take (i + 1) = xs.take i ++ [x] := by rw [List.take_add_one, ex]; rfl
      intro σ H G v Q a p z
      refine h4 F' G0' x (List.mem_of_getElem? ex) σ H G v Q a p fun γ3 σ3 H3 G3 q3 l3 a3 => z γ3 σ3 H3 G3 (fun σ H G Q a z => q3 σ H G Q a fun b γ4 H4 G4 ⟨qb, q4, q5⟩ l4 a4 => z b γ4 H4 G4 ⟨fun hb => ?_, fun hb => ?_⟩ l4 a4) l3 a3
      · exact (q4 hb).mono fun C γ5 ⟨r1, r2⟩ => ⟨r2, by rw [ht, List.filter_append, List.map_append, q2, List.filter_cons_of_pos (by rw [← qb]; exact hb), r1]; rfl⟩
      · exact ⟨q5 hb, by rw [ht, List.filter_append, q2, List.filter_cons_of_neg (by rw [← qb, hb]; exact Bool.false_ne_true), List.filter_nil, List.append_nil]⟩
  · subst q1
    rw [q2, h1, List.length_map, List.take_of_length_le (Nat.le_refl _)]
    exact h5 l
theorem filter_all {α : Type} (xs : List α) : xs.filter (fun _ => true) = xs := by
  rw [List.filter_eq_self]
  intro _ _
  rfl
theorem gt_yes {kt : Bool → List Sl → Prop} (q : kt true γ) : GT K F G0 tYes γ kt := fun σ H G Q a z => z true γ H G q (.refl G) a
/-- .. without a test -/
theorem go_map1 {α : Type} {wi : TI} {g : TG} {te : TE} {vs : List Nat} {k : Addr → List AV → List Sl → Prop} (f : α → AV) (xs : List α) (e : α → AV) (hg : Tg vs g)
    (h : GI K F G0 wi γ fun As γ1 => xs.length ≤ 100000 ∧ As = xs.map f ∧
      (∀ F' G0' x, x ∈ xs → GG K F' G0' g (f x) (wipeS γ1 vs) fun γ3 => GE K F' G0' te γ3 fun C γ5 => C = e x ∧ wipeS γ5 vs = (wipeS γ1 vs)) ∧
      AllA fun l => k l (xs.map e) (wipeS γ1 vs)) : GO K F G0 (tLc wi g tYes te vs) γ k := by
  refine go_map f xs (fun _ => true) e hg ?_
  intro σ H G R a z
  refine h σ H G R a fun As γ1 H1 G1 J ⟨h3, h1, h4, h5⟩ l1 a1 src => z As γ1 H1 G1 J ⟨h3, h1, fun F' G0' x hx => ?_, fun l => by rw [filter_all]; exact h5 l⟩ l1 a1 src
  intro σ H G v Q a p z
  exact h4 F' G0' x hx σ H G v Q a p fun γ3 σ3 H3 G3 q3 l3 a3 => z γ3 σ3 H3 G3 (gt_yes ⟨rfl, fun _ => q3, fun hb => by cases hb⟩) l3 a3
end
end Rl

/-! # Rl, sixth part: the law's def, the head's facts -/
namespace Rl
open PySem PySem.Spec PyProof.Rows L2
/-! ### the rules with the written part by name -/
section
variable {X : Cx} {K : PySem.W.Frag} {tg l e o : Expr} {es elts : List Expr} {tl te to : TE} {t ta : TA} {p pos tpos apos cpos p2 p3 p4 : Pos} {n j kk : Nat}
theorem ix_seqK (h : X.K = K := by rfl) : IxR X (rIx K) := h ▸ ix_seq
theorem call_lenK (h : X.K = K := by rfl) : CallR X (.builtin "len") (rLen K) := h ▸ call_lenA
theorem call_isiK' (h : X.K = K := by rfl) : CallR X (.builtin "isinstance") (rIsiA K) := h ▸ call_isiA
theorem op_addK (h : X.K = K := by rfl) : OpR X (binaryOp .Add) (rAdd K) := h ▸ op_addA
theorem call_listK (h : X.K = K := by rfl) : CallR X (.type "list") (rListOf K) := h ▸ call_listA
theorem call_tupK (h : X.K = K := by rfl) : CallR X (.type "tuple") (rTupOf K) := h ▸ call_tupA
theorem op_eqK (hr : Room n X.A) (h : X.K = K := by rfl) : OpR X (compareOp .Eq) (rEqA K) := h ▸ op_eqA hr
theorem op_neK (hr : Room n X.A) (h : X.K = K := by rfl) : OpR X (compareOp .NotEq) (rNeA K) := h ▸ op_neA hr
theorem op_inK (hr : Room n X.A) (h : X.K = K := by rfl) : OpR X (compareOp .In) (rInA K false) := h ▸ op_inA hr
theorem op_notInK (hr : Room n X.A) (h : X.K = K := by rfl) : OpR X (compareOp .NotIn) (rInA K true) := h ▸ op_notInA hr
theorem sl_anyK (h : X.K = K := by rfl) : SlR X (rSlA K) := h ▸ sl_any
theorem pe_revK (he : PE X e te) (h : X.K = K := by rfl) : PE X (.Subscript e (.Slice none none (some (.UnaryOp .USub (.Constant (.int 1) j p3) p4)) p2) pos) (tRev K te) := h ▸ pe_rev he
theorem pt_trK (ha : PE X e te) (h : X.K = K := by rfl) (he : ∀ whole, isTrue e X.env whole = (do let v ← whole; standAt e.pos; holding [v] (truthy v)) := by intro _; rfl) : PT X e (tTr K te) := h ▸ pt_tr ha he
theorem pg_tupK {tt : TGs} {m : Nat} (hc : X.calm = true) (h : PGs X es tt) (hK : X.K = K := by rfl) (hn : (assignEach es X.env).length = m := by rfl) (hst : (assignEach es X.env).findIdx? (·.1) = none := by rfl) : PG X (.Tuple es kk pos) (gTup K m tt) := hK ▸ pg_tup hc h hn hst
theorem pi_listK (hl : PE X l tl) (h : X.K = K := by rfl) : PI X tg l (iList K tl) := h ▸ pi_list hl
theorem pi_tupK (hl : PE X l tl) (h : X.K = K := by rfl) : PI X tg l (iTup K tl) := h ▸ pi_tup hl
theorem pi_enumK (hg : Gl X "enumerate") (hm : X.mg "enumerate" = none) (ha : PA X [e] ta) (h : X.K = K := by rfl) (hs : starEach [e] X.env = [(false, eval e X.env)] := by rfl) :
    PI X (.Tuple elts kk tpos) (.Call (.Name "enumerate" p) [e] [] pos) (iEnum K ta) := h ▸ pi_enum hg hm ha hs
theorem pi_zipK {e2 : Expr} (hg : Gl X "zip") (hm : X.mg "zip" = none) (ha : PA X [e, e2] ta) (h : X.K = K := by rfl)
    (hs : starEach [e, e2] X.env = (false, eval e X.env) :: starEach [e2] X.env := by rfl) (hpl : (backTo pos (starEach [e2] X.env)).any (·.1) = false := by rfl) :
    PI X (.Tuple elts kk tpos) (.Call (.Name "zip" p) [e, e2] [] pos) (iZip K ta) := h ▸ pi_zip hg hm ha hs hpl
theorem pe_bm0K {name : Str} {T id : String} {r : V → List V → Hp → VK → Prop} (pa : PlainAttrs T) (slot : Slot T name id) (hty : typeOf (.builtin id) = pure (.type "method_descriptor")) (hm : MtR X id r) (ho : PE X o to) (h : X.K = K := by rfl)
    (hbase : attributeBase o name X.env (eval o X.env) = eval o X.env := by rfl) (hline : (apos.endLine == cpos.line) = true := by rfl) : PE X (.Call (.Attribute o name apos) [] [] cpos) (tBM0 K T r to) := h ▸ pe_bm0 pa slot hty hm ho hbase hline
theorem pe_bmK {name : Str} {T id : String} {r : V → List V → Hp → VK → Prop} (pa : PlainAttrs T) (slot : Slot T name id) (hty : typeOf (.builtin id) = pure (.type "method_descriptor")) (hm : MtR X id r) (ho : PE X o to) (ha : PA X (e :: es) t) (h : X.K = K := by rfl)
    (hbase : attributeBase o name X.env (eval o X.env) = eval o X.env := by rfl)
    (hfew : ((backTo cpos (starEach (e :: es) X.env)).all (fun x => !x.1) && (backToKw cpos (keywordEach [] X.env)).all (fun x => x.1.isSome)
      && decide ((e :: es).length + ([] : List Keyword).length + (if ([] : List Keyword).isEmpty then 0 else 1) < 30)) = true := by rfl)
    (hline : (apos.endLine == cpos.line) = true := by rfl) (hs : starEach (e :: es) X.env = (false, eval e X.env) :: starEach es X.env := by rfl) (hplain : (backTo cpos (starEach es X.env)).any (·.1) = false := by rfl) :
    PE X (.Call (.Attribute o name apos) (e :: es) [] cpos) (tBM K T r to t) := h ▸ pe_bm pa slot hty hm ho ha hbase hfew hline hs hplain
end
section
variable {P : Program} {w : World} {K : PySem.W.Frag} {mg : Str → Option Value} {base : Heap}
/-- the law's def, over its own function object -/
theorem law_ok {x : Str} {st : Stmt} {ps N : List Str} {n : Nat} {C : Ct} {f : Addr} {fd : FuncData} (F : FunD K x x (defArgs st) (defBody st) (defScope st) [] [] f fd) (S : FnScope N ps (defScope st)) (hl : ∀ As R RO, C As R RO → As.length = ps.length)
    (hb : ∀ (f : Addr) (cdv : Value) (A : Around) (outer : List Env) (s : Shared) (H : Hp), Room n (A.deeper (envOfC x (defScope st) s.heap.objs.size f cdv)) →
      ∃ t, PSs (cxN P w K mg base N x (defScope st) f cdv A outer s H) (defBody st) t ∧ ∀ F G0 As R RO, C As R RO → NX K F G0 t (As.map Sl.sh ++ List.replicate (N.length - ps.length) Sl.non) (endK R RO)) : FnOk P w K mg base CX0 (n + 1) f fd ps (spOf K C) := by
  refine F.ok S (fun vs H Q E h => ?_) (fun cdv A outer s H vs Q E hr h => ?_)
  · obtain ⟨As, R, RO, G, hc, hv, _⟩ := h
    rw [hv.length]
    exact hl As R RO hc
  · obtain ⟨t, ht, hg⟩ := hb f cdv A outer s H hr
    refine ⟨t, PSs.nox (X := cxOf CX0 P w K mg base N x (defScope st) f cdv A outer s H E) ht, ?_⟩
    obtain ⟨As, R, RO, G, hc, hv, see, q1, q2⟩ := h
    have e : L2.start N vs = vs.map some ++ List.replicate (N.length - ps.length) none := by
      unfold L2.start
      rw [hv.length, hl As R RO hc]
    rw [e]
    have a : At K H G (As.map Sl.sh ++ List.replicate (N.length - ps.length) Sl.non) (vs.map some ++ List.replicate (N.length - ps.length) none) H G :=
      ⟨.refl G, L2.Same.refl H, see, fun _ _ _ q => q, by simp [hv.length], slots_start _ hv, dis_start⟩
    refine hg H G As R RO hc _ _ H G a ⟨fun γ' σ' H' G' h le a' => q1 aN .non H' G' h le a'.same a'.see a'.hid rfl, fun A γ' σ' v H' G' h le a' pv => q1 A v H' G' h le a'.same a'.see a'.hid pv,
      fun As' γ' σ' l vs' H' G' h le a' e1 e2 e3 hv' _ => q2 As' l vs' H' G' h le a'.same a'.see a'.hid e1 e2 e3 hv', fun _ _ _ _ z => z.elim, fun _ _ _ _ z => z.elim, fun _ _ _ _ _ _ z => z.elim⟩
/-- the law: of any script of at most 63 ints it tells True -/
def ct_law : Ct := fun As R _ => ∃ ns : List Int, As = [aScr ns] ∧ ns.length ≤ 63 ∧ R (aB true)
theorem ct_law_len : ∀ As R RO, ct_law As R RO → As.length = [("script" : Str)].length := fun As R RO ⟨ns, e, _⟩ => by rw [e]; rfl
theorem avs_flats {α : Type} (f : α → V) (G : Vw) : ∀ xs : List α, avs G (xs.map fun x => aV (f x)) (xs.map f)
  | [] => rfl
  | x :: xs => ⟨_, _, rfl, rfl, avs_flats f G xs⟩
theorem law_start {H : Hp} {a : Addr} {ns : List Int} (hl : ns.length ≤ 63) (hO : Only H) (hS : SqL K H a (ns.map V.int)) : spOf K ct_law [.ref a] H (fun v _ => v = .bl true) fun _ _ _ => False := by
  refine ⟨[aScr ns], fun A => A = aB true, fun _ => False, ⟨fun _ _ => False, fun _ _ => False, fun b xs => b = a ∧ xs = ns.map V.int, fun _ _ => False, He.ga K⟩, ⟨ns, rfl, hl, rfl⟩, ⟨_, [], rfl, ⟨a, rfl, rfl, rfl⟩, rfl⟩, ⟨fun _ _ h => h.elim, fun _ _ h => h.elim, fun b xs h => ?_, fun _ _ h => h.elim, rfl⟩, fun A v H' G' h _ _ _ _ p => ?_, fun _ _ _ _ _ h => h.elim⟩
  · obtain ⟨rfl, rfl⟩ := h
    rcases hS with (h | h) | h
    · rcases hO b with z | ⟨o, xs, z⟩
      · rw [z] at h; cases h
      · rw [z] at h; cases h
    · exact .inl h
    · exact .inr h
  · subst h
    exact p
end
end Rl
namespace He
open PySem PySem.Spec PyProof.Rows L2
/-- the head's facts, with more of the written part -/
def obsR (n : Nat) (fa : List Fa) (fn : List DefD) (ex : PySem.W.Frag → Bool) (g : Addr → Option Obj) : AlD × Bool := (obsD fa fn (frG g (asD g n)), ex (frG g (asD g n)))
def hookR (n : Nat) (fa : List Fa) (fn : List DefD) (ex : PySem.W.Frag → Bool) : PySem.W.Hook where
  α := AlD × Bool
  obs := fun s => obsR n fa fn ex s.heap.get?
  val := fun _ => (valD fn, true)
  says := fun _ h => ∃ K : PySem.W.Frag, K.In h ∧ SaysD fa fn K ∧ ex K = true
  of := fun _ _ e => ⟨_, frG_in, congrArg (fun z : AlD × Bool => z.1) e, congrArg (fun z : AlD × Bool => z.2) e⟩
  keeps := fun _ _ _ ⟨K, hK, c⟩ k => ⟨K, PySem.W.Frag.In.keeps hK k, c⟩
theorem obsR_eq {n : Nat} {fa : List Fa} {fn : List DefD} {ex : PySem.W.Frag → Bool} {g : Addr → Option Obj} {s : Shared} (h : ∀ a, g a = s.heap.get? a) : obsR n fa fn ex g = (hookR n fa fn ex).obs s := by
  have e : g = s.heap.get? := funext h
  rw [e] <;> rfl
end He

/-! # Rl, seventh part: fractions, their sizes, sums -/
namespace Rl
open PySem PySem.Spec PyProof.Rows L2
/-! the greatest common divisor, as the two loops come to it -/
theorem gcd_step {a b : Int} (hb : b ≠ 0) : Int.gcd b (a.fmod b) = Int.gcd a b ∧ (a.fmod b).natAbs < b.natAbs := by
  constructor
  · have e : a.fmod b = a + b * (-(a.fdiv b)) := by
      have h := Int.mul_fdiv_add_fmod a b
      rw [Int.mul_neg]
      omega
    rw [e, Int.gcd_add_mul_left_right, Int.gcd_comm]
  · rcases Int.lt_or_gt_of_ne hb with h | h
    · have h1 := Int.fmod_lt_of_pos (-a) (show 0 < -b by omega)
      have h2 := Int.fmod_nonneg_of_pos (-a) (show 0 < -b by omega)
      rw [Int.neg_fmod_neg] at h1 h2
      omega
    · have h1 := Int.fmod_lt_of_pos a h
      have h2 := Int.fmod_nonneg_of_pos a h
      omega
theorem abs_if (a : Int) : (if a < 0 then -a else a) = (a.natAbs : Int) := by split <;> omega
/-! fractions are Lean's own rationals: top and bottom are num and den -/
abbrev aF (q : Rat) : AV := aTup [aInt q.num, aInt (q.den : Nat)]
theorem low_pos {t b : Int} (hb : 0 < b) : t.fdiv (Int.gcd t b : Nat) = (Rat.divInt t b).num ∧ b.fdiv (Int.gcd t b : Nat) = ((Rat.divInt t b).den : Nat) := by
  have hg : (0 : Int) ≤ (Int.gcd t b : Nat) := Int.natCast_nonneg _
  constructor
  · rw [Rat.num_divInt, Int.sign_eq_one_of_pos hb, Int.one_mul, Int.gcd_comm b t, Int.fdiv_eq_ediv_of_nonneg _ hg]
  · rw [Rat.den_divInt, if_neg (by omega), Int.fdiv_eq_ediv_of_nonneg _ hg, Int.gcd_comm b t, Int.natCast_ediv, Int.natAbs_of_nonneg (by omega)]
theorem low_neg {t b : Int} (hb : b < 0) : t.fdiv (0 - (Int.gcd t b : Nat)) = (Rat.divInt t b).num ∧ b.fdiv (0 - (Int.gcd t b : Nat)) = ((Rat.divInt t b).den : Nat) := by
  have hg : (0 : Int) ≤ (Int.gcd t b : Nat) := Int.natCast_nonneg _
  have e : ∀ x : Int, x.fdiv (0 - (Int.gcd t b : Nat)) = (-x).fdiv (Int.gcd t b : Nat) := fun x => by
    rw [← Int.neg_fdiv_neg (-x), Int.neg_neg, Int.zero_sub]
  constructor
  · rw [e, Rat.num_divInt, Int.sign_eq_neg_one_of_neg hb, Int.gcd_comm b t, Int.fdiv_eq_ediv_of_nonneg _ hg, Int.neg_one_mul]
  · rw [e, Rat.den_divInt, if_neg (by omega), Int.fdiv_eq_ediv_of_nonneg _ hg, Int.gcd_comm b t, Int.natCast_ediv]
    congr 1
    omega
theorem log2_lt_of_le {a b n : Nat} (h : b.log2 < n) (hab : a ≤ b) : a.log2 < n := by
  by_cases h0 : a = 0
  · subst h0
    rw [show Nat.log2 0 = 0 by rfl]
    omega
  · have hb : b ≠ 0 := by omega
    rw [Nat.log2_lt hb] at h
    rw [Nat.log2_lt h0]
    omega
theorem gcd_div {t b : Int} (hb : b ≠ 0) (hs : b.natAbs.log2 < 9000) : Int.gcd t b ≠ 0 ∧ (Int.gcd t b).log2 < 9000 := by
  have h1 : Int.gcd t b ≠ 0 := fun e => hb (Int.gcd_eq_zero_iff.mp e).2
  refine ⟨h1, log2_lt_of_le hs ?_⟩
  exact Nat.le_of_dvd (by omega) (Int.natAbs_dvd_natAbs.mpr (Int.gcd_dvd_right t b) |> fun h => by simpa using h)
theorem aF_zero : aF 0 = aTup [aInt 0, aInt 1] := rfl
/-! the size of a fraction's parts -/
structure Sz (n d : Nat) (q : Rat) : Prop where
  num : q.num.natAbs < 2 ^ n
  den : q.den < 2 ^ d
theorem two_mono {a b : Nat} (h : a ≤ b) : (2 : Nat) ^ a ≤ 2 ^ b := Nat.pow_le_pow_right (by decide) h
theorem Sz.mono {n d m e : Nat} {q : Rat} (h : Sz n d q) (hm : n ≤ m) (he : d ≤ e) : Sz m e q :=
  ⟨Nat.lt_of_lt_of_le h.num (two_mono hm), Nat.lt_of_lt_of_le h.den (two_mono he)⟩
theorem log2_lt_pow {x n : Nat} (h : x < 2 ^ n) (hn : 0 < n) : x.log2 < n := by
  by_cases h0 : x = 0
  · subst h0
    exact hn
  · exact (Nat.log2_lt h0).mpr h
theorem sz_divInt {t b : Int} {n d : Nat} (ht : t.natAbs < 2 ^ n) (hb : b.natAbs < 2 ^ d) (h0 : b ≠ 0) : Sz n d (Rat.divInt t b) := by
  constructor
  · rw [Rat.num_divInt]
    refine Nat.lt_of_le_of_lt ?_ ht
    rw [Int.natAbs_ediv_of_dvd]
    · refine Nat.le_trans (Nat.div_le_self _ _) ?_
      rw [Int.natAbs_mul]
      rcases Int.lt_or_gt_of_ne h0 with h | h
      · rw [Int.sign_eq_neg_one_of_neg h]; simp
      · rw [Int.sign_eq_one_of_pos h]; simp
    · exact Int.dvd_mul_of_dvd_right (Int.gcd_dvd_right b t)
  · rw [Rat.den_divInt, if_neg h0]
    exact Nat.lt_of_le_of_lt (Nat.div_le_self _ _) hb
theorem mulW {i j : Int} {a b : Nat} (ha : i.natAbs < 2 ^ a) (hb : j.natAbs < 2 ^ b) (h : a + b ≤ 900000) : CMulW i j :=
  wide_mul (a := a + 1) (b := b + 1) (Nat.lt_of_lt_of_le ha (two_mono (by omega))) (Nat.lt_of_lt_of_le hb (two_mono (by omega))) (by omega) (by omega) (by omega)
theorem natAbs_mul_lt {i j : Int} {a b : Nat} (ha : i.natAbs < 2 ^ a) (hb : j.natAbs < 2 ^ b) : (i * j).natAbs < 2 ^ (a + b) := wide_lt ha hb
theorem natAbs_add_lt {i j : Int} {a : Nat} (ha : i.natAbs < 2 ^ a) (hb : j.natAbs < 2 ^ a) : (i + j).natAbs < 2 ^ (a + 1) := by
  rw [Nat.pow_succ]
  omega
theorem natAbs_sub_lt {i j : Int} {a : Nat} (ha : i.natAbs < 2 ^ a) (hb : j.natAbs < 2 ^ a) : (i - j).natAbs < 2 ^ (a + 1) := by
  rw [Nat.pow_succ]
  omega
theorem Sz.den' {n d : Nat} {q : Rat} (h : Sz n d q) : ((q.den : Nat) : Int).natAbs < 2 ^ d := by
  rw [Int.natAbs_natCast]
  exact h.den
theorem den_ne (x y : Rat) : ((x.den : Nat) : Int) * ((y.den : Nat) : Int) ≠ 0 := by
  have h1 := x.den_pos
  have h2 := y.den_pos
  exact Int.mul_ne_zero (by omega) (by omega)
theorem add_divInt (x y : Rat) : Rat.divInt (x.num * y.den + y.num * x.den) (x.den * y.den) = x + y := by
  rw [← Rat.divInt_add_divInt _ _ (by have := x.den_pos; omega) (by have := y.den_pos; omega), Rat.num_divInt_den, Rat.num_divInt_den]
theorem sub_divInt (x y : Rat) : Rat.divInt (x.num * y.den - y.num * x.den) (x.den * y.den) = x - y := by
  rw [← Rat.divInt_sub_divInt _ _ (by have := x.den_pos; omega) (by have := y.den_pos; omega), Rat.num_divInt_den, Rat.num_divInt_den]
theorem mul_divInt (x y : Rat) : Rat.divInt (x.num * y.num) (x.den * y.den) = x * y := by
  rw [← Rat.divInt_mul_divInt, Rat.num_divInt_den, Rat.num_divInt_den]
theorem sz_top {x y : Rat} {a b c d : Nat} (hx : Sz a c x) (hy : Sz b d y) : (x.num * ((y.den : Nat) : Int)).natAbs < 2 ^ (a + d) := natAbs_mul_lt hx.num hy.den'
theorem sz_den {x y : Rat} {a b c d : Nat} (hx : Sz a c x) (hy : Sz b d y) : (((x.den : Nat) : Int) * ((y.den : Nat) : Int)).natAbs < 2 ^ (c + d) := natAbs_mul_lt hx.den' hy.den'
theorem sz_add {x y : Rat} {a b c d m : Nat} (hx : Sz a c x) (hy : Sz b d y) (h1 : a + d ≤ m) (h2 : b + c ≤ m) : Sz (m + 1) (c + d) (x + y) := by
  rw [← add_divInt]
  exact sz_divInt (natAbs_add_lt (Nat.lt_of_lt_of_le (sz_top hx hy) (two_mono h1)) (Nat.lt_of_lt_of_le (sz_top hy hx) (two_mono h2))) (sz_den hx hy) (den_ne x y)
theorem sz_sub {x y : Rat} {a b c d m : Nat} (hx : Sz a c x) (hy : Sz b d y) (h1 : a + d ≤ m) (h2 : b + c ≤ m) : Sz (m + 1) (c + d) (x - y) := by
  rw [← sub_divInt]
  exact sz_divInt (natAbs_sub_lt (Nat.lt_of_lt_of_le (sz_top hx hy) (two_mono h1)) (Nat.lt_of_lt_of_le (sz_top hy hx) (two_mono h2))) (sz_den hx hy) (den_ne x y)
theorem sz_mul {x y : Rat} {a b c d : Nat} (hx : Sz a c x) (hy : Sz b d y) : Sz (a + b) (c + d) (x * y) := by
  rw [← mul_divInt]
  exact sz_divInt (natAbs_mul_lt hx.num hy.num) (sz_den hx hy) (den_ne x y)
theorem sz_log {x y : Rat} {a b c d : Nat} (hx : Sz a c x) (hy : Sz b d y) (h : c + d ≤ 8990) : (((x.den : Nat) : Int) * ((y.den : Nat) : Int)).natAbs.log2 < 9000 := by
  have := log2_lt_pow (Nat.lt_of_lt_of_le (sz_den hx hy) (two_mono (show c + d ≤ c + d + 1 by omega))) (by omega)
  omega
theorem sz_neg {x : Rat} {n d : Nat} (h : Sz n d x) : Sz n d (-x) := ⟨by rw [Rat.neg_num, Int.natAbs_neg]; exact h.num, by rw [Rat.neg_den]; exact h.den⟩
theorem sz_zero : Sz 1 1 0 := ⟨by decide, by decide⟩
/-- the bits of a bottom -/
def wb (x : Rat) : Nat := x.den.log2 + 1
theorem wb_lt (x : Rat) : x.den < 2 ^ wb x := Nat.lt_log2_self
theorem wb_le {n d : Nat} {x : Rat} (h : Sz n d x) : wb x ≤ d := by
  have h0 : x.den ≠ 0 := x.den_nz
  have := (Nat.log2_lt h0).mpr h.den
  unfold wb
  omega
/-- sizes of all of them: tops below 2 ^ M, bottoms of D bits together -/
structure szl (M : Nat) (xs : List Rat) (D : Nat) : Prop where
  num : ∀ x ∈ xs, x.num.natAbs < 2 ^ M
  den : (xs.map wb).sum ≤ D
theorem szl.nil (M D : Nat) : szl M [] D := ⟨fun _ h => (by cases h), Nat.zero_le _⟩
theorem szl.app {M D d : Nat} {xs : List Rat} {x : Rat} (h : szl M xs D) (hx : Sz M d x) : szl M (xs ++ [x]) (D + d) := by
  refine ⟨fun y hy => ?_, ?_⟩
  · rcases List.mem_append.mp hy with z | z
    · exact h.num y z
    · rw [List.mem_singleton.mp z]
      exact hx.num
  · rw [List.map_append, List.sum_append]
    have := h.den
    have := wb_le hx
    show _ + (wb x + 0) ≤ _
    omega
theorem szl.mono {M D N E : Nat} {xs : List Rat} (h : szl M xs D) (hM : M ≤ N) (hD : D ≤ E) : szl N xs E := ⟨fun x hx => Nat.lt_of_lt_of_le (h.num x hx) (two_mono hM), Nat.le_trans h.den hD⟩
theorem szl.take {M D : Nat} {xs : List Rat} (h : szl M xs D) (n : Nat) : szl M (xs.take n) D := by
  refine ⟨fun x hx => h.num x (List.mem_of_mem_take hx), ?_⟩
  have e : (xs.map wb).sum = ((xs.take n).map wb).sum + ((xs.drop n).map wb).sum := by
    rw [← List.sum_append, ← List.map_append, List.take_append_drop]
  have := h.den
  omega
theorem szl.drop {M D : Nat} {xs : List Rat} (h : szl M xs D) (n : Nat) : szl M (xs.drop n) D := by
  refine ⟨fun x hx => h.num x (List.mem_of_mem_drop hx), ?_⟩
  have e : (xs.map wb).sum = ((xs.take n).map wb).sum + ((xs.drop n).map wb).sum := by
    rw [← List.sum_append, ← List.map_append, List.take_append_drop]
  have := h.den
  omega
theorem nat_sum_reverse : ∀ xs : List Nat, xs.reverse.sum = xs.sum
  | [] => rfl
  | x :: xs => by
    rw [List.reverse_cons, List.sum_append, nat_sum_reverse xs]
    show xs.sum + (x + 0) = x + xs.sum
    omega
theorem rat_sum_reverse : ∀ xs : List Rat, xs.reverse.sum = xs.sum
  | [] => rfl
  | x :: xs => by
    rw [List.reverse_cons, List.sum_append, rat_sum_reverse xs]
    show xs.sum + (x + 0) = x + xs.sum
    rw [Rat.add_zero, Rat.add_comm]
theorem rat_sum_neg : ∀ xs : List Rat, (xs.map fun x => -x).sum = - xs.sum
  | [] => rfl
  | x :: xs => by rw [List.map_cons, List.sum_cons, List.sum_cons, rat_sum_neg xs, Rat.neg_add]
theorem szl.reverse {M D : Nat} {xs : List Rat} (h : szl M xs D) : szl M xs.reverse D :=
  ⟨fun x hx => h.num x (List.mem_reverse.mp hx), by rw [List.map_reverse, nat_sum_reverse]; exact h.den⟩
theorem szl.neg {M D : Nat} {xs : List Rat} (h : szl M xs D) : szl M (xs.map fun x => -x) D := by
  refine ⟨fun y hy => ?_, ?_⟩
  · obtain ⟨x, hx, rfl⟩ := List.mem_map.mp hy
    rw [Rat.neg_num, Int.natAbs_neg]
    exact h.num x hx
  · rw [List.map_map]
    have : (wb ∘ fun x => -x) = wb := by
      funext x
      show (-x).den.log2 + 1 = _
      rw [Rat.neg_den]
      rfl
    rw [this]
    exact h.den
theorem sum_take_succ {xs : List Rat} {i : Nat} {x : Rat} (h : xs[i]? = some x) : (xs.take (i + 1)).sum = (xs.take i).sum + x := by
  rw [List.take_add_one, h, List.sum_append]
  show _ + (x + 0) = _
  rw [Rat.add_zero]
theorem wb_take_succ {xs : List Rat} {i : Nat} {x : Rat} (h : xs[i]? = some x) : ((xs.take (i + 1)).map wb).sum = ((xs.take i).map wb).sum + wb x := by
  rw [List.take_add_one, h, List.map_append, List.sum_append]
  show _ + (wb x + 0) = _
  omega
theorem szl_part {M D : Nat} {xs : List Rat} (h : szl M xs D) : ∀ i, i ≤ xs.length → Sz (M + ((xs.take i).map wb).sum + i + 1) (((xs.take i).map wb).sum + 1) (xs.take i).sum
  | 0, _ => by
    rw [List.take_zero]
    exact sz_zero.mono (by omega) (by omega)
  | i + 1, hi => by
    have ih := szl_part h i (by omega)
    have hx : xs[i]? = some xs[i] := List.getElem?_eq_getElem (by omega)
    rw [sum_take_succ hx, wb_take_succ hx]
    have hs : Sz M (wb xs[i]) xs[i] := ⟨h.num _ (List.getElem_mem _), wb_lt _⟩
    have := sz_add (m := M + ((xs.take i).map wb).sum + wb xs[i] + i + 1) ih hs (by omega) (by omega)
    exact this.mono (by omega) (by omega)
theorem szl_get {M D : Nat} {xs : List Rat} (h : szl M xs D) {i : Nat} {x : Rat} (hx : xs[i]? = some x) : ∃ d e, d + e ≤ D ∧ Sz (M + d + i + 1) (d + 1) (xs.take i).sum ∧ Sz M e x := by
  obtain ⟨hi, rfl⟩ := List.getElem?_eq_some_iff.mp hx
  refine ⟨_, wb xs[i], ?_, szl_part h i (by omega), ⟨h.num _ (List.getElem_mem _), wb_lt _⟩⟩
  rw [← wb_take_succ hx]
  exact (h.take (i + 1)).den
theorem szl_sum {M D : Nat} {xs : List Rat} (h : szl M xs D) : Sz (M + D + xs.length + 1) (D + 1) xs.sum := by
  have := szl_part h xs.length (Nat.le_refl _)
  rw [List.take_length] at this
  have := h.den
  exact Sz.mono ‹_› (by omega) (by omega)
theorem map_get {α β : Type} {f : α → β} {xs : List α} {i : Nat} {B : β} (h : (xs.map f)[i]? = some B) : ∃ x, xs[i]? = some x ∧ B = f x := by
  rw [List.getElem?_map] at h
  cases e : xs[i]? with
  | none => rw [e] at h; cases h
  | some x =>
    rw [e] at h
    cases h
    exact ⟨x, rfl, rfl⟩
theorem divC {x j : Int} (h : j ≠ 0) (hj : j.natAbs < 2 ^ 80) : CDivA x j := ⟨h, by have := log2_lt_pow hj (by decide); omega⟩
theorem divN {x j : Int} {n : Nat} (h : j ≠ 0) (hj : j.natAbs < 2 ^ n) (hn : n ≤ 8999) : CDivA x j := ⟨h, by
  have := log2_lt_pow (Nat.lt_of_lt_of_le hj (two_mono (Nat.le_succ n))) (Nat.succ_pos n)
  omega⟩
section
variable {K : PySem.W.Frag} {F : Hp} {G0 : Vw} {γ : List Sl} {k : AV → List Sl → Prop}
theorem n_isi_int_int {i : Int} (q : k (aB true) γ) : ON K F G0 (rIsiA K) [(aInt i), aV (.ty "int")] γ k := n_isi (tya_int i) (by decide +kernel) q
theorem n_isi_int_bool {i : Int} (q : k (aB false) γ) : ON K F G0 (rIsiA K) [(aInt i), aV (.ty "bool")] γ k := n_isi (tya_int i) (by decide +kernel) q
theorem n_isi_int_str {i : Int} (q : k (aB false) γ) : ON K F G0 (rIsiA K) [(aInt i), aV (.ty "str")] γ k := n_isi (tya_int i) (by decide +kernel) q
theorem n_isi_int_tuple {i : Int} (q : k (aB false) γ) : ON K F G0 (rIsiA K) [(aInt i), aV (.ty "tuple")] γ k := n_isi (tya_int i) (by decide +kernel) q
theorem n_isi_int_list {i : Int} (q : k (aB false) γ) : ON K F G0 (rIsiA K) [(aInt i), aV (.ty "list")] γ k := n_isi (tya_int i) (by decide +kernel) q
theorem n_isi_bool_int {b : Bool} (q : k (aB true) γ) : ON K F G0 (rIsiA K) [(aB b), aV (.ty "int")] γ k := n_isi (tya_b b) (by decide +kernel) q
theorem n_isi_bool_bool {b : Bool} (q : k (aB true) γ) : ON K F G0 (rIsiA K) [(aB b), aV (.ty "bool")] γ k := n_isi (tya_b b) (by decide +kernel) q
theorem n_isi_bool_str {b : Bool} (q : k (aB false) γ) : ON K F G0 (rIsiA K) [(aB b), aV (.ty "str")] γ k := n_isi (tya_b b) (by decide +kernel) q
theorem n_isi_bool_tuple {b : Bool} (q : k (aB false) γ) : ON K F G0 (rIsiA K) [(aB b), aV (.ty "tuple")] γ k := n_isi (tya_b b) (by decide +kernel) q
theorem n_isi_bool_list {b : Bool} (q : k (aB false) γ) : ON K F G0 (rIsiA K) [(aB b), aV (.ty "list")] γ k := n_isi (tya_b b) (by decide +kernel) q
theorem n_isi_str_int {s : Str} (q : k (aB false) γ) : ON K F G0 (rIsiA K) [(aS s), aV (.ty "int")] γ k := n_isi (tya_s s) (by decide +kernel) q
theorem n_isi_str_bool {s : Str} (q : k (aB false) γ) : ON K F G0 (rIsiA K) [(aS s), aV (.ty "bool")] γ k := n_isi (tya_s s) (by decide +kernel) q
theorem n_isi_str_str {s : Str} (q : k (aB true) γ) : ON K F G0 (rIsiA K) [(aS s), aV (.ty "str")] γ k := n_isi (tya_s s) (by decide +kernel) q
theorem n_isi_str_tuple {s : Str} (q : k (aB false) γ) : ON K F G0 (rIsiA K) [(aS s), aV (.ty "tuple")] γ k := n_isi (tya_s s) (by decide +kernel) q
theorem n_isi_str_list {s : Str} (q : k (aB false) γ) : ON K F G0 (rIsiA K) [(aS s), aV (.ty "list")] γ k := n_isi (tya_s s) (by decide +kernel) q
theorem n_isi_NoneType_int  (q : k (aB false) γ) : ON K F G0 (rIsiA K) [aN, aV (.ty "int")] γ k := n_isi (tya_n) (by decide +kernel) q
theorem n_isi_NoneType_bool  (q : k (aB false) γ) : ON K F G0 (rIsiA K) [aN, aV (.ty "bool")] γ k := n_isi (tya_n) (by decide +kernel) q
theorem n_isi_NoneType_str  (q : k (aB false) γ) : ON K F G0 (rIsiA K) [aN, aV (.ty "str")] γ k := n_isi (tya_n) (by decide +kernel) q
theorem n_isi_NoneType_tuple  (q : k (aB false) γ) : ON K F G0 (rIsiA K) [aN, aV (.ty "tuple")] γ k := n_isi (tya_n) (by decide +kernel) q
theorem n_isi_NoneType_list  (q : k (aB false) γ) : ON K F G0 (rIsiA K) [aN, aV (.ty "list")] γ k := n_isi (tya_n) (by decide +kernel) q
theorem n_isi_tuple_int {As : List AV} (q : k (aB false) γ) : ON K F G0 (rIsiA K) [(aTup As), aV (.ty "int")] γ k := n_isi (tya_tup As) (by decide +kernel) q
theorem n_isi_tuple_bool {As : List AV} (q : k (aB false) γ) : ON K F G0 (rIsiA K) [(aTup As), aV (.ty "bool")] γ k := n_isi (tya_tup As) (by decide +kernel) q
theorem n_isi_tuple_str {As : List AV} (q : k (aB false) γ) : ON K F G0 (rIsiA K) [(aTup As), aV (.ty "str")] γ k := n_isi (tya_tup As) (by decide +kernel) q
theorem n_isi_tuple_tuple {As : List AV} (q : k (aB true) γ) : ON K F G0 (rIsiA K) [(aTup As), aV (.ty "tuple")] γ k := n_isi (tya_tup As) (by decide +kernel) q
theorem n_isi_tuple_list {As : List AV} (q : k (aB false) γ) : ON K F G0 (rIsiA K) [(aTup As), aV (.ty "list")] γ k := n_isi (tya_tup As) (by decide +kernel) q
theorem n_isi_list_int {As : List AV} (q : k (aB false) γ) : ON K F G0 (rIsiA K) [(aLst As), aV (.ty "int")] γ k := n_isi (tya_lst As) (by decide +kernel) q
theorem n_isi_list_bool {As : List AV} (q : k (aB false) γ) : ON K F G0 (rIsiA K) [(aLst As), aV (.ty "bool")] γ k := n_isi (tya_lst As) (by decide +kernel) q
theorem n_isi_list_str {As : List AV} (q : k (aB false) γ) : ON K F G0 (rIsiA K) [(aLst As), aV (.ty "str")] γ k := n_isi (tya_lst As) (by decide +kernel) q
theorem n_isi_list_tuple {As : List AV} (q : k (aB false) γ) : ON K F G0 (rIsiA K) [(aLst As), aV (.ty "tuple")] γ k := n_isi (tya_lst As) (by decide +kernel) q
theorem n_isi_list_list {As : List AV} (q : k (aB true) γ) : ON K F G0 (rIsiA K) [(aLst As), aV (.ty "list")] γ k := n_isi (tya_lst As) (by decide +kernel) q
end
/-! ### == of fractions, of data by kinds -/
def fD (q : Rat) : PyData := .tuple [.int q.num, .int (q.den : Nat)]
theorem isd_F (q : Rat) : Isd (aF q) (fD q) := isd_tup (isds_cons (isd_int _) (isds_cons (isd_int _) isds_nil))
theorem shaped_F (q : Rat) : SeqAt.shaped (fD q) = true := rfl
theorem eqvAll_cons (a b : PyData) (as bs : List PyData) : PyData.eqvAll (a :: as) (b :: bs) = (PyData.eqv a b && PyData.eqvAll as bs) := by rw [PyData.eqvAll]
theorem eqvAll_nil : PyData.eqvAll [] [] = true := by rw [PyData.eqvAll]
theorem eqv_int (a b : Int) : PyData.eqv (.int a) (.int b) = decide (a = b) := by
  rw [PyData.eqv, Bool.beq_eq_decide_eq]
theorem eqv_F (x y : Rat) : PyData.eqv (fD x) (fD y) = decide (x = y) := by
  unfold fD
  rw [PyData.eqv, eqvAll_cons, eqvAll_cons, eqvAll_nil, eqv_int, eqv_int, Bool.and_true]
  rw [Bool.eq_iff_iff, Bool.and_eq_true, decide_eq_true_iff, decide_eq_true_iff, decide_eq_true_iff]
  constructor
  · rintro ⟨h1, h2⟩
    exact Rat.ext h1 (by omega)
  · rintro rfl
    exact ⟨rfl, rfl⟩
theorem eqvAll_map {α : Type} {f : α → PyData} [DecidableEq α] (h : ∀ x y, PyData.eqv (f x) (f y) = decide (x = y)) : ∀ xs ys : List α, PyData.eqvAll (xs.map f) (ys.map f) = decide (xs = ys)
  | [], [] => by rw [List.map_nil, eqvAll_nil]; rfl
  | [], _ :: _ => by rw [List.map_nil, List.map_cons, PyData.eqvAll]; rfl
  | _ :: _, [] => by rw [List.map_nil, List.map_cons, PyData.eqvAll]; rfl
  | x :: xs, y :: ys => by
    rw [List.map_cons, List.map_cons, eqvAll_cons, h, eqvAll_map h xs ys, Bool.eq_iff_iff, Bool.and_eq_true, decide_eq_true_iff, decide_eq_true_iff, decide_eq_true_iff, List.cons.injEq]
theorem eqv_Fs (xs ys : List Rat) : PyData.eqv (.list (xs.map fD)) (.list (ys.map fD)) = decide (xs = ys) := by
  rw [PyData.eqv, eqvAll_map eqv_F]
theorem isd_Fs (xs : List Rat) : Isd (aL aF xs) (.list (xs.map fD)) := isd_lst (isds_map isd_F xs)
theorem canAll_map {α : Type} {f : α → PyData} (h : ∀ x, (f x).canLay0 = true) : ∀ xs : List α, PyData.canLayAll0 (xs.map f) = true
  | [] => by rw [List.map_nil, PyData.canLayAll0]
  | x :: xs => by rw [List.map_cons, PyData.canLayAll0, h, canAll_map h xs]; rfl
theorem depthAll_map {α : Type} {f : α → PyData} {n : Nat} (h : ∀ x, (f x).depth ≤ n) : ∀ xs : List α, PyData.depthAll (xs.map f) ≤ n
  | [] => by rw [List.map_nil, PyData.depthAll]; exact Nat.zero_le _
  | x :: xs => by
    rw [List.map_cons, PyData.depthAll]
    exact Nat.max_le.mpr ⟨h x, depthAll_map h xs⟩
theorem shaped_Fs (xs : List Rat) : SeqAt.shaped (.list (xs.map fD)) = true := by
  unfold SeqAt.shaped
  rw [PyData.canLay0, canAll_map (fun _ => rfl), PyData.depth]
  have := depthAll_map (f := fD) (n := 1) (fun _ => Nat.le_of_ble_eq_true rfl) xs
  rw [decide_eq_true (by omega)]
  rfl
section
variable {K : PySem.W.Frag} {F : Hp} {G0 : Vw} {γ : List Sl} {k : AV → List Sl → Prop} {x y : Rat} {xs ys : List Rat}
theorem o_eqF (q : k (aB (decide (x = y))) γ) : O2 K F G0 (rEqA K) (aF x) (aF y) γ k := o_eqd (isd_F x) (isd_F y) (shaped_F x) (shaped_F y) (eqv_F x y) q
theorem o_neF (q : k (aB (!decide (x = y))) γ) : O2 K F G0 (rNeA K) (aF x) (aF y) γ k := o_ned (isd_F x) (isd_F y) (shaped_F x) (shaped_F y) (eqv_F x y) q
theorem o_eqFs (q : k (aB (decide (xs = ys))) γ) : O2 K F G0 (rEqA K) (aL aF xs) (aL aF ys) γ k := o_eqd (isd_Fs xs) (isd_Fs ys) (shaped_Fs xs) (shaped_Fs ys) (eqv_Fs xs ys) q
theorem o_neFs (q : k (aB (!decide (xs = ys))) γ) : O2 K F G0 (rNeA K) (aL aF xs) (aL aF ys) γ k := o_ned (isd_Fs xs) (isd_Fs ys) (shaped_Fs xs) (shaped_Fs ys) (eqv_Fs xs ys) q
end
theorem cutL_to {α : Type} (xs : List α) (n : Nat) : cutL xs none (some (n : Int)) = xs.take n := by
  unfold cutL
  rw [HT.sIx_none, HT.sIx_nat, List.drop_zero, Nat.sub_zero]
  by_cases h : n ≤ xs.length
  · rw [Nat.min_eq_left h]
  · rw [Nat.min_eq_right (by omega), List.take_of_length_le (Nat.le_refl _), List.take_of_length_le (by omega)]
theorem cutL_from {α : Type} (xs : List α) (n : Nat) : cutL xs (some (n : Int)) none = xs.drop n := by
  unfold cutL
  rw [HT.sIx_none, HT.sIx_nat]
  by_cases h : n ≤ xs.length
  · rw [Nat.min_eq_left h, List.take_of_length_le (by rw [List.length_drop]; exact Nat.le_refl _)]
  · rw [Nat.min_eq_right (by omega), Nat.sub_self, List.take_zero, List.drop_of_length_le (by omega)]
theorem fdiv_nat (a b : Nat) : ((a : Nat) : Int).fdiv ((b : Nat) : Int) = ((a / b : Nat) : Int) := by
  rw [Int.fdiv_eq_ediv_of_nonneg _ (Int.natCast_nonneg b)]
  rfl
theorem fmod_nat (a b : Nat) : ((a : Nat) : Int).fmod ((b : Nat) : Int) = ((a % b : Nat) : Int) := by
  rw [Int.fmod_eq_emod_of_nonneg _ (Int.natCast_nonneg b)]
  rfl
/-! ### branches that are decided -/
section
variable {X Y : Prop} {b : Bool}
theorem br_t (e : b = true) (x : X) : (b = true → X) ∧ (b = false → Y) := ⟨fun _ => x, fun h => by rw [e] at h; cases h⟩
theorem br_f (e : b = false) (y : Y) : (b = true → X) ∧ (b = false → Y) := ⟨fun h => (by rw [e] at h; cases h), fun _ => y⟩
theorem br_t' (e : b = true) (y : Y) : (b = false → X) ∧ (b = true → Y) := ⟨fun h => (by rw [e] at h; cases h), fun _ => y⟩
theorem br_f' (e : b = false) (x : X) : (b = false → X) ∧ (b = true → Y) := ⟨fun _ => x, fun h => by rw [e] at h; cases h⟩
end
end Rl

/-! # Rl, eighth part: texts, own lists that shrink, temporary own lists, sameness of data -/
namespace Rl
open PySem PySem.Spec PyProof.Rows L2
section
variable {K : PySem.W.Frag} {F : Hp} {G0 : Vw} {γ : List Sl} {k : AV → List Sl → Prop} {ks : KS} {ta tb tc te : TE} {kt : Bool → List Sl → Prop}
theorem at_ge {t : TE} (h : GE K F G0 t γ k) : GE K F G0 t γ k := h
theorem at_o2 {r : R2} {A B : AV} (h : O2 K F G0 r A B γ k) : O2 K F G0 r A B γ k := h
theorem at_on {r : List V → Hp → VK → Prop} {As : List AV} (h : ON K F G0 r As γ k) : ON K F G0 r As γ k := h
theorem at_gs {t : TS} (h : GS K F G0 t γ ks) : GS K F G0 t γ ks := h
theorem at_gt {t : TT} (h : GT K F G0 t γ kt) : GT K F G0 t γ kt := h
theorem at_gg {t : TG} {A : AV} {kg : List Sl → Prop} (h : GG K F G0 t A γ kg) : GG K F G0 t A γ kg := h
/-! ### texts -/
theorem o_ixS {z : Str} {i : Int} {c : Nat} (hz : z.length ≤ 100000) (h : atI z.cps.toList i = some c) (q : k (aS ⟨#[c]⟩) γ) : O2 K F G0 (rIx K) (aS z) (aInt i) γ k :=
  o2_pure (fun H G x y Q s px py z' => .inr (.inr ⟨z, i, c, px, py, size_ok hz, h, z' _ rfl⟩)) q
def SlOut (A : AV) (lo hi : Option Int) (p : AV → Prop) : Prop := (∃ As, A = aLst As ∧ p (aLst (cutL As lo hi))) ∨ (∃ As, A = aTup As ∧ p (aTup (cutL As lo hi))) ∨ ∃ z, A = aS z ∧ z.length ≤ 100000 ∧ p (aS (cutS z lo hi))
theorem slo_L {As : List AV} {lo hi : Option Int} {p : AV → Prop} (q : p (aLst (cutL As lo hi))) : SlOut (aLst As) lo hi p := .inl ⟨As, rfl, q⟩
theorem slo_T {As : List AV} {lo hi : Option Int} {p : AV → Prop} (q : p (aTup (cutL As lo hi))) : SlOut (aTup As) lo hi p := .inr (.inl ⟨As, rfl, q⟩)
theorem slo_S {z : Str} {lo hi : Option Int} {p : AV → Prop} (h : z.length ≤ 100000) (q : p (aS (cutS z lo hi))) : SlOut (aS z) lo hi p := .inr (.inr ⟨z, rfl, h, q⟩)
theorem ge_sl {tl th : TO} (h : GE K F G0 te γ fun A γ1 => GP K F G0 tl γ1 fun lo γ2 => GP K F G0 th γ2 fun hi γ3 => SlOut A lo hi fun B => k B γ3) : GE K F G0 (tSl (rSlA K) te tl th) γ k := fun σ H G Q a z =>
  h σ H G _ a fun A γ1 v H1 G1 h1 l1 a1 p1 => h1 σ H1 G1 _ a1 fun lo γ2 H2 G2 h2 l2 a2 => h2 σ H2 G2 _ a2 fun hi γ3 H3 G3 h3 l3 a3 => by
    rcases h3 with ⟨As, e, h3⟩ | ⟨As, e, h3⟩ | ⟨x, e, hz, h3⟩
    · subst e
      obtain ⟨b, vs, rfl, hb, hv⟩ := (aLst As).mono (l2.trans l3) p1
      exact .inl ⟨b, vs, rfl, .of (a3.see.l b vs hb), fun p np => z _ γ3 _ _ _ h3 (l1.trans (l2.trans (l3.trans (G3.leL p _)))) ((a3.up (same_upd np)).addL upd_same (a3.noF np) (a3.noOwn np)) ⟨p, _, rfl, .inr ⟨rfl, rfl⟩, (hv.cut lo hi).mono (G3.leL p _)⟩⟩
    · subst e
      obtain ⟨b, vs, rfl, hb, hv⟩ := (aTup As).mono (l2.trans l3) p1
      refine .inr (.inl ⟨b, vs, rfl, a3.see.t b vs hb, fun hw => z _ γ3 _ H3 G3 h3 (l1.trans (l2.trans l3)) a3 ⟨b, vs, rfl, hb, ?_⟩, fun hw p np => z _ γ3 _ _ _ h3 (l1.trans (l2.trans (l3.trans (G3.leT p _)))) ((a3.up (same_upd np)).addT (SqT.of upd_same)) ⟨p, _, rfl, .inr ⟨rfl, rfl⟩, (hv.cut lo hi).mono (G3.leT p _)⟩⟩)
      have e : cutV vs lo hi = vs := by
        unfold cutV
        rw [hw.1, hw.2, List.drop_zero, Nat.sub_zero, List.take_length]
      have := hv.cut lo hi
      rw [e] at this
      exact this
    · subst e
      exact .inr (.inr ⟨x, p1, size_ok hz, z _ γ3 _ H3 G3 h3 (l1.trans (l2.trans l3)) a3 rfl⟩)
abbrev rJoin (K : PySem.W.Frag) : V → List V → Hp → VK → Prop := fun x xs H Q => ∃ a p, ∃ ys : List Str, x = .str a ∧ xs = [.ref p] ∧ (SqL K H p (ys.map V.str) ∨ SqT K H p (ys.map V.str)) ∧ (ys.map (·.length)).sum + ys.length * a.length ≤ 16777216 ∧ Q (.str (Txt.join a ys)) H
def tJoin (K : PySem.W.Frag) (to te : TE) : TE := tM1 (rJoin K) to te
theorem pe_joinK {X : Cx} {o e : Expr} {to : TE} {apos pos : Pos} (ho : PE X o to) (he : PE X e te) (h : X.K = K := by rfl) (hs : starEach [e] X.env = [(false, eval e X.env)] := by rfl) (hbase : attributeBase o "join" X.env (eval o X.env) = eval o X.env := by rfl) (hline : (apos.endLine == pos.line) = true := by rfl) :
    PE X (.Call (.Attribute o "join" apos) [e] [] pos) (tJoin K to te) := h ▸ pe_join ho he hs hbase hline
theorem ge_join {to : TE} (h : GE K F G0 to γ fun A γ1 => ∃ a, A = aS a ∧ GE K F G0 te γ1 fun B γ2 => ∃ ys : List Str, B = aL aS ys ∧ (ys.map (·.length)).sum + ys.length * a.length ≤ 100000 ∧ k (aS (Txt.join a ys)) γ2) : GE K F G0 (tJoin K to te) γ k := fun σ H G Q a z =>
  h σ H G _ a fun A γ1 v H1 G1 ⟨s, e, h1⟩ l1 a1 p1 => by
    subst e
    refine ⟨⟨s, p1⟩, h1 σ H1 G1 _ a1 fun B γ2 w H2 G2 ⟨ys, e, hl, h2⟩ l2 a2 p2 => ?_⟩
    subst e
    obtain ⟨b, vs, rfl, hb, hv⟩ := p2
    have ev : vs = ys.map V.str := avs_flat hv
    subst ev
    exact ⟨s, b, ys, p1, rfl, .inl (.of (a2.see.l b _ hb)), Nat.le_trans hl (by decide), z _ γ2 _ H2 G2 h2 (l1.trans l2) a2 rfl⟩
/-! ### a < b < c -/
theorem ge_chain {r r' : R2} (h : GE K F G0 ta γ fun A γ1 => GE K F G0 tb γ1 fun B γ2 => O2 K F G0 r A B γ2 fun C γ3 => ∃ b, C = aB b ∧ (b = true → GE K F G0 tc γ3 fun D γ4 => O2 K F G0 r' B D γ4 k) ∧ (b = false → k (aB false) γ3)) : GE K F G0 (tChain r r' ta tb tc) γ k := fun σ H G Q a z =>
  h σ H G _ a fun A γ1 v H1 G1 h1 l1 a1 p1 => h1 σ H1 G1 _ a1 fun B γ2 w H2 G2 h2 l2 a2 p2 => h2 σ H2 G2 v w _ a2 (A.mono l2 p1) p2 fun C γ3 u H3 G3 ⟨b, e, q1, q2⟩ l3 a3 p3 => by
    subst e
    refine ⟨b, p3, ?_⟩
    cases b with
    | true =>
      rw [if_pos rfl]
      exact q1 rfl σ H3 G3 _ a3 fun D γ4 x H4 G4 h4 l4 a4 p4 => h4 σ H4 G4 w x _ a4 (B.mono (l3.trans l4) p2) p4 fun E γ5 y H5 G5 h5 l5 a5 p5 => z E γ5 y H5 G5 h5 (l1.trans (l2.trans (l3.trans (l4.trans l5)))) a5 p5
    | false =>
      rw [if_neg Bool.false_ne_true]
      exact z _ γ3 _ H3 G3 (q2 rfl) (l1.trans (l2.trans l3)) a3 rfl
/-! ### own lists that shrink -/
theorem gs_clear {i : Nat} (h : ∃ l As, γ[i]? = some (.own l As) ∧ ks.nx (γ.set i (.own l []))) : GS K F G0 (tDrop (tBM0 K "list" rClear (tVar i))) γ ks := fun D σ H G a s => by
  obtain ⟨l, As, e0, q⟩ := h
  obtain ⟨e1, vs, h1, _, _, hv⟩ := a.ownAt e0
  exact ⟨_, e1, .inl ⟨rfl, _, SqL.of h1⟩, l, vs, rfl, rfl, h1, s.nx _ σ _ G q (.refl G) (a.write (ws := []) (Bs := []) e0 rfl)⟩
theorem avs.dropLast {G : Vw} {As : List AV} {vs : List V} (h : avs G As vs) : avs G As.dropLast vs.dropLast := by
  rw [List.dropLast_eq_take, List.dropLast_eq_take, h.length]
  exact h.take _
theorem ge_pop {i : Nat} (h : ∃ l As A, γ[i]? = some (.own l As) ∧ As[As.length - 1]? = some A ∧ k A (γ.set i (.own l As.dropLast))) : GE K F G0 (tBM0 K "list" rPop (tVar i)) γ k := fun σ H G Q a z => by
  obtain ⟨l, As, A, e0, eA, q⟩ := h
  obtain ⟨e1, vs, h1, _, _, hv⟩ := a.ownAt e0
  obtain ⟨v, ev, pv⟩ := hv.get eA
  refine ⟨_, e1, .inl ⟨rfl, _, SqL.of h1⟩, l, vs, v, rfl, rfl, h1, by rw [hv.length]; exact ev, z A _ v _ G q (.refl G) (a.write e0 hv.dropLast) pv⟩
/-! ### f(g(..), ..): a new list is handed on and changed -/
theorem At.callX {σ : L2.St} {H H' : Hp} {G G' : Vw} {l : Addr} (a : At K F G0 γ σ H G) (fl : F l = none) (ho : Free γ l) (le : Vw.Le G G') (sm : Same (hid1 H l) H') (see : See K G' H') (hid : ∀ b xs, H b ≠ none → G'.l b xs → G.l b xs) : At K F G0 γ σ H' G' := by
  refine ⟨a.le.trans le, fun b o q => sm b o ?_, see, fun b xs hb q => a.hid b xs hb (hid b xs (fun z => hb (a.noF z)) q), a.len, fun i S q => (a.slot i S q).move le (fun b hb o e => sm b o ?_) (fun b _ hb ys e => hid b ys hb e) fun _ _ e => e, a.dis⟩
  · unfold hid1
    rw [if_neg (fun z => by rw [z, fl] at q; cases q)]
    exact a.same b o q
  · unfold hid1
    rw [if_neg (fun (z : b = l) => ho i S q (z ▸ hb))]
    exact e
theorem ge_callMO {C : Cm} {E : XK} {t : TA} (h : GO K F G0 te γ fun l S γ1 => ∀ F' G0', GA K F' G0' t γ1 fun As γ2 => C S As (fun A _ => k A γ2) (fun As' _ => k (aLst As') γ2)) : GE K F G0 (tCall (spM K C) [] E (tCons te t)) γ k := fun σ H G Q a z =>
  h σ H G _ a fun l S γ1 ws H1 G1 h1 l1 a1 e1 f1 n1 p1 d1 => h1 (upd F l (.lst ws)) G1 σ H1 G1 _ (a1.enter e1 n1 d1) fun As γ2 vs H2 G2 h2 l2 a2 p2 => by
    obtain ⟨a3, e3, n3, d3⟩ := a1.leave f1 n1 a2
    show spM K C (V.ref l :: vs ++ []) H2 Q E
    rw [List.append_nil]
    refine ⟨S, As, _, _, G2, l, ws, vs, h2, rfl, p2, a3.see, e3, p1.mono l2, n3, fun A S2 v H' G' ws' q le sm see hid e hv pv => z A γ2 v H' G' q (l1.trans (l2.trans le)) (a3.callX f1 d3 le sm see hid) pv, fun As' S2 m vs' H' G' ws' q le sm see hid e hv e5 e6 e7 hv2 => ?_⟩
    have a4 := a3.callX f1 d3 le sm see hid
    exact z _ γ2 _ H' _ q (l1.trans (l2.trans (le.trans (G'.leL m vs')))) (a4.addL e5 (a3.noF e6) (a3.noOwn e6)) ⟨m, vs', rfl, .inr ⟨rfl, rfl⟩, hv2.mono (G'.leL m vs')⟩
/-- an own list is given away -/
theorem gs_freeze {t : TS} (i : Nat) {l : Addr} {As : List AV} (h : γ[i]? = some (.own l As)) (q : NX K F G0 t (γ.set i (.sh (aLst As))) ks) : GS K F G0 t γ ks := fun D σ H G a s => by
  obtain ⟨vs, _, _, a'⟩ := a.freeze h
  exact q D σ H _ a' (s.up (G.leL l vs))
/-! ### own lists lent: a test, a flat value are read with the own lists known to all, and then they are one's own again -/
def lend1 : Sl → Sl
  | .own _ As => .sh (aLst As)
  | .tr S => .sh S.av
  | S => S
def lend (γ : List Sl) : List Sl := γ.map lend1
def lentV (γ : List Sl) (H : Hp) (G : Vw) : Vw := ⟨G.t, fun b xs => G.l b xs ∨ (H b = some (.lst xs) ∧ ∃ (i : Nat) (S : Sl), γ[i]? = some S ∧ b ∈ S.ads), G.c, G.h, G.k⟩
theorem lent_le (γ : List Sl) (H : Hp) (G : Vw) : Vw.Le G (lentV γ H G) := ⟨fun _ _ h => h, fun _ _ h => Or.inl h, fun _ _ h => h, fun _ _ h => h, rfl⟩
theorem At.lendAt {σ : L2.St} {H : Hp} {G : Vw} (a : At K F G0 γ σ H G) : At K H (lentV γ H G) (Rl.lend γ) σ H (lentV γ H G) := by
  have slot : ∀ (i : Nat) (S : Sl), (Rl.lend γ)[i]? = some S → slOk H H (lentV γ H G) S (σ[i]?.join) ∧ S.ads = [] := fun i S h => by
    unfold Rl.lend at h
    rw [List.getElem?_map] at h
    cases e : γ[i]? with
    | none => rw [e] at h; cases h
    | some T =>
      rw [e] at h
      have z := a.slot i T e
      cases T with
      | non => cases h; exact ⟨trivial, rfl⟩
      | sh A =>
        cases h
        obtain ⟨v, e1, p⟩ := z
        exact ⟨⟨v, e1, A.mono (lent_le γ H G) p⟩, rfl⟩
      | own l As =>
        cases h
        obtain ⟨e1, vs, h1, h2, h3, h4⟩ := z
        exact ⟨⟨.ref l, e1, l, vs, rfl, Or.inr ⟨h1, i, _, e, own_ads l As⟩, h4.mono (lent_le γ H G)⟩, rfl⟩
      | tr S =>
        cases h
        obtain ⟨v, e1, p, _⟩ := z
        exact ⟨⟨v, e1, Sh.ok_av (lent_le γ H G) S v (fun b hb xs hx => Or.inr ⟨hx, i, _, e, hb⟩) p⟩, rfl⟩
  refine ⟨.refl _, L2.Same.refl H, ⟨a.see.t, fun b xs h => h.elim (a.see.l b xs) (fun h => h.1), a.see.c, a.see.h, a.see.k⟩, fun _ _ _ q => q, ?_, fun i S h => (slot i S h).1, fun i j S T b h1 _ hb _ => ?_⟩
  · unfold Rl.lend
    rw [List.length_map]
    exact a.len
  · rw [(slot i S h1).2] at hb
    cases hb
theorem At.lend {σ : L2.St} {H : Hp} {G : Vw} (a : At K F G0 γ σ H G) : ∃ GL : Vw, Vw.Le G GL ∧ At K H GL (Rl.lend γ) σ H GL := ⟨_, lent_le γ H G, a.lendAt⟩
theorem gt_lend {t : TT} (h : ∀ F' G0', GT K F' G0' t (lend γ) fun b _ => kt b γ) : GT K F G0 t γ kt := fun σ H G Q a z => by
  obtain ⟨GL, le, b⟩ := a.lend
  exact h H GL σ H GL _ b fun b γ' H' G' q _ a' => z b γ H' G q (.refl G) (a.up a'.same)
theorem ge_lend (h : ∀ F' G0', GE K F' G0' te (lend γ) fun A _ => ∃ v, A = aV v ∧ k (aV v) γ) : GE K F G0 te γ k := fun σ H G Q a z => by
  obtain ⟨GL, le, b⟩ := a.lend
  refine h H GL σ H GL _ b fun A γ' u H' G' ⟨v, e, q⟩ _ a' p => ?_
  subst e
  exact z _ γ u H' G q (.refl G) (a.up a'.same) p
/-! ### the same data on both sides -/
structure Dat (n : Nat) (A : AV) : Prop where
  ex : ∃ d : PyData, Isd A d ∧ PyData.eqv d d = true ∧ d.canLay0 = true ∧ d.depth ≤ n
def Dats (n : Nat) (As : List AV) : Prop := ∃ ds : List PyData, Isds As ds ∧ PyData.eqvAll ds ds = true ∧ PyData.canLayAll0 ds = true ∧ PyData.depthAll ds ≤ n
theorem dat_int {n : Nat} (i : Int) : Dat n (aInt i) := ⟨.int i, isd_int i, by rw [eqv_int]; simp, rfl, by rw [PyData.depth]; exact Nat.zero_le _⟩
theorem dat_s {n : Nat} (i : Str) (h : PyData.strOk i = true) : Dat n (aS i) := ⟨.str i, isd_s i, by rw [PyData.eqv]; simp, by rw [PyData.canLay0]; exact h, by rw [PyData.depth]; exact Nat.zero_le _⟩
theorem dat_b {n : Nat} (i : Bool) : Dat n (aB i) := ⟨.bool i, isd_b i, by rw [PyData.eqv]; simp, rfl, by rw [PyData.depth]; exact Nat.zero_le _⟩
theorem dat_n {n : Nat} : Dat n aN := ⟨.none, isd_n, by rw [PyData.eqv], rfl, by rw [PyData.depth]; exact Nat.zero_le _⟩
theorem dats_nil {n : Nat} : Dats n [] := ⟨[], rfl, eqvAll_nil, by rw [PyData.canLayAll0], by rw [PyData.depthAll]; exact Nat.zero_le _⟩
theorem dats_cons {n : Nat} {A : AV} {As : List AV} (h : Dat n A) (t : Dats n As) : Dats n (A :: As) := by
  obtain ⟨d, a1, a2, a3, a4⟩ := h
  obtain ⟨ds, b1, b2, b3, b4⟩ := t
  refine ⟨d :: ds, isds_cons a1 b1, by rw [eqvAll_cons, a2, b2]; rfl, by rw [PyData.canLayAll0, a3, b3]; rfl, ?_⟩
  rw [PyData.depthAll]
  exact Nat.max_le.mpr ⟨a4, b4⟩
theorem dats_map {α : Type} {n : Nat} {f : α → AV} : ∀ xs : List α, (∀ x, x ∈ xs → Dat n (f x)) → Dats n (xs.map f)
  | [], _ => dats_nil
  | x :: xs, h => dats_cons (h x (by simp)) (dats_map xs fun y hy => h y (by simp [hy]))
theorem dat_tup {n : Nat} {As : List AV} (h : Dats n As) : Dat (n + 1) (aTup As) := by
  obtain ⟨ds, b1, b2, b3, b4⟩ := h
  refine ⟨.tuple ds, isd_tup b1, by rw [PyData.eqv]; exact b2, by rw [PyData.canLay0]; exact b3, ?_⟩
  rw [PyData.depth]
  omega
theorem dat_lst {n : Nat} {As : List AV} (h : Dats n As) : Dat (n + 1) (aLst As) := by
  obtain ⟨ds, b1, b2, b3, b4⟩ := h
  refine ⟨.list ds, isd_lst b1, by rw [PyData.eqv]; exact b2, by rw [PyData.canLay0]; exact b3, ?_⟩
  rw [PyData.depth]
  omega
theorem dat_L {α : Type} {n : Nat} {f : α → AV} (xs : List α) (h : ∀ x, x ∈ xs → Dat n (f x)) : Dat (n + 1) (aL f xs) := dat_lst (dats_map xs h)
theorem dat_F {n : Nat} (q : Rat) : Dat (n + 1) (aF q) := dat_tup (dats_cons (dat_int _) (dats_cons (dat_int _) dats_nil))
theorem o_eqSame {A B : AV} (h : Dat 20 A) (e : A = B) (q : k (aB true) γ) : O2 K F G0 (rEqA K) A B γ k := by
  subst e
  obtain ⟨d, a1, a2, a3, a4⟩ := h
  have sd : SeqAt.shaped d = true := by
    unfold SeqAt.shaped
    rw [a3, decide_eq_true (by omega)]
    rfl
  exact o_eqd a1 a1 sd sd a2 q
theorem o_neSame {A B : AV} (h : Dat 20 A) (e : A = B) (q : k (aB false) γ) : O2 K F G0 (rNeA K) A B γ k := by
  subst e
  obtain ⟨d, a1, a2, a3, a4⟩ := h
  have sd : SeqAt.shaped d = true := by
    unfold SeqAt.shaped
    rw [a3, decide_eq_true (by omega)]
    rfl
  exact o_ned a1 a1 sd sd a2 q
theorem isds_len : ∀ {As : List AV} {ds : List PyData}, Isds As ds → As.isEmpty = ds.isEmpty
  | [], ds, h => by cases h; rfl
  | A :: As, ds, h => by
    obtain ⟨d, r, rfl, _, _⟩ := h
    rfl
theorem eqv_nil (ds : List PyData) : PyData.eqv (.list ds) (.list []) = ds.isEmpty := by
  rw [PyData.eqv]
  cases ds with
  | nil => rw [eqvAll_nil]; rfl
  | cons d r => rw [PyData.eqvAll]; rfl
theorem shaped_nil : SeqAt.shaped (.list []) = true := rfl
/-- xs == [] -/
theorem o_eqNil {As : List AV} (h : Dats 19 As) (q : k (aB As.isEmpty) γ) : O2 K F G0 (rEqA K) (aLst As) (aLst []) γ k := by
  obtain ⟨ds, b1, b2, b3, b4⟩ := h
  have sd : SeqAt.shaped (.list ds) = true := by
    unfold SeqAt.shaped
    rw [PyData.canLay0, b3, PyData.depth, decide_eq_true (by omega)]
    rfl
  refine o_eqd (isd_lst b1) (isd_lst isds_nil) sd shaped_nil (eqv_nil ds) ?_
  rw [← isds_len b1]
  exact q
theorem o_neNil {As : List AV} (h : Dats 19 As) (q : k (aB (!As.isEmpty)) γ) : O2 K F G0 (rNeA K) (aLst As) (aLst []) γ k := by
  obtain ⟨ds, b1, b2, b3, b4⟩ := h
  have sd : SeqAt.shaped (.list ds) = true := by
    unfold SeqAt.shaped
    rw [PyData.canLay0, b3, PyData.depth, decide_eq_true (by omega)]
    rfl
  refine o_ned (isd_lst b1) (isd_lst isds_nil) sd shaped_nil (eqv_nil ds) ?_
  rw [← isds_len b1]
  exact q
/-- x = [.. for ..], return [.. for ..]: what comes is to be said by hand (go_map1, go_map, go_comp) -/
def LC (p : Prop) : Prop := p
theorem gs_setLc {wi : TI} {g : TG} {tt : TT} {vs : List Nat} {i : Nat} (h : LC (GO K F G0 (tLc wi g tt te vs) γ fun l As γ1 => ks.nx (γ1.set i (.own l As)))) : GS K F G0 (tAsg (tLc wi g tt te vs) (gName i)) γ ks := gs_setO h
theorem gs_retLc {wi : TI} {g : TG} {tt : TT} {vs : List Nat} (h : LC (GO K F G0 (tLc wi g tt te vs) γ fun _ A γ1 => ks.ro A γ1)) : GS K F G0 (tRet (tLc wi g tt te vs)) γ ks := gs_retO h
theorem inV_false {α : Type} (xs : List α) : inV (.bl true) (xs.map fun _ => V.bl false) = false := by
  unfold inV
  rw [List.any_eq_false]
  intro y hy
  obtain ⟨_, _, rfl⟩ := List.mem_map.mp hy
  exact Bool.false_ne_true
/-- xs + ys, known to all -/
theorem o_cat {As Bs : List AV} (hl : As.length + Bs.length ≤ 100000) (q : k (aLst (As ++ Bs)) γ) : O2 K F G0 (rAdd K) (aLst As) (aLst Bs) γ k := fun σ H G x y Q a px py z => by
  obtain ⟨b, vs, rfl, hb, hv⟩ := px
  obtain ⟨c, ws, rfl, hc, hw⟩ := py
  refine .inr (.inr (.inl ⟨b, c, vs, ws, rfl, rfl, a.see.l b vs hb, a.see.l c ws hc, size_ok (by rw [hv.length, hw.length]; exact hl), fun p np => ?_⟩))
  exact z _ γ _ _ _ q (G.leL p _) ((a.up (same_upd np)).addL upd_same (a.noF np) (a.noOwn np)) ⟨p, _, rfl, .inr ⟨rfl, rfl⟩, (hv.append hw).mono (G.leL p _)⟩
/-- list(xs), known to all -/
theorem n_listL {Bs : List AV} (q : k (aLst Bs) γ) : ON K F G0 (rListOf K) [aLst Bs] γ k := fun σ H G xs Q a px z => by
  obtain ⟨v, r, rfl, ⟨b, vs, rfl, hb, hv⟩, rfl⟩ := px
  exact ⟨b, vs, rfl, .inl (.of (a.see.l b vs hb)), fun p np => z _ γ _ _ _ q (G.leL p _) ((a.up (same_upd np)).addL upd_same (a.noF np) (a.noOwn np)) ⟨p, _, rfl, .inr ⟨rfl, rfl⟩, hv.mono (G.leL p _)⟩⟩
theorem n_listT {Bs : List AV} (q : k (aLst Bs) γ) : ON K F G0 (rListOf K) [aTup Bs] γ k := fun σ H G xs Q a px z => by
  obtain ⟨v, r, rfl, ⟨b, vs, rfl, hb, hv⟩, rfl⟩ := px
  exact ⟨b, vs, rfl, .inr (a.see.t b vs hb), fun p np => z _ γ _ _ _ q (G.leL p _) ((a.up (same_upd np)).addL upd_same (a.noF np) (a.noOwn np)) ⟨p, _, rfl, .inr ⟨rfl, rfl⟩, hv.mono (G.leL p _)⟩⟩
/-- the i-th turn of for k in range(n) -/
theorem rng_get {n i : Nat} {B : AV} (h : ((upFrom 0 n).map aInt)[i]? = some B) : i < n ∧ B = aInt (i : Nat) := by
  obtain ⟨x, hx, rfl⟩ := map_get h
  obtain ⟨e, h2⟩ := upFrom_get hx
  exact ⟨h2, by rw [e, Int.zero_add]⟩
theorem get_map {α : Type} {f : α → AV} {xs : List α} {i : Nat} (h : i < xs.length) : atI (xs.map f) (i : Int) = some (f xs[i]) := by
  refine atI_nat ?_
  rw [List.getElem?_map, List.getElem?_eq_getElem h]
  rfl
theorem upFrom_succ (lo : Int) (n : Nat) : upFrom lo (n + 1) = upFrom lo n ++ [lo + n] := by
  unfold upFrom
  rw [List.range_succ, List.map_append]
  rfl
/-! ### [a, b][int(flag)] -/
theorem o_ix2 {A B C : AV} {b : Bool} (hC : C = aLst [A, B] ∨ C = aTup [A, B]) (h1 : b = true → k B γ) (h0 : b = false → k A γ) : O2 K F G0 (rIx K) C (aInt (if b = true then 1 else 0)) γ k := by
  cases b with
  | true => rcases hC with rfl | rfl
            · exact o_ixL rfl (h1 rfl)
            · exact o_ixT rfl (h1 rfl)
  | false => rcases hC with rfl | rfl
             · exact o_ixL rfl (h0 rfl)
             · exact o_ixT rfl (h0 rfl)
theorem ixNat {α : Type} {xs : List α} {i : Int} (h0 : 0 ≤ i) (h1 : i < xs.length) : ∃ x, atI xs i = some x ∧ xs[i.toNat]? = some x := by
  obtain ⟨n, rfl⟩ := Int.eq_ofNat_of_zero_le h0
  have hn : n < xs.length := by omega
  exact ⟨xs[n], atI_nat (List.getElem?_eq_getElem hn), List.getElem?_eq_getElem hn⟩
end
theorem div_nonneg {t b : Int} (ht : 0 ≤ t) (hb : 0 < b) : 0 ≤ Rat.divInt t b := Rat.divInt_nonneg ht (Int.le_of_lt hb)
theorem div_pos {t b : Int} (ht : 0 < t) (hb : 0 < b) : 0 < Rat.divInt t b := by
  have h0 := div_nonneg (Int.le_of_lt ht) hb
  refine Rat.lt_of_le_of_ne h0 (fun e => ?_)
  have h1 : (0 : Rat) ≤ Rat.divInt (-t) b := by
    rw [show Rat.divInt (-t) b = -Rat.divInt t b from by rw [Rat.neg_divInt], ← e]
    decide
  have := (Rat.divInt_nonneg_iff_of_pos_right hb).mp h1
  omega
theorem mod0 (x : Int) {n : Int} (hn : 0 < n) : 0 ≤ x.fmod n := Int.fmod_nonneg_of_pos x hn
theorem mod1 (x : Int) {n : Int} (hn : 0 < n) : x.fmod n < n := Int.fmod_lt_of_pos x hn
theorem fmod_pos {x n : Int} (hn : 0 < n) : x.fmod n = x % n := Int.fmod_eq_emod_of_nonneg x (Int.le_of_lt hn)
theorem mod_ne {x d n : Int} (h0 : 0 < d) (h1 : d < n) : (x + d) % n ≠ x % n := fun e => by
  have h2 := Int.emod_emod_of_dvd
  have h := (Int.emod_eq_emod_iff_emod_sub_eq_zero).mp e
  rw [show x + d - x = d by omega, Int.emod_eq_of_lt (by omega) h1] at h
  omega
theorem split_mod (x : Int) {p : Int} (hp : 0 < p) : ∃ q r, x = p * q + r ∧ 0 ≤ r ∧ r < p ∧ x % p = r :=
  ⟨x / p, x % p, (Int.mul_ediv_add_emod x p).symm, Int.emod_nonneg x (by omega), Int.emod_lt_of_pos x hp, rfl⟩
theorem mod_of {p q r : Int} (h0 : 0 ≤ r) (h1 : r < p) : (p * q + r) % p = r := by
  rw [Int.add_comm, Int.add_mul_emod_self_left, Int.emod_eq_of_lt h0 h1]
theorem mod_up {x p : Int} (hp : 0 < p) : (x + 1) % p = if x % p = p - 1 then 0 else x % p + 1 := by
  obtain ⟨q, r, e, r0, r1, em⟩ := split_mod x hp
  rw [em]
  split
  · rw [show x + 1 = p * (q + 1) + 0 by rw [e, Int.mul_add]; omega]
    exact mod_of (by omega) hp
  · rw [show x + 1 = p * q + (r + 1) by rw [e]; omega]
    exact mod_of (by omega) (by omega)
theorem mod_down {x p : Int} (hp : 0 < p) : (x - 1) % p = if x % p = 0 then p - 1 else x % p - 1 := by
  obtain ⟨q, r, e, r0, r1, em⟩ := split_mod x hp
  rw [em]
  split
  · rw [show x - 1 = p * (q - 1) + (p - 1) by rw [e, Int.mul_sub]; omega]
    exact mod_of (by omega) (by omega)
  · rw [show x - 1 = p * q + (r - 1) by rw [e]; omega]
    exact mod_of (by omega) (by omega)
/-- x + i and y fall together, modulo p, just where i is y - x modulo p -/
theorem mod_meet {x y i p : Int} (hp : 0 < p) (y0 : 0 ≤ y) (y1 : y < p) (i0 : 0 ≤ i) (i1 : i < p) : (x + i) % p = y ↔ i = (y - x) % p := by
  constructor
  · intro h
    have e : (y - x) % p = ((x + i) % p - x) % p := by rw [h]
    rw [e, Int.emod_sub_emod, show x + i - x = i by omega, Int.emod_eq_of_lt i0 i1]
  · intro h
    rw [h, Int.add_emod_emod, show x + (y - x) = y by omega, Int.emod_eq_of_lt y0 y1]
/-! ### a ring -/
/-- one to eight small letters -/
structure Nm (z : Str) : Prop where
  pos : 1 ≤ z.length
  le : z.length ≤ 8
  low : ∀ c, c ∈ z.cps.toList → 97 ≤ c ∧ c ≤ 122
theorem Nm.ok {z : Str} (h : Nm z)   : PyData.strOk z = true := by
  unfold PyData.strOk
  rw [← Array.all_toList, List.all_eq_true]
  intro c hc
  have := h.low c hc
  exact decide_eq_true (by omega)
theorem join_signs (codes : List Nat) : Txt.join ("" : Str) (codes.map fun c => (⟨#[c]⟩ : Str)) = ⟨codes.toArray⟩ := by
  rw [TL.join_eq]
  have e : ∀ cs : List Nat, TL.joinL [] (cs.map fun c => [c]) = cs := by
    intro cs
    induction cs with
    | nil => rfl
    | cons c r ih =>
      cases r with
      | nil => rfl
      | cons d r => exact congrArg (c :: ·) ih
  have h := TL.tl_join ("" : Str) (codes.map fun c => (⟨#[c]⟩ : Str))
  rw [List.map_map] at h
  have h2 : TL.tl (Str.join ("" : Str) (codes.map fun c => (⟨#[c]⟩ : Str))) = codes := h.trans (e codes)
  generalize Str.join ("" : Str) (codes.map fun c => (⟨#[c]⟩ : Str)) = z at h2
  obtain ⟨z⟩ := z
  subst h2
  rfl
/-- the base with one letter put in -/
def nameAt (codes : List Nat) (at' : Nat) (c : Nat) : Str := ⟨(codes.take at' ++ c :: codes.drop (at' + 1)).toArray⟩
theorem nameAt_nm {codes : List Nat} {i c : Nat} (h0 : i < codes.length) (h1 : codes.length ≤ 8) (h : ∀ x, x ∈ codes → 97 ≤ x ∧ x ≤ 122) (hc : 97 ≤ c ∧ c ≤ 122) : Nm (nameAt codes i c) := by
  have e : (nameAt codes i c).length = codes.length := by
    show (codes.take i ++ c :: codes.drop (i + 1)).toArray.size = _
    rw [List.size_toArray, List.length_append, List.length_take, List.length_cons, List.length_drop]
    omega
  refine ⟨by rw [e]; omega, by rw [e]; exact h1, fun x hx => ?_⟩
  have hx : x ∈ codes.take i ++ c :: codes.drop (i + 1) := hx
  rcases List.mem_append.mp hx with hx | hx
  · exact h x (List.mem_of_mem_take hx)
  · rcases List.mem_cons.mp hx with rfl | hx
    · exact hc
    · exact h x (List.mem_of_mem_drop hx)
theorem nameAt_inj {codes : List Nat} {i c d : Nat} (h0 : i < codes.length) (e : nameAt codes i c = nameAt codes i d) : c = d := by
  have h : (codes.take i ++ c :: codes.drop (i + 1)) = (codes.take i ++ d :: codes.drop (i + 1)) := by
    have := congrArg (fun z : Str => z.cps.toList) e
    exact this
  have := List.append_cancel_left h
  exact (List.cons.inj this).1
theorem cut_to (codes : List Nat) (i : Nat) : cutS ⟨codes.toArray⟩ none (some (i : Int)) = ⟨(codes.take i).toArray⟩ := by
  unfold cutS
  rw [HT.sIx_none, HT.sIx_nat, List.drop_zero, Nat.sub_zero]
  show (⟨(codes.take (min i codes.length)).toArray⟩ : Str) = _
  by_cases h : i ≤ codes.length
  · rw [Nat.min_eq_left h]
  · rw [Nat.min_eq_right (by omega), List.take_of_length_le (Nat.le_refl _), List.take_of_length_le (by omega)]
theorem cut_from (codes : List Nat) (i : Nat) : cutS ⟨codes.toArray⟩ (some (i : Int)) none = ⟨(codes.drop i).toArray⟩ := by
  unfold cutS
  rw [HT.sIx_none, HT.sIx_nat]
  show (⟨((codes.drop (min i codes.length)).take (codes.length - min i codes.length)).toArray⟩ : Str) = _
  by_cases h : i ≤ codes.length
  · rw [Nat.min_eq_left h, List.take_of_length_le (by rw [List.length_drop]; omega)]
  · rw [Nat.min_eq_right (by omega), List.drop_of_length_le (Nat.le_refl _), List.drop_of_length_le (show codes.length ≤ i by omega), List.take_nil]
theorem glue_name (codes : List Nat) (i c : Nat) : ((⟨(codes.take i).toArray⟩ : Str) ++ ⟨#[c]⟩) ++ ⟨(codes.drop (i + 1)).toArray⟩ = nameAt codes i c := by
  show (⟨((codes.take i).toArray ++ #[c]) ++ (codes.drop (i + 1)).toArray⟩ : Str) = ⟨(codes.take i ++ c :: codes.drop (i + 1)).toArray⟩
  congr 1
  simp
/-- the letter of a number below 26 -/
theorem letter {x : Int} (h0 : 0 ≤ x) (h1 : x < 26) : atI ("abcdefghijklmnopqrstuvwxyz" : Str).cps.toList x = some (97 + x.toNat) := by
  obtain ⟨n, rfl⟩ := Int.eq_ofNat_of_zero_le h0
  have hn : n < 26 := by omega
  refine atI_nat ?_
  have all : ∀ n, n < 26 → ("abcdefghijklmnopqrstuvwxyz" : Str).cps.toList[n]? = some (97 + n) := by decide +kernel
  exact all n hn
structure Ask where
  name : Str
  one : Nat
  other : Nat
  size : Rat
abbrev aAsk (q : Ask) : AV := aTup [aS q.name, aInt (q.one : Nat), aInt (q.other : Nat), aF q.size]
abbrev aRing (rooms : List Rat) (asks : List Ask) : AV := aTup [aL aF rooms, aL aAsk asks]
theorem dat_ask {n : Nat} (q : Ask) (h : Nm q.name) : Dat (n + 2) (aAsk q) := dat_tup (dats_cons (dat_s _ h.ok) (dats_cons (dat_int _) (dats_cons (dat_int _) (dats_cons (dat_F _) dats_nil))))
theorem dat_ring (rooms : List Rat) (asks : List Ask) (h : ∀ q, q ∈ asks → Nm q.name) : Dat 20 (aRing rooms asks) := dat_tup (dats_cons (dat_L _ fun q _ => dat_F q) (dats_cons (dat_L _ fun q hq => dat_ask q (h q hq)) dats_nil))
/-- what the laws' ring builder makes -/
structure RingOk (most count : Nat) (rooms : List Rat) (asks : List Ask) : Prop where
  two : 2 ≤ rooms.length
  most : rooms.length ≤ most
  count : asks.length ≤ count
  pos : ∀ q, q ∈ rooms → 0 < q ∧ Sz 41 4 q
  nm : ∀ q, q ∈ asks → Nm q.name
  nodup : (asks.map Ask.name).Nodup
  dif : ∀ q, q ∈ asks → q.one < rooms.length ∧ q.other < rooms.length ∧ q.one ≠ q.other
  size : ∀ q, q ∈ asks → 0 ≤ q.size ∧ Sz 41 4 q.size
/-- the ties of an ask's way on a ring of p places, in the way's order -/
def tiesOn (p one other : Nat) : List Int := (upFrom 0 (((other : Int) - one).fmod p).toNat).map fun s => ((one : Int) + s).fmod p
def tiesBack (p one other : Nat) : List Int := (upFrom 0 (((one : Int) - other).fmod p).toNat).map fun s => ((one : Int) - 1 - s).fmod p
def tiesL (p one other : Nat) (on : Bool) : List Int := if on then tiesOn p one other else tiesBack p one other
def wayS (on : Bool) : Str := if on then "on" else "back"
end Rl

/-! # Rl, ninth part: the ways round a ring -/
namespace Rl
open PySem PySem.Spec PyProof.Rows L2
theorem mem_upFrom {x : Int} {n : Nat} : x ∈ upFrom 0 n ↔ 0 ≤ x ∧ x < n := by
  unfold upFrom
  rw [List.mem_map]
  constructor
  · rintro ⟨i, hi, rfl⟩
    have := List.mem_range.mp hi
    omega
  · rintro ⟨h0, h1⟩
    exact ⟨x.toNat, List.mem_range.mpr (by omega), by omega⟩
/-- does the way on from one to other pass over tie t -/
def overOn (p one other : Nat) (t : Int) : Bool := decide ((t - one).fmod p < ((other : Int) - one).fmod p)
def overB (p one other : Nat) (on : Bool) (t : Int) : Bool := overOn p one other t == on
section
variable {p one other : Nat} (h1 : one < p) (h2 : other < p)
include h1 h2
theorem mem_tiesOn {t : Int} (t0 : 0 ≤ t) (t1 : t < p) : t ∈ tiesOn p one other ↔ overOn p one other t = true := by
  have hp : (0 : Int) < p := by omega
  have d0 := Int.emod_nonneg ((other : Int) - one) (show (p : Int) ≠ 0 by omega)
  have d1 := Int.emod_lt_of_pos ((other : Int) - one) hp
  have r0 := Int.emod_nonneg (t - one) (show (p : Int) ≠ 0 by omega)
  have r1 := Int.emod_lt_of_pos (t - one) hp
  unfold tiesOn overOn
  rw [decide_eq_true_iff, fmod_pos hp, fmod_pos hp, List.mem_map]
  constructor
  · rintro ⟨s, hs, e⟩
    have hs := mem_upFrom.mp hs
    rw [fmod_pos hp] at e
    have := (mod_meet hp t0 t1 hs.1 (by omega)).mp e
    omega
  · intro h
    refine ⟨(t - one) % p, mem_upFrom.mpr ⟨r0, by omega⟩, ?_⟩
    rw [fmod_pos hp]
    exact (mod_meet hp t0 t1 r0 r1).mpr rfl
theorem back_len (hne : one ≠ other) : ((one : Int) - other) % p = p - ((other : Int) - one) % p ∧ 0 < ((other : Int) - one) % p := by
  have hp : (0 : Int) < p := by omega
  rcases Nat.lt_or_gt_of_ne hne with h | h
  · have e1 : ((other : Int) - one) % p = other - one := Int.emod_eq_of_lt (by omega) (by omega)
    have e2 : ((one : Int) - other) % p = p + (one - other) := by
      have := mod_of (p := p) (q := -1) (r := (p : Int) + (one - other)) (by omega) (by omega)
      rw [show (p : Int) * (-1) + (p + (one - other)) = one - other by omega] at this
      exact this
    omega
  · have e1 : ((one : Int) - other) % p = one - other := Int.emod_eq_of_lt (by omega) (by omega)
    have e2 : ((other : Int) - one) % p = p + (other - one) := by
      have := mod_of (p := p) (q := -1) (r := (p : Int) + (other - one)) (by omega) (by omega)
      rw [show (p : Int) * (-1) + (p + (other - one)) = other - one by omega] at this
      exact this
    omega
theorem mem_tiesBack (hne : one ≠ other) {t : Int} (t0 : 0 ≤ t) (t1 : t < p) : t ∈ tiesBack p one other ↔ overOn p one other t = false := by
  have hp : (0 : Int) < p := by omega
  obtain ⟨b1, b2⟩ := back_len h1 h2 hne
  obtain ⟨q, r, e, r0, r1, em⟩ := split_mod (t - one) hp
  have d1 := Int.emod_lt_of_pos ((other : Int) - one) hp
  unfold tiesBack overOn
  rw [decide_eq_false_iff_not, fmod_pos hp, fmod_pos hp, fmod_pos hp, List.mem_map, em]
  have key : ((one : Int) - 1 - t) % p = p - 1 - r := by
    rw [show (one : Int) - 1 - t = p * (-q - 1) + (p - 1 - r) by rw [Int.mul_sub, Int.mul_neg]; omega]
    exact mod_of (by omega) (by omega)
  have meet : ∀ s : Int, 0 ≤ s → s < p → (((one : Int) - 1 - s) % p = t ↔ s = p - 1 - r) := by
    intro s s0 s1
    rw [← key]
    constructor
    · intro h
      rw [← h, Int.sub_emod_emod, show (one : Int) - 1 - (one - 1 - s) = s by omega, Int.emod_eq_of_lt s0 s1]
    · intro h
      rw [h, Int.sub_emod_emod, show (one : Int) - 1 - (one - 1 - t) = t by omega, Int.emod_eq_of_lt t0 t1]
  constructor
  · rintro ⟨s, hs, e'⟩
    have hs := mem_upFrom.mp hs
    rw [fmod_pos hp] at e'
    have := (meet s hs.1 (by omega)).mp e'
    omega
  · intro h
    refine ⟨p - 1 - r, mem_upFrom.mpr ⟨by omega, by omega⟩, ?_⟩
    rw [fmod_pos hp]
    exact (meet _ (by omega) (by omega)).mpr rfl
theorem mem_tiesL (hne : one ≠ other) (on : Bool) {t : Int} (t0 : 0 ≤ t) (t1 : t < p) : decide (t ∈ tiesL p one other on) = overB p one other on t := by
  unfold overB
  cases on with
  | true =>
    show decide (t ∈ tiesOn p one other) = _
    have := mem_tiesOn h1 h2 t0 t1
    rw [Bool.eq_iff_iff, decide_eq_true_iff, this]
    simp
  | false =>
    show decide (t ∈ tiesBack p one other) = _
    have := mem_tiesBack h1 h2 hne t0 t1
    rw [Bool.eq_iff_iff, decide_eq_true_iff, this]
    simp
theorem ties_len (hne : one ≠ other) : (tiesL p one other true).length + (tiesL p one other false).length = p ∧ 0 < (tiesL p one other true).length ∧ 0 < (tiesL p one other false).length := by
  have hp : (0 : Int) < p := by omega
  obtain ⟨b1, b2⟩ := back_len h1 h2 hne
  have d1 := Int.emod_lt_of_pos ((other : Int) - one) hp
  show (tiesOn p one other).length + (tiesBack p one other).length = p ∧ 0 < (tiesOn p one other).length ∧ 0 < (tiesBack p one other).length
  unfold tiesOn tiesBack
  rw [List.length_map, List.length_map, upFrom_len, upFrom_len, fmod_pos hp, fmod_pos hp]
  omega
theorem ties_le (on : Bool) : (tiesL p one other on).length ≤ p := by
  have hp : (0 : Int) < p := by omega
  have d1 := Int.emod_lt_of_pos ((other : Int) - one) hp
  have d2 := Int.emod_lt_of_pos ((one : Int) - other) hp
  cases on with
  | true =>
    show (tiesOn p one other).length ≤ p
    unfold tiesOn
    rw [List.length_map, upFrom_len, fmod_pos hp]
    omega
  | false =>
    show (tiesBack p one other).length ≤ p
    unfold tiesBack
    rw [List.length_map, upFrom_len, fmod_pos hp]
    omega
theorem ties_rev0 : tiesOn p other one = (tiesBack p one other).reverse := by
  have hp : (0 : Int) < p := by omega
  have d0 := Int.emod_nonneg ((one : Int) - other) (show (p : Int) ≠ 0 by omega)
  have ed : ((one : Int) - other).fmod p = ((one : Int) - other) % p := fmod_pos hp
  unfold tiesOn tiesBack
  generalize hd : ((one : Int) - other).fmod p = d at *
  refine List.ext_getElem (by simp [upFrom_len]) fun i h3 h4 => ?_
  rw [List.getElem_reverse, List.getElem_map, List.getElem_map]
  simp only [List.length_map, upFrom_len] at h3 h4 ⊢
  unfold upFrom
  rw [List.getElem_map, List.getElem_map, List.getElem_range, List.getElem_range, fmod_pos hp, fmod_pos hp]
  have e1 : ((one : Int) - 1 - (0 + ((d.toNat - 1 - i : Nat) : Int))) = (one - d) + i := by omega
  rw [e1, ed, Int.add_emod, Int.add_emod (one - _) i, Int.sub_emod_emod, show (one : Int) - (one - other) = other by omega, Int.zero_add]
end
theorem ties_rev {p one other : Nat} (h1 : one < p) (h2 : other < p) (on : Bool) : tiesL p other one on = (tiesL p one other (!on)).reverse := by
  cases on with
  | true => exact ties_rev0 h1 h2
  | false =>
    show tiesBack p other one = (tiesOn p one other).reverse
    rw [ties_rev0 h2 h1, List.reverse_reverse]
theorem over_rev {p one other : Nat} (h1 : one < p) (h2 : other < p) (hne : one ≠ other) (on : Bool) {t : Int} (t0 : 0 ≤ t) (t1 : t < p) : overB p other one on t = overB p one other (!on) t := by
  rw [← mem_tiesL h2 h1 (Ne.symm hne) on t0 t1, ← mem_tiesL h1 h2 hne (!on) t0 t1, ties_rev h1 h2]
  simp
theorem over_not (p one other : Nat) (on : Bool) (t : Int) : overB p one other (!on) t = !overB p one other on t := by
  unfold overB
  cases on <;> cases overOn p one other t <;> rfl
theorem filter_none {α : Type} : ∀ xs : List α, xs.filter (fun _ => false) = []
  | [] => rfl
  | x :: xs => by rw [List.filter_cons_of_neg (by decide), filter_none xs]
/-! ### cuts -/
abbrev aCut (c : Int × Int) : AV := aTup [aInt c.1, aInt c.2]
def withinB (c : Int × Int) (x : Int) : Bool := decide (c.1 < x) && decide (x ≤ c.2)
def apartB (c : Int × Int) (x y : Int) : Bool := !decide (withinB c x = withinB c y)
def cutsTo (p i : Nat) : List (Int × Int) := (List.range i).flatMap fun (f : Nat) => (upFrom (f : Int) (p - f)).map fun y => ((f : Int), y)
abbrev allCuts (p : Nat) : List (Int × Int) := cutsTo p p
theorem cutsTo_succ (p i : Nat) : cutsTo p (i + 1) = cutsTo p i ++ (upFrom (i : Int) (p - i)).map fun y => ((i : Int), y) := by
  unfold cutsTo
  rw [List.range_succ, List.flatMap_append]
  simp
theorem cutsTo_len (p : Nat) : ∀ i, (cutsTo p i).length ≤ i * p
  | 0 => Nat.zero_le _
  | i + 1 => by
    have := cutsTo_len p i
    rw [cutsTo_succ, List.length_append, List.length_map, upFrom_len, Nat.succ_mul]
    omega
theorem apart_comm (c : Int × Int) (x y : Int) : apartB c x y = apartB c y x := by
  unfold apartB
  cases withinB c x <;> cases withinB c y <;> rfl
theorem dat_cut {n : Nat} (c : Int × Int) : Dat (n + 1) (aCut c) := dat_tup (dats_cons (dat_int _) (dats_cons (dat_int _) dats_nil))
theorem mem_cutsTo {p i : Nat} {c : Int × Int} (h : c ∈ cutsTo p i) (hi : i ≤ p) : 0 ≤ c.1 ∧ c.1 ≤ c.2 ∧ c.2 < p := by
  unfold cutsTo at h
  obtain ⟨f, hf, h⟩ := List.mem_flatMap.mp h
  obtain ⟨y, hy, rfl⟩ := List.mem_map.mp h
  unfold upFrom at hy
  obtain ⟨j, hj, rfl⟩ := List.mem_map.mp hy
  have := List.mem_range.mp hf
  have := List.mem_range.mp hj
  refine ⟨?_, ?_, ?_⟩
  · show (0 : Int) ≤ f
    omega
  · show (f : Int) ≤ f + j
    omega
  · show (f : Int) + j < p
    omega
/-! ### loads -/
theorem upFrom_nodup (n : Nat) : (upFrom 0 n).Nodup := by
  unfold upFrom
  rw [List.nodup_iff_pairwise_ne, List.pairwise_map]
  refine List.Pairwise.imp ?_ (List.nodup_iff_pairwise_ne.mp List.nodup_range)
  intro a b h e
  exact h (by omega)
theorem ties_nodup {p one other : Nat} (h1 : one < p) (h2 : other < p) (on : Bool) : (tiesL p one other on).Nodup := by
  have hp : (0 : Int) < p := by omega
  have key : ∀ n : Nat, n ≤ p → ∀ x : Int, ((upFrom 0 n).map fun s => (x + s).fmod p).Nodup := by
    intro n hn x
    rw [List.nodup_iff_pairwise_ne, List.pairwise_map]
    refine List.Pairwise.imp_of_mem ?_ (List.nodup_iff_pairwise_ne.mp (upFrom_nodup n))
    intro a b ha hb hne e
    have ha := mem_upFrom.mp ha
    have hb := mem_upFrom.mp hb
    rw [fmod_pos hp, fmod_pos hp] at e
    have e2 : ((x + a) % p - x) % p = ((x + b) % p - x) % p := by rw [e]
    rw [Int.emod_sub_emod, Int.emod_sub_emod, show x + a - x = a by omega, show x + b - x = b by omega, Int.emod_eq_of_lt ha.1 (by omega), Int.emod_eq_of_lt hb.1 (by omega)] at e2
    exact hne e2
  have d1 := Int.emod_lt_of_pos ((other : Int) - one) hp
  have d2 := Int.emod_lt_of_pos ((one : Int) - other) hp
  have on' : ∀ o t : Nat, o < p → t < p → (tiesOn p o t).Nodup := by
    intro o t _ _
    have := Int.emod_lt_of_pos ((t : Int) - o) hp
    unfold tiesOn
    rw [fmod_pos hp]
    exact key _ (by omega) _
  cases on with
  | true => exact on' one other h1 h2
  | false =>
    show (tiesBack p one other).Nodup
    have e := ties_rev0 h1 h2
    have := on' other one h2 h1
    rw [e] at this
    exact ((List.reverse_perm _).nodup_iff).mp this
theorem ties_range {p one other : Nat} (h1 : one < p) {on : Bool} {t : Int} (h : t ∈ tiesL p one other on) : 0 ≤ t ∧ t < p := by
  have hp : (0 : Int) < p := by omega
  cases on with
  | true =>
    have h : t ∈ tiesOn p one other := h
    unfold tiesOn at h
    obtain ⟨s, _, rfl⟩ := List.mem_map.mp h
    exact ⟨mod0 _ hp, mod1 _ hp⟩
  | false =>
    have h : t ∈ tiesBack p one other := h
    unfold tiesBack at h
    obtain ⟨s, _, rfl⟩ := List.mem_map.mp h
    exact ⟨mod0 _ hp, mod1 _ hp⟩
/-- what an ask lays on tie t, x of it going on -/
def term (p : Nat) (a : Ask) (x : Rat) (t : Nat) : Rat := if overB p a.one a.other true t then x else a.size - x
def loadAt (p : Nat) (asks : List Ask) (parts : List Rat) (k t : Nat) : Rat := (((asks.zip parts).take k).map fun a => term p a.1 a.2 t).sum
def loadsTo (p : Nat) (asks : List Ask) (parts : List Rat) (k : Nat) : List Rat := (List.range p).map (loadAt p asks parts k)
abbrev loadsL (p : Nat) (asks : List Ask) (parts : List Rat) : List Rat := loadsTo p asks parts parts.length
theorem rsum_append (xs ys : List Rat) : (xs ++ ys).sum = xs.sum + ys.sum := List.sum_append
theorem loadAt_succ {p : Nat} {asks : List Ask} {parts : List Rat} {k : Nat} (h1 : k < asks.length) (h2 : k < parts.length) (t : Nat) : loadAt p asks parts (k + 1) t = loadAt p asks parts k t + term p asks[k] parts[k] t := by
  unfold loadAt
  have hz : k < (asks.zip parts).length := by rw [List.length_zip]; omega
  rw [List.take_add_one, List.getElem?_eq_getElem hz, List.map_append, List.sum_append, List.getElem_zip]
  show _ + (term p asks[k] parts[k] t + 0) = _
  rw [Rat.add_zero]
theorem loadAt_zero (p : Nat) (asks : List Ask) (parts : List Rat) (t : Nat) : loadAt p asks parts 0 t = 0 := rfl
theorem loadsTo_len (p : Nat) (asks : List Ask) (parts : List Rat) (k : Nat) : (loadsTo p asks parts k).length = p := by
  unfold loadsTo
  rw [List.length_map, List.length_range]
/-- sizes -/
structure Lds (M D : Nat) (asks : List Ask) (parts : List Rat) : Prop where
  le : parts.length ≤ asks.length
  ask : ∀ q, q ∈ asks → Sz M D q.size
  part : ∀ x, x ∈ parts → Sz M D x
theorem sz_rest {M D : Nat} {a x : Rat} (h : Sz M D a) (g : Sz M D x) : Sz (M + D + 1) (2 * D) (a - x) := by
  have := sz_sub h g (m := M + D) (Nat.le_refl _) (Nat.le_refl _)
  rw [Nat.two_mul]
  exact this
theorem sz_term {p M D : Nat} {a : Ask} {x : Rat} (h : Sz M D a.size) (g : Sz M D x) (t : Nat) : Sz (M + D + 1) (2 * D) (term p a x t) := by
  unfold term
  split
  · exact g.mono (by omega) (by omega)
  · exact sz_rest h g
theorem sz_loadAt {p M D : Nat} {asks : List Ask} {parts : List Rat} (h : Lds M D asks parts) (t : Nat) : ∀ k, k ≤ parts.length → Sz (M + D + 10 + (2 * D + 5) * k) (2 * D * k + 1) (loadAt p asks parts k t)
  | 0, _ => by
    rw [loadAt_zero]
    exact sz_zero.mono (by omega) (by omega)
  | k + 1, hk => by
    have ih := sz_loadAt (p := p) h t k (by omega)
    have hle := h.le
    have s1 := sz_term (p := p) (h.ask _ (List.getElem_mem (show k < asks.length by omega))) (h.part _ (List.getElem_mem (show k < parts.length by omega))) t
    rw [loadAt_succ (by omega) (by omega)]
    have := sz_add ih s1 (m := M + D + 10 + (2 * D + 5) * k + 2 * D + 2) (by omega) (by rw [Nat.add_mul]; omega)
    refine this.mono ?_ ?_
    · rw [Nat.mul_succ]; omega
    · rw [Nat.mul_succ]; omega
/-- a list over the ties, one of them written -/
theorem set_range {p : Nat} {f g : Nat → Rat} {j : Nat} {x : Rat} (hx : x = g j) (hne : ∀ t, t < p → t ≠ j → f t = g t) : ((List.range p).map f).set j x = (List.range p).map g := by
  refine List.ext_getElem (by simp) fun i h1 h2 => ?_
  rw [List.getElem_set]
  simp only [List.length_set, List.length_map, List.length_range] at h1
  split
  · rename_i e
    subst e
    rw [hx, List.getElem_map, List.getElem_range]
  · rename_i e
    rw [List.getElem_map, List.getElem_map, List.getElem_range]
    exact hne i h1 (fun z => e z.symm)
theorem get_range {p : Nat} {f : Nat → Rat} {j : Nat} (h : j < p) : atI (((List.range p).map f).map aF) (j : Int) = some (aF (f j)) := by
  refine atI_nat ?_
  rw [List.getElem?_map, List.getElem?_map, List.getElem?_range h]
  rfl
theorem ixN_nat {n j : Nat} (h : j < n) : ixN n (j : Int) = some j := by
  unfold ixN
  rw [if_pos (by omega), if_pos (by omega), Int.toNat_natCast]
theorem set_mapF {f : Nat → Rat} {p j : Nat} {x : Rat} : (((List.range p).map f).map aF).set j (aF x) = (((List.range p).map f).set j x).map aF := (List.map_set ..).symm
theorem repl_zero (p : Nat) (asks : List Ask) (parts : List Rat) : (List.replicate p [aF 0]).flatten = (loadsTo p asks parts 0).map aF := by
  unfold loadsTo
  rw [List.map_map]
  have e : (fun t => (aF ∘ loadAt p asks parts 0) t) = fun _ => aF 0 := rfl
  show _ = (List.range p).map (fun t => (aF ∘ loadAt p asks parts 0) t)
  rw [e]
  clear e
  induction p with
  | zero => rfl
  | succ n ih =>
    rw [List.replicate_succ, List.flatten_cons, ih, List.range_succ_eq_map, List.map_cons, List.map_map]
    rfl
/-! ### the laws' parts -/
/-- what the laws' sending maker tells -/
structure PartsOk (asks : List Ask) (parts : List Rat) : Prop where
  len : parts.length = asks.length
  between : ∀ i (h1 : i < asks.length) (h2 : i < parts.length), 0 ≤ parts[i] ∧ parts[i] ≤ asks[i].size
  size : ∀ x, x ∈ parts → Sz 45 8 x
theorem share_le {q : Rat} {s : Int} (h : 0 ≤ q) (s0 : 0 ≤ s) (s1 : s ≤ 12) : 0 ≤ Rat.divInt (q.num * s) (((q.den : Nat) : Int) * 12) ∧ Rat.divInt (q.num * s) (((q.den : Nat) : Int) * 12) ≤ q := by
  have e : Rat.divInt (q.num * s) (((q.den : Nat) : Int) * 12) = q * Rat.divInt s 12 := by
    rw [← Rat.divInt_mul_divInt, Rat.num_divInt_den]
  have h0 : 0 ≤ Rat.divInt s 12 := div_nonneg s0 (by decide)
  have h1 : Rat.divInt s 12 ≤ 1 := by
    rw [Rat.le_iff_sub_nonneg]
    have e1 : (1 : Rat) - Rat.divInt s 12 = Rat.divInt (12 - s) 12 := by
      have o : (1 : Rat) = Rat.divInt 12 12 := (Rat.divInt_self' (by decide)).symm
      rw [o, Rat.sub_eq_add_neg, Rat.neg_divInt, Rat.divInt_add_divInt _ _ (by decide) (by decide)]
      rw [show (12 * 12 + -s * 12 : Int) = (12 - s) * 12 by omega, Rat.divInt_mul_right (by decide)]
    rw [e1]
    exact div_nonneg (by omega) (by decide)
  rw [e]
  refine ⟨Rat.mul_nonneg h h0, ?_⟩
  have := Rat.mul_le_mul_of_nonneg_left h1 h
  rw [Rat.mul_one] at this
  exact this
theorem const_loads (rooms : List Rat) (asks : List Ask) (parts : List Rat) : rooms.map (fun _ => aF 0) = (loadsTo rooms.length asks parts 0).map aF := by
  unfold loadsTo
  rw [List.map_map]
  refine List.ext_getElem (by simp) fun i h1 h2 => ?_
  rw [List.getElem_map, List.getElem_map]
  rfl
/-- y more on the ties of L, of the first n of them -/
def accL (p : Nat) (f : Nat → Rat) (L : List Int) (y : Rat) (n : Nat) : List Rat := (List.range p).map fun t => f t + if (t : Int) ∈ L.take n then y else 0
theorem accL_zero (p : Nat) (f : Nat → Rat) (L : List Int) (y : Rat) : accL p f L y 0 = (List.range p).map f := by
  unfold accL
  refine List.map_congr_left fun t _ => ?_
  rw [List.take_zero, if_neg (by simp), Rat.add_zero]
theorem accL_len (p : Nat) (f : Nat → Rat) (L : List Int) (y : Rat) (n : Nat) : (accL p f L y n).length = p := by
  unfold accL
  rw [List.length_map, List.length_range]
theorem nd_take {L : List Int} (h : L.Nodup) {n : Nat} {j : Int} (hn : L[n]? = some j) : j ∉ L.take n := by
  intro hm
  obtain ⟨i, hi, e⟩ := List.mem_iff_getElem.mp hm
  rw [List.getElem_take] at e
  obtain ⟨h1, h2⟩ := List.getElem?_eq_some_iff.mp hn
  rw [List.length_take] at hi
  have := (List.getElem_inj h).mp (e.trans h2.symm)
  omega
theorem accL_get {p : Nat} {f : Nat → Rat} {L : List Int} {y : Rat} {n j : Nat} (hd : L.Nodup) (hn : L[n]? = some (j : Int)) (hj : j < p) : atI ((accL p f L y n).map aF) (j : Int) = some (aF (f j)) := by
  unfold accL
  rw [get_range hj, if_neg (nd_take hd hn), Rat.add_zero]
theorem accL_set {p : Nat} {f : Nat → Rat} {L : List Int} {y : Rat} {n j : Nat} (hd : L.Nodup) (hn : L[n]? = some (j : Int)) : ((accL p f L y n).map aF).set j (aF (f j + y)) = (accL p f L y (n + 1)).map aF := by
  unfold accL
  have ht : L.take (n + 1) = L.take n ++ [(j : Int)] := by rw [List.take_add_one, hn]; rfl
  rw [set_mapF, set_range (g := fun t => f t + if (t : Int) ∈ L.take (n + 1) then y else 0)]
  · rw [if_pos (by rw [ht]; simp)]
  · intro t _ hne
    have e : ((t : Int) ∈ L.take (n + 1)) = ((t : Int) ∈ L.take n) := by
      rw [ht, List.mem_append, List.mem_singleton]
      have : ¬ (t : Int) = j := by omega
      simp [this]
    simp only [e]
theorem two_ways {p : Nat} {a : Ask} {x : Rat} {t : Nat} (h1 : a.one < p) (h2 : a.other < p) (hne : a.one ≠ a.other) (ht : t < p) (f : Rat) :
    (f + if (t : Int) ∈ tiesL p a.one a.other true then x else 0) + (if (t : Int) ∈ tiesL p a.one a.other false then a.size - x else 0) = f + term p a x t := by
  have m1 := mem_tiesL h1 h2 hne true (t := (t : Int)) (by omega) (by omega)
  have m2 := mem_tiesL h1 h2 hne false (t := (t : Int)) (by omega) (by omega)
  have mn := over_not p a.one a.other true t
  unfold term
  cases hb : overB p a.one a.other true t with
  | true =>
    rw [hb] at m1
    rw [show overB p a.one a.other false (t : Int) = false from by rw [show false = !true from rfl, mn, hb]] at m2
    rw [if_pos (of_decide_eq_true m1), if_neg (of_decide_eq_false m2), if_pos rfl, Rat.add_zero]
  | false =>
    rw [hb] at m1
    rw [show overB p a.one a.other false (t : Int) = true from by rw [show false = !true from rfl, mn, hb]; rfl] at m2
    rw [if_neg (of_decide_eq_false m1), if_pos (of_decide_eq_true m2), if_neg Bool.false_ne_true, Rat.add_zero]
theorem neg_F (x : Rat) : aTup [aInt (0 - x.num), aInt ((x.den : Nat) : Int)] = aF (-x) := by
  show _ = aTup [aInt (-x).num, aInt (((-x).den : Nat) : Int)]
  rw [Rat.neg_num, Rat.neg_den, Int.zero_sub]
section
variable {K : PySem.W.Frag} {F : Hp} {G0 : Vw} {γ : List Sl} {k : AV → List Sl → Prop}
theorem o_ix2I {x y : Int} {b : Bool} (q : k (aInt (if b = true then y else x)) γ) : O2 K F G0 (rIx K) (aLst [aInt x, aInt y]) (aInt (if b = true then 1 else 0)) γ k := by
  refine o_ix2 (.inl rfl) (fun h => ?_) (fun h => ?_)
  · rw [h, if_pos rfl] at q
    exact q
  · rw [h, if_neg Bool.false_ne_true] at q
    exact q
end
theorem zip_maps {α β : Type} (f : α → AV) (g : β → AV) : ∀ (xs : List α) (ys : List β), List.zipWith (fun A B => aTup [A, B]) (xs.map f) (ys.map g) = (xs.zip ys).map fun a => aTup [f a.1, g a.2]
  | [], _ => by simp
  | _ :: _, [] => by simp
  | x :: xs, y :: ys => by
    rw [List.map_cons, List.map_cons, List.zipWith_cons_cons, zip_maps f g xs ys]
    rfl
def prev (p t : Nat) : Nat := if t = 0 then p - 1 else t - 1
theorem get_prev {p : Nat} {f : Nat → Rat} {t : Nat} (h : t < p) : atI (((List.range p).map f).map aF) ((t : Int) - 1) = some (aF (f (prev p t))) := by
  unfold prev
  by_cases h0 : t = 0
  · subst h0
    rw [if_pos rfl]
    unfold atI ixN
    have hl : (((List.range p).map f).map aF).length = p := by simp
    rw [hl, if_neg (by decide), if_pos (by omega), show (((0 : Nat) : Int) - 1 + p).toNat = p - 1 by omega]
    show (((List.range p).map f).map aF)[p - 1]? = _
    rw [List.getElem?_map, List.getElem?_map, List.getElem?_range (by omega)]
    rfl
  · rw [if_neg h0, show (t : Int) - 1 = ((t - 1 : Nat) : Int) by omega]
    exact get_range (by omega)
theorem emod_sub {a b p : Nat} (h1 : a < p) (h2 : b < p) : ((a : Int) - b) % p = if b ≤ a then (a : Int) - b else a - b + p := by
  split
  · exact Int.emod_eq_of_lt (by omega) (by omega)
  · rw [← Int.add_emod_right]
    exact Int.emod_eq_of_lt (by omega) (by omega)
theorem over_lin {p : Nat} {a : Ask} (h1 : a.one < p) (h2 : a.other < p) {s : Nat} (hs : s < p) : overB p a.one a.other true s = decide ((if a.one ≤ s then (s : Int) - a.one else s - a.one + p) < (if a.one ≤ a.other then (a.other : Int) - a.one else a.other - a.one + p)) := by
  have hp : (0 : Int) < p := by omega
  unfold overB overOn
  rw [fmod_pos hp, fmod_pos hp, emod_sub hs h1, emod_sub h2 h1]
  simp
/-- a statement that is never reached -/
def tUnreached : TS := fun _ _ _ => False
theorem ps_unreached {X : Cx} {st : Stmt} : PS X st tUnreached := ⟨fun _ _ _ _ _ _ h => h.elim⟩
theorem szl_all {M D : Nat} : ∀ xs : List Rat, (∀ x, x ∈ xs → Sz M D x) → szl M xs (D * xs.length)
  | [], _ => szl.nil _ _
  | x :: xs, h => by
    have ih := szl_all xs fun y hy => h y (by simp [hy])
    have hx := h x (by simp)
    refine ⟨fun y hy => ?_, ?_⟩
    · rcases List.mem_cons.mp hy with rfl | hy
      · exact hx.num
      · exact ih.num y hy
    · have h1 := ih.den
      have h2 := wb_le hx
      rw [List.map_cons, List.sum_cons, List.length_cons, Nat.mul_succ]
      omega
theorem div_divInt (x y : Rat) : Rat.divInt (x.num * ((y.den : Nat) : Int)) (((x.den : Nat) : Int) * y.num) = x / y := by
  rw [Rat.div_def, Rat.inv_def, ← Rat.divInt_mul_divInt, Rat.num_divInt_den]
theorem sz_div {x y : Rat} {a b c d : Nat} (hx : Sz a c x) (hy : Sz b d y) (h0 : y ≠ 0) : Sz (a + d) (c + b) (x / y) := by
  rw [← div_divInt]
  refine sz_divInt (natAbs_mul_lt hx.num hy.den') (natAbs_mul_lt hx.den' hy.num) ?_
  have := x.den_nz
  have : y.num ≠ 0 := fun e => h0 (Rat.num_eq_zero.mp e)
  exact Int.mul_ne_zero (by omega) this
/-! ### what goes across a cut -/
def acrossR (asks : List Ask) (c : Int × Int) : Rat := ((asks.filter fun a => apartB c a.one a.other).map Ask.size).sum
def acrossTo (asks : List Ask) (c : Int × Int) (k : Nat) : Rat := (((asks.take k).filter fun a => apartB c a.one a.other).map Ask.size).sum
theorem sz_sumR {M D : Nat} : ∀ xs : List Rat, (∀ x, x ∈ xs → Sz M D x) → Sz (M + 10 + (D + 5) * xs.length) (D * xs.length + 1) xs.sum
  | [], _ => by
    show Sz _ _ (0 : Rat)
    exact sz_zero.mono (Nat.le_trans (show 1 ≤ M + 10 by omega) (Nat.le_add_right _ _)) (Nat.le_add_left _ _)
  | x :: xs, h => by
    have ih := sz_sumR xs fun y hy => h y (by simp [hy])
    have hx := h x (by simp)
    rw [List.sum_cons, List.length_cons]
    have := sz_add hx ih (m := M + 10 + (D + 5) * xs.length + D + 2) (by rw [Nat.add_mul]; omega) (by omega)
    refine this.mono ?_ ?_
    · rw [Nat.mul_succ]; omega
    · rw [Nat.mul_succ]; omega
theorem sz_acrossTo {M D n : Nat} {asks : List Ask} (h : ∀ q, q ∈ asks → Sz M D q.size) (hn : asks.length ≤ n) (c : Int × Int) (k : Nat) : Sz (M + 10 + (D + 5) * n) (D * n + 1) (acrossTo asks c k) := by
  unfold acrossTo
  have hs := sz_sumR (M := M) (D := D) (((asks.take k).filter fun a => apartB c a.one a.other).map Ask.size) (fun y hy => by
    obtain ⟨a, ha, rfl⟩ := List.mem_map.mp hy
    exact h a (List.mem_of_mem_take (List.mem_filter.mp ha).1))
  have hl : (((asks.take k).filter fun a => apartB c a.one a.other).map Ask.size).length ≤ n := by
    rw [List.length_map]
    refine Nat.le_trans (List.length_filter_le _ _) ?_
    rw [List.length_take]
    omega
  exact hs.mono (Nat.add_le_add_left (Nat.mul_le_mul_left _ hl) _) (Nat.add_le_add_right (Nat.mul_le_mul_left _ hl) _)
theorem acrossTo_all (asks : List Ask) (c : Int × Int) : acrossTo asks c asks.length = acrossR asks c := by
  unfold acrossTo acrossR
  rw [List.take_length]
theorem acrossTo_succ {asks : List Ask} {c : Int × Int} {k : Nat} {a : Ask} (h : asks[k]? = some a) : acrossTo asks c (k + 1) = acrossTo asks c k + if apartB c a.one a.other = true then a.size else 0 := by
  unfold acrossTo
  rw [List.take_add_one, h, List.filter_append, List.map_append, List.sum_append]
  congr 1
  cases e : apartB c a.one a.other
  · rw [show (some a).toList = [a] from rfl, List.filter_cons_of_neg (by rw [e]; decide)]
    rfl
  · rw [show (some a).toList = [a] from rfl, List.filter_cons_of_pos (p := fun a : Ask => apartB c a.one a.other) e]
    show a.size + 0 = _
    rw [Rat.add_zero, if_pos rfl]
def strainsL (rooms loads : List Rat) : List Rat := (loads.zip rooms).map fun a => a.1 / a.2
theorem strainsL_len {rooms loads : List Rat} (h : loads.length = rooms.length) : (strainsL rooms loads).length = rooms.length := by
  unfold strainsL
  rw [List.length_map, List.length_zip]
  omega
theorem sz_loadsL {p M D : Nat} {asks : List Ask} {parts : List Rat} (hL : Lds M D asks parts) (hn : parts.length ≤ 30) (hM : M ≤ 100) (hD : D ≤ 40) : ∀ x, x ∈ loadsL p asks parts → Sz 2700 2401 x := by
  intro x hx
  have hx : x ∈ loadsTo p asks parts parts.length := hx
  unfold loadsTo at hx
  obtain ⟨t, _, rfl⟩ := List.mem_map.mp hx
  have h := sz_loadAt (p := p) hL t parts.length (Nat.le_refl _)
  have h1 : (2 * D + 5) * parts.length ≤ 85 * 30 := Nat.mul_le_mul (by omega) hn
  have h2 : 2 * D * parts.length ≤ 80 * 30 := Nat.mul_le_mul (by omega) hn
  exact h.mono (by omega) (by omega)
theorem sz_strains {rooms loads : List Rat} (hr : ∀ q, q ∈ rooms → 0 < q ∧ Sz 41 4 q) (hl : ∀ x, x ∈ loads → Sz 2700 2401 x) : ∀ x, x ∈ strainsL rooms loads → Sz 2704 2442 x := by
  intro x hx
  unfold strainsL at hx
  obtain ⟨a, ha, rfl⟩ := List.mem_map.mp hx
  have hz := List.of_mem_zip ha
  obtain ⟨p, s⟩ := hr _ hz.2
  exact sz_div (hl _ hz.1) s (by grind)
/-- the place of the first greatest of the first k -/
def bestTo (xs : List Rat) : Nat → Nat
  | 0 => 0
  | k + 1 => if xs.getD (bestTo xs k) 0 < xs.getD k 0 then k else bestTo xs k
theorem bestTo_lt {xs : List Rat} : ∀ k, k ≤ xs.length → 0 < xs.length → bestTo xs k < xs.length
  | 0, _, h => h
  | k + 1, h1, h => by
    have ih := bestTo_lt k (by omega) h
    show (if xs.getD (bestTo xs k) 0 < xs.getD k 0 then k else bestTo xs k) < xs.length
    split
    · omega
    · exact ih
theorem bestTo_one (xs : List Rat) : bestTo xs 1 = 0 := by
  show (if xs.getD 0 0 < xs.getD 0 0 then 0 else 0) = 0
  split <;> rfl
theorem get_F {xs : List Rat} {i : Nat} (h : i < xs.length) : atI (xs.map aF) (i : Int) = some (aF (xs.getD i 0)) := by
  rw [get_map h, List.getD_eq_getElem?_getD, List.getElem?_eq_getElem h]
  rfl
theorem getD_mem {xs : List Rat} {i : Nat} (h : i < xs.length) : xs.getD i 0 ∈ xs := by
  rw [List.getD_eq_getElem?_getD, List.getElem?_eq_getElem h]
  exact List.getElem_mem h
theorem take_succ_map {xs : List Rat} {k : Nat} (h : k < xs.length) : (xs.take (k + 1)).map aF = (xs.take k).map aF ++ [aF xs[k]] := by
  rw [List.take_add_one, List.getElem?_eq_getElem h, List.map_append]
  rfl
theorem strains_get {rooms loads : List Rat} {k : Nat} (h : k < (strainsL rooms loads).length) (h1 : k < loads.length) (h2 : k < rooms.length) : (strainsL rooms loads)[k] = loads[k] / rooms[k] := by
  have hz : k < (loads.zip rooms).length := by rw [List.length_zip]; omega
  have e : (strainsL rooms loads)[k]? = some ((loads.zip rooms)[k].1 / (loads.zip rooms)[k].2) := by
    unfold strainsL
    rw [List.getElem?_map, List.getElem?_eq_getElem hz]
    rfl
  rw [List.getElem?_eq_getElem h] at e
  rw [Option.some.inj e, List.getElem_zip]
theorem inV_same (xs : List Rat) : inV (.bl false) (((xs.zip xs).map fun a => decide (a.1 = a.2)).map V.bl) = false := by
  rw [inV_b]
  refine decide_eq_false fun hm => ?_
  obtain ⟨a, ha, e⟩ := List.mem_map.mp hm
  have : ∀ (ys : List Rat) (a : Rat × Rat), a ∈ ys.zip ys → a.1 = a.2 := by
    intro ys
    induction ys with
    | nil => intro a h; cases h
    | cons y r ih =>
      intro a h
      rw [List.zip_cons_cons] at h
      rcases List.mem_cons.mp h with rfl | h
      · rfl
      · exact ih a h
  rw [this xs a ha, decide_eq_true rfl] at e
  cases e
end Rl

/-! # Rl, tenth part: the greatest cut -/
namespace Rl
open PySem PySem.Spec PyProof.Rows L2
def shownR (rooms : List Rat) (asks : List Ask) (c : Int × Int) : Rat := acrossR asks c / (rooms.getD c.1.toNat 0 + rooms.getD c.2.toNat 0)
/-- the first greatest of the first k cuts -/
def bst (f : Int × Int → Rat) (cs : List (Int × Int)) : Nat → Int × Int
  | 0 => (0, 0)
  | k + 1 => if f (bst f cs k) < f (cs.getD k (0, 0)) then cs.getD k (0, 0) else bst f cs k
theorem across_nil (asks : List Ask) : acrossR asks (0, 0) = 0 := by
  unfold acrossR
  have e : ∀ x : Int, withinB (0, 0) x = false := fun x => by
    unfold withinB
    by_cases h : (0 : Int) < x
    · rw [decide_eq_false (show ¬ x ≤ 0 by omega), Bool.and_false]
    · rw [decide_eq_false h, Bool.false_and]
  have e2 : (asks.filter fun a => apartB (0, 0) a.one a.other) = [] := by
    rw [List.filter_eq_nil_iff]
    intro a _
    unfold apartB
    rw [e, e]
    decide
  rw [e2]
  rfl
theorem shown_nil (rooms : List Rat) (asks : List Ask) : shownR rooms asks (0, 0) = 0 := by
  unfold shownR
  rw [across_nil, Rat.div_def, Rat.zero_mul]
theorem bst_zero {f : Int × Int → Rat} (h : ∀ c, f c = 0) (cs : List (Int × Int)) : ∀ k, bst f cs k = (0, 0)
  | 0 => rfl
  | k + 1 => by
    show (if f (bst f cs k) < f (cs.getD k (0, 0)) then cs.getD k (0, 0) else bst f cs k) = (0, 0)
    rw [h, h, if_neg (Rat.lt_irrefl), bst_zero h cs k]
theorem shown_get {rooms : List Rat} {asks : List Ask} {i j : Nat} (hi : i < rooms.length) (hj : j < rooms.length) : acrossR asks ((i : Nat), (j : Nat)) / (rooms[i] + rooms[j]) = shownR rooms asks (((i : Nat) : Int), ((j : Nat) : Int)) := by
  unfold shownR
  show _ = acrossR asks _ / (rooms.getD ((i : Nat) : Int).toNat 0 + rooms.getD ((j : Nat) : Int).toNat 0)
  rw [Int.toNat_natCast, Int.toNat_natCast, List.getD_eq_getElem?_getD, List.getD_eq_getElem?_getD, List.getElem?_eq_getElem hi, List.getElem?_eq_getElem hj]
  rfl
theorem sz_shown {rooms : List Rat} {asks : List Ask} (hn : asks.length ≤ 30) (hs : ∀ q, q ∈ asks → Sz 41 4 q.size) (hr : ∀ q, q ∈ rooms → 0 < q ∧ Sz 41 4 q) {i j : Nat} (hi : i < rooms.length) (hj : j < rooms.length) : Sz 1000 1000 (shownR rooms asks (((i : Nat) : Int), ((j : Nat) : Int))) := by
  rw [← shown_get hi hj]
  obtain ⟨r1, s1⟩ := hr _ (List.getElem_mem hi)
  obtain ⟨r2, s2⟩ := hr _ (List.getElem_mem hj)
  have sa := sz_acrossTo hs hn (((i : Nat) : Int), ((j : Nat) : Int)) asks.length
  rw [acrossTo_all] at sa
  have sr := sz_add s1 s2 (m := 45) (by decide) (by decide)
  exact (sz_div sa sr (by grind)).mono (by decide) (by decide)
theorem bst_in {f : Int × Int → Rat} {p : Nat} (hp : 0 < p) : ∀ k, ∃ i j : Nat, bst f (allCuts p) k = (((i : Nat) : Int), ((j : Nat) : Int)) ∧ i < p ∧ j < p
  | 0 => ⟨0, 0, rfl, hp, hp⟩
  | k + 1 => by
    show ∃ i j : Nat, (if f (bst f (allCuts p) k) < f ((allCuts p).getD k (0, 0)) then (allCuts p).getD k (0, 0) else bst f (allCuts p) k) = _ ∧ _
    split
    · by_cases hk : k < (allCuts p).length
      · have e : (allCuts p).getD k (0, 0) = (allCuts p)[k] := by
          rw [List.getD_eq_getElem?_getD, List.getElem?_eq_getElem hk]
          rfl
        obtain ⟨c0, c1, c2⟩ := mem_cutsTo (List.getElem_mem hk) (Nat.le_refl _)
        rw [e]
        generalize (allCuts p)[k] = c at *
        obtain ⟨a, b⟩ := c
        have c0 : (0 : Int) ≤ a := c0
        have c1 : a ≤ b := c1
        have c2 : b < (p : Nat) := c2
        exact ⟨a.toNat, b.toNat, by rw [Int.toNat_of_nonneg c0, Int.toNat_of_nonneg (by omega)], by omega, by omega⟩
      · have e : (allCuts p).getD k (0, 0) = (0, 0) := by
          rw [List.getD_eq_getElem?_getD, List.getElem?_eq_none (by omega)]
          rfl
        rw [e]
        exact ⟨0, 0, rfl, hp, hp⟩
    · exact bst_in hp k
theorem cuts_head {p : Nat} (hp : 0 < p) : ∀ n, (cutsTo p (n + 1))[0]? = some ((0 : Int), (0 : Int))
  | 0 => by
    obtain ⟨q, rfl⟩ : ∃ q, p = q + 1 := ⟨p - 1, by omega⟩
    rw [cutsTo_succ]
    show ((upFrom ((0 : Nat) : Int) (q + 1 - 0)).map fun y => (((0 : Nat) : Int), y))[0]? = _
    rw [List.getElem?_map]
    unfold upFrom
    rw [List.getElem?_map, List.getElem?_range (by omega)]
    rfl
  | n + 1 => by
    have ih := cuts_head hp n
    have hl := (List.getElem?_eq_some_iff.mp ih).1
    rw [cutsTo_succ, List.getElem?_append_left hl]
    exact ih
end Rl

/-! # Rl, eleventh part: things with own lists in them: making them, reading them, changing them -/
namespace Rl
open PySem PySem.Spec PyProof.Rows L2
/-! ### plain items -/
abbrev vsh (As : List AV) : List Sh := As.map Sh.v
theorem adsL_vs : ∀ As : List AV, Sh.adsL (vsh As) = []
  | [] => by rw [vsh, List.map_nil, Sh.adsL]
  | A :: As => by
    rw [vsh, List.map_cons, Sh.adsL, Sh.ads, List.nil_append]
    exact adsL_vs As
theorem avL_vs : ∀ As : List AV, Sh.avL (vsh As) = As
  | [] => by rw [vsh, List.map_nil, Sh.avL]
  | A :: As => by
    rw [vsh, List.map_cons, Sh.avL, Sh.av]
    exact congrArg _ (avL_vs As)
theorem okL_vs {F H : Hp} {G : Vw} : ∀ {As : List AV} {vs : List V}, avs G As vs → Sh.okL F H G (vsh As) vs
  | [], _, h => by
    rw [vsh, List.map_nil, Sh.okL]
    exact h
  | A :: As, _, ⟨v, r, e, p, t⟩ => by
    rw [vsh, List.map_cons, Sh.okL]
    exact ⟨v, r, e, by rw [Sh.ok]; exact p, okL_vs t⟩
theorem vs_okL {F H : Hp} {G : Vw} : ∀ {As : List AV} {vs : List V}, Sh.okL F H G (vsh As) vs → avs G As vs
  | [], _, h => by
    rw [vsh, List.map_nil, Sh.okL] at h
    exact h
  | A :: As, _, h => by
    rw [vsh, List.map_cons, Sh.okL] at h
    obtain ⟨v, r, e, p, t⟩ := h
    rw [Sh.ok] at p
    exact ⟨v, r, e, p, vs_okL t⟩
theorem okL_len {F H : Hp} {G : Vw} : ∀ {ss : List Sh} {vs : List V}, Sh.okL F H G ss vs → vs.length = ss.length
  | [], _, h => by
    rw [Sh.okL] at h
    rw [h]
    rfl
  | s :: ss, _, h => by
    rw [Sh.okL] at h
    obtain ⟨v, r, e, p, t⟩ := h
    rw [e, List.length_cons, List.length_cons, okL_len t]
theorem okL_get {F H : Hp} {G : Vw} : ∀ {ss : List Sh} {vs : List V} {i : Nat} {s : Sh}, Sh.okL F H G ss vs → ss[i]? = some s → ∃ v, vs[i]? = some v ∧ s.ok F H G v
  | [], _, _, _, _, e => by simp at e
  | b :: ss, vs, 0, s, h, q => by
    rw [Sh.okL] at h
    obtain ⟨v, r, e, p, t⟩ := h
    have : b = s := by simpa using q
    subst this; subst e
    exact ⟨v, rfl, p⟩
  | b :: ss, vs, i + 1, s, h, q => by
    rw [Sh.okL] at h
    obtain ⟨v, r, e, p, t⟩ := h
    subst e
    obtain ⟨w, h1, h2⟩ := okL_get (i := i) t (by simpa using q)
    exact ⟨w, by simpa using h1, h2⟩
theorem okL_append {F H : Hp} {G : Vw} : ∀ {ss ts : List Sh} {vs ws : List V}, Sh.okL F H G ss vs → Sh.okL F H G ts ws → Sh.okL F H G (ss ++ ts) (vs ++ ws)
  | [], _, _, _, h, h' => by
    rw [Sh.okL] at h
    rw [h]
    exact h'
  | s :: ss, _, _, _, h, h' => by
    rw [Sh.okL] at h
    obtain ⟨v, r, e, p, t⟩ := h
    subst e
    rw [List.cons_append, Sh.okL]
    exact ⟨v, r ++ _, rfl, p, okL_append t h'⟩
theorem adsL_append : ∀ (ss ts : List Sh), Sh.adsL (ss ++ ts) = Sh.adsL ss ++ Sh.adsL ts
  | [], ts => by rw [List.nil_append, Sh.adsL, List.nil_append]
  | s :: ss, ts => by rw [List.cons_append, Sh.adsL, Sh.adsL, adsL_append ss ts, List.append_assoc]
/-! ### places in a thing -/
def Sh.kids : Sh → List Sh
  | .v _ => []
  | .t ss => ss
  | .l _ ss => ss
  | .q _ _ ss => ss
/-- what is read by a number -/
def Sh.its : Sh → List Sh
  | .t ss => ss
  | .l _ ss => ss
  | _ => []
def Sh.wk : Sh → List Sh → Sh
  | .v A, _ => .v A
  | .t _, ss => .t ss
  | .l a _, ss => .l a ss
  | .q a m _, ss => .q a m ss
def Sh.at : Sh → List Nat → Option Sh
  | s, [] => some s
  | s, j :: p => s.kids[j]?.bind fun k => k.at p
def Sh.put : Sh → List Nat → Sh → Sh
  | _, [], x => x
  | s, j :: p, x => s.wk (s.kids.set j (((s.kids[j]?).getD x).put p x))
theorem adsL_mem {ss : List Sh} {s : Sh} {b : Addr} : ∀ {j : Nat}, ss[j]? = some s → b ∈ s.ads → b ∈ Sh.adsL ss := by
  induction ss with
  | nil => intro j h; simp at h
  | cons x r ih =>
    intro j h hb
    rw [Sh.adsL]
    cases j with
    | zero =>
      have : x = s := by simpa using h
      subst this
      exact List.mem_append_left _ hb
    | succ j => exact List.mem_append_right _ (ih (j := j) (by simpa using h) hb)
theorem adsL_set {x : Sh} : ∀ {ss : List Sh} {j : Nat} {s : Sh}, ss[j]? = some s → x.ads.Sublist s.ads → (Sh.adsL (ss.set j x)).Sublist (Sh.adsL ss)
  | [], j, s, h, _ => by simp at h
  | y :: r, 0, s, h, hs => by
    have : y = s := by simpa using h
    subst this
    rw [List.set_cons_zero, Sh.adsL, Sh.adsL]
    exact List.Sublist.append hs (List.Sublist.refl _)
  | y :: r, j + 1, s, h, hs => by
    rw [List.set_cons_succ, Sh.adsL, Sh.adsL]
    exact List.Sublist.append (List.Sublist.refl _) (adsL_set (by simpa using h) hs)
theorem at_mem : ∀ {p : List Nat} {S S' : Sh} {b : Addr}, S.at p = some S' → b ∈ S'.ads → b ∈ S.ads
  | [], S, S', b, h, hb => by
    rw [Sh.at] at h
    cases h
    exact hb
  | j :: p, S, S', b, h, hb => by
    rw [Sh.at] at h
    cases e : S.kids[j]? with
    | none => rw [e] at h; cases h
    | some k =>
      rw [e] at h
      have h1 := at_mem (p := p) (show k.at p = some S' from h) hb
      have h2 := adsL_mem e h1
      cases S with
      | v A => rw [Sh.kids] at e; simp at e
      | t ss => rw [Sh.ads]; exact h2
      | l a ss => rw [Sh.ads]; exact List.mem_cons_of_mem _ h2
      | q a m ss => rw [Sh.ads]; exact List.mem_cons_of_mem _ (List.mem_append_right _ h2)
theorem put_sub : ∀ {p : List Nat} {S S' x : Sh}, S.at p = some S' → x.ads.Sublist S'.ads → (S.put p x).ads.Sublist S.ads
  | [], S, S', x, h, hs => by
    rw [Sh.at] at h
    cases h
    rw [Sh.put]
    exact hs
  | j :: p, S, S', x, h, hs => by
    rw [Sh.at] at h
    cases e : S.kids[j]? with
    | none => rw [e] at h; cases h
    | some k =>
      rw [e] at h
      have h1 := put_sub (p := p) (show k.at p = some S' from h) hs
      rw [Sh.put, e, Option.getD_some]
      have h2 := adsL_set e h1
      cases S with
      | v A => rw [Sh.kids] at e; simp at e
      | t ss => rw [Sh.wk, Sh.ads, Sh.ads]; exact h2
      | l a ss => rw [Sh.wk, Sh.ads, Sh.ads]; exact List.Sublist.cons_cons _ h2
      | q a m ss => rw [Sh.wk, Sh.ads, Sh.ads]; exact List.Sublist.cons_cons _ (List.Sublist.append_left h2 _)
theorem at_ok {F H : Hp} {G : Vw} : ∀ {p : List Nat} {S S' : Sh} {v : V}, S.at p = some S' → S.ok F H G v → ∃ w, S'.ok F H G w
  | [], S, S', v, h, ok => by
    rw [Sh.at] at h
    cases h
    exact ⟨v, ok⟩
  | j :: p, S, S', v, h, ok => by
    rw [Sh.at] at h
    cases e : S.kids[j]? with
    | none => rw [e] at h; cases h
    | some k =>
      rw [e] at h
      cases S with
      | v A => rw [Sh.kids] at e; simp at e
      | t ss =>
        rw [Sh.ok] at ok
        obtain ⟨a, xs, _, _, q⟩ := ok
        obtain ⟨w, _, h2⟩ := okL_get q e
        exact at_ok (p := p) (show k.at p = some S' from h) h2
      | l a ss =>
        rw [Sh.ok] at ok
        obtain ⟨_, _, _, xs, _, q⟩ := ok
        obtain ⟨w, _, h2⟩ := okL_get q e
        exact at_ok (p := p) (show k.at p = some S' from h) h2
      | q a m ss =>
        rw [Sh.ok] at ok
        obtain ⟨_, _, _, xs, _, q⟩ := ok
        obtain ⟨w, _, h2⟩ := okL_get q e
        exact at_ok (p := p) (show k.at p = some S' from h) h2
theorem okL_set {F H : Hp} {G : Vw} {b : Addr} {ws : List V} {x : Sh} : ∀ {ss : List Sh} {vs : List V} {j : Nat} {s : Sh} {w : V}, Sh.okL F H G ss vs → (Sh.adsL ss).Nodup → ss[j]? = some s → b ∈ s.ads → vs[j]? = some w → x.ok F (upd H b (.lst ws)) G w → Sh.okL F (upd H b (.lst ws)) G (ss.set j x) vs
  | [], _, j, s, w, _, _, e, _, _, _ => by simp at e
  | y :: r, vs, 0, s, w, h, nd, e, hb, ew, hx => by
    rw [Sh.okL] at h
    obtain ⟨v, r', e', p, t⟩ := h
    subst e'
    have e1 : y = s := by simpa using e
    have e2 : v = w := by simpa using ew
    subst e1; subst e2
    rw [List.set_cons_zero, Sh.okL]
    rw [Sh.adsL] at nd
    have dj := (List.nodup_append.mp nd).2.2
    refine ⟨v, r', rfl, hx, Sh.okL_move (.refl G) r r' (fun c hc o eo => ?_) (fun _ _ _ _ q => q) (fun _ _ q => q) t⟩
    rw [upd_ne (fun (z : c = b) => dj b hb c hc z.symm)]
    exact eo
  | y :: r, vs, j + 1, s, w, h, nd, e, hb, ew, hx => by
    rw [Sh.okL] at h
    obtain ⟨v, r', e', p, t⟩ := h
    subst e'
    rw [Sh.adsL] at nd
    have dj := (List.nodup_append.mp nd).2.2
    have ndr := (List.nodup_append.mp nd).2.1
    have hbr : b ∈ Sh.adsL r := adsL_mem (by simpa using e) hb
    rw [List.set_cons_succ, Sh.okL]
    refine ⟨v, r', rfl, Sh.ok_move (.refl G) y v (fun c hc o eo => ?_) (fun _ _ _ _ q => q) (fun _ _ q => q) p, okL_set t ndr (by simpa using e) hb (by simpa using ew) hx⟩
    rw [upd_ne (fun (z : c = b) => dj c hc b hbr z)]
    exact eo
theorem nodup_kids {S : Sh} (h : S.ads.Nodup) : (Sh.adsL S.kids).Nodup := by
  cases S with
  | v A => rw [Sh.kids, Sh.adsL]; exact List.nodup_nil
  | t ss => rw [Sh.ads] at h; exact h
  | l a ss => rw [Sh.ads] at h; exact (List.nodup_cons.mp h).2
  | q a m ss => rw [Sh.ads] at h; exact (List.nodup_append.mp (List.nodup_cons.mp h).2).2.1
theorem nodup_kid : ∀ {ss : List Sh} {j : Nat} {s : Sh}, (Sh.adsL ss).Nodup → ss[j]? = some s → s.ads.Nodup
  | [], j, s, _, e => by simp at e
  | y :: r, 0, s, nd, e => by
    have e1 : y = s := by simpa using e
    subst e1
    rw [Sh.adsL] at nd
    exact (List.nodup_append.mp nd).1
  | y :: r, j + 1, s, nd, e => by
    rw [Sh.adsL] at nd
    exact nodup_kid (List.nodup_append.mp nd).2.1 (by simpa using e)
/-- a list in it is written -/
theorem put_ok {F H : Hp} {G : Vw} {b : Addr} {ts ts' : List Sh} {ws : List V} : ∀ {p : List Nat} {S : Sh} {v : V}, S.at p = some (.l b ts) → S.ok F H G v → S.ads.Nodup → Sh.okL F (upd H b (.lst ws)) G ts' ws → (S.put p (.l b ts')).ok F (upd H b (.lst ws)) G v
  | [], S, v, h, ok, nd, hw => by
    rw [Sh.at] at h
    cases h
    rw [Sh.ok] at ok
    obtain ⟨e, f, n, xs, hx, q⟩ := ok
    rw [Sh.put, Sh.ok]
    exact ⟨e, f, n, ws, upd_same, hw⟩
  | j :: p, S, v, h, ok, nd, hw => by
    rw [Sh.at] at h
    cases e : S.kids[j]? with
    | none => rw [e] at h; cases h
    | some k =>
      rw [e] at h
      have h : k.at p = some (.l b ts) := h
      have hb : b ∈ k.ads := at_mem h (by rw [Sh.ads]; exact List.mem_cons_self ..)
      have ndk := nodup_kids nd
      rw [Sh.put, e, Option.getD_some]
      cases S with
      | v A => rw [Sh.kids] at e; simp at e
      | t ss =>
        rw [Sh.ok] at ok
        obtain ⟨a, xs, e1, e2, q⟩ := ok
        obtain ⟨w, hw1, hw2⟩ := okL_get q e
        rw [Sh.wk, Sh.ok]
        exact ⟨a, xs, e1, e2, okL_set q ndk e hb hw1 (put_ok (p := p) h hw2 (nodup_kid ndk e) hw)⟩
      | l a ss =>
        rw [Sh.ok] at ok
        obtain ⟨e1, e2, e3, xs, hx, q⟩ := ok
        obtain ⟨w, hw1, hw2⟩ := okL_get q e
        have hab : a ≠ b := fun z => by
          rw [Sh.ads] at nd
          exact (List.nodup_cons.mp nd).1 (z ▸ adsL_mem e hb)
        rw [Sh.wk, Sh.ok]
        refine ⟨e1, e2, e3, xs, ?_, okL_set q ndk e hb hw1 (put_ok (p := p) h hw2 (nodup_kid ndk e) hw)⟩
        rw [upd_ne hab]
        exact hx
      | q a m ss =>
        rw [Sh.ok] at ok
        obtain ⟨e1, e2, e3, xs, hx, q⟩ := ok
        obtain ⟨w, hw1, hw2⟩ := okL_get q e
        rw [Sh.ads] at nd
        have hbk := adsL_mem e hb
        have hab : ∀ c, c = a ∨ c ∈ m.side → c ≠ b := fun c hc z => by
          subst z
          rcases hc with rfl | hc
          · exact (List.nodup_cons.mp nd).1 (List.mem_append_right _ hbk)
          · exact (List.nodup_append.mp (List.nodup_cons.mp nd).2).2.2 c hc c hbk rfl
        rw [Sh.wk, Sh.ok]
        refine ⟨e1, e2, e3, xs, Kd.has_move (.refl G) (fun c hc o eo => ?_) (fun _ _ _ _ z => z) (fun _ _ z => z) hx, okL_set q ndk e hb hw1 (put_ok (p := p) h hw2 (nodup_kid ndk e) hw)⟩
        rw [upd_ne (hab c hc)]
        exact eo
/-! ### making -/
section
variable (K : PySem.W.Frag) (F : Hp) (G0 : Vw)
/-- a thing whose lists are all new -/
def GN (t : TE) (γ : List Sl) (k : Sh → List Sl → Prop) : Prop := ∀ σ H G Q, At K F G0 γ σ H G → (∀ S γ' v H' G', k S γ' → Vw.Le G G' → At K F G0 γ' σ H' G' → S.ok F H' G' v → S.ads.Nodup → (∀ b, b ∈ S.ads → Free γ' b) → Q v H') → t σ H Q
def GNA (t : TA) (γ : List Sl) (k : List Sh → List Sl → Prop) : Prop := ∀ σ H G Q, At K F G0 γ σ H G → (∀ Ss γ' vs H' G', k Ss γ' → Vw.Le G G' → At K F G0 γ' σ H' G' → Sh.okL F H' G' Ss vs → (Sh.adsL Ss).Nodup → (∀ b, b ∈ Sh.adsL Ss → Free γ' b) → Q vs H') → t σ H Q
/-- a place in a slot's thing is read -/
def GB (t : TE) (γ : List Sl) (k : Sh → List Sl → Prop) : Prop := ∀ σ H G Q, At K F G0 γ σ H G → (∀ S γ' v H' G', k S γ' → Vw.Le G G' → At K F G0 γ' σ H' G' → S.ok F H' G' v → Q v H') → t σ H Q
end
section
variable {K : PySem.W.Frag} {F : Hp} {G0 : Vw} {γ : List Sl} {t te : TE} {ks : KS}
theorem nd_nil : ([] : List Addr).Nodup := List.nodup_nil
theorem gn_v {k : Sh → List Sl → Prop} (h : GE K F G0 t γ fun A γ' => k (.v A) γ') : GN K F G0 t γ k := fun σ H G Q a z =>
  h σ H G Q a fun A γ' v H' G' q le a' p => z (.v A) γ' v H' G' q le a' (by rw [Sh.ok]; exact p) (by rw [Sh.ads]; exact nd_nil) (fun b hb => by rw [Sh.ads] at hb; cases hb)
theorem gn_go {k : Sh → List Sl → Prop} (h : GO K F G0 t γ fun l As γ' => k (.l l (vsh As)) γ') : GN K F G0 t γ k := fun σ H G Q a z =>
  h σ H G Q a fun l As γ' vs H' G' q le a' e f n p fr => z _ γ' _ H' G' q le a' (by rw [Sh.ok]; exact ⟨rfl, f, n, vs, e, okL_vs p⟩) (by rw [Sh.ads, adsL_vs]; exact List.nodup_cons.mpr ⟨by simp, nd_nil⟩) (fun b hb => by
    rw [Sh.ads, adsL_vs] at hb
    rw [List.mem_singleton.mp hb]
    exact fr)
theorem gn_own {i : Nat} {l : Addr} {As : List AV} {k : Sh → List Sl → Prop} (e : γ[i]? = some (.own l As)) (q : k (.l l (vsh As)) (γ.set i .non)) : GN K F G0 (tVar i) γ k := fun σ H G Q a z => by
  obtain ⟨e1, vs, h1, h2, h3, h4⟩ := a.ownAt e
  refine ⟨_, e1, z _ _ _ H G q (.refl G) (a.forget i) (by rw [Sh.ok]; exact ⟨rfl, h2, h3, vs, h1, okL_vs h4⟩) (by rw [Sh.ads, adsL_vs]; exact List.nodup_cons.mpr ⟨by simp, nd_nil⟩) (fun b hb j T hj hc => ?_)⟩
  rw [Sh.ads, adsL_vs] at hb
  have hb := List.mem_singleton.mp hb
  subst hb
  by_cases hij : i = j
  · subst hij
    rw [List.getElem?_set_self (set_lt hj)] at hj
    cases hj
    exact no_adsN hc
  · rw [List.getElem?_set_ne hij] at hj
    exact hij (a.dis i j _ T b e hj (own_ads b As) hc)
theorem gn_tr {i : Nat} {S : Sh} {k : Sh → List Sl → Prop} (e : γ[i]? = some (.tr S)) (q : k S (γ.set i .non)) : GN K F G0 (tVar i) γ k := fun σ H G Q a z => by
  obtain ⟨v, e1, ok, nd⟩ := a.trAt e
  refine ⟨_, e1, z _ _ _ H G q (.refl G) (a.forget i) ok nd (fun b hb j T hj hc => ?_)⟩
  by_cases hij : i = j
  · subst hij
    rw [List.getElem?_set_self (set_lt hj)] at hj
    cases hj
    exact no_adsN hc
  · rw [List.getElem?_set_ne hij] at hj
    exact hij (a.dis i j _ T b e hj hb hc)
/-- inside: cells that nobody else knows of stand as they are -/
def holdF (F H : Hp) (N : List Addr) : Hp := fun b => if b ∈ N then H b else F b
structure Kept (F H : Hp) (G : Vw) (γ : List Sl) (N : List Addr) : Prop where
  some : ∀ b, b ∈ N → ∃ o, H b = some o ∧ Ow o
  no : ∀ b, b ∈ N → F b = none
  nl : ∀ b, b ∈ N → ∀ ys, ¬ G.l b ys
  fr : ∀ b, b ∈ N → Free γ b
theorem Kept.ofTree {H : Hp} {G : Vw} {S : Sh} {v : V} (ok : S.ok F H G v) (fr : ∀ b, b ∈ S.ads → Free γ b) : Kept F H G γ S.ads :=
  ⟨fun b hb => (Sh.ok_ad S v ok b hb).2.2, fun b hb => (Sh.ok_ad S v ok b hb).1, fun b hb => (Sh.ok_ad S v ok b hb).2.1, fr⟩
theorem At.hold {σ : L2.St} {H : Hp} {G : Vw} {N : List Addr} (a : At K F G0 γ σ H G) (kp : Kept F H G γ N) : At K (holdF F H N) G γ σ H G := by
  refine ⟨.refl G, fun b o q => ?_, a.see, fun _ _ _ q => q, a.len, fun i S h => (a.slot i S h).move (.refl G) (fun _ _ _ e => e) (fun _ _ _ _ e => e) fun b hb e => ?_, a.dis⟩
  · unfold holdF at q
    by_cases hb : b ∈ N
    · rw [if_pos hb] at q; exact q
    · rw [if_neg hb] at q; exact a.same b o q
  · unfold holdF
    rw [if_neg (fun z => kp.fr b z i S h hb)]
    exact e
theorem At.unhold {γ' : List Sl} {σ σ' : L2.St} {H H' : Hp} {G G' : Vw} {N : List Addr} (a : At K F G0 γ σ H G) (kp : Kept F H G γ N) (b : At K (holdF F H N) G γ' σ' H' G') : At K F G0 γ' σ' H' G' ∧ Kept F H' G' γ' N ∧ ∀ c, c ∈ N → H' c = H c := by
  have st : ∀ c, c ∈ N → H' c = H c := fun c hc => by
    obtain ⟨xs, hx, _⟩ := kp.some c hc
    rw [hx]
    refine b.same c _ ?_
    unfold holdF
    rw [if_pos hc, hx]
  have nn : ∀ c, c ∈ N → holdF F H N c ≠ none := fun c hc => by
    obtain ⟨xs, hx, _⟩ := kp.some c hc
    unfold holdF
    rw [if_pos hc, hx]
    intro z
    cases z
  refine ⟨⟨a.le.trans b.le, fun c o q => b.same c o ?_, b.see, fun c xs hc q => a.hid c xs hc (b.hid c xs ?_ q), b.len, fun i S h => (b.slot i S h).move (.refl G') (fun _ _ _ e => e) (fun _ _ _ _ e => e) fun c hc e => ?_, b.dis⟩, ⟨fun c hc => ?_, kp.no, fun c hc ys q => kp.nl c hc ys (b.hid c ys (nn c hc) q), fun c hc j T z hb => nn c hc (b.has z hb).1⟩, st⟩
  · unfold holdF
    rw [if_neg (fun z => by rw [kp.no c z] at q; cases q)]
    exact q
  · unfold holdF
    by_cases hcN : c ∈ N
    · exact absurd (kp.no c hcN) hc
    · rw [if_neg hcN]
      exact hc
  · by_cases hcN : c ∈ N
    · exact kp.no c hcN
    · unfold holdF at e
      rw [if_neg hcN] at e
      exact e
  · rw [st c hc]
    exact kp.some c hc
theorem gna_nil {k : List Sh → List Sl → Prop} (q : k [] γ) : GNA K F G0 tNil γ k := fun σ H G Q a z => z [] γ [] H G q (.refl G) a (by rw [Sh.okL]) (by rw [Sh.adsL]; exact nd_nil) (fun b hb => by rw [Sh.adsL] at hb; cases hb)
theorem gna_cons {ta : TA} {k : List Sh → List Sl → Prop} (h : GN K F G0 te γ fun S γ1 => ∀ F' G0', GNA K F' G0' ta γ1 fun Ss γ2 => k (S :: Ss) γ2) : GNA K F G0 (tCons te ta) γ k := fun σ H G Q a z =>
  h σ H G _ a fun S γ1 v H1 G1 h1 l1 a1 ok nd fr => by
    have kp := Kept.ofTree ok fr
    refine h1 _ G1 σ H1 G1 _ (a1.hold kp) fun Ss γ2 vs H2 G2 h2 l2 a2 ok2 nd2 fr2 => ?_
    obtain ⟨a3, kp3, st⟩ := a1.unhold kp a2
    have dj : ∀ c, c ∈ S.ads → c ∉ Sh.adsL Ss := fun c hc hd => by
      have := (Sh.okL_ad Ss vs ok2 c hd).1
      unfold holdF at this
      rw [if_pos hc] at this
      obtain ⟨xs, hx, _⟩ := kp.some c hc
      rw [hx] at this
      cases this
    refine z (S :: Ss) γ2 (v :: vs) H2 G2 h2 (l1.trans l2) a3 ?_ ?_ ?_
    · rw [Sh.okL]
      refine ⟨v, vs, rfl, Sh.ok_move l2 S v (fun c hc o e => by rw [st c hc]; exact e) (fun c hc _ ys q => (kp3.nl c hc ys q).elim) (fun _ _ q => q) ok, Sh.okL_move (.refl G2) Ss vs (fun _ _ _ e => e) (fun _ _ _ _ e => e) (fun c hc e => ?_) ok2⟩
      unfold holdF at e
      rw [if_neg (fun z => dj c z hc)] at e
      exact e
    · rw [Sh.adsL]
      exact List.nodup_append.mpr ⟨nd, nd2, fun x hx y hy e => dj x hx (e ▸ hy)⟩
    · intro b hb
      rw [Sh.adsL] at hb
      rcases List.mem_append.mp hb with hb | hb
      · exact kp3.fr b hb
      · exact fr2 b hb
theorem gn_tup {ta : TA} {k : Sh → List Sl → Prop} (h : GNA K F G0 ta γ fun Ss γ1 => Ss.length ≤ 100000 ∧ k (.t Ss) γ1) : GN K F G0 (tTup ta) γ k := fun σ H G Q a z =>
  h σ H G _ a fun Ss γ1 vs H1 G1 h1 l1 a1 ok nd fr => ⟨size_ok (by rw [okL_len ok]; exact h1.1), fun p np => by
    have s := same_upd (o := .tup vs) np
    have a2 := (a1.up s).addT (p := p) (vs := vs) (SqT.of upd_same)
    refine z _ γ1 _ _ _ h1.2 (l1.trans (G1.leT p vs)) a2 ?_ (by rw [Sh.ads]; exact nd) (fun b hb => fr b (by rw [Sh.ads] at hb; exact hb))
    rw [Sh.ok]
    exact ⟨p, vs, rfl, .inr ⟨rfl, rfl⟩, Sh.okL_move (G1.leT p vs) Ss vs (fun b _ o e => s b o e) (fun _ _ _ _ e => e) (fun _ _ e => e) ok⟩⟩
theorem gn_lst {ta : TA} {k : Sh → List Sl → Prop} (h : GNA K F G0 ta γ fun Ss γ1 => Ss.length ≤ 100000 ∧ AllA fun l => k (.l l Ss) γ1) : GN K F G0 (tLst ta) γ k := fun σ H G Q a z =>
  h σ H G _ a fun Ss γ1 vs H1 G1 h1 l1 a1 ok nd fr => ⟨size_ok (by rw [okL_len ok]; exact h1.1), fun p np => by
    have s := same_upd (o := .lst vs) np
    have pn : p ∉ Sh.adsL Ss := fun hp => by
      obtain ⟨_, _, xs, hx, _⟩ := Sh.okL_ad Ss vs ok p hp
      rw [np] at hx
      cases hx
    refine z _ γ1 _ _ _ (h1.2 p) l1 (a1.up s) ?_ (by rw [Sh.ads]; exact List.nodup_cons.mpr ⟨pn, nd⟩) (fun b hb => ?_)
    · rw [Sh.ok]
      exact ⟨rfl, a1.noF np, a1.noL np, vs, upd_same, Sh.okL_move (.refl G1) Ss vs (fun b _ o e => s b o e) (fun _ _ _ _ e => e) (fun _ _ e => e) ok⟩
    · rw [Sh.ads] at hb
      rcases List.mem_cons.mp hb with rfl | hb
      · exact a1.noOwn np
      · exact fr b hb⟩
/-- all its lists are shown to all -/
theorem At.addTree {σ : L2.St} {H : Hp} {G : Vw} {S : Sh} {v : V} (a : At K F G0 γ σ H G) (ok : S.ok F H G v) (fr : ∀ b, b ∈ S.ads → Free γ b) : ∃ G', Vw.Le G G' ∧ At K F G0 γ σ H G' ∧ S.av.p G' v := by
  have le : Vw.Le G ⟨G.t, fun b xs => G.l b xs ∨ (b ∈ S.ads ∧ H b = some (.lst xs)), G.c, G.h, G.k⟩ := ⟨fun _ _ h => h, fun _ _ h => .inl h, fun _ _ h => h, fun _ _ h => h, rfl⟩
  refine ⟨_, le, ⟨a.le.trans le, a.same, ⟨a.see.t, fun b xs q => ?_, a.see.c, a.see.h, a.see.k⟩, fun b xs hb q => ?_, a.len, fun i T q => (a.slot i T q).move le (fun _ _ _ e => e) (fun b hb _ ys e => ?_) fun _ _ e => e, a.dis⟩, Sh.ok_av le S v (fun b hb xs hx => .inr ⟨hb, hx⟩) ok⟩
  · rcases q with q | ⟨_, q⟩
    · exact a.see.l b xs q
    · exact q
  · rcases q with q | ⟨q1, q2⟩
    · exact a.hid b xs hb q
    · exact absurd (Sh.ok_ad S v ok b q1).1 hb
  · rcases e with e | ⟨e, _⟩
    · exact e
    · exact absurd hb (fr b e i T q)
theorem ge_of_gn {k : AV → List Sl → Prop} (h : GN K F G0 t γ fun S γ1 => k S.av γ1) : GE K F G0 t γ k := fun σ H G Q a z =>
  h σ H G Q a fun S γ1 v H1 G1 h1 l1 a1 ok nd fr => by
    obtain ⟨G2, l2, a2, p⟩ := a1.addTree ok fr
    exact z _ γ1 v H1 G2 h1 (l1.trans l2) a2 p
theorem gs_setN {i : Nat} (h : GN K F G0 t γ fun S γ1 => ks.nx (γ1.set i (.tr S))) : GS K F G0 (tAsg t (gName i)) γ ks := fun D σ H G a s =>
  h σ H G _ a fun S γ1 v H1 G1 h1 l1 a1 ok nd fr => s.nx _ _ H1 G1 h1 l1 (At.set (S := .tr S) a1 ⟨v, rfl, ok, nd⟩ fr)
theorem gs_retNw (h : GN K F G0 t γ fun S γ1 => ks.rn S γ1) : GS K F G0 (tRet t) γ ks := fun D σ H G a s =>
  h σ H G _ a fun S γ1 v H1 G1 h1 l1 a1 ok nd fr => s.rn S γ1 σ v H1 G1 h1 l1 a1 ok nd fr
/-- a thing is given away: all its lists are known to all from here on -/
theorem gs_freezeT {ts : TS} (i : Nat) {S : Sh} (e : γ[i]? = some (.tr S)) (q : NX K F G0 ts (γ.set i (.sh S.av)) ks) : GS K F G0 ts γ ks := fun D σ H G a s => by
  obtain ⟨v, e1, ok, nd⟩ := a.trAt e
  have fr : ∀ b, b ∈ S.ads → Free (γ.set i .non) b := fun b hb j T hj hc => by
    by_cases hij : i = j
    · subst hij
      rw [List.getElem?_set_self (set_lt hj)] at hj
      cases hj
      exact no_adsN hc
    · rw [List.getElem?_set_ne hij] at hj
      exact hij (a.dis i j _ T b e hj hb hc)
  obtain ⟨G2, l2, a2, p⟩ := (a.forget i).addTree ok fr
  have a3 := a2.sets (i := i) p
  have es : σ.set i (some v) = σ := by
    refine List.ext_getElem? fun j => ?_
    by_cases hij : i = j
    · subst hij
      rw [List.getElem?_set_self (List.getElem?_eq_some_iff.mp e1).1, e1]
    · rw [List.getElem?_set_ne hij]
  rw [es, List.set_set] at a3
  exact q D σ H G2 a3 (s.up l2)
/-- a list of known things is one's own -/
theorem gs_toOwn {ts : TS} (i : Nat) {l : Addr} {As : List AV} (e : γ[i]? = some (.tr (.l l (vsh As)))) (q : NX K F G0 ts (γ.set i (.own l As)) ks) : GS K F G0 ts γ ks := fun D σ H G a s => by
  obtain ⟨v, e1, ok, nd⟩ := a.trAt e
  have hl : i < γ.length := (List.getElem?_eq_some_iff.mp e).1
  rw [Sh.ok] at ok
  obtain ⟨rfl, f, n, xs, hx, ok⟩ := ok
  refine q D σ H G ⟨a.le, a.same, a.see, a.hid, by rw [List.length_set, a.len], fun j T z => ?_, dis_sub a.dis e fun b hb => ?_⟩ s
  · by_cases hij : i = j
    · subst hij
      rw [List.getElem?_set_self hl] at z
      cases z
      rw [e1]
      exact ⟨rfl, xs, hx, f, n, vs_okL ok⟩
    · rw [List.getElem?_set_ne hij] at z
      exact a.slot j T z
  · rw [own_ad hb]
    show l ∈ (Sh.l l (vsh As)).ads
    rw [Sh.ads]
    exact List.mem_cons_self ..
/-! ### reading, changing -/
theorem gb_var {i : Nat} {S : Sh} {k : Sh → List Sl → Prop} (e : γ[i]? = some (.tr S)) (q : k S γ) : GB K F G0 (tVar i) γ k := fun σ H G Q a z => by
  obtain ⟨v, e1, ok, _⟩ := a.trAt e
  exact ⟨v, e1, z S γ v H G q (.refl G) a ok⟩
theorem atI_okL {H : Hp} {G : Vw} {ss : List Sh} {vs : List V} {i : Int} {s : Sh} (h : Sh.okL F H G ss vs) (e : atI ss i = some s) : ∃ v, atI vs i = some v ∧ s.ok F H G v := by
  have hl := okL_len h
  unfold atI at e ⊢
  rw [hl]
  cases hj : ixN ss.length i with
  | none => rw [hj] at e; cases e
  | some j =>
    rw [hj] at e
    exact okL_get h e
theorem ok_ix {H : Hp} {G : Vw} {S S' : Sh} {v : V} {j : Int} (see : See K G H) (ok : S.ok F H G v) (e : atI S.its j = some S') (Q : VK) (z : ∀ w, S'.ok F H G w → Q w H) : rIx K v (.int j) H Q := by
  cases S with
  | v A =>
    have e : atI ([] : List Sh) j = some S' := e
    unfold atI at e
    cases hj : ixN ([] : List Sh).length j with
    | none => rw [hj] at e; cases e
    | some m => rw [hj] at e; simp at e
  | t ss =>
    rw [Sh.ok] at ok
    obtain ⟨a, xs, rfl, ht, q⟩ := ok
    obtain ⟨w, h1, h2⟩ := atI_okL q e
    exact .inr (.inl ⟨a, xs, j, w, rfl, rfl, see.t a xs ht, h1, z w h2⟩)
  | l a ss =>
    rw [Sh.ok] at ok
    obtain ⟨rfl, _, _, xs, hx, q⟩ := ok
    obtain ⟨w, h1, h2⟩ := atI_okL q e
    exact .inl ⟨a, xs, j, w, rfl, rfl, SqL.of hx, h1, z w h2⟩
  | q a m ss =>
    have e : atI ([] : List Sh) j = some S' := e
    unfold atI at e
    cases hj : ixN ([] : List Sh).length j with
    | none => rw [hj] at e; cases e
    | some m => rw [hj] at e; simp at e
theorem gb_ixC {j : Int} {k : Sh → List Sl → Prop} (h : GB K F G0 te γ fun S γ1 => ∃ S', atI S.its j = some S' ∧ k S' γ1) : GB K F G0 (tOp (rIx K) te (tC (.int j))) γ k := fun σ H G Q a z =>
  h σ H G _ a fun S γ1 v H1 G1 ⟨S', e, q⟩ l1 a1 ok => ok_ix a1.see ok e Q fun w hw => z S' γ1 w H1 G1 q l1 a1 hw
theorem gb_ixV {i : Nat} {k : Sh → List Sl → Prop} (h : GB K F G0 te γ fun S γ1 => ∃ j S', γ1[i]? = some (.sh (aInt j)) ∧ atI S.its j = some S' ∧ k S' γ1) : GB K F G0 (tOp (rIx K) te (tVar i)) γ k := fun σ H G Q a z =>
  h σ H G _ a fun S γ1 v H1 G1 ⟨j, S', e0, e, q⟩ l1 a1 ok => by
    obtain ⟨u, e1, p⟩ := a1.shAt e0
    have p : u = V.int j := p
    subst p
    exact ⟨_, e1, ok_ix a1.see ok e Q fun w hw => z S' γ1 w H1 G1 q l1 a1 hw⟩
theorem ge_gb {k : AV → List Sl → Prop} (h : GB K F G0 t γ fun S γ1 => ∃ A, S = .v A ∧ k A γ1) : GE K F G0 t γ k := fun σ H G Q a z =>
  h σ H G Q a fun S γ1 v H1 G1 ⟨A, e, q⟩ l1 a1 ok => by
    subst e
    rw [Sh.ok] at ok
    exact z A γ1 v H1 G1 q l1 a1 ok
theorem ge_lenB {k : AV → List Sl → Prop} (h : GB K F G0 te γ fun S γ1 => ∃ b ts, S = .l b ts ∧ k (aInt ts.length) γ1) : GE K F G0 (tCB (rLen K) (tCons te tNil)) γ k := fun σ H G Q a z =>
  h σ H G _ a fun S γ1 v H1 G1 ⟨b, ts, e, q⟩ l1 a1 ok => by
    subst e
    rw [Sh.ok] at ok
    obtain ⟨rfl, _, _, xs, hx, ok⟩ := ok
    exact ⟨_, xs.length, rfl, .inl ⟨xs, SqL.of hx, rfl⟩, z _ γ1 _ H1 G1 q l1 a1 (by rw [okL_len ok]; rfl)⟩
/-- a list in slot i's thing is written -/
theorem At.putT {σ : L2.St} {H : Hp} {G : Vw} {i : Nat} {S : Sh} {p : List Nat} {b : Addr} {ts ts' : List Sh} {ws : List V} (a : At K F G0 γ σ H G) (e : γ[i]? = some (.tr S)) (ep : S.at p = some (.l b ts)) (hs : (Sh.adsL ts').Sublist (Sh.adsL ts)) (hw : Sh.okL F (upd H b (.lst ws)) G ts' ws) : At K F G0 (γ.set i (.tr (S.put p (.l b ts')))) σ (upd H b (.lst ws)) G := by
  obtain ⟨v, e1, ok, nd⟩ := a.trAt e
  have sub : (S.put p (.l b ts')).ads.Sublist S.ads := put_sub ep (by rw [Sh.ads, Sh.ads]; exact List.Sublist.cons_cons _ hs)
  have hb : b ∈ S.ads := at_mem ep (by rw [Sh.ads]; exact List.mem_cons_self ..)
  refine a.rewrite e hb (fun c hc => sub.subset hc) ?_
  rw [e1]
  exact ⟨v, rfl, put_ok ep ok nd hw, sub.nodup nd⟩
theorem At.atL {σ : L2.St} {H : Hp} {G : Vw} {i : Nat} {S : Sh} {p : List Nat} {b : Addr} {ts : List Sh} (a : At K F G0 γ σ H G) (e : γ[i]? = some (.tr S)) (ep : S.at p = some (.l b ts)) : ∃ xs, H b = some (.lst xs) ∧ Sh.okL F H G ts xs ∧ b ∉ Sh.adsL ts := by
  obtain ⟨v, e1, ok, nd⟩ := a.trAt e
  obtain ⟨w, h⟩ := at_ok ep ok
  have ndb : ∀ {p : List Nat} {S : Sh}, S.ads.Nodup → S.at p = some (.l b ts) → (Sh.l b ts).ads.Nodup := by
    intro p
    induction p with
    | nil =>
      intro S nd ep
      rw [Sh.at] at ep
      cases ep
      exact nd
    | cons j p ih =>
      intro S nd ep
      rw [Sh.at] at ep
      cases e : S.kids[j]? with
      | none => rw [e] at ep; cases ep
      | some k =>
        rw [e] at ep
        exact ih (nodup_kid (nodup_kids nd) e) ep
  have nb := ndb nd ep
  rw [Sh.ok] at h
  rw [Sh.ads] at nb
  obtain ⟨_, _, _, xs, hx, q⟩ := h
  exact ⟨xs, hx, q, (List.nodup_cons.mp nb).1⟩
theorem okL_upd {H : Hp} {G : Vw} {b : Addr} {o : HO} {ts : List Sh} {xs : List V} (h : Sh.okL F H G ts xs) (hb : b ∉ Sh.adsL ts) : Sh.okL F (upd H b o) G ts xs := Sh.okL_move (.refl G) ts xs (fun c hc o' e => by rw [upd_ne (fun (z : c = b) => hb (z ▸ hc))]; exact e) (fun _ _ _ _ e => e) (fun _ _ e => e) h
/-- t.append(e), t a place in slot i's thing -/
theorem gs_appendP {to te : TE} (i : Nat) (h : GB K F G0 to γ fun S0 γ0 => ∃ b ts, S0 = .l b ts ∧ GE K F G0 te γ0 fun A γ1 => ∃ S p S', γ1[i]? = some (.tr S) ∧ S.at p = some (.l b ts) ∧ ts.length ≤ 100000 ∧ S.put p (.l b (ts ++ [.v A])) = S' ∧ ks.nx (γ1.set i (.tr S'))) : GS K F G0 (tDrop (tBM K "list" rAppend to (tCons te tNil))) γ ks := fun D σ H G a s =>
  h σ H G _ a fun S0 γ0 v H0 G1 ⟨b, ts, e0, h1⟩ l0 a0 ok0 => by
    subst e0
    rw [Sh.ok] at ok0
    obtain ⟨rfl, _, _, xs0, hx0, _⟩ := ok0
    refine ⟨.inl ⟨rfl, _, SqL.of hx0⟩, h1 σ H0 G1 _ a0 fun A γ1 y H1 G2 ⟨S, p, S', e, ep, hl, eS, q⟩ l1 a1 p1 => ?_⟩
    obtain ⟨xs, hx, ok, nb⟩ := a1.atL e ep
    subst eS
    refine ⟨b, xs, y, rfl, rfl, hx, size_lt (by rw [okL_len ok]; exact hl), s.nx _ σ _ G2 q (l0.trans l1) (a1.putT e ep ?_ ?_)⟩
    · rw [adsL_append]
      have : Sh.adsL [Sh.v A] = [] := adsL_vs [A]
      rw [this, List.append_nil]
      exact List.Sublist.refl _
    · exact okL_append (okL_upd ok nb) (okL_vs (As := [A]) (.one p1))
theorem gs_clearP {to : TE} (i : Nat) (h : GB K F G0 to γ fun S0 γ0 => ∃ b ts S p S', S0 = .l b ts ∧ γ0[i]? = some (.tr S) ∧ S.at p = some (.l b ts) ∧ S.put p (.l b []) = S' ∧ ks.nx (γ0.set i (.tr S'))) : GS K F G0 (tDrop (tBM0 K "list" rClear to)) γ ks := fun D σ H G a s =>
  h σ H G _ a fun S0 γ0 v H0 G1 ⟨b, ts, S, p, S', e0, e, ep, eS, q⟩ l0 a0 ok0 => by
    subst e0
    subst eS
    rw [Sh.ok] at ok0
    obtain ⟨rfl, _, _, xs0, hx0, _⟩ := ok0
    refine ⟨.inl ⟨rfl, _, SqL.of hx0⟩, b, xs0, rfl, rfl, hx0, s.nx _ σ _ G1 q l0 (a0.putT (ws := []) e ep ?_ ?_)⟩
    · rw [Sh.adsL]; exact List.nil_sublist _
    · rw [Sh.okL]
theorem okL_dropLast {H : Hp} {G : Vw} : ∀ {ts : List Sh} {xs : List V}, Sh.okL F H G ts xs → Sh.okL F H G ts.dropLast xs.dropLast
  | [], xs, h => by
    rw [Sh.okL] at h
    subst h
    show Sh.okL F H G [] []
    rw [Sh.okL]
  | [s], xs, h => by
    rw [Sh.okL] at h
    obtain ⟨x, r, rfl, p, q⟩ := h
    rw [Sh.okL] at q
    subst q
    show Sh.okL F H G [] []
    rw [Sh.okL]
  | s :: u :: r, xs, h => by
    rw [Sh.okL] at h
    obtain ⟨x, r', rfl, p, q⟩ := h
    have ih := okL_dropLast q
    have q' := q
    rw [Sh.okL] at q'
    obtain ⟨y, r2, rfl, _, _⟩ := q'
    rw [List.dropLast_cons_cons, List.dropLast_cons_cons, Sh.okL]
    exact ⟨x, _, rfl, p, ih⟩
theorem adsL_dropLast : ∀ ts : List Sh, (Sh.adsL ts.dropLast).Sublist (Sh.adsL ts)
  | [] => by
    show (Sh.adsL []).Sublist _
    rw [Sh.adsL]; exact List.nil_sublist _
  | [s] => by
    show (Sh.adsL []).Sublist _
    rw [Sh.adsL]; exact List.nil_sublist _
  | s :: u :: r => by
    rw [List.dropLast_cons_cons, Sh.adsL, Sh.adsL]
    exact List.Sublist.append (List.Sublist.refl _) (adsL_dropLast (u :: r))
theorem gs_popP {to : TE} (i : Nat) (h : GB K F G0 to γ fun S0 γ0 => ∃ b ts S p S', S0 = .l b ts ∧ γ0[i]? = some (.tr S) ∧ S.at p = some (.l b ts) ∧ 0 < ts.length ∧ S.put p (.l b ts.dropLast) = S' ∧ ks.nx (γ0.set i (.tr S'))) : GS K F G0 (tDrop (tBM0 K "list" rPop to)) γ ks := fun D σ H G a s =>
  h σ H G _ a fun S0 γ0 v H0 G1 ⟨b, ts, S, p, S', e0, e, ep, hl, eS, q⟩ l0 a0 ok0 => by
    subst e0
    subst eS
    rw [Sh.ok] at ok0
    obtain ⟨rfl, _, _, xs0, hx0, _⟩ := ok0
    obtain ⟨xs, hx, ok, nb⟩ := a0.atL e ep
    rw [hx0] at hx
    cases hx
    have hlx : xs0.length - 1 < xs0.length := by have := okL_len ok; omega
    exact ⟨.inl ⟨rfl, _, SqL.of hx0⟩, b, xs0, xs0[xs0.length - 1], rfl, rfl, hx0, List.getElem?_eq_getElem hlx, s.nx _ σ _ G1 q l0 (a0.putT e ep (adsL_dropLast ts) (okL_upd (okL_dropLast ok) (fun z => nb ((adsL_dropLast ts).subset z))))⟩
/-! ### lists lent while a new thing is made -/
/-- what tells nothing of lists -/
def Lf (A : AV) : Prop := ∀ (G : Vw) (v : V), A.p G v → A.p ⟨G.t, fun _ _ => False, fun _ _ => False, G.h, G.k⟩ v
def Lfs (As : List AV) : Prop := ∀ A, A ∈ As → Lf A
theorem lf_v (v : V) : Lf (aV v) := fun _ _ h => h
theorem lf_avs {G : Vw} : ∀ {As : List AV} {vs : List V}, Lfs As → avs G As vs → avs ⟨G.t, fun _ _ => False, fun _ _ => False, G.h, G.k⟩ As vs
  | [], _, _, h => h
  | A :: As, _, hl, ⟨v, r, e, p, t⟩ => ⟨v, r, e, hl A (by simp) G v p, lf_avs (fun B hB => hl B (by simp [hB])) t⟩
theorem lf_tup {As : List AV} (h : Lfs As) : Lf (aTup As) := fun G v ⟨a, vs, e, ht, hv⟩ => ⟨a, vs, e, ht, lf_avs h hv⟩
theorem lfs_nil : Lfs [] := fun A h => by cases h
theorem lfs_cons {A : AV} {As : List AV} (h : Lf A) (t : Lfs As) : Lfs (A :: As) := fun B hB => by
  rcases List.mem_cons.mp hB with rfl | hB
  · exact h
  · exact t B hB
theorem lf_F (q : Rat) : Lf (aF q) := lf_tup (lfs_cons (lf_v _) (lfs_cons (lf_v _) lfs_nil))
theorem lf_cut (c : Int × Int) : Lf (aCut c) := lf_tup (lfs_cons (lf_v _) (lfs_cons (lf_v _) lfs_nil))
theorem lf_ask (q : Ask) : Lf (aAsk q) := lf_tup (lfs_cons (lf_v _) (lfs_cons (lf_v _) (lfs_cons (lf_v _) (lfs_cons (lf_F _) lfs_nil))))
theorem lfs_map {α : Type} {f : α → AV} (h : ∀ x, Lf (f x)) (xs : List α) : Lfs (xs.map f) := fun A hA => by
  obtain ⟨x, _, rfl⟩ := List.mem_map.mp hA
  exact h x
/-- the view behind a loan: all but the lent lists -/
def unlent (γ : List Sl) (G : Vw) : Vw := ⟨G.t, fun b xs => G.l b xs ∧ Free γ b, G.c, G.h, G.k⟩
theorem At.unlend {γ' : List Sl} {σ : L2.St} {H H' : Hp} {G GL G' : Vw} (a : At K F G0 γ σ H G) (le : Vw.Le G GL) (b : At K H GL γ' σ H' G') (hl : ∀ c ys, GL.l c ys → G.l c ys ∨ ¬ Free γ c) : Vw.Le G (unlent γ G') ∧ At K F G0 γ σ H' (unlent γ G') := by
  have l1 : Vw.Le G (unlent γ G') := ⟨fun c xs h => b.le.t c xs (le.t c xs h), fun c xs h => ⟨b.le.l c xs (le.l c xs h), fun j T e hb => (a.has e hb).2.1 xs h⟩, fun c xs h => b.le.c c xs (le.c c xs h), fun c o h => b.le.h c o (le.h c o h), b.le.k.trans le.k⟩
  refine ⟨l1, a.call l1 b.same ⟨b.see.t, fun c xs h => b.see.l c xs h.1, b.see.c, b.see.h, b.see.k⟩ fun c xs hc h => ?_⟩
  rcases hl c xs (b.hid c xs hc h.1) with z | z
  · exact z
  · exact absurd h.2 z
/-- own lists are lent while a value is made that tells nothing of lists -/
theorem ge_lendL {k : AV → List Sl → Prop} (h : ∀ F' G0', GE K F' G0' te (lend γ) fun A _ => Lf A ∧ k A γ) : GE K F G0 te γ k := fun σ H G Q a z =>
  h H _ σ H _ _ a.lendAt fun A γ' u H' G' ⟨hA, q⟩ _ a' p => by
    obtain ⟨l1, a1⟩ := a.unlend (lent_le γ H G) a' fun c ys h => h.imp id fun ⟨_, i, S, e, hb⟩ fr => fr i S e hb
    exact z A γ u H' _ q l1 a1 (A.mono (G := ⟨G'.t, fun _ _ => False, fun _ _ => False, G'.h, G'.k⟩) ⟨fun _ _ h => h, fun _ _ h => False.elim h, fun _ _ h => False.elim h, fun _ _ h => h, rfl⟩ (hA G' u p))
theorem go_lend {k : Addr → List AV → List Sl → Prop} (h : ∀ F' G0', GO K F' G0' te (lend γ) fun l As _ => Lfs As ∧ k l As γ) : GO K F G0 te γ k := fun σ H G Q a z =>
  h H _ σ H _ _ a.lendAt fun l As γ' vs H' G' ⟨hA, q⟩ _ a' e f n p _ => by
    obtain ⟨l1, a1⟩ := a.unlend (lent_le γ H G) a' fun c ys h => h.imp id fun ⟨_, i, S, e, hb⟩ fr => fr i S e hb
    exact z l As γ vs H' _ q l1 a1 e (a.noF f) (fun ys h => n ys h.1) (avs.mono (G := ⟨G'.t, fun _ _ => False, fun _ _ => False, G'.h, G'.k⟩) (G' := unlent γ G') ⟨fun _ _ h => h, fun _ _ h => False.elim h, fun _ _ h => False.elim h, fun _ _ h => h, rfl⟩ (lf_avs hA p)) (a.noOwn f)
end
end Rl

/-! # Rl, twelfth part: defs that tell new things, defs that are given things; repr -/
namespace Rl
open PySem PySem.Spec PyProof.Rows L2
/-! ### a def that tells a thing whose lists are all new -/
/-- R: a value told; RN: a thing told, its lists all new -/
abbrev Cn := List AV → (AV → Prop) → (Sh → Prop) → Prop
def spN (K : PySem.W.Frag) (C : Cn) : Sp := fun vs H Q _ => ∃ As R RN G, C As R RN ∧ avs G As vs ∧ See K G H ∧
  (∀ A v H' G', R A → Vw.Le G G' → Same H H' → See K G' H' → (∀ b xs, H b ≠ none → G'.l b xs → G.l b xs) → A.p G' v → Q v H') ∧
  (∀ S v H' G', RN S → Vw.Le G G' → Same H H' → See K G' H' → (∀ b xs, H b ≠ none → G'.l b xs → G.l b xs) → S.ok H H' G' v → S.ads.Nodup → Q v H')
section
variable {K : PySem.W.Frag} {F : Hp} {G0 : Vw} {γ : List Sl} {t te : TE} {ks : KS}
theorem ok_fresh {σ : L2.St} {H H' : Hp} {G G' : Vw} {S : Sh} {v : V} (a : At K F G0 γ σ H G) (ok : S.ok H H' G' v) : S.ok F H' G' v ∧ ∀ b, b ∈ S.ads → Free γ b :=
  ⟨Sh.ok_move (.refl G') S v (fun _ _ _ e => e) (fun _ _ _ _ e => e) (fun b _ e => a.noF e) ok, fun b hb => a.noOwn (Sh.ok_ad S v ok b hb).1⟩
theorem gn_call {C : Cn} {E : XK} {ta : TA} {k : Sh → List Sl → Prop} (h : GA K F G0 ta γ fun As γ1 => C As (fun A => k (.v A) γ1) (fun S => k S γ1)) : GN K F G0 (tCall (spN K C) [] E ta) γ k := fun σ H G Q a z =>
  h σ H G _ a fun As γ1 vs H1 G1 h1 l1 a1 p1 => by
    show spN K C (vs ++ []) H1 Q E
    rw [List.append_nil]
    refine ⟨As, _, _, G1, h1, p1, a1.see, fun A v H' G' q le sm see hid pv => z (.v A) γ1 v H' G' q (l1.trans le) (a1.call le sm see hid) (by rw [Sh.ok]; exact pv) (by rw [Sh.ads]; exact nd_nil) (fun b hb => by rw [Sh.ads] at hb; cases hb), fun S v H' G' q le sm see hid ok nd => ?_⟩
    obtain ⟨ok2, fr⟩ := ok_fresh a1 ok
    exact z S γ1 v H' G' q (l1.trans le) (a1.call le sm see hid) ok2 nd fr
theorem ge_callN {C : Cn} {E : XK} {ta : TA} {k : AV → List Sl → Prop} (h : GA K F G0 ta γ fun As γ1 => C As (fun A => k A γ1) (fun S => k S.av γ1)) : GE K F G0 (tCall (spN K C) [] E ta) γ k :=
  ge_of_gn (gn_call fun σ H G Q a z => h σ H G Q a fun As γ1 vs H1 G1 h1 l1 a1 p1 => z As γ1 vs H1 G1 (by
    have e : ∀ A : AV, (Sh.v A).av = A := fun A => by rw [Sh.av]
    show C As (fun A => k (Sh.v A).av γ1) (fun S => k S.av γ1)
    simp only [e]
    exact h1) l1 a1 p1)
theorem gs_setCallN {C : Cn} {E : XK} {ta : TA} {i : Nat} (h : GA K F G0 ta γ fun As γ1 => C As (fun A => ks.nx (γ1.set i (.sh A))) (fun S => ks.nx (γ1.set i (.tr S)))) : GS K F G0 (tAsg (tCall (spN K C) [] E ta) (gName i)) γ ks := fun D σ H G a s =>
  h σ H G _ a fun As γ1 vs H1 G1 h1 l1 a1 p1 => by
    show spN K C (vs ++ []) H1 _ E
    rw [List.append_nil]
    refine ⟨As, _, _, G1, h1, p1, a1.see, fun A v H' G' q le sm see hid pv => s.nx _ _ H' G' q (l1.trans le) ((a1.call le sm see hid).sets pv), fun S v H' G' q le sm see hid ok nd => ?_⟩
    obtain ⟨ok2, fr⟩ := ok_fresh a1 ok
    exact s.nx _ _ H' G' q (l1.trans le) (At.set (S := .tr S) (a1.call le sm see hid) ⟨v, rfl, ok2, nd⟩ fr)
theorem gs_retCallN {C : Cn} {E : XK} {ta : TA} (h : GA K F G0 ta γ fun As γ1 => C As (fun A => ks.rt A γ1) (fun S => ks.rn S γ1)) : GS K F G0 (tRet (tCall (spN K C) [] E ta)) γ ks := fun D σ H G a s =>
  h σ H G _ a fun As γ1 vs H1 G1 h1 l1 a1 p1 => by
    show spN K C (vs ++ []) H1 _ E
    rw [List.append_nil]
    refine ⟨As, _, _, G1, h1, p1, a1.see, fun A v H' G' q le sm see hid pv => s.rt A γ1 σ v H' G' q (l1.trans le) (a1.call le sm see hid) pv, fun S v H' G' q le sm see hid ok nd => ?_⟩
    obtain ⟨ok2, fr⟩ := ok_fresh a1 ok
    exact s.rn S γ1 σ v H' G' q (l1.trans le) (a1.call le sm see hid) ok2 nd fr
/-- a def that tells a plain new list: the list is a thing -/
theorem gn_callO {C : Ct} {E : XK} {ta : TA} {k : Sh → List Sl → Prop} (h : GA K F G0 ta γ fun As γ1 => C As (fun A => k (.v A) γ1) (fun As' => AllA fun l => k (.l l (vsh As')) γ1)) : GN K F G0 (tCall (spOf K C) [] E ta) γ k := fun σ H G Q a z =>
  h σ H G _ a fun As γ1 vs H1 G1 h1 l1 a1 p1 => by
    show spOf K C (vs ++ []) H1 Q E
    rw [List.append_nil]
    refine ⟨As, _, _, G1, h1, p1, a1.see, fun A v H' G' q le sm see hid pv => z (.v A) γ1 v H' G' q (l1.trans le) (a1.call le sm see hid) (by rw [Sh.ok]; exact pv) (by rw [Sh.ads]; exact nd_nil) (fun b hb => by rw [Sh.ads] at hb; cases hb), fun As' l vs' H' G' q le sm see hid e1 e2 e3 hv => ?_⟩
    refine z (.l l (vsh As')) γ1 _ H' G' (q l) (l1.trans le) (a1.call le sm see hid) (by rw [Sh.ok]; exact ⟨rfl, a1.noF e2, e3, vs', e1, okL_vs hv⟩) (by rw [Sh.ads, adsL_vs]; exact List.nodup_cons.mpr ⟨by simp, nd_nil⟩) (fun b hb => ?_)
    rw [Sh.ads, adsL_vs] at hb
    rw [List.mem_singleton.mp hb]
    exact a1.noOwn e2
/-! ### a def to which its arguments are given away: known things, things with own lists in them -/
def hidN (H : Hp) (N : List Addr) : Hp := fun b => if b ∈ N then none else H b
theorem hidN_in {H : Hp} {N : List Addr} {b : Addr} (h : b ∈ N) : hidN H N b = none := by
  unfold hidN
  rw [if_pos h]
theorem hidN_out {H : Hp} {N : List Addr} {b : Addr} (h : b ∉ N) : hidN H N b = H b := by
  unfold hidN
  rw [if_neg h]
abbrev Cj := List Sh → (AV → Prop) → Prop
def spJ (K : PySem.W.Frag) (C : Cj) : Sp := fun vs H Q _ => ∃ Ss R G F, C Ss R ∧ Sh.okL F H G Ss vs ∧ (Sh.adsL Ss).Nodup ∧ See K G H ∧ Same F H ∧
  (∀ A u H' G', R A → Vw.Le G G' → Same (hidN H (Sh.adsL Ss)) H' → See K G' H' → (∀ b xs, H b ≠ none → b ∉ Sh.adsL Ss → G'.l b xs → G.l b xs) → A.p G' u → Q u H')
theorem At.callJ {σ : L2.St} {H H' : Hp} {G G' : Vw} {N : List Addr} (a : At K F G0 γ σ H G) (no : ∀ b, b ∈ N → F b = none) (fr : ∀ b, b ∈ N → Free γ b) (le : Vw.Le G G') (sm : Same (hidN H N) H') (see : See K G' H') (hid : ∀ b xs, H b ≠ none → b ∉ N → G'.l b xs → G.l b xs) : At K F G0 γ σ H' G' := by
  refine ⟨a.le.trans le, fun b o q => sm b o ?_, see, fun b xs hb q => a.hid b xs hb (hid b xs (fun z => hb (a.noF z)) (fun z => hb (no b z)) q), a.len, fun i S q => (a.slot i S q).move le (fun b hb o e => sm b o ?_) (fun b hb hn ys e => hid b ys hn (fun z => fr b z i S q hb) e) fun _ _ e => e, a.dis⟩
  · rw [hidN_out (fun z => by rw [no b z] at q; cases q)]
    exact a.same b o q
  · rw [hidN_out (fun z => fr b z i S q hb)]
    exact e
theorem ge_callJ {C : Cj} {E : XK} {ta : TA} {k : AV → List Sl → Prop} (h : GNA K F G0 ta γ fun Ss γ1 => C Ss (fun A => k A γ1)) : GE K F G0 (tCall (spJ K C) [] E ta) γ k := fun σ H G Q a z =>
  h σ H G _ a fun Ss γ1 vs H1 G1 h1 l1 a1 ok nd fr => by
    show spJ K C (vs ++ []) H1 Q E
    rw [List.append_nil]
    exact ⟨Ss, _, G1, F, h1, ok, nd, a1.see, a1.same, fun A u H' G' q le sm see hid pv => z A γ1 u H' G' q (l1.trans le) (a1.callJ (fun b hb => (Sh.okL_ad Ss vs ok b hb).1) fr le sm see hid) pv⟩
def Sh.sl : Sh → Sl
  | .v A => .sh A
  | .t ss => .tr (.t ss)
  | .l a ss => .tr (.l a ss)
  | .q a m ss => .tr (.q a m ss)
theorem sl_ads {S : Sh} {b : Addr} (h : b ∈ S.sl.ads) : b ∈ S.ads := by
  cases S with
  | v A => exact (no_ads h).elim
  | t ss => exact h
  | l a ss => exact h
  | q a m ss => exact h
theorem adsL_dis {b : Addr} : ∀ {Ss : List Sh} {i j : Nat} {S T : Sh}, (Sh.adsL Ss).Nodup → Ss[i]? = some S → Ss[j]? = some T → b ∈ S.ads → b ∈ T.ads → i = j
  | [], i, j, S, T, _, h, _, _, _ => by simp at h
  | U :: r, 0, 0, S, T, _, _, _, _, _ => rfl
  | U :: r, 0, j + 1, S, T, nd, h1, h2, hb, hc => by
    have e : U = S := by simpa using h1
    subst e
    rw [Sh.adsL] at nd
    exact absurd rfl ((List.nodup_append.mp nd).2.2 b hb b (adsL_mem (j := j) (by simpa using h2) hc))
  | U :: r, i + 1, 0, S, T, nd, h1, h2, hb, hc => by
    have e : U = T := by simpa using h2
    subst e
    rw [Sh.adsL] at nd
    exact absurd rfl ((List.nodup_append.mp nd).2.2 b hc b (adsL_mem (j := i) (by simpa using h1) hb))
  | U :: r, i + 1, j + 1, S, T, nd, h1, h2, hb, hc => by
    rw [Sh.adsL] at nd
    exact congrArg (· + 1) (adsL_dis (List.nodup_append.mp nd).2.1 (by simpa using h1) (by simpa using h2) hb hc)
theorem startJ {H : Hp} {G : Vw} {F : Hp} {Ss : List Sh} {vs : List V} (n : Nat) (see : See K G H) (ok : Sh.okL F H G Ss vs) (nd : (Sh.adsL Ss).Nodup) : At K (hidN H (Sh.adsL Ss)) G (Ss.map Sh.sl ++ List.replicate n .non) (vs.map some ++ List.replicate n none) H G := by
  have at' : ∀ (i : Nat) (T : Sl), (Ss.map Sh.sl ++ List.replicate n .non)[i]? = some T → T = .non ∨ ∃ S v, Ss[i]? = some S ∧ T = S.sl ∧ vs[i]? = some v ∧ S.ok F H G v := fun i T q => by
    by_cases hi : i < Ss.length
    · rw [List.getElem?_append_left (by rw [List.length_map]; exact hi), List.getElem?_map, List.getElem?_eq_getElem hi] at q
      cases q
      obtain ⟨v, h1, h2⟩ := okL_get ok (List.getElem?_eq_getElem hi)
      exact .inr ⟨_, v, List.getElem?_eq_getElem hi, rfl, h1, h2⟩
    · rw [List.getElem?_append_right (by rw [List.length_map]; omega)] at q
      exact .inl (List.eq_of_mem_replicate (List.mem_of_getElem? q))
  have lenV := okL_len ok
  refine ⟨.refl G, fun b o q => ?_, see, fun _ _ _ q => q, by simp [lenV], fun i T q => ?_, fun i j S T b h1 h2 hb hc => ?_⟩
  · by_cases hb : b ∈ Sh.adsL Ss
    · rw [hidN_in hb] at q; cases q
    · rw [hidN_out hb] at q; exact q
  · rcases at' i T q with rfl | ⟨S, v, e1, rfl, e2, ok1⟩
    · trivial
    · have e3 : (vs.map some ++ List.replicate n none)[i]? = some (some v) := by
        rw [List.getElem?_append_left (by rw [List.length_map]; exact (List.getElem?_eq_some_iff.mp e2).1), List.getElem?_map, e2]
        rfl
      rw [e3]
      have ok2 : S.ok (hidN H (Sh.adsL Ss)) H G v := Sh.ok_move (.refl G) S v (fun _ _ _ e => e) (fun _ _ _ _ e => e) (fun b hb _ => hidN_in (adsL_mem e1 hb)) ok1
      have nd1 := nodup_kid nd e1
      cases S with
      | v A =>
        rw [Sh.ok] at ok2
        exact ⟨v, rfl, ok2⟩
      | t ss => exact ⟨v, rfl, ok2, nd1⟩
      | l a ss => exact ⟨v, rfl, ok2, nd1⟩
      | q a m ss => exact ⟨v, rfl, ok2, nd1⟩
  · rcases at' i S h1 with rfl | ⟨S1, _, e1, rfl, _⟩
    · exact (no_adsN hb).elim
    · rcases at' j T h2 with rfl | ⟨T1, _, e2, rfl, _⟩
      · exact (no_adsN hc).elim
      · exact adsL_dis nd e1 e2 (sl_ads hb) (sl_ads hc)
end
section
variable {P : Program} {w : World} {K : PySem.W.Frag} {mg : Str → Option Value} {base : Heap}
theorem fn_okN {x : Str} {st : Stmt} {ps N : List Str} {n : Nat} {C : Cn} (D : Std K mg x st ps) (S : FnScope N ps (defScope st)) (hl : ∀ As R RO, C As R RO → As.length = ps.length)
    (hb : ∀ (f : Addr) (cdv : Value) (A : Around) (outer : List Env) (s : Shared) (H : Hp), Room n (A.deeper (envOfC x (defScope st) s.heap.objs.size f cdv)) →
      ∃ t, PSs (cxN P w K mg base N x (defScope st) f cdv A outer s H) (defBody st) t ∧ ∀ F G0 As R RN, C As R RN → NX K F G0 t (As.map Sl.sh ++ List.replicate (N.length - ps.length) Sl.non) { nx := fun _ => R aN, rt := fun A _ => R A, ro := fun As' _ => AllA fun l => RN (.l l (vsh As')), rn := fun S _ => RN S }) : Cal P w K mg base (n + 1) x ps (spN K C) := by
  obtain ⟨f, fd, F, hm, hbd⟩ := D.ex
  refine ⟨f, fd, F.ok S (fun vs H Q E h => ?_) (fun cdv A outer s H vs Q E hr h => ?_), hm, F.kp, hbd⟩
  · obtain ⟨As, R, RO, G, hc, hv, _⟩ := h
    rw [hv.length]
    exact hl As R RO hc
  · obtain ⟨t, ht, hg⟩ := hb f cdv A outer s H hr
    refine ⟨t, PSs.nox (X := cxOf CX0 P w K mg base N x (defScope st) f cdv A outer s H E) ht, ?_⟩
    obtain ⟨As, R, RN, G, hc, hv, see, q1, q2⟩ := h
    have e : L2.start N vs = vs.map some ++ List.replicate (N.length - ps.length) none := by
      unfold L2.start
      rw [hv.length, hl As R RN hc]
    rw [e]
    have a : At K H G (As.map Sl.sh ++ List.replicate (N.length - ps.length) Sl.non) (vs.map some ++ List.replicate (N.length - ps.length) none) H G :=
      ⟨.refl G, L2.Same.refl H, see, fun _ _ _ q => q, by simp [hv.length], slots_start _ hv, dis_start⟩
    refine hg H G As R RN hc _ _ H G a ⟨fun γ' σ' H' G' h le a' => q1 aN .non H' G' h le a'.same a'.see a'.hid rfl, fun A γ' σ' v H' G' h le a' pv => q1 A v H' G' h le a'.same a'.see a'.hid pv,
      fun As' γ' σ' l vs' H' G' h le a' e1 e2 e3 hv' _ => q2 (.l l (vsh As')) _ H' G' (h l) le a'.same a'.see a'.hid (by rw [Sh.ok]; exact ⟨rfl, e2, e3, vs', e1, okL_vs hv'⟩) (by rw [Sh.ads, adsL_vs]; exact List.nodup_cons.mpr ⟨by simp, nd_nil⟩), fun _ _ _ _ z => z.elim, fun _ _ _ _ z => z.elim, fun S' γ' σ' v H' G' h le a' ok nd _ => q2 S' v H' G' h le a'.same a'.see a'.hid ok nd⟩
theorem fn_okJ {x : Str} {st : Stmt} {ps N : List Str} {n : Nat} {C : Cj} (D : Std K mg x st ps) (S : FnScope N ps (defScope st)) (hl : ∀ Ss R, C Ss R → Ss.length = ps.length)
    (hb : ∀ (f : Addr) (cdv : Value) (A : Around) (outer : List Env) (s : Shared) (H : Hp), Room n (A.deeper (envOfC x (defScope st) s.heap.objs.size f cdv)) →
      ∃ t, PSs (cxN P w K mg base N x (defScope st) f cdv A outer s H) (defBody st) t ∧ ∀ F G0 Ss R, C Ss R → NX K F G0 t (Ss.map Sh.sl ++ List.replicate (N.length - ps.length) Sl.non) { nx := fun _ => R aN, rt := fun A _ => R A }) : Cal P w K mg base (n + 1) x ps (spJ K C) := by
  obtain ⟨f, fd, F, hm, hbd⟩ := D.ex
  refine ⟨f, fd, F.ok S (fun vs H Q E h => ?_) (fun cdv A outer s H vs Q E hr h => ?_), hm, F.kp, hbd⟩
  · obtain ⟨Ss, R, G, F', hc, ok, _⟩ := h
    rw [okL_len ok, hl Ss R hc]
  · obtain ⟨t, ht, hg⟩ := hb f cdv A outer s H hr
    refine ⟨t, PSs.nox (X := cxOf CX0 P w K mg base N x (defScope st) f cdv A outer s H E) ht, ?_⟩
    obtain ⟨Ss, R, G, F', hc, ok, nd, see, sm, q1⟩ := h
    have e : L2.start N vs = vs.map some ++ List.replicate (N.length - ps.length) none := by
      unfold L2.start
      rw [okL_len ok, hl Ss R hc]
    rw [e]
    have a := startJ (N.length - ps.length) see ok nd
    have hidd : ∀ {G' : Vw} {H' : Hp} {γ' : List Sl} {σ' : L2.St}, At K (hidN H (Sh.adsL Ss)) G γ' σ' H' G' → ∀ A u, R A → Vw.Le G G' → A.p G' u → Q u H' := fun {G' H' γ' σ'} a' A u h le pv =>
      q1 A u H' G' h le a'.same a'.see (fun b xs hb hbS q => a'.hid b xs (by rw [hidN_out hbS]; exact hb) q) pv
    exact hg _ G Ss R hc _ _ H G a ⟨fun γ' σ' H' G' h le a' => hidd a' aN .non h le rfl, fun A γ' σ' u H' G' h le a' pv => hidd a' A u h le pv, fun _ _ _ _ _ _ _ z => z.elim, fun _ _ _ _ z => z.elim, fun _ _ _ _ z => z.elim, fun _ _ _ _ _ _ z => z.elim⟩
end
end Rl

/-! # Rl, thirteenth part: data of any form -/
namespace Rl
open PySem PySem.Spec PyProof.Rows L2
/-- a dict that is only read -/
def aDk (kvs : List (Key × V)) : AV := ⟨fun G v => ∃ a o, v = .ref a ∧ G.h a (.frz o (.dK kvs)), fun le ⟨a, o, e, h⟩ => ⟨a, o, e, le.h _ _ h⟩⟩
theorem tya_k (kvs : List (Key × V)) : Tya (aDk kvs) "dict" := fun K G H v s ⟨a, o, e, h⟩ => by
  subst e
  exact .fDict (s.h a _ h).1
theorem ref_k {kvs : List (Key × V)} : ∀ G v, (aDk kvs).p G v → ∃ a, v = .ref a := fun _ _ ⟨a, _, e, _⟩ => ⟨a, e⟩
inductive Dt where
  | i (n : Int)
  | s (x : Str)
  | b (x : Bool)
  | n
  | t (ds : List Dt)
  | l (ds : List Dt)
  | k (kvs : List (Key × V))
mutual
def aD : Dt → AV
  | .i n => aInt n
  | .s x => aS x
  | .b x => aB x
  | .n => aN
  | .t ds => aTup (aDs ds)
  | .l ds => aLst (aDs ds)
  | .k kvs => aDk kvs
def aDs : List Dt → List AV
  | [] => []
  | d :: ds => aD d :: aDs ds
end
mutual
def Dt.dp : Dt → Nat
  | .t ds => Dt.dps ds + 1
  | .l ds => Dt.dps ds + 1
  | .i _ => 1
  | .s _ => 1
  | .b _ => 1
  | .n => 1
  | .k _ => 1
def Dt.dps : List Dt → Nat
  | [] => 0
  | d :: ds => max d.dp (Dt.dps ds)
end
mutual
def Dt.wd : Dt → Nat
  | .t ds => max ds.length (Dt.wds ds)
  | .l ds => max ds.length (Dt.wds ds)
  | .i _ => 0
  | .s _ => 0
  | .b _ => 0
  | .n => 0
  | .k _ => 2000
def Dt.wds : List Dt → Nat
  | [] => 0
  | d :: ds => max d.wd (Dt.wds ds)
end
theorem wds_le {n : Nat} : ∀ {ds : List Dt}, (∀ d, d ∈ ds → d.wd ≤ n) → Dt.wds ds ≤ n
  | [], _ => by rw [Dt.wds]; exact Nat.zero_le _
  | d :: ds, h => by
    rw [Dt.wds]
    exact Nat.max_le.mpr ⟨h d (by simp), wds_le fun e he => h e (by simp [he])⟩
theorem wds_mem : ∀ {ds : List Dt} {d : Dt}, d ∈ ds → d.wd ≤ Dt.wds ds
  | e :: ds, d, h => by
    rw [Dt.wds]
    rcases List.mem_cons.mp h with rfl | h
    · exact Nat.le_max_left _ _
    · exact Nat.le_trans (wds_mem h) (Nat.le_max_right _ _)
theorem aDs_map : ∀ ds : List Dt, aDs ds = ds.map aD
  | [] => by rw [aDs, List.map_nil]
  | d :: ds => by rw [aDs, List.map_cons, aDs_map ds]
theorem aD_t (ds : List Dt) : aD (.t ds) = aTup (ds.map aD) := by rw [aD, aDs_map]
theorem aD_l (ds : List Dt) : aD (.l ds) = aLst (ds.map aD) := by rw [aD, aDs_map]
theorem aD_i (n : Int) : aD (.i n) = aInt n := by rw [aD]
theorem aD_s (x : Str) : aD (.s x) = aS x := by rw [aD]
theorem aD_b (x : Bool) : aD (.b x) = aB x := by rw [aD]
theorem aD_n : aD .n = aN := by rw [aD]
theorem aD_k (kvs : List (Key × V)) : aD (.k kvs) = aDk kvs := by rw [aD]
theorem dps_le {n : Nat} : ∀ {ds : List Dt}, (∀ d, d ∈ ds → d.dp ≤ n) → Dt.dps ds ≤ n
  | [], _ => by rw [Dt.dps]; exact Nat.zero_le _
  | d :: ds, h => by
    rw [Dt.dps]
    exact Nat.max_le.mpr ⟨h d (by simp), dps_le fun e he => h e (by simp [he])⟩
theorem dps_mem : ∀ {ds : List Dt} {d : Dt}, d ∈ ds → d.dp ≤ Dt.dps ds
  | e :: ds, d, h => by
    rw [Dt.dps]
    rcases List.mem_cons.mp h with rfl | h
    · exact Nat.le_max_left _ _
    · exact Nat.le_trans (dps_mem h) (Nat.le_max_right _ _)
theorem dp_t {n : Nat} {ds : List Dt} (h : ∀ d, d ∈ ds → d.dp ≤ n) : (Dt.t ds).dp ≤ n + 1 := by
  rw [Dt.dp]
  exact Nat.succ_le_succ (dps_le h)
theorem dp_l {n : Nat} {ds : List Dt} (h : ∀ d, d ∈ ds → d.dp ≤ n) : (Dt.l ds).dp ≤ n + 1 := by
  rw [Dt.dp]
  exact Nat.succ_le_succ (dps_le h)
theorem kids_t {d : Nat} {ds : List Dt} (h : (Dt.t ds).dp < d + 1) (w : (Dt.t ds).wd ≤ 1000) : ds.length ≤ 1000 ∧ ∀ x, x ∈ ds → x.dp < d ∧ x.wd ≤ 1000 := by
  rw [Dt.dp] at h
  rw [Dt.wd] at w
  have := Nat.max_le.mp w
  exact ⟨this.1, fun x hx => ⟨by have := dps_mem hx; omega, Nat.le_trans (wds_mem hx) this.2⟩⟩
theorem kids_l {d : Nat} {ds : List Dt} (h : (Dt.l ds).dp < d + 1) (w : (Dt.l ds).wd ≤ 1000) : ds.length ≤ 1000 ∧ ∀ x, x ∈ ds → x.dp < d ∧ x.wd ≤ 1000 := by
  rw [Dt.dp] at h
  rw [Dt.wd] at w
  have := Nat.max_le.mp w
  exact ⟨this.1, fun x hx => ⟨by have := dps_mem hx; omega, Nat.le_trans (wds_mem hx) this.2⟩⟩
/-- A is data of depth n at most -/
def IsD (n : Nat) (A : AV) : Prop := ∃ d : Dt, d.dp ≤ n ∧ d.wd ≤ 1000 ∧ A = aD d
def IsDs (n : Nat) (As : List AV) : Prop := ∃ ds : List Dt, (∀ d, d ∈ ds → d.dp ≤ n ∧ d.wd ≤ 1000) ∧ As = ds.map aD
theorem isD_int (n : Nat) (i : Int) : IsD (n + 1) (aInt i) := ⟨.i i, by rw [Dt.dp]; omega, by rw [Dt.wd]; omega, (aD_i i).symm⟩
theorem isD_s (n : Nat) (i : Str) : IsD (n + 1) (aS i) := ⟨.s i, by rw [Dt.dp]; omega, by rw [Dt.wd]; omega, (aD_s i).symm⟩
theorem isD_b (n : Nat) (i : Bool) : IsD (n + 1) (aB i) := ⟨.b i, by rw [Dt.dp]; omega, by rw [Dt.wd]; omega, (aD_b i).symm⟩
theorem isD_n (n : Nat) : IsD (n + 1) aN := ⟨.n, by rw [Dt.dp]; omega, by rw [Dt.wd]; omega, aD_n.symm⟩
theorem isDs_nil (n : Nat) : IsDs n [] := ⟨[], (fun _ h => by cases h), rfl⟩
theorem isDs_cons {n : Nat} {A : AV} {As : List AV} (h : IsD n A) (t : IsDs n As) : IsDs n (A :: As) := by
  obtain ⟨d, h1, h3, h2⟩ := h
  obtain ⟨ds, t1, t2⟩ := t
  refine ⟨d :: ds, fun e he => ?_, by rw [List.map_cons, h2, t2]⟩
  rcases List.mem_cons.mp he with rfl | he
  · exact ⟨h1, h3⟩
  · exact t1 e he
theorem isDs_map {α : Type} {n : Nat} {f : α → AV} : ∀ xs : List α, (∀ x, x ∈ xs → IsD n (f x)) → IsDs n (xs.map f)
  | [], _ => isDs_nil n
  | x :: xs, h => isDs_cons (h x (by simp)) (isDs_map xs fun y hy => h y (by simp [hy]))
theorem isDT {n : Nat} {As : List AV} (h : IsDs n As) (hl : As.length ≤ 1000) : ∃ ds : List Dt, (Dt.t ds).dp ≤ n + 1 ∧ (Dt.t ds).wd ≤ 1000 ∧ aTup As = aD (.t ds) := by
  obtain ⟨ds, h1, h2⟩ := h
  refine ⟨ds, dp_t fun d hd => (h1 d hd).1, ?_, by rw [aD_t, h2]⟩
  rw [Dt.wd]
  exact Nat.max_le.mpr ⟨by rw [h2, List.length_map] at hl; exact hl, wds_le fun d hd => (h1 d hd).2⟩
theorem isDL {n : Nat} {As : List AV} (h : IsDs n As) (hl : As.length ≤ 1000) : ∃ ds : List Dt, (Dt.l ds).dp ≤ n + 1 ∧ (Dt.l ds).wd ≤ 1000 ∧ aLst As = aD (.l ds) ∧ As = ds.map aD := by
  obtain ⟨ds, h1, h2⟩ := h
  refine ⟨ds, dp_l fun d hd => (h1 d hd).1, ?_, by rw [aD_l, h2], h2⟩
  rw [Dt.wd]
  exact Nat.max_le.mpr ⟨by rw [h2, List.length_map] at hl; exact hl, wds_le fun d hd => (h1 d hd).2⟩
theorem isD_tup {n : Nat} {As : List AV} (h : IsDs n As) (hl : As.length ≤ 1000) : IsD (n + 1) (aTup As) := by
  obtain ⟨ds, h1, h2⟩ := h
  refine ⟨.t ds, dp_t fun d hd => (h1 d hd).1, ?_, by rw [aD_t, h2]⟩
  rw [Dt.wd]
  exact Nat.max_le.mpr ⟨by rw [h2, List.length_map] at hl; exact hl, wds_le fun d hd => (h1 d hd).2⟩
theorem isD_lst {n : Nat} {As : List AV} (h : IsDs n As) (hl : As.length ≤ 1000) : IsD (n + 1) (aLst As) := by
  obtain ⟨ds, h1, h2⟩ := h
  refine ⟨.l ds, dp_l fun d hd => (h1 d hd).1, ?_, by rw [aD_l, h2]⟩
  rw [Dt.wd]
  exact Nat.max_le.mpr ⟨by rw [h2, List.length_map] at hl; exact hl, wds_le fun d hd => (h1 d hd).2⟩
theorem isD_L {α : Type} {n : Nat} {f : α → AV} (xs : List α) (hl : xs.length ≤ 1000) (h : ∀ x, IsD n (f x)) : IsD (n + 1) (aL f xs) := isD_lst (isDs_map xs fun x _ => h x) (by rw [List.length_map]; exact hl)
theorem isD_F (n : Nat) (q : Rat) : IsD (n + 2) (aF q) := isD_tup (isDs_cons (isD_int _ _) (isDs_cons (isD_int _ _) (isDs_nil _))) (Nat.le_of_ble_eq_true rfl)
theorem isD_cut (n : Nat) (c : Int × Int) : IsD (n + 2) (aCut c) := isD_tup (isDs_cons (isD_int _ _) (isDs_cons (isD_int _ _) (isDs_nil _))) (Nat.le_of_ble_eq_true rfl)
theorem isD_ask (n : Nat) (q : Ask) : IsD (n + 3) (aAsk q) := isD_tup (isDs_cons (isD_s _ _) (isDs_cons (isD_int _ _) (isDs_cons (isD_int _ _) (isDs_cons (isD_F _ _) (isDs_nil _))))) (Nat.le_of_ble_eq_true rfl)
theorem isD_ring (n : Nat) (rooms : List Rat) (asks : List Ask) (h1 : rooms.length ≤ 1000) (h2 : asks.length ≤ 1000) : IsD (n + 5) (aRing rooms asks) := isD_tup (isDs_cons (isD_L _ h1 fun q => isD_F (n + 1) q) (isDs_cons (isD_L _ h2 fun q => isD_ask n q) (isDs_nil _))) (Nat.le_of_ble_eq_true rfl)
theorem inv_parts {q : Rat} (h : 0 < q) : q⁻¹.num = ((q.den : Nat) : Int) ∧ ((q⁻¹.den : Nat) : Int) = q.num := by
  have hn : 0 < q.num := by
    have := (Rat.lt_iff 0 q).mp h
    simpa using this
  have e : q⁻¹ = Rat.divInt q.den q.num := Rat.inv_def q
  have g : Int.gcd q.num ((q.den : Nat) : Int) = 1 := by
    have := q.reduced
    unfold Nat.Coprime at this
    show Nat.gcd q.num.natAbs _ = 1
    exact this
  rw [e, Rat.num_divInt, Rat.den_divInt, if_neg (by omega), Int.sign_eq_one_of_pos hn, g]
  constructor
  · simp
  · simp; omega
theorem inv_F {q : Rat} (h : 0 < q) : aTup [aInt ((q.den : Nat) : Int), aInt q.num] = aF q⁻¹ := by
  obtain ⟨e1, e2⟩ := inv_parts h
  show _ = aTup [aInt q⁻¹.num, aInt ((q⁻¹.den : Nat) : Int)]
  rw [e1, e2]
theorem sz_inv {q : Rat} {a c : Nat} (h : 0 < q) (s : Sz a c q) : Sz c a q⁻¹ := by
  obtain ⟨e1, e2⟩ := inv_parts h
  refine ⟨by rw [e1, Int.natAbs_natCast]; exact s.den, ?_⟩
  have := s.num
  omega
theorem inv_pos {q : Rat} (h : 0 < q) : 0 < q⁻¹ := Rat.inv_pos.mpr h
theorem mul_inv_self {q : Rat} (h : 0 < q) (x : Rat) : x * q * q⁻¹ = x := by
  rw [Rat.mul_assoc, Rat.mul_inv_cancel q (by grind), Rat.mul_one]
theorem av_ring {l1 l2 : Addr} {As Bs : List AV} : (Sh.t [.l l1 (vsh As), .l l2 (vsh Bs)]).av = aTup [aLst As, aLst Bs] := by
  rw [Sh.av, Sh.avL, Sh.av, Sh.avL, Sh.av, Sh.avL, avL_vs, avL_vs]
/-! ### isinstance -/
def kindD : Dt → String
  | .i _ => "int"
  | .s _ => "str"
  | .b _ => "bool"
  | .n => "NoneType"
  | .t _ => "tuple"
  | .l _ => "list"
  | .k _ => "dict"
theorem tya_D (d : Dt) : Tya (aD d) (kindD d) := by
  cases d with
  | i n => rw [aD_i]; exact tya_int n
  | s x => rw [aD_s]; exact tya_s x
  | b x => rw [aD_b]; exact tya_b x
  | n => rw [aD_n]; exact tya_n
  | t ds => rw [aD_t]; exact tya_tup _
  | l ds => rw [aD_l]; exact tya_lst _
  | k kvs => rw [aD_k]; exact tya_k _
def kitAnyB (T : String) : List String → Option Bool
  | [] => some false
  | c :: r => match kitB T c with
    | some true => some true
    | some false => kitAnyB T r
    | none => none
theorem kitAny_ok {K : PySem.W.Frag} {T : String} : ∀ ns : List String, PySem.W.kitAny K (.type T) (ns.map Value.type) = kitAnyB T ns
  | [] => rfl
  | c :: r => by
    rw [List.map_cons, PySem.W.kitAny, kitAnyB, kitAny_ok r]
    rfl
theorem cls_tys : ∀ ns : List String, Paired ClsV (ns.map V.ty) (ns.map Value.type)
  | [] => .nil
  | c :: r => .cons (.ty c) (cls_tys r)
section
variable {K : PySem.W.Frag} {F : Hp} {G0 : Vw} {γ : List Sl} {t te : TE} {ks : KS} {k : AV → List Sl → Prop}
theorem avs_tys {G : Vw} : ∀ {ns : List String} {vs : List V}, avs G (ns.map fun n => aV (.ty n)) vs → vs = ns.map V.ty
  | [], _, h => h
  | n :: ns, _, ⟨v, r, e, p, t⟩ => by
    subst e
    rw [avs_tys t, show v = V.ty n from p]
    rfl
theorem n_isi_dict_int {kvs : List (Key × V)} (q : k (aB false) γ) : ON K F G0 (rIsiA K) [aDk kvs, aV (.ty "int")] γ k := n_isi (tya_k kvs) (by decide +kernel) q
theorem n_isi_dict_bool {kvs : List (Key × V)} (q : k (aB false) γ) : ON K F G0 (rIsiA K) [aDk kvs, aV (.ty "bool")] γ k := n_isi (tya_k kvs) (by decide +kernel) q
theorem n_isi_dict_str {kvs : List (Key × V)} (q : k (aB false) γ) : ON K F G0 (rIsiA K) [aDk kvs, aV (.ty "str")] γ k := n_isi (tya_k kvs) (by decide +kernel) q
theorem n_isi_dict_tuple {kvs : List (Key × V)} (q : k (aB false) γ) : ON K F G0 (rIsiA K) [aDk kvs, aV (.ty "tuple")] γ k := n_isi (tya_k kvs) (by decide +kernel) q
theorem n_isi_dict_list {kvs : List (Key × V)} (q : k (aB false) γ) : ON K F G0 (rIsiA K) [aDk kvs, aV (.ty "list")] γ k := n_isi (tya_k kvs) (by decide +kernel) q
theorem o_isK {kvs : List (Key × V)} (q : k (aB false) γ) : O2 K F G0 (fun x y H Q => y = .non ∧ Q (.bl (decide (x = .non))) H) (aDk kvs) aN γ k := o_isNr ref_k q
theorem o_notK {kvs : List (Key × V)} (q : k (aB true) γ) : O2 K F G0 (fun x y H Q => y = .non ∧ Q (.bl (!decide (x = .non))) H) (aDk kvs) aN γ k := o_notNr ref_k q
/-- isinstance(x, (T1, T2, ..)) -/
theorem ge_isiT {tcs : TA} (h : GE K F G0 te γ fun A γ1 => GA K F G0 tcs γ1 fun Cs γ2 => ∃ (ns : List String) (T : String) (b : Bool), Cs = (ns.map fun n => aV (.ty n)) ∧ Tya A T ∧ kitAnyB T ns = some b ∧ ns.length ≤ 100000 ∧ k (aB b) γ2) : GE K F G0 (tCB (rIsiA K) (tCons te (tCons (tTup tcs) tNil))) γ k := fun σ H G Q a z =>
  h σ H G _ a fun A γ1 v H1 G1 h1 l1 a1 p1 => h1 σ H1 G1 _ a1 fun Cs γ2 vs H2 G2 ⟨ns, T, b, e, hT, hb, hl, q⟩ l2 a2 p2 => by
    subst e
    have e2 := avs_tys p2
    subst e2
    refine ⟨size_ok (by rw [List.length_map]; exact hl), fun p np => ?_⟩
    have s := same_upd (o := .tup (ns.map V.ty)) np
    refine .inr ⟨v, p, ns.map V.ty, .type T, ns.map Value.type, b, rfl, upd_same, cls_tys ns, ?_, by rw [kitAny_ok]; exact hb, z _ γ2 _ _ G2 q (l1.trans l2) (a2.up s) rfl⟩
    exact hT K G2 _ v (a2.see.same s) (A.mono l2 p1)
theorem n_isiD {d : Dt} {n : String} {b : Bool} (hk : kitB (kindD d) n = some b) (q : k (aB b) γ) : ON K F G0 (rIsiA K) [aD d, aV (.ty n)] γ k := n_isi (tya_D d) hk q
/-- zip of two lists, of two tuples -/
theorem gi_zipA {ta : TA} {k : List AV → List Sl → Prop} (h : GA K F G0 ta γ fun Cs γ1 => ∃ As Bs, (Cs = [aLst As, aLst Bs] ∨ Cs = [aTup As, aTup Bs]) ∧ As.length = Bs.length ∧ k (List.zipWith (fun A B => aTup [A, B]) As Bs) γ1) : GI K F G0 (RZ.iZipA K ta) γ k := fun σ H G R a z =>
  h σ H G _ a fun Cs γ1 vs H1 G1 ⟨As, Bs, e, el, h1⟩ l1 a1 p1 => by
    have hlen : (List.zipWith (fun A B => aTup [A, B]) As Bs).length = As.length := by rw [List.length_zipWith, el, Nat.min_self]
    have pairs : ∀ {i : Nat} {B : AV} {ws ws2 : List V} {G2 : Vw} {x x2 : V}, avs G2 As ws → avs G2 Bs ws2 → (List.zipWith (fun A B => aTup [A, B]) As Bs)[i]? = some B → ws[i]? = some x → ws2[i]? = some x2 → ∃ A B2, B = aTup [A, B2] ∧ A.p G2 x ∧ B2.p G2 x2 := by
      intro i B ws ws2 G2 x x2 hv hv2 hB ex ex2
      rw [List.getElem?_zipWith] at hB
      cases eA : As[i]? with
      | none => rw [eA] at hB; cases hB
      | some A =>
        cases eB : Bs[i]? with
        | none => rw [eA, eB] at hB; cases hB
        | some B2 =>
          rw [eA, eB] at hB
          cases hB
          obtain ⟨w, e1, p⟩ := hv.get eA
          obtain ⟨w2, e12, p2⟩ := hv2.get eB
          rw [ex] at e1
          cases e1
          rw [ex2] at e12
          cases e12
          exact ⟨A, B2, rfl, p, p2⟩
    rcases e with e | e
    · subst e
      obtain ⟨v, r, rfl, ⟨b, ws, rfl, hb, hv⟩, v2, r2, rfl, ⟨b2, ws2, rfl, hb2, hv2⟩, rfl⟩ := p1
      refine ⟨b, b2, ws, ws2, rfl, .inl ⟨a1.see.seq (.inl hb), a1.see.seq (.inl hb2), z _ γ1 H1 G1 _ h1 l1 a1 ⟨fun i H G le s hi => ?_, fun i H G B v H' le s hB y => ?_, fun H G le s => ?_⟩⟩⟩
      · rw [hlen] at hi
        have hi' : i < ws.length := by rw [hv.length]; exact hi
        have hi2 : i < ws2.length := by rw [hv2.length, ← el]; exact hi
        exact ⟨ws, ws2, ws[i], ws2[i], s.seq (.inl (le.l b ws hb)), s.seq (.inl (le.l b2 ws2 hb2)), by simp [hi'], by simp [hi2]⟩
      · obtain ⟨T, x, x2, rfl, nT, rfl, y, y2⟩ := y
        obtain ⟨A, B2, rfl, p, p2⟩ := pairs (hv.mono le) (hv2.mono le) hB (y ws (s.seq (.inl (le.l b ws hb)))) (y2 ws2 (s.seq (.inl (le.l b2 ws2 hb2))))
        exact ⟨same_upd nT, G.addT T _, G.leT T _, (s.same (same_upd nT)).addT (SqT.of upd_same), fun _ _ q => q, T, _, rfl, .inr ⟨rfl, rfl⟩, _, _, rfl, A.mono (G.leT T _) p, _, [], rfl, B2.mono (G.leT T _) p2, rfl⟩
      · rw [hlen]
        exact ⟨ws, ws2, s.seq (.inl (le.l b ws hb)), s.seq (.inl (le.l b2 ws2 hb2)), .inl (by rw [hv.length]; exact Nat.le_refl _)⟩
    · subst e
      obtain ⟨v, r, rfl, ⟨b, ws, rfl, hb, hv⟩, v2, r2, rfl, ⟨b2, ws2, rfl, hb2, hv2⟩, rfl⟩ := p1
      refine ⟨b, b2, ws, ws2, rfl, .inr ⟨a1.see.t b ws hb, a1.see.t b2 ws2 hb2, z _ γ1 H1 G1 _ h1 l1 a1 ⟨fun i H G le s hi => ?_, fun i H G B v H' le s hB y => ?_, fun H G le s => ?_⟩⟩⟩
      · rw [hlen] at hi
        have hi' : i < ws.length := by rw [hv.length]; exact hi
        have hi2 : i < ws2.length := by rw [hv2.length, ← el]; exact hi
        exact ⟨ws, ws2, ws[i], ws2[i], s.t b ws (le.t b ws hb), s.t b2 ws2 (le.t b2 ws2 hb2), by simp [hi'], by simp [hi2]⟩
      · obtain ⟨T, x, x2, rfl, nT, rfl, y, y2⟩ := y
        obtain ⟨A, B2, rfl, p, p2⟩ := pairs (hv.mono le) (hv2.mono le) hB (y ws (s.t b ws (le.t b ws hb))) (y2 ws2 (s.t b2 ws2 (le.t b2 ws2 hb2)))
        exact ⟨same_upd nT, G.addT T _, G.leT T _, (s.same (same_upd nT)).addT (SqT.of upd_same), fun _ _ q => q, T, _, rfl, .inr ⟨rfl, rfl⟩, _, _, rfl, A.mono (G.leT T _) p, _, [], rfl, B2.mono (G.leT T _) p2, rfl⟩
      · rw [hlen]
        exact ⟨ws, ws2, s.t b ws (le.t b ws hb), s.t b2 ws2 (le.t b2 ws2 hb2), .inl (by rw [hv.length]; exact Nat.le_refl _)⟩
/-- for k in range(0, n, c): 0, c, 2 * c, .. below n -/
def stepsTo (c : Int) (m : Nat) : List Int := (List.range m).map fun i => (i : Nat) * c
theorem stepsTo_get {c : Int} {m i : Nat} {x : Int} (h : (stepsTo c m)[i]? = some x) : x = (i : Nat) * c ∧ i < m := by
  unfold stepsTo at h
  obtain ⟨y, hy, rfl⟩ := map_get h
  by_cases hi : i < m
  · rw [List.getElem?_range hi] at hy
    cases hy
    exact ⟨rfl, hi⟩
  · rw [List.getElem?_eq_none (by rw [List.length_range]; omega)] at hy
    cases hy
theorem gi_rng3 {ta : TA} {k : List AV → List Sl → Prop} (h : GA K F G0 ta γ fun As γ1 => ∃ j c : Int, As = [aInt 0, aInt j, aInt c] ∧ (0 < c ∧ c < 1000 ∧ 0 < j ∧ j < 1000000) ∧ k ((stepsTo c ((j + c - 1) / c).toNat).map aInt) γ1) : GI K F G0 (iRng3 ta) γ k := fun σ H G R a z =>
  h σ H G _ a fun As γ1 vs H1 G1 ⟨j, c, e, ⟨c0, c1, j0, j1⟩, h1⟩ l1 a1 p1 => by
    subst e
    obtain ⟨v, r, rfl, pv, w, r', rfl, pw, u, r2, rfl, pu, rfl⟩ := p1
    refine ⟨0, j, c, ((j + c - 1) / c).toNat, by rw [show v = V.int 0 from pv, show w = V.int j from pw, show u = V.int c from pu], ?_, z _ γ1 H1 G1 _ h1 l1 a1 ⟨fun i H G le s hi => ?_, fun i H G B v H' le s hB y => ?_, fun H G le s => ?_⟩⟩
    · refine ⟨by omega, by omega, ?_, ?_⟩
      · unfold Builtin.Range.small
        rw [rangeSize_pos (by omega) (by omega)]
        have h1 : (j + c - 1) / c ≤ j + c - 1 := Int.ediv_le_self _ (by omega)
        have h2 : 0 ≤ (j + c - 1) / c := Int.ediv_nonneg (by omega) (by omega)
        simp only [Builtin.Range.rangeFitsLong, Bool.and_eq_true, Bool.or_eq_true, decide_eq_true_eq, beq_iff_eq]
        rw [if_pos (by omega), Bool.and_eq_true, decide_eq_true_eq, decide_eq_true_eq]
        omega
      · rw [rangeSize_pos (by omega) (by omega), Int.toNat_of_nonneg (Int.ediv_nonneg (by omega) (by omega))]
    · rw [List.length_map, stepsTo, List.length_map, List.length_range] at hi
      exact hi
    · obtain ⟨e, y⟩ := y
      subst e
      obtain ⟨x, hx, rfl⟩ := map_get hB
      obtain ⟨rfl, _⟩ := stepsTo_get hx
      refine ⟨L2.Same.refl _, G, .refl G, s, fun _ _ q => q, ?_⟩
      rw [Int.zero_add] at y
      exact y
    · rw [List.length_map, stepsTo, List.length_map, List.length_range]
      exact Nat.le_refl _
theorem n_all {α : Type} {xs : List α} {f : α → Bool} (q : k (aB (xs.all f)) γ) : ON K F G0 (rAll K) [aL (fun x => aB (f x)) xs] γ k := on_pure (fun H G vs Q s p z => by
  obtain ⟨v, r, rfl, ⟨a, ws, rfl, ht, hv⟩, rfl⟩ := p
  have e := avs_flat (f := fun x => V.bl (f x)) hv
  subst e
  refine ⟨a, xs.map f, rfl, ?_, z _ ?_⟩
  · rw [List.map_map]
    exact s.seq (.inl ht)
  · rw [List.all_map]
    rfl) q
theorem n_any {α : Type} {xs : List α} {f : α → Bool} (q : k (aB (xs.any f)) γ) : ON K F G0 (rAny K) [aL (fun x => aB (f x)) xs] γ k := on_pure (fun H G vs Q s p z => by
  obtain ⟨v, r, rfl, ⟨a, ws, rfl, ht, hv⟩, rfl⟩ := p
  have e := avs_flat (f := fun x => V.bl (f x)) hv
  subst e
  refine ⟨a, xs.map f, rfl, ?_, z _ ?_⟩
  · rw [List.map_map]
    exact s.seq (.inl ht)
  · rw [List.any_map]
    rfl) q
/-- x in [..] of data -/
theorem o_inD {α : Type} {f : α → AV} {g : α → PyData} {xs : List α} {x : α} (neg : Bool) (hf : ∀ x, Isd (f x) (g x)) (heq : ∀ y, y ∈ xs → (PyData.eqv (g y) (g x) = true ↔ y = x)) (sx : SeqAt.shaped (g x) = true) (sl : SeqAt.shaped (.list (xs.map g)) = true) [d : Decidable (x ∈ xs)] (q : k (aB (if neg then !decide (x ∈ xs) else decide (x ∈ xs))) γ) : O2 K F G0 (rInA K neg) (f x) (aL f xs) γ k := o2_pure (fun H G u v Q s px py z => by
  have e : ((xs.map g).any fun z => PyData.eqv z (g x)) = decide (x ∈ xs) := by
    rw [List.any_map, Bool.eq_iff_iff, List.any_eq_true, decide_eq_true_iff]
    constructor
    · rintro ⟨y, hy, e⟩
      have := (heq y hy).mp e
      rw [← this]
      exact hy
    · intro h
      exact ⟨x, h, (heq x h).mpr rfl⟩
  refine .inr (.inr (.inl ⟨g x, xs.map g, hf x K G H u s px, isd_lst (isds_map hf xs) K G H v s py, sx, sl, z _ ?_⟩))
  rw [e]
  rfl) q
def dCut (c : Int × Int) : PyData := .tuple [.int c.1, .int c.2]
theorem isd_cut (c : Int × Int) : Isd (aCut c) (dCut c) := isd_tup (isds_cons (isd_int _) (isds_cons (isd_int _) isds_nil))
theorem eqv_cut (c d : Int × Int) : PyData.eqv (dCut c) (dCut d) = true ↔ c = d := by
  obtain ⟨a, b⟩ := c
  obtain ⟨e, f⟩ := d
  unfold dCut
  rw [PyData.eqv, PyData.eqvAll, PyData.eqvAll, eqvAll_nil, eqv_int, eqv_int]
  simp
theorem shaped_cut (c : Int × Int) : SeqAt.shaped (dCut c) = true := by
  unfold dCut SeqAt.shaped
  rw [PyData.canLay0, PyData.canLayAll0, PyData.canLayAll0, PyData.canLayAll0, PyData.depth, PyData.depthAll, PyData.depthAll, PyData.depthAll]
  rfl
theorem canLay_cuts : ∀ cs : List (Int × Int), PyData.canLayAll0 (cs.map dCut) = true ∧ PyData.depthAll (cs.map dCut) ≤ 1
  | [] => ⟨by rw [List.map_nil, PyData.canLayAll0], by rw [List.map_nil, PyData.depthAll]; omega⟩
  | c :: cs => by
    obtain ⟨h1, h2⟩ := canLay_cuts cs
    constructor
    · rw [List.map_cons, PyData.canLayAll0, h1]
      unfold dCut
      rw [PyData.canLay0, PyData.canLayAll0, PyData.canLayAll0, PyData.canLayAll0]
      rfl
    · rw [List.map_cons, PyData.depthAll]
      refine Nat.max_le.mpr ⟨?_, h2⟩
      unfold dCut
      rw [PyData.depth, PyData.depthAll, PyData.depthAll, PyData.depthAll, PyData.depth, PyData.depth]
      omega
theorem shaped_cuts (cs : List (Int × Int)) : SeqAt.shaped (.list (cs.map dCut)) = true := by
  obtain ⟨h1, h2⟩ := canLay_cuts cs
  unfold SeqAt.shaped
  rw [PyData.canLay0, h1, PyData.depth, decide_eq_true (by omega)]
  rfl
/-- a cut in a list of cuts -/
theorem o_inCut {cs : List (Int × Int)} {c : Int × Int} (neg : Bool) (q : k (aB (if neg then !decide (c ∈ cs) else decide (c ∈ cs))) γ) : O2 K F G0 (rInA K neg) (aCut c) (aL aCut cs) γ k := o_inD neg isd_cut (fun y _ => eqv_cut y c) (shaped_cut c) (shaped_cuts cs) q
/-- a sign in a text -/
theorem o_inSgn {c : Nat} {z : Str} (neg : Bool) (q : k (aB (if neg then !decide (c ∈ z.cps.toList) else decide (c ∈ z.cps.toList))) γ) : O2 K F G0 (rInA K neg) (aS ⟨#[c]⟩) (aS z) γ k := o2_pure (fun H G u v Q s px py zz => .inr (.inr (.inr ⟨c, z, px, py, zz _ rfl⟩))) q
/-- t + u of tuples -/
theorem o_catT {As Bs : List AV} (hl : As.length + Bs.length ≤ 100000) (q : k (aTup (As ++ Bs)) γ) : O2 K F G0 (rAdd K) (aTup As) (aTup Bs) γ k := fun σ H G x y Q a px py z => by
  obtain ⟨b, vs, rfl, hb, hv⟩ := px
  obtain ⟨c, ws, rfl, hc, hw⟩ := py
  refine .inr (.inr (.inr ⟨b, c, vs, ws, rfl, rfl, a.see.t b vs hb, a.see.t c ws hc, size_ok (by rw [hv.length, hw.length]; exact hl), fun e => ?_, fun _ e => ?_, fun _ _ p np => ?_⟩))
  · subst e
    have e2 : As = [] := List.eq_nil_of_length_eq_zero hv.length.symm
    subst e2
    exact z _ γ _ H G q (.refl G) a ⟨c, ws, rfl, hc, hw⟩
  · subst e
    have e2 : Bs = [] := List.eq_nil_of_length_eq_zero hw.length.symm
    subst e2
    rw [List.append_nil] at q
    exact z _ γ _ H G q (.refl G) a ⟨b, vs, rfl, hb, hv⟩
  · have s := same_upd (o := .tup (vs ++ ws)) np
    exact z _ γ _ _ _ q (G.leT p _) ((a.up s).addT (p := p) (vs := vs ++ ws) (SqT.of upd_same)) ⟨p, _, rfl, .inr ⟨rfl, rfl⟩, (hv.append hw).mono (G.leT p _)⟩
end
section
variable {P : Program} {w : World} {K : PySem.W.Frag} {mg : Str → Option Value} {base : Heap}
/-- what is never called: the ground of a recursion -/
theorem cal_none {x : Str} {st : Stmt} {ps : List Str} {n : Nat} {C : Ct} (D : Std K mg x st ps) (h : ∀ As R RO, ¬ C As R RO) : Cal P w K mg base n x ps (spOf K C) := by
  obtain ⟨f, fd, F, hm, hbd⟩ := D.ex
  refine ⟨f, fd, ⟨fun vs H Q E h2 => ?_, fun A outer s H args us vs Q E hr e0 hb r h2 => ?_⟩, hm, F.kp, hbd⟩
  · obtain ⟨As, R, RO, G, hc, _⟩ := h2
    exact (h _ _ _ hc).elim
  · obtain ⟨As, R, RO, G, hc, _⟩ := h2
    exact (h _ _ _ hc).elim
end
end Rl

/-! # Rl, fourteenth part: list(range(n)), lists of new things -/
namespace Rl
open PySem PySem.Spec PyProof.Rows L2
/-- list(range(e)): a new list -/
def tLRange (te : TE) : TE := fun σ H Q => te σ H fun x H1 => ∃ n : Nat, x = .int (n : Int) ∧ n ≤ 100000 ∧ ∀ l, H1 l = none → Q (.ref l) (upd H1 l (.lst ((upFrom 0 n).map V.int)))
theorem paired_of {α β : Type} {R : α → β → Prop} : ∀ {xs : List α} {ys : List β}, xs.length = ys.length → (∀ (i : Nat) (x : α) (y : β), xs[i]? = some x → ys[i]? = some y → R x y) → Paired R xs ys
  | [], [], _, _ => .nil
  | [], y :: ys, h, _ => by cases h
  | x :: xs, [], h, _ => by cases h
  | x :: xs, y :: ys, h, q => .cons (q 0 x y rfl rfl) (paired_of (by simpa using h) fun i a b h1 h2 => q (i + 1) a b (by simpa using h1) (by simpa using h2))
theorem vals_up {n : Nat} {acc : Array Value} (h : ItemsOf (fun i v => ∃ t, v = Value.int (0 + (i : Nat) * 1) t) acc n) : Vals ((upFrom 0 n).map V.int) acc.toList := by
  obtain ⟨h1, h2⟩ := h
  refine paired_of (by rw [List.length_map, upFrom_len, Array.length_toList, h1]) fun i x y e1 e2 => ?_
  obtain ⟨k, hk, rfl⟩ : ∃ k, (upFrom 0 n)[i]? = some k ∧ x = V.int k := by
    rw [List.getElem?_map] at e1
    cases e : (upFrom 0 n)[i]? with
    | none => rw [e] at e1; cases e1
    | some k =>
      rw [e] at e1
      cases e1
      exact ⟨k, rfl, rfl⟩
  obtain ⟨rfl, _⟩ := upFrom_get hk
  obtain ⟨t, rfl⟩ := h2 i y (by rw [← Array.getElem?_toList]; exact e2)
  refine ⟨t, ?_⟩
  rw [Int.mul_one]
theorem pe_lrange {X : Cx} {e : Expr} {te : TE} {p p2 pos pos2 : Pos} (hc : X.calm = true) (hg : Gl X "list") (hm : X.mg "list" = none) (hg2 : Gl X "range") (hm2 : X.mg "range" = none) (he : PE X e te)
    (hs : starEach [e] X.env = (false, eval e X.env) :: starEach [] X.env := by rfl)
    (hs2 : starEach [.Call (.Name "range" p2) [e] [] pos2] X.env = (false, eval (.Call (.Name "range" p2) [e] [] pos2) X.env) :: starEach [] X.env := by rfl) :
    PE X (.Call (.Name "list" p) [.Call (.Name "range" p2) [e] [] pos2] [] pos) (tLRange te) := by
  constructor
  intro pins s σ H Q I h
  refine Call_ (ld_blt I hg hm (by decide +kernel : bootBuiltins ("list" : Str) = some (.type "list")) (callWith_type1 (args_cons (Call_ (ld_blt I hg2 hm2 boot_range (callWith_type1 (args_cons (thn (he.run pins s σ H _ I h) fun u s1 hh => args_nil ?_) hs) hs rfl))) hs2) hs2 rfl))
  obtain ⟨v, H1, I1, r1, n, ev, hn, q⟩ := hh
  subst ev
  obtain ⟨t, rfl⟩ := r1
  refine call_range_1 (args_nil ?_)
  have I2 : Inv X pins σ H1 { s1 with heap := s1.heap.push { cls := .type "range", data := .fields #[.int 0 s1.toks, .int (n : Int) t, .int 1 (s1.toks + 1)] }, toks := s1.toks + 1 + 1 } := I1.kept fun b o eb => Heap.get?_push_of_some _ eb
  refine call_list_range (n := n) (I1.ok.hd hc) (Heap.get?_push_size _ rfl) (small_one (by decide) (by decide) (by omega) (by omega)) ?_ (by omega) fun h' tk acc c' kk hnew items => ?_
  · rw [rangeSize_one]
    split <;> omega
  · refine ⟨.ref _, _, I2.laid (t' := tk) (o := .lst ((upFrom 0 n).map V.int)) kk (Nat.le_refl _) ?_, rfl, q _ (I2.hok.fresh (Nat.le_refl _))⟩
    have hv := vals_up items
    refine ⟨by rw [List.length_map, upFrom_len]; exact size_ok hn, acc.toList, c', hv, ?_⟩
    rw [Array.toArray_toList]
    exact hnew
theorem pg_lstK {X : Cx} {K : PySem.W.Frag} {es : List Expr} {kk : Nat} {pos : Pos} {tt : TGs} {m : Nat} (hc : X.calm = true) (h : PGs X es tt) (hK : X.K = K := by rfl) (hn : (assignEach es X.env).length = m := by rfl) (hst : (assignEach es X.env).findIdx? (·.1) = none := by rfl) : PG X (.Tuple es kk pos) (gLst K m tt) := hK ▸ pg_lst hc h hn hst
section
variable {K : PySem.W.Frag} {F : Hp} {G0 : Vw} {γ : List Sl}
theorem go_lrange {te : TE} {k : Addr → List AV → List Sl → Prop} (h : GE K F G0 te γ fun A γ1 => ∃ n : Nat, A = aInt (n : Nat) ∧ n ≤ 100000 ∧ AllA fun l => k l ((upFrom 0 n).map aInt) γ1) : GO K F G0 (tLRange te) γ k := fun σ H G Q a z =>
  h σ H G _ a fun A γ1 v H1 G1 ⟨n, e, hn, h1⟩ l1 a1 p1 => by
    subst e
    exact ⟨n, p1, hn, fun p np => go_new z a1 l1 np (h1 p) (avs_flats V.int G1 (upFrom 0 n))⟩
theorem gg_lst {n : Nat} {u : TGs} {As : List AV} {kg : List Sl → Prop} (hn : As.length = n) (h : GGs K F G0 u As γ kg) : GG K F G0 (gLst K n u) (aLst As) γ kg := fun σ H G v Q a p z => by
  obtain ⟨b, vs, rfl, ht, hv⟩ := p
  exact ⟨b, vs, rfl, a.see.seq (.inl ht), by rw [hv.length, hn], h σ H G vs Q a hv z⟩
theorem avL_get : ∀ {Ss : List Sh} {i : Nat} {S : Sh}, Ss[i]? = some S → (Sh.avL Ss)[i]? = some S.av
  | [], i, S, h => by simp at h
  | T :: r, 0, S, h => by
    have : T = S := by simpa using h
    subst this
    rw [Sh.avL]
    rfl
  | T :: r, i + 1, S, h => by
    rw [Sh.avL]
    show (Sh.avL r)[i]? = _
    exact avL_get (by simpa using h)
theorem av_l {l : Addr} {As : List AV} : (Sh.l l (vsh As)).av = aLst As := by rw [Sh.av, avL_vs]
theorem av_lS {l : Addr} {Ss : List Sh} : (Sh.l l Ss).av = aLst (Sh.avL Ss) := by rw [Sh.av]
theorem av_t {Ss : List Sh} : (Sh.t Ss).av = aTup (Sh.avL Ss) := by rw [Sh.av]
theorem av_v {A : AV} : (Sh.v A).av = A := by rw [Sh.av]
inductive Pair2 {α β : Type} (P : α → β → Prop) : List α → List β → Prop where
  | nil : Pair2 P [] []
  | cons {x : α} {y : β} {xs : List α} {ys : List β} (h : P x y) (t : Pair2 P xs ys) : Pair2 P (x :: xs) (y :: ys)
theorem Pair2.length {α β : Type} {P : α → β → Prop} : ∀ {xs : List α} {ys : List β}, Pair2 P xs ys → xs.length = ys.length
  | _, _, .nil => rfl
  | _, _, .cons _ t => congrArg (· + 1) t.length
theorem Pair2.snoc {α β : Type} {P : α → β → Prop} {x : α} {y : β} (h : P x y) : ∀ {xs : List α} {ys : List β}, Pair2 P xs ys → Pair2 P (xs ++ [x]) (ys ++ [y])
  | _, _, .nil => .cons h .nil
  | _, _, .cons g t => .cons g (t.snoc h)
theorem Pair2.get {α β : Type} {P : α → β → Prop} : ∀ {xs : List α} {ys : List β} {i : Nat} {x : α}, Pair2 P xs ys → xs[i]? = some x → ∃ y, ys[i]? = some y ∧ P x y
  | _, _, i, x, .nil, h => by simp at h
  | _, _, 0, x, .cons g t, h => by
    cases h
    exact ⟨_, rfl, g⟩
  | _, _, i + 1, x, .cons g t, h => by
    obtain ⟨y, h1, h2⟩ := t.get (i := i) (by simpa using h)
    exact ⟨y, by simpa using h1, h2⟩
/-- [e for x in xs if t], the items new things -/
theorem gn_comp {wi : TI} {g : TG} {tt : TT} {te : TE} {vs : List Nat} {k : Sh → List Sl → Prop} (hg : Tg vs g)
    (h : GI K F G0 wi γ fun As γ1 => ∃ I : Nat → List Sh → List Sl → Prop, I 0 [] (wipeS γ1 vs) ∧ As.length ≤ 100000 ∧ (∀ i acc γ2, I i acc γ2 → acc.length ≤ i) ∧
      (∀ F' G0' i B acc γ2, As[i]? = some B → I i acc γ2 → GG K F' G0' g B γ2 fun γ3 => GT K F' G0' tt γ3 fun b γ4 => (b = true → GN K F' G0' te γ4 fun C γ5 => I (i + 1) (acc ++ [C]) (wipeS γ5 vs)) ∧ (b = false → I (i + 1) acc (wipeS γ4 vs))) ∧
      ∀ l acc γ2, I As.length acc γ2 → k (.l l acc) γ2) : GN K F G0 (tLc wi g tt te vs) γ k := fun σ H G Q a z =>
  h σ H G _ a fun As γ1 H1 G1 J ⟨I, h0, hlen, hacc, hs, hd⟩ l1 a1 src D nD => by
    have e0 : (Sh.l D []).ads = [D] := by rw [Sh.ads, Sh.adsL]
    have kp0 : ∀ b, b ∈ (Sh.l D []).ads → b = D := fun b hb => by
      rw [e0] at hb
      exact List.mem_singleton.mp hb
    have ok0 : (Sh.l D []).ok F (upd H1 D (.lst [])) G1 (.ref D) := by
      rw [Sh.ok]
      exact ⟨rfl, a1.noF nD, a1.noL nD, [], upd_same, by rw [Sh.okL]⟩
    have aw := (a1.up (same_upd (o := .lst []) nD)).wipe vs
    let Inv' : Nat → Hp → Prop := fun n H => ∃ γ2 G2 Ss, I n Ss γ2 ∧ Vw.Le G1 G2 ∧ At K F G0 γ2 (L2.wipe σ vs) H G2 ∧ (Sh.l D Ss).ok F H G2 (.ref D) ∧ (Sh.l D Ss).ads.Nodup ∧ ∀ b, b ∈ (Sh.l D Ss).ads → Free γ2 b
    refine ⟨fun n m H => m = As.length - n ∧ n ≤ As.length ∧ Inv' n H, ⟨As.length, by simp, Nat.zero_le _, wipeS γ1 vs, G1, [], h0, .refl G1, aw, ok0, by rw [e0]; simp, fun b hb => by rw [kp0 b hb]; exact free_wipe (a1.noOwn nD)⟩, ?_⟩
    rintro n m H2 ⟨rfl, hn, γ2, G2, Ss, q1, q2, q3, ok, nd, fr⟩
    by_cases hlt : n < As.length
    · refine .inr ⟨src.go n H2 G2 q2 q3.see hlt, Inv' (n + 1), fun H' y => ⟨As.length - (n + 1), by omega, rfl, hlt, y⟩, fun x H' y => ?_⟩
      have eB : As[n]? = some As[n] := by simp [hlt]
      obtain ⟨sm, G3, le3, see3, hd3, pB⟩ := src.yld n H2 G2 As[n] x H' q2 q3.see eB y
      have a3 := q3.call le3 sm see3 fun b xs _ q => hd3 b xs q
      have ok3 : (Sh.l D Ss).ok F H' G3 (.ref D) := Sh.ok_move le3 _ _ (fun b _ o e => sm b o e) (fun b _ _ ys e => hd3 b ys e) (fun _ _ e => e) ok
      have kp := Kept.ofTree ok3 fr
      have DN : D ∈ (Sh.l D Ss).ads := by
        rw [Sh.ads]
        exact List.mem_cons_self ..
      refine hg x (L2.wipe σ vs) σ H' _ (wipe_idem σ vs) (hs (holdF F H' (Sh.l D Ss).ads) G3 n As[n] Ss γ2 eB q1 (L2.wipe σ vs) H' G3 x _ (a3.hold kp) pB fun γ3 σ3 H3 G4 h3 l3 a4 hw => ?_)
      refine h3 σ3 H3 G4 _ a4 fun b γ4 H4 G5 h4 l4 a5 => ?_
      have back : ∀ {γ' : List Sl} {H6 : Hp} {G6 : Vw}, Vw.Le G3 G6 → At K (holdF F H' (Sh.l D Ss).ads) G3 γ' σ3 H6 G6 → At K F G0 γ' σ3 H6 G6 ∧ Kept F H6 G6 γ' (Sh.l D Ss).ads ∧ (Sh.l D Ss).ok F H6 G6 (.ref D) := fun {γ' H6 G6} le a6 => by
        obtain ⟨a7, kp7, st⟩ := a3.unhold kp a6
        exact ⟨a7, kp7, Sh.ok_move le _ _ (fun c hc o e => by rw [st c hc]; exact e) (fun c hc _ ys q => (kp7.nl c hc ys q).elim) (fun _ _ q => q) ok3⟩
      cases b with
      | false =>
        rw [if_neg Bool.false_ne_true]
        obtain ⟨a7, kp7, ok7⟩ := back (l3.trans l4) a5
        exact ⟨wipeS γ4 vs, G5, Ss, h4.2 rfl, q2.trans (le3.trans (l3.trans l4)), hw ▸ a7.wipe vs, ok7, nd, fun b hb => free_wipe (kp7.fr b hb)⟩
      | true =>
        rw [if_pos rfl]
        refine h4.1 rfl σ3 H4 G5 _ a5 fun S γ5 y H5 G6 h5 l5 a6 okS ndS frS => ?_
        obtain ⟨a7, kp7, ok7⟩ := back (l3.trans (l4.trans l5)) a6
        have dj : ∀ c, c ∈ (Sh.l D Ss).ads → c ∉ S.ads := fun c hc hd => by
          have := (Sh.ok_ad S y okS c hd).1
          unfold holdF at this
          rw [if_pos hc] at this
          obtain ⟨xs, hx, _⟩ := kp.some c hc
          rw [hx] at this
          cases this
        have okS' : S.ok F H5 G6 y := Sh.ok_move (.refl G6) S y (fun _ _ _ e => e) (fun _ _ _ _ e => e) (fun c hc e => by
          unfold holdF at e
          rw [if_neg (fun z => dj c z hc)] at e
          exact e) okS
        have nd' := nd
        rw [Sh.ads] at nd'
        have DSs := (List.nodup_cons.mp nd').1
        rw [Sh.ok] at ok7
        obtain ⟨_, fD, nD7, acc, dacc, okSs⟩ := ok7
        have eads : (Sh.l D (Ss ++ [S])).ads = D :: (Sh.adsL Ss ++ S.ads) := by
          rw [Sh.ads, adsL_append, Sh.adsL, Sh.adsL, List.append_nil]
        refine ⟨acc, dacc, size_lt ?_, wipeS γ5 vs, G6, Ss ++ [S], h5, q2.trans (le3.trans (l3.trans (l4.trans l5))), hw ▸ (a7.writeX dacc fD nD7 (kp7.fr D DN)).wipe vs, ?_, ?_, fun b hb => free_wipe ?_⟩
        · rw [okL_len okSs]
          exact Nat.le_trans (hacc n Ss γ2 q1) (by omega)
        · rw [Sh.ok]
          refine ⟨rfl, fD, nD7, acc ++ [y], upd_same, okL_append (okL_upd okSs DSs) ?_⟩
          have : Sh.okL F H5 G6 [S] [y] := by
            rw [Sh.okL]
            exact ⟨y, [], rfl, okS', by rw [Sh.okL]⟩
          refine okL_upd this ?_
          rw [Sh.adsL, Sh.adsL, List.append_nil]
          exact dj D DN
        · rw [eads]
          refine List.nodup_cons.mpr ⟨fun hm => ?_, List.nodup_append.mpr ⟨(List.nodup_cons.mp nd').2, ndS, fun u hu v hv e => ?_⟩⟩
          · rcases List.mem_append.mp hm with hm | hm
            · exact DSs hm
            · exact dj D DN hm
          · subst e
            exact dj u (by rw [Sh.ads]; exact List.mem_cons_of_mem _ hu) hv
        · rw [eads] at hb
          rcases List.mem_cons.mp hb with rfl | hb
          · exact kp7.fr b DN
          · rcases List.mem_append.mp hb with hb | hb
            · exact kp7.fr b (by rw [Sh.ads]; exact List.mem_cons_of_mem _ hb)
            · exact frS b hb
    · have en : n = As.length := by omega
      subst en
      exact .inl ⟨src.stop H2 G2 q2 q3.see, z (.l D Ss) γ2 (.ref D) H2 G2 (hd D Ss γ2 q1) (l1.trans q2) q3.unwipe ok nd fr⟩
/-- .. without a test, the slots as they are -/
theorem gn_map1 {α : Type} {wi : TI} {g : TG} {te : TE} {vs : List Nat} {k : Sh → List Sl → Prop} (f : α → AV) (xs : List α) (P : α → Sh → Prop) (hg : Tg vs g)
    (h : GI K F G0 wi γ fun As γ1 => xs.length ≤ 100000 ∧ As = xs.map f ∧
      (∀ F' G0' x, x ∈ xs → GG K F' G0' g (f x) (wipeS γ1 vs) fun γ3 => GN K F' G0' te γ3 fun C γ5 => P x C ∧ wipeS γ5 vs = (wipeS γ1 vs)) ∧
      ∀ l Ss, Pair2 P xs Ss → k (.l l Ss) (wipeS γ1 vs)) : GN K F G0 (tLc wi g tYes te vs) γ k := by
  refine gn_comp hg ?_
  intro σ H G R a z
  refine h σ H G R a fun As γ1 H1 G1 J ⟨h3, h1, h4, h5⟩ l1 a1 src => z As γ1 H1 G1 J ⟨fun i acc γ2 => γ2 = (wipeS γ1 vs) ∧ i ≤ xs.length ∧ Pair2 P (xs.take i) acc, ⟨rfl, Nat.zero_le _, .nil⟩, by rw [h1, List.length_map]; exact h3, fun i acc γ2 ⟨_, hi, q⟩ => ?_, fun F' G0' i B acc γ2 hB ⟨q1, hi, q2⟩ => ?_, fun l acc γ2 ⟨q1, hi, q2⟩ => ?_⟩ l1 a1 src
  · rw [← q.length, List.length_take]
    exact Nat.min_le_left _ _
  · subst q1
    rw [h1, List.getElem?_map] at hB
    cases ex : xs[i]? with
    | none => rw [ex] at hB; cases hB
    | some x =>
      rw [ex] at hB
      cases hB
      have hil : i < xs.length := (List.getElem?_eq_some_iff.mp ex).1
      intro σ H G v Q a p z
      refine h4 F' G0' x (List.mem_of_getElem? ex) σ H G v Q a p fun γ3 σ3 H3 G3 q3 l3 a3 => z γ3 σ3 H3 G3 (gt_yes ⟨fun _ => ?_, fun hb => by cases hb⟩) l3 a3
      intro σ H G Q a z
      refine q3 σ H G Q a fun S γ' v H' G' ⟨r1, r2⟩ => z S γ' v H' G' ⟨r2, hil, ?_⟩
      have ht : xs.take (i + 1) = xs.take i ++ [x] := by rw [List.take_add_one, ex]; rfl
      rw [ht]
      exact q2.snoc r1
  · subst q1
    rw [h1, List.length_map, List.take_of_length_le (Nat.le_refl _)] at q2
    exact h5 l acc q2
end
end Rl

/-! # Rl, fifteenth part: chains of three comparisons -/
namespace Rl
open PySem PySem.Spec PyProof.Rows L2
/-- a op1 b op2 c op3 d: what is left after the first operation is a chain of two that starts at a known value -/
def tChain3 (r1 r2 r3 : R2) (ta tb tc td : TE) : TE := fun σ H Q =>
  ta σ H fun xa H1 => tb σ H1 fun xb H2 => r1 xa xb H2 fun z1 H3 => ∃ k1, z1 = V.bl k1 ∧
    (k1 = false → Q (.bl false) H3) ∧
    (k1 = true → tc σ H3 fun xc H4 => r2 xb xc H4 fun z2 H5 => ∃ k2, z2 = V.bl k2 ∧
      (k2 = false → Q (.bl false) H5) ∧
      (k2 = true → td σ H5 fun xd H6 => r3 xc xd H6 Q))
theorem pe_chain3 {X : Cx} {ea eb ec ed : Expr} {ta tb tc td : TE} {pos : Pos} {o1 o2 o3 : CmpOp} {r1 r2 r3 : R2}
    (h1 : OpR X (compareOp o1) r1) (h2 : OpR X (compareOp o2) r2) (h3 : OpR X (compareOp o3) r3)
    (pa : PE X ea ta) (pb : PE X eb tb) (pc : PE X ec tc) (pd : PE X ed td)
    (hm : lastMarks [o1, o2, o3] [eb, ec, ed] = false := by with_unfolding_all rfl) :
    PE X (.Compare ea [o1, o2, o3] [eb, ec, ed] pos) (tChain3 r1 r2 r3 ta tb tc td) := by
  constructor
  intro pins s0 σ H Q I q
  refine Compare_chain (thn (pa.run pins s0 σ H _ I q) fun va s1 ⟨xa, Ha, Ia, ra, qa⟩ => chain_link (thn (pb.run pins s1 σ Ha _ Ia qa) fun vb s2 ⟨xb, Hb, Ib, rb, qb⟩ =>
    thn (h1 pins s2 σ Hb xa xb va vb _ Ib ra rb qb) fun v1 s3 ⟨z1, Hc, Ic, rz1, k1, e1, f1, t1⟩ => ?_)) hm
  subst e1
  cases rz1
  refine wpAny_truthy_bool ?_
  cases k1 with
  | false => exact ite_ff ⟨.bl false, Hc, Ic, rfl, f1 rfl⟩
  | true =>
    refine ite_tt (chain_link (thn (pc.run pins s3 σ Hc _ Ic (t1 rfl)) fun vc s4 ⟨xc, Hd, Id, rc, qc⟩ =>
      thn (h2 pins s4 σ Hd xb xc vb vc _ Id rb rc qc) fun v2 s5 ⟨z2, He, Ie, rz2, k2, e2, f2, t2⟩ => ?_))
    subst e2
    cases rz2
    refine wpAny_truthy_bool ?_
    cases k2 with
    | false => exact ite_ff ⟨.bl false, He, Ie, rfl, f2 rfl⟩
    | true => exact ite_tt (chain_last (thn (pd.run pins s5 σ He _ Ie (t2 rfl)) fun vd s6 ⟨xd, Hf, If, rd, qd⟩ => h3 pins s6 σ Hf xc xd vc vd Q If rc rd qd))
section
variable {K : PySem.W.Frag} {F : Hp} {G0 : Vw} {γ : List Sl}
theorem ge_chain3 {r1 r2 r3 : R2} {ta tb tc td : TE} {k : AV → List Sl → Prop} (h : GE K F G0 ta γ fun A γ1 => GE K F G0 tb γ1 fun B γ2 => O2 K F G0 r1 A B γ2 fun C γ3 => ∃ b, C = aB b ∧ (b = false → k (aB false) γ3) ∧
    (b = true → GE K F G0 tc γ3 fun D γ4 => O2 K F G0 r2 B D γ4 fun C2 γ5 => ∃ b2, C2 = aB b2 ∧ (b2 = false → k (aB false) γ5) ∧ (b2 = true → GE K F G0 td γ5 fun E γ6 => O2 K F G0 r3 D E γ6 k))) : GE K F G0 (tChain3 r1 r2 r3 ta tb tc td) γ k := fun σ H G Q a z =>
  h σ H G _ a fun A γ1 v H1 G1 h1 l1 a1 p1 => h1 σ H1 G1 _ a1 fun B γ2 w H2 G2 h2 l2 a2 p2 => h2 σ H2 G2 v w _ a2 (A.mono l2 p1) p2 fun C γ3 u H3 G3 ⟨b, e, q1, q2⟩ l3 a3 p3 => by
    subst e
    refine ⟨b, p3, fun hb => z _ γ3 _ H3 G3 (q1 hb) (l1.trans (l2.trans l3)) a3 rfl, fun hb => ?_⟩
    refine q2 hb σ H3 G3 _ a3 fun D γ4 x H4 G4 h4 l4 a4 p4 => h4 σ H4 G4 w x _ a4 (B.mono (l3.trans l4) p2) p4 fun C2 γ5 y H5 G5 ⟨b2, e2, q3, q4⟩ l5 a5 p5 => ?_
    subst e2
    refine ⟨b2, p5, fun hb2 => z _ γ5 _ H5 G5 (q3 hb2) (l1.trans (l2.trans (l3.trans (l4.trans l5)))) a5 rfl, fun hb2 => ?_⟩
    exact q4 hb2 σ H5 G5 _ a5 fun E γ6 x6 H6 G6 h6 l6 a6 p6 => h6 σ H6 G6 x x6 _ a6 (D.mono (l5.trans l6) p4) p6 fun C3 γ7 y7 H7 G7 h7 l7 a7 p7 => z C3 γ7 y7 H7 G7 h7 (l1.trans (l2.trans (l3.trans (l4.trans (l5.trans (l6.trans l7)))))) a7 p7
theorem o_isT {As : List AV} {k : AV → List Sl → Prop} (q : k (aB false) γ) : O2 K F G0 (fun x y H Q => y = .non ∧ Q (.bl (decide (x = .non))) H) (aTup As) aN γ k := o_isNr (fun _ _ ⟨b, _, e, _⟩ => ⟨b, e⟩) q
theorem o_notT {As : List AV} {k : AV → List Sl → Prop} (q : k (aB true) γ) : O2 K F G0 (fun x y H Q => y = .non ∧ Q (.bl (!decide (x = .non))) H) (aTup As) aN γ k := o_notNr (fun _ _ ⟨b, _, e, _⟩ => ⟨b, e⟩) q
theorem o_isL {As : List AV} {k : AV → List Sl → Prop} (q : k (aB false) γ) : O2 K F G0 (fun x y H Q => y = .non ∧ Q (.bl (decide (x = .non))) H) (aLst As) aN γ k := o_isNr (fun _ _ ⟨b, _, e, _⟩ => ⟨b, e⟩) q
theorem o_notL {As : List AV} {k : AV → List Sl → Prop} (q : k (aB true) γ) : O2 K F G0 (fun x y H Q => y = .non ∧ Q (.bl (!decide (x = .non))) H) (aLst As) aN γ k := o_notNr (fun _ _ ⟨b, _, e, _⟩ => ⟨b, e⟩) q
end
end Rl

/-! # Rl, sixteenth part: list(reversed(xs)) -/
namespace Rl
open PySem PySem.Spec PyProof.Rows L2
section
variable {prog : Program} {w : World} {A : Around} {s : Shared}
/-- what the end of a builtin's code asks -/
abbrev FinOf (prog : Program) (w : World) (A : Around) (R : Result → Shared → Prop) : Fin → Shared → Prop := fun fin t =>
  match fin with
  | .done f => R (.ok f) t
  | .again c => c.quiet = true ∧ codeAny (model prog w) A c R t
theorem grow_rev {R : Result → Shared → Prop} {it l S : Addr} {xs : Array Value} {res : Value} {c0 : Nat} (hh : A.handled = none)
    (hit : s.heap.IsRevIter it l ((xs.size : Int) - 1)) (hl : s.heap.IsList l xs) (hne : l ≠ it) (hn : xs.size ≤ sizeLine) (h1 : S ≠ it) (h2 : S ≠ l)
    (hS : s.heap.get? S = some { cls := .type "list", data := .seq #[] c0 })
    (hR : ∀ h' tk acc c', (∀ b o, b ≠ S → b ≠ it → s.heap.get? b = some o → h'.get? b = some o) → h'.get? S = some { cls := .type "list", dict := none, data := .seq acc c', slots := #[] } →
      ItemsOf (fun i v => xs[xs.size - 1 - i]? = some v) acc xs.size → R (.ok (.ret res)) { s with heap := h', toks := tk }) :
    wpAny (model prog w) A.in1 (Builtin.List.listExtendWith (.ref S) (.ref it) res) (FinOf prog w A R) (fun e t => R (.error e) t) s := by
  have nf : S ∉ [it, l] := by
    intro h
    rcases List.mem_cons.mp h with h | h
    · exact h1 h
    · exact h2 (List.mem_singleton.mp h)
  have wk := (Walks.listRev (prog := prog) (w := w) (A := A.in1) hh it l hne xs).toS
  have ty : s.TypeIs (.ref it) "list_reverseiterator" := hit.typeIs
  have ns : Builtin.List.listSameRef (.ref S) (.ref it) = false := by unfold Builtin.List.listSameRef; simp [h1]
  unfold Builtin.List.listExtendWith; refine wpAny_bind (wpAny_typeOf ty ?_)
  rw [if_neg (by rw [ns]; decide)]
  refine wpAny_bind (wpAny_pyIter_revIter hit (wpAny_bind (wpAny_holding ?_)))
  unfold Builtin.List.listLengthHint; refine wpAny_bind (wpAny_specialOf ty RT.nolen_lri ?_)
  show wpAny _ A.in1 (specialOf (.ref it) ("__length_hint__" : Str) >>= _) _ _ s
  refine wpAny_bind (wpAny_specialOf ty RT.hint_lri ?_); generalize hq : ("list_reverseiterator.__length_hint__" : String) = q
  wp_delta; rw [show splitId q = some ("list_reverseiterator", "__length_hint__") by subst hq; decide +kernel]; subst hq
  refine wpAny_bind (wpAny_isInstance (b := true) ty (by rw [isSubtype_type]; kernel_rfl) (wpAny_pure ?_))
  rw [if_neg (by decide)]
  have z : ((xs.size : Nat) : Int) - 1 - ((0 : Nat) : Int) = (xs.size : Int) - 1 := Int.sub_zero _
  refine wpAny_pure ⟨plainId_quiet F.plain_extend_loop _, ?_⟩
  refine codeAny_extend_loopS wk hn S nf res xs.size 0 s #[] c0 rfl (Nat.zero_le _) ⟨Nat.zero_le _, by rw [z]; exact hit, hl⟩ hS (ItemsOf.nil _) fun t acc c hm hT hi => ?_
  rw [Moved.eq_with hm]
  refine hR t.heap t.toks acc c (fun b o n1 n2 e => hm.heap b o (fun mem => ?_) e) hT hi
  rcases List.mem_cons.mp mem with mem | mem
  · exact n1 mem
  · exact n2 (List.mem_singleton.mp mem)
theorem init_rev {R : Result → Shared → Prop} {it l S : Addr} {xs : Array Value} (hh : A.handled = none)
    (hit : s.heap.IsRevIter it l ((xs.size : Int) - 1)) (hl : s.heap.IsList l xs) (hne : l ≠ it) (hn : xs.size ≤ sizeLine) (h1 : S ≠ it) (h2 : S ≠ l)
    (hS : s.heap.get? S = some { cls := .type "list", data := .seq #[] })
    (hR : ∀ h' tk acc c', (∀ b o, b ≠ S → b ≠ it → s.heap.get? b = some o → h'.get? b = some o) → h'.get? S = some { cls := .type "list", dict := none, data := .seq acc c', slots := #[] } →
      ItemsOf (fun i v => xs[xs.size - 1 - i]? = some v) acc xs.size → R (.ok (.ret .none)) { s with heap := h', toks := tk }) :
    wpAny (model prog w) A.in1 (Builtin.«list.__init__» ⟨[.ref S, .ref it], []⟩) (FinOf prog w A R) (fun e t => R (.error e) t) s := by
  show wpAny _ _ (do
    let old ← Builtin.List.listItems (.ref S)
    Builtin.List.listUpdate (.ref S) (fun _ => #[])
    letGo old.toList.reverse
    Builtin.List.listExtendWith (.ref S) (.ref it) .none) _ _ s
  refine wpAny_bind ?_; unfold Builtin.List.listItems; refine wpAny_bind (wpAny_seqItems hS rfl (wpAny_pure ?_))
  show wpAny _ A.in1 (updateSeq S (fun _ => #[]) >>= fun _ => letGo (#[] : Array Value).toList.reverse >>= fun _ => Builtin.List.listExtendWith (.ref S) (.ref it) .none) _ _ s
  refine wpAny_bind (wpAny_updateSeq hS rfl ?_)
  have same : ∀ b o, b ≠ S → s.heap.get? b = some o → (s.heap.update S (Obj.mapSeq fun _ => (#[] : Array Value))).get? b = some o := fun b o n e => by
    rw [Heap.get?_update_other _ _ n.symm]
    exact e
  have new := Heap.get?_update_self (Obj.mapSeq fun _ => (#[] : Array Value)) hS rfl
  refine wpAny_bind (wpAny_letGo ?_)
  refine grow_rev (s := { s with heap := s.heap.update S (Obj.mapSeq fun _ => (#[] : Array Value)) }) hh (hit.at fun o e => same it o h1.symm e) ?_ hne hn h1 h2 new fun h' tk acc c' k1 k2 k3 => hR h' tk acc c' (fun b o n1 n2 e => k1 b o n1 n2 (same b o n1 e)) k2 k3
  obtain ⟨ol, e1, e2⟩ := hl
  exact ⟨ol, same l ol h2.symm e1, e2⟩
theorem call_list_rev {E Q : Value → Shared → Prop} {it l : Addr} {xs : Array Value} (hh : A.handled = none)
    (hit : s.heap.IsRevIter it l ((xs.size : Int) - 1)) (hl : s.heap.IsList l xs) (hne : l ≠ it) (hn : xs.size ≤ sizeLine)
    (hQ : ∀ h' tk acc c', (∀ b o, b ≠ it → s.heap.get? b = some o → h'.get? b = some o) → h'.get? s.heap.objs.size = some { cls := .type "list", dict := none, data := .seq acc c', slots := #[] } →
      ItemsOf (fun i v => xs[xs.size - 1 - i]? = some v) acc xs.size → Q (.ref s.heap.objs.size) { s with heap := h', toks := tk }) :
    wpAny (model prog w) A (call (.type "list") [.ref it]) Q E s := by
  have l1 : it < s.heap.objs.size := by obtain ⟨o, e, _⟩ := hit; exact Heap.lt_size e
  have l2 : l < s.heap.objs.size := by obtain ⟨o, e, _⟩ := hl; exact Heap.lt_size e
  refine callType_codes (Q₁ := fun x t => x = .ref s.heap.objs.size ∧ t = { s with heap := s.heap.push { cls := .type "list", data := .seq #[] } }) F.called_list (F.typeCall_list_1 _) F.entry_list_init (code_list_new _ ⟨rfl, rfl⟩) ?_
  rintro _ _ ⟨rfl, rfl⟩
  have new : (s.heap.push { cls := .type "list", data := .seq #[] }).get? s.heap.objs.size = some { cls := .type "list", data := .seq #[] } := Heap.get?_push_size _ rfl
  refine ⟨⟨_, new, rfl⟩, F.args_list_init_2 _ _, ?_⟩
  refine init_rev (A := A.in1) (s := { s with heap := s.heap.push { cls := .type "list", data := .seq #[] } }) hh (hit.at fun o e => Heap.get?_push_of_some _ e) (hl.push _) hne hn (Nat.ne_of_gt l1) (Nat.ne_of_gt l2) new fun h' tk acc c' k1 k2 k3 => ⟨rfl, hQ h' tk acc c' (fun b o n e => k1 b o (Nat.ne_of_lt (Heap.lt_size e)) n (Heap.get?_push_of_some _ e)) k2 k3⟩
end
/-- list(reversed(e)): a new list, the items from the last to the first -/
def tLRev (K : PySem.W.Frag) (te : TE) : TE := fun σ H Q => te σ H fun x H1 => ∃ p ys, x = .ref p ∧ SqL K H1 p ys ∧ ys.length ≤ 100000 ∧ ∀ l, H1 l = none → Q (.ref l) (upd H1 l (.lst ys.reverse))
theorem pe_lrev {X : Cx} {K : PySem.W.Frag} {x : Expr} {tx : TE} {n1 n2 l1 l2 : Pos} (hc : X.calm = true) (g1 : Gl X "list") (m1 : X.mg "list" = none) (g2 : Gl X "reversed") (m2 : X.mg "reversed" = none) (px : PE X x tx)
    (st : starEach [x] X.env = (false, eval x X.env) :: starEach [] X.env := by rfl)
    (st2 : starEach [.Call (.Name "reversed" n2) [x] [] l2] X.env = (false, eval (.Call (.Name "reversed" n2) [x] [] l2) X.env) :: starEach [] X.env := by rfl) (hK : X.K = K := by rfl) :
    PE X (.Call (.Name "list" n1) [.Call (.Name "reversed" n2) [x] [] l2] [] l1) (tLRev K tx) := by
  subst hK
  constructor
  intro pins s σ H Q I h
  refine Call_ (ld_blt I g1 m1 (by decide +kernel : bootBuiltins ("list" : Str) = some (.type "list")) (callWith_type1 (args_cons (Call_ (ld_blt I g2 m2 boot_reversed (callWith_type1 (args_cons (thn (px.run pins s σ H _ I h) fun u t hh => args_nil ?_) st) st rfl))) st2) st2 rfl))
  obtain ⟨v, H1, I1, rv, p, ys, ev, hq, hlen, q⟩ := hh
  subst ev
  cases rv
  obtain ⟨its, vals, pl, hz⟩ := I1.list hq
  have isl := pl.isList
  refine call_reversed_list isl (args_nil ?_)
  have lt : p < t.heap.objs.size := by obtain ⟨o, e, _⟩ := isl; exact Heap.lt_size e
  have sz : its.toArray.size ≤ sizeLine := by rw [List.size_toArray, ← vals.length]; exact hz
  have rev : (t.heap.push (revObj p ((its.toArray.size : Int) - 1))).IsRevIter t.heap.objs.size p ((its.toArray.size : Int) - 1) := ⟨_, Heap.get?_push_size _ rfl, rfl, rfl⟩
  refine call_list_rev (s := { t with heap := t.heap.push (revObj p ((its.toArray.size : Int) - 1)) }) (I1.ok.hd hc) rev (isl.push _) (Nat.ne_of_lt lt) sz fun h' tk acc c' k1 k2 k3 => ?_
  have big : t.heap.objs.size ≤ (t.heap.push (revObj p ((its.toArray.size : Int) - 1))).objs.size := by
    show _ ≤ (Array.push _ _).size
    rw [Array.size_push]
    exact Nat.le_succ _
  refine ⟨.ref _, _, I1.laid (t' := tk) (o := .lst ys.reverse) (fun b o e => k1 b o (Nat.ne_of_lt (Heap.lt_size e)) (Heap.get?_push_of_some _ e)) big ⟨by rw [List.length_reverse]; exact hz, acc.toList, c', RT.vals_rev vals k3, ?_⟩, rfl, q _ (I1.hok.fresh big)⟩
  rw [Array.toArray_toList]
  exact k2
section
variable {K : PySem.W.Frag} {F : Hp} {G0 : Vw} {γ : List Sl}
theorem go_lrev {te : TE} {k : Addr → List AV → List Sl → Prop} (h : GE K F G0 te γ fun A γ1 => ∃ As, A = aLst As ∧ As.length ≤ 100000 ∧ AllA fun l => k l As.reverse γ1) : GO K F G0 (tLRev K te) γ k := fun σ H G Q a z =>
  h σ H G _ a fun A γ1 v H1 G1 ⟨As, e, hl, h1⟩ l1 a1 p1 => by
    subst e
    obtain ⟨b, vs, rfl, hb, hv⟩ := p1
    exact ⟨b, vs, rfl, a1.see.seq (.inl hb), by rw [hv.length]; exact hl, fun p np => go_new z a1 l1 np (h1 p) hv.reverse⟩
theorem avs.eraseIdx {G : Vw} : ∀ {As : List AV} {vs : List V} (n : Nat), avs G As vs → avs G (As.eraseIdx n) (vs.eraseIdx n)
  | [], vs, _, h => by
    have e : vs = [] := h
    subst e
    exact rfl
  | A :: As, vs, 0, h => by
    obtain ⟨v, r, rfl, p, t⟩ := h
    exact t
  | A :: As, vs, n + 1, h => by
    obtain ⟨v, r, rfl, p, t⟩ := h
    exact ⟨v, _, rfl, p, avs.eraseIdx n t⟩
/-- x.pop(i) of an own list -/
theorem ge_popAt {i : Nat} {te : TE} {k : AV → List Sl → Prop} (h0 : ∃ l As, γ[i]? = some (.own l As)) (h : GE K F G0 te γ fun A γ1 => ∃ l As j B, A = aInt j ∧ γ1[i]? = some (.own l As) ∧ (0 ≤ j ∧ j < As.length ∧ As.length ≤ 100000) ∧ As[j.toNat]? = some B ∧ k B (γ1.set i (.own l (As.eraseIdx j.toNat)))) : GE K F G0 (tBM K "list" rPopAt (tVar i) (tCons te tNil)) γ k := fun σ H G Q a z => by
  obtain ⟨l0, Bs, e0⟩ := h0
  obtain ⟨e1, ws, hw, _⟩ := a.ownAt e0
  refine ⟨_, e1, .inl ⟨rfl, _, SqL.of hw⟩, h σ H G _ a fun A γ1 y H1 G1 ⟨l, As, j, B, ej, e2, ⟨j0, j1, hl⟩, eB, q⟩ l1 a1 p1 => ?_⟩
  subst ej
  have py : y = V.int j := p1
  subst py
  obtain ⟨e4, vs, h1, _, _, hv⟩ := a1.ownAt e2
  rw [e1] at e4
  cases e4
  obtain ⟨v, ev, pv⟩ := hv.get eB
  exact ⟨l0, vs, j, j.toNat, v, rfl, rfl, h1, by omega, by omega, seqIndex_of j0 (by rw [hv.length]; omega), ev, z B _ v _ G1 q l1 (a1.write e2 (hv.eraseIdx j.toNat)) pv⟩
/-- xs + ys of lists, as a value -/
theorem o_catL {As Bs : List AV} {k : AV → List Sl → Prop} (hl : As.length + Bs.length ≤ 100000) (q : k (aLst (As ++ Bs)) γ) : O2 K F G0 (rAdd K) (aLst As) (aLst Bs) γ k := fun σ H G x y Q a px py z => by
  obtain ⟨b, vs, rfl, hb, hv⟩ := px
  obtain ⟨c, ws, rfl, hc, hw⟩ := py
  exact .inr (.inr (.inl ⟨b, c, vs, ws, rfl, rfl, a.see.l b vs hb, a.see.l c ws hc, size_ok (by rw [hv.length, hw.length]; exact hl), fun p np => z _ γ _ _ _ q (G.leL p _) ((a.up (same_upd np)).addL upd_same (a.noF np) (a.noOwn np)) ⟨p, _, rfl, .inr ⟨rfl, rfl⟩, (hv.append hw).mono (G.leL p _)⟩⟩))
end
end Rl

/-! # Rl, seventeenth part: xs.reverse(), == of lists of numbers -/
namespace Rl
open PySem PySem.Spec PyProof.Rows L2
section
variable {K : PySem.W.Frag} {F : Hp} {G0 : Vw} {γ : List Sl} {k : AV → List Sl → Prop} {ks : KS}
theorem gs_reverse {i : Nat} (h : ∃ l As, γ[i]? = some (.own l As) ∧ ks.nx (γ.set i (.own l As.reverse))) : GS K F G0 (tDrop (tBM0 K "list" rReverse (tVar i))) γ ks := fun D σ H G a s => by
  obtain ⟨l, As, e0, q⟩ := h
  obtain ⟨e1, vs, h1, _, _, hv⟩ := a.ownAt e0
  exact ⟨_, e1, .inl ⟨rfl, _, SqL.of h1⟩, l, vs, rfl, rfl, h1, s.nx _ σ _ G q (.refl G) (a.write e0 hv.reverse)⟩
theorem shaped_ints (xs : List Int) : SeqAt.shaped (.list (xs.map PyData.int)) = true := by
  unfold SeqAt.shaped
  rw [PyData.canLay0, canAll_map (fun _ => rfl), PyData.depth]
  have := depthAll_map (f := PyData.int) (n := 1) (fun _ => Nat.le_of_ble_eq_true rfl) xs
  rw [decide_eq_true (by omega)]
  rfl
theorem eqv_ints (xs ys : List Int) : PyData.eqv (.list (xs.map PyData.int)) (.list (ys.map PyData.int)) = decide (xs = ys) := by
  rw [PyData.eqv]
  exact eqvAll_map eqv_int xs ys
theorem o_neE {xs : List Int} (q : k (aB (!xs.isEmpty)) γ) : O2 K F G0 (rNeA K) (aLst (xs.map aInt)) (aLst []) γ k := by
  refine o_ned (d := .list (xs.map PyData.int)) (e := .list []) (b := xs.isEmpty) (isd_lst (isds_map isd_int xs)) (isd_lst isds_nil) (shaped_ints xs) rfl ?_ q
  cases xs with
  | nil => rfl
  | cons x xs => rfl
theorem o_eqIs {xs ys : List Int} (q : k (aB (decide (xs = ys))) γ) : O2 K F G0 (rEqA K) (aL aInt xs) (aL aInt ys) γ k := o_eqd (isd_lst (isds_map isd_int xs)) (isd_lst (isds_map isd_int ys)) (shaped_ints xs) (shaped_ints ys) (eqv_ints xs ys) q
theorem o_neIs {xs ys : List Int} (q : k (aB (!decide (xs = ys))) γ) : O2 K F G0 (rNeA K) (aL aInt xs) (aL aInt ys) γ k := o_ned (isd_lst (isds_map isd_int xs)) (isd_lst (isds_map isd_int ys)) (shaped_ints xs) (shaped_ints ys) (eqv_ints xs ys) q
end
end Rl

/-! # Rl, eighteenth part: exceptions as things that stay: try, isinstance, fields -/
namespace Rl
open PySem PySem.Spec PyProof.Rows L2
/-- at a: an exception of the class at C, its dict at d -/
def xoH (a C : Addr) (d : Option Addr) : HO := .ext fun h => ∃ oe vs, h.get? a = some oe ∧ Zc (.ref C) d oe ∧ oe.data = .fields vs
theorem xo_ok {P : Program} {w : World} {H : Hp} {h : Heap} {a C : Addr} {d : Option Addr} {oe : Obj} {vs : Array Value} (e : h.get? a = some oe) (z : Zc (.ref C) d oe) (hd : oe.data = .fields vs) : ObjOk P w H h a (xoH a C d) :=
  ⟨⟨oe, vs, e, z, hd⟩, ⟨_, e⟩, fun h1 h2 q k => by
    obtain ⟨oe, vs, e, z, hd⟩ := q
    exact ⟨oe, vs, k _ e, z, hd⟩⟩
theorem xo_at {P : Program} {w : World} {H : Hp} {h : Heap} {a C : Addr} {d : Option Addr} (hok : HOk P w H h) (he : H a = some (xoH a C d)) : ∃ oe vs, h.get? a = some oe ∧ Zc (.ref C) d oe ∧ oe.data = .fields vs := by
  have x : ObjOk P w H h a (xoH a C d) := hok a _ he
  exact x.1
theorem xo_own {a C x : Addr} {d : Option Addr} : xoH a C d ≠ .own x := fun z => by
  have z' : HO.ext _ = HO.own x := z
  cases z'
theorem xo_tup {a C : Addr} {d : Option Addr} {xs : List V} : xoH a C d ≠ .tup xs := fun z => by
  have z' : HO.ext _ = HO.tup xs := z
  cases z'
theorem xo_nl {a C : Addr} {d : Option Addr} : Nl (xoH a C d) := trivial
section
variable {X : Cx} {pins : List (Addr × Obj)} {σ : L2.St} {H : Hp} {s : Shared}
/-- a caught exception is put among the known things -/
theorem inv_addX (I : Inv X pins σ H s) {a C : Addr} {d : Option Addr} {oe : Obj} {vs : Array Value} (ha : s.heap.get? a = some oe) (z : Zc (.ref C) d oe) (hd : oe.data = .fields vs) (na : H a = none) (nL : a ≠ X.env.locals) (np : ∀ p ∈ X.pn ++ pins, p.1 ≠ a)
    (n0 : X.s_0.heap.get? a = none) : Inv X pins σ (upd H a (xoH a C d)) s := by
  have nz : ∀ {b : Addr} {o : HO}, H b = some o → b ≠ a := fun e => ne_of_none e na
  have n1 : ∀ {b : Addr} {o : Obj}, X.s_0.heap.get? b = some o → b ≠ a := fun e z => by
    rw [z, n0] at e
    cases e
  refine ⟨I.ok, I.os, I.bare, ⟨I.base.keep, I.base.slot, fun b o e n hx => ?_, I.base.there, fun b xs e => ?_, fun b o u e => ?_, fun b ps e => ?_⟩, I.loc, I.cell, ?_, fun x c e => ?_, fun p hp => ?_, fun b o e => ?_, I.len⟩
  · rw [upd_ne (n1 e)]
    exact I.base.free b o e n hx
  · have q := I.base.tups b xs e
    rw [upd_ne (nz q)]
    exact q
  · have q := I.base.frzs b o u e
    rw [upd_ne (nz q)]
    exact q
  · obtain ⟨more, q⟩ := I.base.tbls b ps e
    exact ⟨more, by rw [upd_ne (nz q)]; exact q⟩
  · rw [upd_ne (Ne.symm nL)]
    exact I.free
  · obtain ⟨v, hc⟩ := I.cell x c e
    have : c ≠ a := fun q => by
      subst q
      obtain ⟨o, e1, e2⟩ := hc
      rw [ha] at e1
      cases e1
      rw [hd] at e2
      cases e2
    rw [upd_ne this]
    exact I.freeC x c e
  · obtain ⟨e1, e2, e3, e4, e5⟩ := I.pin p hp
    exact ⟨e1, by rw [upd_ne (np p hp)]; exact e2, e3, e4, e5⟩
  · by_cases hb : b = a
    · subst hb
      rw [upd_same] at e
      cases e
      exact xo_ok ha z hd
    · rw [upd_ne hb] at e
      exact (I.hok b o e).stay (fun c u _ q => q) (fun c q => by rw [upd_ne (nz q)]; exact q) fun c xs q => by rw [upd_ne (nz q)]; exact q
end
end Rl

/-! # Rl, nineteenth part: try .. except x as n, the exception stays a known thing behind it -/
namespace Rl
open PySem PySem.Spec PyProof.Rows L2
/-- an except suite whose exception is a known thing -/
abbrev suX (X : Cx) (a : Addr) (pn : List (Addr × Obj)) : Cx := { X with A := X.A.mark (some (.ref a)), calm := false, pn := pn, xe := fun _ _ => False }
/-- .. its context, if it is left by none -/
theorem suX_ok {X : Cx} (ok : X.Ok) (a : Addr) (pn : List (Addr × Obj)) : (suX X a pn).Ok :=
  { mod := ok.mod, kind := ok.kind, glob := ok.glob, blt := ok.blt, above := ok.above, inj := ok.inj, has := ok.has, cab := ok.cab, hd := fun z => Bool.noConfusion (show false = true from z), frames := ok.frames, stk := ok.stk, exf := ok.exf, bs := ok.bs, bsz := ok.bsz, noex := ok.noex, exfs := ok.exfs, funs := ok.funs, frf := ok.frf }
/-- what the clause wishes of an exception of the body -/
def wK (K : PySem.W.Frag) (c : Value) (g : L2.St → Addr → L2.St) (e : L2.St → L2.St) (ts : TS) (Wout : WX) (D : Ends) : WX := fun cls d σ H =>
  ∃ C b, cls = .ref C ∧ PySem.W.exmOne K cls c = some b ∧ (b = true → ∀ a, H a = none → ts { nx := fun σ' => D.nx (e σ'), rt := D.rt, bk := fun σ' => D.bk (e σ'), ct := fun σ' => D.ct (e σ') } (g σ a) (upd H a (xoH a C d))) ∧ (b = false → Wout cls d σ H)
section
variable {X : Cx} {pins : List (Addr × Obj)} {σ : L2.St} {H : Hp} {s : Shared}
/-- into the suite, and out of it -/
theorem into_suX (J : Inv X pins σ H s) {a C : Addr} {d : Option Addr} {oe : Obj} {vs : Array Value} (ha : s.heap.get? a = some oe) (z : Zc (.ref C) d oe) (hd : oe.data = .fields vs) (na : H a = none) (nL : a ≠ X.env.locals) (np : ∀ p ∈ X.pn ++ pins, p.1 ≠ a)
    (n0 : X.s_0.heap.get? a = none) : Inv (suX X a (X.pn ++ pins)) [] σ (upd H a (xoH a C d)) s := by
  have I := inv_addX J ha z hd na nL np n0
  exact { ok := suX_ok I.ok a _, os := I.os, bare := I.bare, base := I.base, loc := I.loc, cell := I.cell, free := I.free, freeC := I.freeC, pin := fun p hp => I.pin p (by rw [List.append_nil] at hp; exact hp), hok := I.hok, len := I.len }
theorem outof_suX {a : Addr} {pn' : List (Addr × Obj)} (I : Inv (suX X a (X.pn ++ pins)) pn' σ H s) (ok : X.Ok) : Inv X pins σ H s :=
  { ok := ok, os := I.os, bare := I.bare, base := I.base, loc := I.loc, cell := I.cell, free := I.free, freeC := I.freeC, pin := fun p hp => I.pin p (List.mem_append_left _ hp), hok := I.hok, len := I.len }
end
section
variable {X : Cx} {x n : Str} {c : Value} {i : Nat} {body suite : List Stmt} {b0 : Stmt} {np pos pos' : Pos} {tb : WX → TS} {ts : TS} {Wout : WX}
/-- what is known of a landed exception -/
theorem land_facts {B : Heap} {a : Addr} {cls : Value} {d : Option Addr} {h : Heap} (hs : X.stack = X.env :: X.outer) (hf : X.env.frame = some X.env.locals) (fl : HandSPX.FlyingZ B (X.env :: X.outer) a (Zc cls d) h) :
    ∃ oe vs, h.get? a = some oe ∧ Zc cls d oe ∧ oe.data = .fields vs ∧ a ≠ X.env.locals ∧ a ∉ frs X.stack := by
  obtain ⟨oe, vs, he, hz, hd⟩ := fl.there
  have nf : a ∉ frs X.stack := fun hm => by
    rw [hs] at hm
    obtain ⟨_, o', e', q⟩ := fl.2.2.1.mem hm
    rw [he] at e'
    cases e'
    exact q _ hd
  refine ⟨oe, vs, he, hz, hd, fun z => nf ?_, nf⟩
  rw [hs, z]
  exact List.mem_filterMap.mpr ⟨X.env, List.mem_cons_self, hf⟩
/-- it is in no pin, and was not there at the entry -/
theorem land_new {B : Heap} {a : Addr} {pins : List (Addr × Obj)} {σ : L2.St} {H : Hp} {sI : Shared} (J : Inv X pins σ H sI) (hex : X.ex = []) (hs : X.stack = X.env :: X.outer) (hf : X.env.frame = some X.env.locals) (nb : ∀ b o, sI.heap.get? b = some o → b ∉ frs X.stack → B.get? b = some o) (hB : B.get? a = none) (nf : a ∉ frs X.stack) :
    (∀ p ∈ X.pn ++ pins, p.1 ≠ a) ∧ X.s_0.heap.get? a = none := by
  have key : ∀ o, sI.heap.get? a ≠ some o := fun o e => by
    have := nb a o e nf
    rw [hB] at this
    cases this
  refine ⟨fun p hp z => key p.2 ?_, ?_⟩
  · rw [← z]
    exact (J.pin p hp).1
  · cases e : X.s_0.heap.get? a with
    | none => rfl
    | some o =>
      obtain ⟨o', q⟩ := J.base.there a o e (by rw [hex]; exact List.not_mem_nil)
      exact absurd q (key o')
/-- try: body, except x as n: suite -/
theorem ps_tryK (hs : X.stack = X.env :: X.outer) (hf : X.env.frame = some X.env.locals) (hex : X.ex = []) (hN : X.N.Nodup) (hi : X.N[i]? = some n) (hln : X.env.kindOf n = some .local) (hc : Names X x c) (tk : Takes X Wout)
    (hb : ∀ (W : WX) (pn : List (Addr × Obj)) (xe : Value → Shared → Prop), Takes (X.tr pn xe) W → PassesOwn (model X.prog X.w) X.A X.env xe → PSs (X.tr pn xe) body (tb W)) (hsu : ∀ (a : Addr) (pn : List (Addr × Obj)), PSs (suX X a pn) (b0 :: suite) ts) :
    PS X (.Try body [.ExceptHandler (some (.Name x np)) (some n) (b0 :: suite) pos'] [] [] pos) (fun D => tb (wK X.K c (fun σ a => σ.set i (some (.ref a))) (fun σ => σ.set i none) ts Wout D) D) := by
  refine ⟨fun pins s σ H D I h => ?_⟩
  have ok := I.ok
  have hfr : X.A.frames = some (X.env :: X.outer) := ok.frames.trans (congrArg some hs)
  refine wpAny_Try_except (wpAny_mono ((hb _ (X.pn ++ pins) (fun e s1 => wpAny (model X.prog X.w) X.A (noteFrame e X.env) (fun _ s2 => wpAny (model X.prog X.w) X.A (setFlight e none) (fun _ s3 => wpAny (model X.prog X.w) X.A (handleBy e X.env [.ExceptHandler (some (.Name x np)) (some n) (b0 :: suite) pos']) (SP X pins D) X.xe s3) X.xe s2) X.xe s1) (fun u s' xx => ?_) PassesOwn.looking).run [] s σ H D (I.toTry _) h) (fun f s1 hsp => ?_) fun e s1 he => he)
  · obtain ⟨a, B, sI, pins', σ', H', cls, d, rfl, J', nb, up, sky, na, os, ag, C, b, rfl, hb1, hyes, hno⟩ := xx
    have J : Inv X pins σ' H' sI := J'.ofTry ok
    refine Sky.land Zc.steady hfr hf (show Sky B (X.env :: X.outer) a (Zc (.ref C) d) X.env.locals s'.heap by rw [← hs]; exact sky) fun h3 fl3 up3 => ?_
    have J3 : Inv X pins σ' H' { s' with heap := h3 } := J.landed nb fl3.1 (up.trans up3) os ag
    obtain ⟨oe3, vs3, he3, hz3, hd3, nL, nf⟩ := land_facts hs hf fl3
    obtain ⟨np', n0⟩ := land_new J hex hs hf nb fl3.2.1 nf
    have S3 := into_suX J3 he3 hz3 hd3 na nL np' n0
    refine wpAny_handleBy_cons (codeAny_handlers_test ?_) (by intro q; cases q)
    have LM := PySem.W.exm_one (M := model X.prog X.w) (J3.kIn) (fun A Q E s k q => wpAny_typeOf_ref (k _ _ he3) (by rw [hz3.1]; exact q)) hb1
    have test : ∀ {Q : Value → Shared → Prop} {E : Value → Shared → Prop}, Q c { s' with heap := h3 } → wpAny (model X.prog X.w) (X.A.mark (some (.ref a))) (eval (.Name x np) X.env) Q E { s' with heap := h3 } := fun {Q E} q => by
      obtain ⟨hg, hdbg, hm | ⟨hm, hv, hnn⟩⟩ := hc
      · exact ld_glob (X := suX X a (X.pn ++ pins)) S3 hg hm q hdbg
      · exact ld_blt (X := suX X a (X.pn ++ pins)) S3 hg hm hv q hnn hdbg
    refine test (LM.here ?_)
    cases b with
    | true =>
      refine codeAny_handlers_suite_as (HandSPX.lands_againZ fl3 fun h4 fl4 up4 => ?_)
      have J4 : Inv X pins σ' H' { s' with heap := h4 } := J.landed nb fl4.1 ((up.trans up3).trans up4) os ag
      obtain ⟨oe4, vs4, he4, hz4, hd4, _⟩ := land_facts hs hf fl4
      refine store_ok (X := suX X a (X.pn ++ pins)) (v := .ref a) (into_suX J4 he4 hz4 hd4 na nL np' n0) hN hi (.inl hln) rfl (fun s5 S5 => ?_) (.inr hln)
      have end_ : ∀ {σ6 : L2.St} {H6 : Hp} {s6 : Shared} {Q : Shared → Prop}, Inv (suX X a (X.pn ++ pins)) [] σ6 H6 s6 → (∀ s7, Inv X pins (σ6.set i none) H6 s7 → Q s7) → wpAny (model X.prog X.w) X.A (do bindName X.env n .none; unbindBehindTheSuite X.env n pos') (fun _ s7 => Q s7) X.xe s6 := fun S6 hq => gone_ok (outof_suX S6 ok) hN hi hln hq
      refine wpAny_mono ((hsu a (X.pn ++ pins)).run [] s5 _ _ _ S5 (hyes rfl a na)) (fun f s6 hsp => ?_) (fun _ _ z => False.elim z)
      cases f with
      | ret u =>
        obtain ⟨v6, σ6, H6, S6, r6, q6⟩ := hsp
        exact end_ S6 fun s7 J7 => ⟨v6, _, _, J7, r6, q6⟩
      | _ =>
        obtain ⟨σ6, H6, S6, q6⟩ := hsp
        exact end_ S6 fun s7 J7 => ⟨_, H6, J7, q6⟩
    | false =>
      refine wpAny_handleBy_nil ?_
      obtain ⟨_, _, _, oe, vs, T, oT, ts', he, hz, hd, h1, _⟩ := id fl3
      unfold PySem.passOn
      refine wpAny_bind (wpAny_field he hd h1 ?_)
      rw [if_neg (show ¬ ((Value.ref T == Value.none) = true) by simp)]
      have fin : wpAny (model X.prog X.w) X.A (setFlight (.ref a) X.env.frame) (fun _ s4 => wpAny (model X.prog X.w) X.A (throw (.ref a) : Sem Flow) (SP X pins D) X.xe s4) X.xe { s' with heap := h3 } := by
        rw [hf]
        exact HandSPX.setFlight_upZ fl3 fun h4 hh4 up4 => wpAny_throw (tk _ _ ⟨a, B, sI, pins, σ', H', _, d, rfl, J, nb, (up.trans up3).trans up4, .inr (.inr (by rw [hs]; exact hh4)), na, os, ag, hno rfl⟩)
      first | exact wpAny_bind (wpAny_pure (wpAny_bind fin)) | exact wpAny_bind fin
  · cases f with
    | ret u =>
      obtain ⟨v, σ', H', J', r, q⟩ := hsp
      exact ⟨v, σ', H', Inv.ofTry J' ok, r, q⟩
    | next =>
      obtain ⟨σ', H', J', q⟩ := hsp
      exact wpAny_execs_nil ⟨σ', H', Inv.ofTry J' ok, q⟩
    | _ =>
      obtain ⟨σ', H', J', q⟩ := hsp
      exact ⟨σ', H', Inv.ofTry J' ok, q⟩
end
end Rl

/-! # Rl, twentieth part: what the written part says of the exception classes; isinstance, fields, raise -/
namespace Rl
open PySem PySem.Spec PyProof.Rows L2
/-- an exception class of the module's, by its name -/
structure XcK (K : PySem.W.Frag) (x : Str) : Prop where
  oex : OexC K (He.ga K x)
  cl : (PySem.W.clsIn K (He.ga K x)).isSome = true
  gt : PySem.W.findIn K (.ref (He.ga K x)) "__getattribute__" = some (some (.builtin "BaseException.__getattribute__"))
  gg : PySem.W.findIn K (.ref (He.ga K x)) "__getattr__" = some none
  hd : PySem.W.hasDictIn K (He.ga K x) = true
  ha : PySem.W.findIn K (.ref (He.ga K x)) "__class__" = some (some (.builtin "object.__class__"))
  hn : PySem.W.specialIn K (.builtin "object.__class__") "__get__" = some (some (.builtin "getset_descriptor.__get__"))
  ht : PySem.W.takesIn K (.builtin "object.__class__") = some true
  hm : PySem.W.mroIn K (He.ga K x) (.type "object") = some true
def oexB (K : PySem.W.Frag) (C : Addr) : Bool := match K.lookup C with
  | some ⟨.type "type", _, .cls cd, sl⟩ => (match cd.mro, sl.toList with
    | .ref C' :: bm, [_, _, _, _, some (.builtin n), _] => C' == C && n == "ValueError.__new__" && cd.hasDict && !cd.hasDel && HandSPX.refsVE bm
    | _, _ => false)
  | _ => false
theorem oexB_ok {K : PySem.W.Frag} {C : Addr} (q : oexB K C = true) : ∃ nm q' N bs bm sn sub ab col dd k0 k1 k2 k3 k5, K.lookup C = some (excClassObj nm q' C N bs bm true sn sub ab col dd k0 k1 k2 k3 k5 "ValueError.__new__") ∧ HandSPX.refsVE bm = true := by
  unfold oexB at q
  split at q
  · rename_i dd cd sl ho
    split at q
    · rename_i C' bm k0 k1 k2 k3 n k5 hm hs
      simp only [Bool.and_eq_true, beq_iff_eq, Bool.not_eq_true'] at q
      obtain ⟨⟨⟨⟨rfl, rfl⟩, hhd⟩, hdel⟩, hbm⟩ := q
      obtain ⟨nm, bs, mro, ns, qn, hd, sn, sub, ab, col, del⟩ := cd
      dsimp only at hm hdel hhd
      subst hm hdel hhd
      obtain ⟨l⟩ := sl
      simp only at hs
      subst hs
      exact ⟨_, _, _, _, bm, _, _, _, _, _, _, _, _, _, _, ho, hbm⟩
    · cases q
  · cases q
def xcB (K : PySem.W.Frag) (x : Str) : Bool := oexB K (He.ga K x) && decide (PySem.W.findIn K (.ref (He.ga K x)) "__setattr__" = some (some (.builtin "object.__setattr__"))) && decide (PySem.W.subIn K (.ref (He.ga K x)) (.type "BaseException") = some true)
  && decide (PySem.W.typeIn K (.ref (He.ga K x)) = some (.type "type")) && PySem.W.keepIn K (.ref (He.ga K x)) && (PySem.W.clsIn K (He.ga K x)).isSome
  && decide (PySem.W.findIn K (.ref (He.ga K x)) "__getattribute__" = some (some (.builtin "BaseException.__getattribute__"))) && decide (PySem.W.findIn K (.ref (He.ga K x)) "__getattr__" = some none) && PySem.W.hasDictIn K (He.ga K x)
  && decide (PySem.W.findIn K (.ref (He.ga K x)) "__class__" = some (some (.builtin "object.__class__"))) && decide (PySem.W.specialIn K (.builtin "object.__class__") "__get__" = some (some (.builtin "getset_descriptor.__get__")))
  && decide (PySem.W.takesIn K (.builtin "object.__class__") = some true) && decide (PySem.W.mroIn K (He.ga K x) (.type "object") = some true)
theorem xcB_ok {K : PySem.W.Frag} {x : Str} (h : xcB K x = true) : XcK K x := by
  unfold xcB at h
  simp only [Bool.and_eq_true, decide_eq_true_eq] at h
  obtain ⟨⟨⟨⟨⟨⟨⟨⟨⟨⟨⟨⟨h1, h2⟩, h3⟩, h4⟩, h5⟩, h6⟩, h7⟩, h8⟩, h9⟩, h10⟩, h11⟩, h12⟩, h13⟩ := h
  exact ⟨⟨oexB_ok h1, h2, h3, h4, h5⟩, h6, h7, h8, h9, h10, h11, h12, h13⟩
/-- y is a class under x, or x itself -/
def subN (y x : Str) : Bool := y == x || x == "LoadError"
structure XsK (K : PySem.W.Frag) (ns : List Str) : Prop where
  kit : ∀ y, y ∈ ns → ∀ x, x ∈ ns → PySem.W.kitOne K (.ref (He.ga K y)) (.ref (He.ga K x)) = some (subN y x)
  exm : ∀ y, y ∈ ns → ∀ x, x ∈ ns → PySem.W.exmOne K (.ref (He.ga K y)) (.ref (He.ga K x)) = some (subN y x)
  ve : ∀ y, y ∈ ns → PySem.W.kitOne K (.ref (He.ga K y)) (.type "ValueError") = some true
  no : ∀ x, x ∈ ns → PySem.W.kitOne K (.type "NoneType") (.ref (He.ga K x)) = some false
def xsB (K : PySem.W.Frag) (ns : List Str) : Bool := ns.all fun y => (ns.all fun x => decide (PySem.W.kitOne K (.ref (He.ga K y)) (.ref (He.ga K x)) = some (subN y x)) && decide (PySem.W.exmOne K (.ref (He.ga K y)) (.ref (He.ga K x)) = some (subN y x)))
  && decide (PySem.W.kitOne K (.ref (He.ga K y)) (.type "ValueError") = some true) && decide (PySem.W.kitOne K (.type "NoneType") (.ref (He.ga K y)) = some false)
theorem xsB_ok {K : PySem.W.Frag} {ns : List Str} (h : xsB K ns = true) : XsK K ns := by
  unfold xsB at h
  rw [List.all_eq_true] at h
  have h' := fun y hy => by
    have := h y hy
    simp only [Bool.and_eq_true, decide_eq_true_eq, List.all_eq_true] at this
    exact this
  exact ⟨fun y hy x hx => ((h' y hy).1.1 x hx).1, fun y hy x hx => ((h' y hy).1.1 x hx).2, fun y hy => (h' y hy).1.2, fun y hy => (h' y hy).2⟩

/-! ### isinstance -/
section
variable {X : Cx}
theorem xo_inst {P : Program} {w : World} {H : Hp} {h : Heap} {a C : Addr} {d : Option Addr} {fs : List (Str × V)} (hok : HOk P w H h) (he : H a = some (xoH a C d)) (hd : ∀ dd, d = some dd → H dd = some (.xd fs)) : ∃ oe od, PySem.W.InstAt h a oe C od := by
  obtain ⟨oe, vs, e, z, hv⟩ := xo_at hok he
  have nc : PySem.W.notCls oe = true := by unfold PySem.W.notCls; rw [hv] <;> rfl
  cases hq : d with
  | none => exact ⟨oe, none, e, z.1, nc, by rw [z.2, hq]; trivial⟩
  | some dd =>
    obtain ⟨mA, hns, _⟩ := (show ObjOk P w H h dd (.xd fs) from hok dd _ (hd dd hq))
    obtain ⟨od, ho, _⟩ := lookIn_ns hns
    exact ⟨oe, some od, e, z.1, nc, by rw [z.2, hq]; exact ho⟩
/-- isinstance(e, c) of an exception that stands -/
def rIsX (K : PySem.W.Frag) : List V → Hp → VK → Prop := fun xs H Q => ∃ (a : Addr) (y : Str) (d : Option Addr) (fs : List (Str × V)) (c : V) (cv : Value) (b : Bool), xs = [.ref a, c] ∧ H a = some (xoH a (He.ga K y) d) ∧ (∀ dd, d = some dd → H dd = some (.xd fs)) ∧ XcK K y ∧ ClsV c cv ∧ PySem.W.kitOne K (.ref (He.ga K y)) cv = some b ∧ Q (.bl b) H
theorem call_isX : CallR X (.builtin "isinstance") (rIsX X.K) := by
  intro pins s σ H xs us Q I r h
  obtain ⟨a, y, d, fs, c, cv, b, rfl, ha, hd, T, k, e, q⟩ := h
  obtain ⟨u1, u2, rfl, r1, r2⟩ := vals2 r
  have e2 := k.eq r2
  subst e2
  cases (show u1 = Value.ref a from r1)
  obtain ⟨oe, od, J⟩ := xo_inst I.hok ha hd
  exact PySem.W.kia_one (PySem.W.kitx_exc T.cl T.gt T.gg T.oex.exC T.ha T.hn T.ht T.hm) I.kIn J e (fun z => nomatch z) fun tk => ⟨.bl b, H, I.tok tk, rfl, q⟩
/-- isinstance(e, (c1, c2, ..)) -/
def rIsXT (K : PySem.W.Frag) : List V → Hp → VK → Prop := fun xs H Q => ∃ (a tp : Addr) (y : Str) (d : Option Addr) (fs : List (Str × V)) (cs : List V) (us : List Value) (b : Bool), xs = [.ref a, .ref tp] ∧ SqT K H tp cs ∧ H tp = some (.tup cs) ∧ H a = some (xoH a (He.ga K y) d) ∧ (∀ dd, d = some dd → H dd = some (.xd fs)) ∧ XcK K y ∧ Paired ClsV cs us ∧ PySem.W.kitAny K (.ref (He.ga K y)) us = some b ∧ Q (.bl b) H
theorem call_isXT : CallR X (.builtin "isinstance") (rIsXT X.K) := by
  intro pins s σ H xs us Q I r h
  obtain ⟨a, tp, y, d, fs, cs, ws, b, rfl, _, hT, ha, hd, T, k, e, q⟩ := h
  obtain ⟨u1, u2, rfl, r1, r2⟩ := vals2 r
  cases (show u1 = Value.ref a from r1)
  cases (show u2 = Value.ref tp from r2)
  obtain ⟨oe, od, J⟩ := xo_inst I.hok ha hd
  obtain ⟨_, its, rv, o, h1, h2, n, h3⟩ := (show ObjOk X.prog X.w H s.heap tp (.tup cs) from I.hok tp _ hT)
  have e3 := ClsV.all k rv
  subst e3
  obtain ⟨oc, od', dt, sl⟩ := o
  simp only at h2 h3
  subst h2 h3
  exact PySem.W.kia_tup (PySem.W.kitx_exc T.cl T.gt T.gg T.oex.exC T.ha T.hn T.ht T.hm) I.kIn J h1 e (fun z => nomatch z) fun tk => ⟨.bl b, H, I.tok tk, rfl, q⟩
/-- .. the first thing an exception, or a plain value; the second a class, or a tuple of classes that was just made -/
def rIsZ (K : PySem.W.Frag) : List V → Hp → VK → Prop := fun xs H Q => rIsX K xs H Q ∨ rIsXT K xs H Q ∨ rIsi K xs H Q ∨ rIsiT K xs H Q
theorem call_isZ {K : PySem.W.Frag} (h : X.K = K := by rfl) : CallR X (.builtin "isinstance") (rIsZ K) := h ▸ call_isX.or (call_isXT.or (call_isi.or call_isiT))

/-! ### a field -/
def tFx (K : PySem.W.Frag) (f : Str) (te : TE) : TE := fun σ H Q => te σ H fun x H1 => ∃ (a : Addr) (y : Str) (dd : Addr) (fs : List (Str × V)) (v : V), x = .ref a ∧ H1 a = some (xoH a (He.ga K y) (some dd)) ∧ H1 dd = some (.xd fs) ∧ XcK K y ∧ PySem.W.findIn K (.ref (He.ga K y)) f = some none ∧ fs.lookup f = some v ∧ Q v H1
theorem pe_fx {K : PySem.W.Frag} {e : Expr} {te : TE} {pos : Pos} {n : Str} (he : PE X e te) (hK : X.K = K := by rfl) (hb : attributeBase e n X.env (eval e X.env) = eval e X.env := by rfl) : PE X (.Attribute e n pos) (tFx K n te) := by
  subst hK
  refine ⟨fun pins s σ H Q I h => attr_of hb (thn (he.run pins s σ H _ I h) fun u s1 hh => ?_)⟩
  obtain ⟨x, H1, I1, rx, a, y, dd, fs, v, ex, ha, hd, T, hno, l, q⟩ := hh
  subst ex
  cases (show u = Value.ref a from rx)
  obtain ⟨oe, vs, e1, z, hv⟩ := xo_at I1.hok ha
  obtain ⟨mA, hns, hr⟩ := (show ObjOk X.prog X.w H1 s1.heap dd (.xd fs) from I1.hok dd _ hd)
  obtain ⟨od, ho, hl⟩ := lookIn_ns hns
  obtain ⟨u, hu, ru⟩ := RelO.some_of (v := v) (o := mA n) (by rw [← l]; exact hr n)
  have J : PySem.W.InstAt s1.heap a oe (He.ga X.K y) (some od) := ⟨e1, z.1, by unfold PySem.W.notCls; rw [hv] <;> rfl, by rw [z.2]; exact ho⟩
  exact HandSPX.exc_get I1.kIn J T.gt T.gg T.oex.exC (PySem.W.findObj_own T.hd hno rfl (by rw [hl, hu])) (handed_of ru) ⟨v, H1, I1.tok _, ru, q⟩
end
end Rl

/-! # Rl, twenty-first part: exceptions in the judgements -/
namespace Rl
open PySem PySem.Spec PyProof.Rows L2
/-! ### an exception as a known thing -/
def Vw.addH (G : Vw) (a : Addr) (u : HO) : Vw := ⟨G.t, G.l, G.c, fun b o => G.h b o ∨ (b = a ∧ o = u), G.k⟩
theorem Vw.leH (G : Vw) (a : Addr) (u : HO) : Vw.Le G (G.addH a u) := ⟨fun _ _ h => h, fun _ _ h => h, fun _ _ h => h, fun _ _ h => .inl h, rfl⟩
/-- an exception's dict: what stands in its fields -/
def XF (G : Vw) : Option Addr → List (Str × AV) → Prop
  | none, Fs => Fs = []
  | some dd, Fs => ∃ fs : List (Str × V), G.h dd (.xd fs) ∧ fs.map (·.1) = Fs.map (·.1) ∧ avs G (Fs.map (·.2)) (fs.map (·.2))
theorem XF.mono {G G' : Vw} (le : Vw.Le G G') : ∀ {d : Option Addr} {Fs : List (Str × AV)}, XF G d Fs → XF G' d Fs
  | none, _, h => h
  | some dd, _, ⟨fs, h, e, q⟩ => ⟨fs, le.h _ _ h, e, q.mono le⟩
/-- an exception of the class named y -/
def aX (y : Str) (Fs : List (Str × AV)) : AV := ⟨fun G v => ∃ a d, v = .ref a ∧ G.h a (xoH a (G.k y) d) ∧ XF G d Fs, fun {G G'} {v} le ⟨a, d, e, h, q⟩ => ⟨a, d, e, by rw [le.k]; exact le.h _ _ h, q.mono le⟩⟩
/-- a class of the module's -/
def aC (x : Str) : AV := ⟨fun G v => v = .ref (G.k x), fun le e => by rw [e, le.k]⟩
theorem ref_X {y : Str} {Fs : List (Str × AV)} : ∀ G v, (aX y Fs).p G v → ∃ a, v = .ref a := fun _ _ ⟨a, _, e, _⟩ => ⟨a, e⟩
section
variable {K : PySem.W.Frag} {F : Hp} {G0 : Vw} {γ : List Sl} {σ : L2.St} {H H' : Hp} {G : Vw} {k : AV → List Sl → Prop} {ks : KS}
theorem At.addH (a : At K F G0 γ σ H G) {p : Addr} {u : HO} (h : H p = some u) (nl : Nl u) : At K F G0 γ σ H (G.addH p u) := by
  refine ⟨a.le.trans (G.leH p u), a.same, ⟨a.see.t, a.see.l, a.see.c, fun b o q => ?_, a.see.k⟩, a.hid, a.len, fun i S q => (a.slot i S q).move (G.leH p u) (fun _ _ _ e => e) (fun _ _ _ _ e => e) fun _ _ e => e, a.dis⟩
  rcases q with q | ⟨rfl, rfl⟩
  · exact a.see.h b o q
  · exact ⟨h, nl⟩
theorem At.newH (a : At K F G0 γ σ H G) {p : Addr} {u : HO} (np : H p = none) (nl : Nl u) : At K F G0 γ σ (upd H p u) (G.addH p u) := (a.up (same_upd np)).addH upd_same nl
/-- the view of now as the view of the entry -/
theorem At.base (a : At K F G0 γ σ H G) : At K F G γ σ H G := ⟨.refl G, a.same, a.see, fun _ _ _ q => q, a.len, a.slot, a.dis⟩
theorem At.unbase (a : At K F G0 γ σ H G) {γ' : List Sl} {σ' : L2.St} {G' : Vw} (b : At K F G γ' σ' H' G') : At K F G0 γ' σ' H' G' := ⟨a.le.trans b.le, b.same, b.see, fun c xs hc q => a.hid c xs hc (b.hid c xs hc q), b.len, b.slot, b.dis⟩
theorem At.unset (a : At K F G0 γ σ H G) (i : Nat) : At K F G0 (γ.set i .non) (σ.set i none) H G := by
  have f := a.forget i
  refine ⟨f.le, f.same, f.see, f.hid, by rw [List.length_set, f.len], fun j S q => ?_, f.dis⟩
  by_cases hj : i = j
  · subst hj
    rw [List.getElem?_set_self (set_lt q)] at q
    cases q
    trivial
  · rw [List.getElem?_set_ne hj]
    exact f.slot j S q
theorem Sat.base {D : Ends} (a : At K F G0 γ σ H G) (s : Sat K F G0 ks D G) : Sat K F G ks D G :=
  ⟨fun γ' σ' H' G' z l b => s.nx γ' σ' H' G' z l (a.unbase b), fun A γ' σ' v H' G' z l b => s.rt A γ' σ' v H' G' z l (a.unbase b), fun As γ' σ' l' vs H' G' z l b => s.ro As γ' σ' l' vs H' G' z l (a.unbase b), fun γ' σ' H' G' z l b => s.bk γ' σ' H' G' z l (a.unbase b), fun γ' σ' H' G' z l b => s.ct γ' σ' H' G' z l (a.unbase b), fun S γ' σ' v H' G' z l b => s.rn S γ' σ' v H' G' z l (a.unbase b)⟩
/-! ### what is wished of an exception that leaves -/
/-- kx: by class, fields, slots -/
structure SX (K : PySem.W.Frag) (F : Hp) (G0 : Vw) (W : WX) (kx : Str → List (Str × AV) → List Sl → Prop) : Prop where
  go : ∀ y Fs γ' σ' H' G' d, kx y Fs γ' → At K F G0 γ' σ' H' G' → XF G' d Fs → W (.ref (G'.k y)) d σ' H'
abbrev E00 : L2.St → XK := fun _ => E0
theorem sx0 : SX K F G0 (fun cls d σ H => E00 σ cls d H) (fun _ _ _ => False) := ⟨fun _ _ _ _ _ _ _ z => z.elim⟩
/-- raise X('..') of a class without own __init__; of one with it -/
def tRaise (W : WX) (t : L2.St → Hp → XK → Prop) : TS := fun _ σ H => t σ H fun cls d H' => W cls d σ H'
def tMk0 (K : PySem.W.Frag) (x : Str) : L2.St → Hp → XK → Prop := fun _ H Q => Q (.ref (He.ga K x)) none H
theorem gs_raise {W : WX} {x : Str} {kx : Str → List (Str × AV) → List Sl → Prop} (hX : SX K F G0 W kx) (q : kx x [] γ) : GS K F G0 (tRaise W (tMk0 K x)) γ ks := fun D σ H G a s => by
  have := hX.go x [] γ σ H G none q a rfl
  rw [a.see.k] at this
  exact this
/-- what an __init__ does that keeps its arguments under names -/
def spI (K : PySem.W.Frag) (C : Addr) (names : List Str) : Sp := fun vs H Q _ => ∃ a ws, vs = .ref a :: ws ∧ ws.length = names.length ∧ OexC K C ∧ H a = some (exo a C none) ∧ ∀ d, H d = none → d ≠ a → Q .non (upd (upd H d (exd d (names.zip ws).reverse)) a (exo a C (some d)))
theorem upd_swap {H : Hp} {a d : Addr} {u v w : HO} (h : d ≠ a) : upd (upd (upd H d u) a v) d w = upd (upd H d w) a v := by
  funext b
  unfold upd
  by_cases h1 : b = d
  · subst h1
    rw [if_pos rfl, if_neg h, if_pos rfl]
  · rw [if_neg h1, if_neg h1]
    by_cases h2 : b = a
    · rw [if_pos h2, if_pos h2]
    · rw [if_neg h2, if_neg h2, if_neg h1]
theorem upd_del2 {H : Hp} {a d : Addr} {u v w w' : HO} (ha : H a = none) (h : d ≠ a) : upd (del (upd (upd (upd H a w) d u) a w') a) d v = upd H d v := by
  funext b
  unfold upd del
  by_cases h1 : b = d
  · rw [if_pos h1, if_pos h1]
  · rw [if_neg h1, if_neg h1]
    by_cases h2 : b = a
    · rw [if_pos h2, h2, ha]
    · rw [if_neg h2]
      show (if b = a then some w' else if b = d then some u else if b = a then some w else H b) = H b
      rw [if_neg h2, if_neg h1, if_neg h2]
theorem zip_fst {names : List Str} : ∀ {ws : List V}, ws.length = names.length → (names.zip ws).map (·.1) = names := fun {ws} h => by
  rw [List.map_fst_zip (by omega)]
theorem gs_raiseF {W : WX} {x : Str} {names : List Str} {ta : TA} {kx : Str → List (Str × AV) → List Sl → Prop} (hX : SX K F G0 W kx) (T : XcK K x) (h : GA K F G0 ta γ fun As γ1 => As.length = names.length ∧ As.length ≤ 1000 ∧ kx x (names.zip As).reverse γ1) :
    GS K F G0 (tRaise W (tMkO (He.ga K x) (spI K (He.ga K x) names) [] ta)) γ ks := fun D σ H G a s =>
  h σ H G _ a fun As γ1 vs H1 G1 ⟨hl, hm, q⟩ l1 a1 p1 => by
    refine ⟨by rw [p1.length]; exact hm, fun e he => ?_⟩
    refine ⟨e, vs, by rw [List.append_nil], by rw [p1.length, hl], T.oex, upd_same, fun d hd hde => ⟨rfl, d, _, upd_same, by rw [upd_ne hde, upd_same], ?_, ?_⟩⟩
    · rw [upd_ne hde] at hd
      exact hd
    · rw [upd_ne hde] at hd
      rw [upd_del2 he hde]
      have a2 := a1.newH (p := d) (u := .xd (names.zip vs).reverse) hd trivial
      have := hX.go x _ γ1 σ _ _ (some d) q a2 ⟨_, .inr ⟨rfl, rfl⟩, ?_, ?_⟩
      · have ek : (G1.addH d (.xd (names.zip vs).reverse)).k = He.ga K := a2.see.k
        rw [ek] at this
        exact this
      · rw [List.map_reverse, List.map_reverse, zip_fst (by rw [p1.length, hl])]
        congr 1
        rw [List.map_fst_zip (by omega)]
      · rw [List.map_reverse, List.map_reverse]
        refine avs.reverse ?_
        rw [List.map_snd_zip (by rw [hl]; exact Nat.le_refl _), List.map_snd_zip (by rw [p1.length, hl]; exact Nat.le_refl _)]
        exact p1.mono (G1.leH d _)
/-! ### defs that may raise -/
/-- R: a value told; RN: a thing with new lists told; RE: an exception raised -/
abbrev Ce := List AV → (AV → Prop) → (Sh → Prop) → (Str → List (Str × AV) → Prop) → Prop
def spE (K : PySem.W.Frag) (C : Ce) : Sp := fun vs H Q E => ∃ As R RN RE G, C As R RN RE ∧ avs G As vs ∧ See K G H ∧
  (∀ A v H' G', R A → Vw.Le G G' → Same H H' → See K G' H' → (∀ b xs, H b ≠ none → G'.l b xs → G.l b xs) → A.p G' v → Q v H') ∧
  (∀ S v H' G', RN S → Vw.Le G G' → Same H H' → See K G' H' → (∀ b xs, H b ≠ none → G'.l b xs → G.l b xs) → S.ok H H' G' v → S.ads.Nodup → Q v H') ∧
  (∀ y Fs d H' G', RE y Fs → Vw.Le G G' → Same H H' → See K G' H' → (∀ b xs, H b ≠ none → G'.l b xs → G.l b xs) → XF G' d Fs → E (.ref (G'.k y)) d H')
theorem gn_callE {C : Ce} {E : L2.St → XK} {ta : TA} {k : Sh → List Sl → Prop} {kx : Str → List (Str × AV) → List Sl → Prop} (hX : SX K F G0 (fun cls d σ H => E σ cls d H) kx) (h : GA K F G0 ta γ fun As γ1 => C As (fun A => k (.v A) γ1) (fun S => k S γ1) (fun y Fs => kx y Fs γ1)) : GN K F G0 (tCallS (spE K C) E ta) γ k := fun σ H G Q a z =>
  h σ H G _ a fun As γ1 vs H1 G1 h1 l1 a1 p1 => by
    refine ⟨As, _, _, _, G1, h1, p1, a1.see, fun A v H' G' q le sm see hid pv => z (.v A) γ1 v H' G' q (l1.trans le) (a1.call le sm see hid) (by rw [Sh.ok]; exact pv) (by rw [Sh.ads]; exact nd_nil) (fun b hb => by rw [Sh.ads] at hb; cases hb), fun S v H' G' q le sm see hid ok nd => ?_, fun y Fs d H' G' q le sm see hid xf => hX.go y Fs γ1 σ H' G' d q (a1.call le sm see hid) xf⟩
    obtain ⟨ok2, fr⟩ := ok_fresh a1 ok
    exact z S γ1 v H' G' q (l1.trans le) (a1.call le sm see hid) ok2 nd fr
theorem ge_callE {C : Ce} {E : L2.St → XK} {ta : TA} {kx : Str → List (Str × AV) → List Sl → Prop} (hX : SX K F G0 (fun cls d σ H => E σ cls d H) kx) (h : GA K F G0 ta γ fun As γ1 => C As (fun A => k A γ1) (fun S => k S.av γ1) (fun y Fs => kx y Fs γ1)) : GE K F G0 (tCallS (spE K C) E ta) γ k :=
  ge_of_gn (gn_callE hX fun σ H G Q a z => h σ H G Q a fun As γ1 vs H1 G1 h1 l1 a1 p1 => z As γ1 vs H1 G1 (by
    have e : ∀ A : AV, (Sh.v A).av = A := fun A => by rw [Sh.av]
    show C As (fun A => k (Sh.v A).av γ1) (fun S => k S.av γ1) _
    simp only [e]
    exact h1) l1 a1 p1)
theorem gs_setCallE {C : Ce} {E : L2.St → XK} {ta : TA} {i : Nat} {kx : Str → List (Str × AV) → List Sl → Prop} (hX : SX K F G0 (fun cls d σ H => E σ cls d H) kx) (h : GA K F G0 ta γ fun As γ1 => C As (fun A => ks.nx (γ1.set i (.sh A))) (fun S => ks.nx (γ1.set i (.tr S))) (fun y Fs => kx y Fs γ1)) : GS K F G0 (tAsg (tCallS (spE K C) E ta) (gName i)) γ ks := fun D σ H G a s =>
  h σ H G _ a fun As γ1 vs H1 G1 h1 l1 a1 p1 => by
    refine ⟨As, _, _, _, G1, h1, p1, a1.see, fun A v H' G' q le sm see hid pv => s.nx _ _ H' G' q (l1.trans le) ((a1.call le sm see hid).sets pv), fun S v H' G' q le sm see hid ok nd => ?_, fun y Fs d H' G' q le sm see hid xf => hX.go y Fs γ1 σ H' G' d q (a1.call le sm see hid) xf⟩
    obtain ⟨ok2, fr⟩ := ok_fresh a1 ok
    exact s.nx _ _ H' G' q (l1.trans le) (At.set (S := .tr S) (a1.call le sm see hid) ⟨v, rfl, ok2, nd⟩ fr)
theorem gs_retCallE {C : Ce} {E : L2.St → XK} {ta : TA} {kx : Str → List (Str × AV) → List Sl → Prop} (hX : SX K F G0 (fun cls d σ H => E σ cls d H) kx) (h : GA K F G0 ta γ fun As γ1 => C As (fun A => ks.rt A γ1) (fun S => ks.rn S γ1) (fun y Fs => kx y Fs γ1)) : GS K F G0 (tRet (tCallS (spE K C) E ta)) γ ks := fun D σ H G a s =>
  h σ H G _ a fun As γ1 vs H1 G1 h1 l1 a1 p1 => by
    refine ⟨As, _, _, _, G1, h1, p1, a1.see, fun A v H' G' q le sm see hid pv => s.rt A γ1 σ v H' G' q (l1.trans le) (a1.call le sm see hid) pv, fun S v H' G' q le sm see hid ok nd => ?_, fun y Fs d H' G' q le sm see hid xf => hX.go y Fs γ1 σ H' G' d q (a1.call le sm see hid) xf⟩
    obtain ⟨ok2, fr⟩ := ok_fresh a1 ok
    exact s.rn S γ1 σ v H' G' q (l1.trans le) (a1.call le sm see hid) ok2 nd fr
theorem gs_dropCallE {C : Ce} {E : L2.St → XK} {ta : TA} {kx : Str → List (Str × AV) → List Sl → Prop} (hX : SX K F G0 (fun cls d σ H => E σ cls d H) kx) (h : GA K F G0 ta γ fun As γ1 => C As (fun A => ks.nx γ1) (fun S => ks.nx γ1) (fun y Fs => kx y Fs γ1)) : GS K F G0 (tDrop (tCallS (spE K C) E ta)) γ ks := fun D σ H G a s =>
  h σ H G _ a fun As γ1 vs H1 G1 h1 l1 a1 p1 => by
    refine ⟨As, _, _, _, G1, h1, p1, a1.see, fun A v H' G' q le sm see hid pv => s.nx _ σ H' G' q (l1.trans le) (a1.call le sm see hid), fun S v H' G' q le sm see hid ok nd => s.nx _ σ H' G' q (l1.trans le) (a1.call le sm see hid), fun y Fs d H' G' q le sm see hid xf => hX.go y Fs γ1 σ H' G' d q (a1.call le sm see hid) xf⟩
/-! ### try -/
@[reducible] def KS.tryX (ks : KS) (i : Nat) : KS := ⟨fun γ => ks.nx (γ.set i .non), ks.rt, ks.ro, fun γ => ks.bk (γ.set i .non), fun γ => ks.ct (γ.set i .non), ks.rn⟩
def tTryK (K : PySem.W.Frag) (c : Value) (i : Nat) (tb : WX → TS) (ts : TS) (Wout : WX) : TS := fun D => tb (wK K c (fun σ a => σ.set i (some (.ref a))) (fun σ => σ.set i none) ts Wout D) D
theorem gs_tryK {c : Value} {i : Nat} {x : Str} {ns : List Str} {tb : WX → TS} {ts : TS} {Wout : WX} {kx kout : Str → List (Str × AV) → List Sl → Prop} (hout : SX K F G0 Wout kout) (T : XsK K ns) (hx : x ∈ ns) (hc : c = .ref (He.ga K x))
    (hb : ∀ W G0', SX K F G0' W kx → GS K F G0' (tb W) γ ks)
    (hs : ∀ y Fs γ', kx y Fs γ' → y ∈ ns ∧ (subN y x = true → GS K F G0 ts (γ'.set i (.sh (aX y Fs))) (ks.tryX i)) ∧ (subN y x = false → kout y Fs γ')) : GS K F G0 (tTryK K c i tb ts Wout) γ ks := fun D σ H G a s =>
  hb _ G ⟨fun y Fs γ' σ' H' G' d hk b xf => by
    obtain ⟨hy, h1, h2⟩ := hs y Fs γ' hk
    have b0 := a.unbase b
    refine ⟨G'.k y, subN y x, rfl, by rw [b.see.k, hc]; exact T.exm y hy x hx, fun e p np => ?_, fun e => hout.go y Fs γ' σ' H' G' d (h2 e) b0 xf⟩
    have b1 := b0.newH (p := p) (u := xoH p (G'.k y) d) np trivial
    refine h1 e _ _ _ _ (b1.sets (i := i) (A := aX y Fs) (v := .ref p) ⟨p, d, rfl, .inr ⟨rfl, rfl⟩, xf.mono (G'.leH p _)⟩) ?_
    have s1 := s.up (b.le.trans (G'.leH p (xoH p (G'.k y) d)))
    exact ⟨fun γ' σ' H' G' z l b => s1.nx _ _ H' G' z l (b.unset i), s1.rt, s1.ro, fun γ' σ' H' G' z l b => s1.bk _ _ H' G' z l (b.unset i), fun γ' σ' H' G' z l b => s1.ct _ _ H' G' z l (b.unset i), s1.rn⟩⟩ D σ H G a.base (s.base a)
/-- .. without a name -/
def tTryO (K : PySem.W.Frag) (c : Value) (tb : WX → TS) (ts : Addr → Value → Option Addr → TS) (Wout : WX) : TS := fun D σ H => tb (wOnly K c ts Wout D) D σ H
theorem gs_tryO {c : Value} {x : Str} {ns : List Str} {tb : WX → TS} {ts : Addr → Value → Option Addr → TS} {Wout : WX} {kx kout : Str → List (Str × AV) → List Sl → Prop} (hout : SX K F G0 Wout kout) (T : XsK K ns) (hx : x ∈ ns) (hc : c = .ref (He.ga K x))
    (hb : ∀ W G0', SX K F G0' W kx → GS K F G0' (tb W) γ ks)
    (hs : ∀ y Fs γ', kx y Fs γ' → y ∈ ns ∧ (subN y x = true → ∀ a cls d, GS K F G0 (ts a cls d) γ' ks) ∧ (subN y x = false → kout y Fs γ')) : GS K F G0 (tTryO K c tb ts Wout) γ ks := fun D σ H G a s =>
  hb _ G ⟨fun y Fs γ' σ' H' G' d hk b xf => by
    obtain ⟨hy, h1, h2⟩ := hs y Fs γ' hk
    have b0 := a.unbase b
    exact ⟨subN y x, by rw [b.see.k, hc]; exact T.exm y hy x hx, fun e p np => h1 e p _ d D σ' H' G' b0 (s.up b.le), fun e => hout.go y Fs γ' σ' H' G' d (h2 e) b0 xf⟩⟩ D σ H G a.base (s.base a)
end
/-! ### a def -/
section
variable {P : Program} {w : World} {K : PySem.W.Frag} {mg : Str → Option Value} {base : Heap}
structure CalX (P : Program) (w : World) (K : PySem.W.Frag) (mg : Str → Option Value) (base : Heap) (n : Nat) (x : Str) (ps : List Str) (sp : Sp) : Prop where
  ex : ∃ f fd, FnOk P w K mg base (L2.CX P w) n f fd ps sp ∧ mg x = some (.ref f) ∧ PySem.W.keepIn K (.ref f) = true ∧ Binds K fd ps []
theorem pe_calX {X : Cx} {n m : Nat} {x : Str} {ps : List Str} {sp : Sp} {e : Expr} {es : List Expr} {t : TA} {p pos : Pos} {E : L2.St → XK} (c : CalX X.prog X.w X.K X.mg X.base n x ps sp) (hx : ∀ σ, PassesAt (L2.CX X.prog X.w) X σ (E σ)) (hr : Room m X.A) (hg : Gl X x)
    (ha : PA X (e :: es) t) (hn : n ≤ m := by decide) (hdb : (x == ("__debug__" : Str)) = false := by decide) (he : starEach (e :: es) X.env = (false, eval e X.env) :: starEach es X.env := by rfl) (hpl : (backTo pos (starEach es X.env)).any (·.1) = false := by rfl) :
    PE X (.Call (.Name x p) (e :: es) [] pos) (tCallS sp E t) := by
  obtain ⟨f, fd, F, hm, hk, hb⟩ := c.ex
  exact pe_callS F (hr.mono hn) hg hm hk hb hx ha hdb he hpl
theorem passX0 {X : Cx} (σ : L2.St) : PassesAt (L2.CX X.prog X.w) X σ (E00 σ) := fun _ _ _ _ _ _ ⟨_, _, _, _, _, _, _, _, _, _, _, _, z⟩ => z.elim
/-- a body's context, with what is wished of an exception -/
abbrev cxE (P : Program) (w : World) (K : PySem.W.Frag) (mg : Str → Option Value) (base : Heap) (N : List Str) (qual : Str) (scope : Scope) (f : Addr) (cd : Value) (A : Around) (outer : List Env) (s : Shared) (H : Hp) (E : XK) : Cx := cxOf (L2.CX P w) P w K mg base N qual scope f cd A outer s H E
theorem fn_okE {x : Str} {st : Stmt} {ps N : List Str} {n : Nat} {C : Ce} (D : Std K mg x st ps) (S : FnScope N ps (defScope st)) (hl : ∀ As R RN RE, C As R RN RE → As.length = ps.length)
    (hb : ∀ (f : Addr) (cdv : Value) (A : Around) (outer : List Env) (s : Shared) (H : Hp) (E : XK), Room n (A.deeper (envOfC x (defScope st) s.heap.objs.size f cdv)) →
      ∃ t, PSs (cxE P w K mg base N x (defScope st) f cdv A outer s H E) (defBody st) t ∧ ∀ F G0 As R RN RE, C As R RN RE → SX K F G0 (fun cls d _ H => E cls d H) (fun y Fs _ => RE y Fs) →
        NX K F G0 t (As.map Sl.sh ++ List.replicate (N.length - ps.length) Sl.non) { nx := fun _ => R aN, rt := fun A _ => R A, ro := fun As' _ => AllA fun l => RN (.l l (vsh As')), rn := fun S _ => RN S }) : CalX P w K mg base (n + 1) x ps (spE K C) := by
  obtain ⟨f, fd, F, hm, hbd⟩ := D.ex
  refine ⟨f, fd, F.ok (CX := L2.CX P w) S (fun vs H Q E h => ?_) (fun cdv A outer s H vs Q E hr h => ?_), hm, F.kp, hbd⟩
  · obtain ⟨As, R, RN, RE, G, hc, hv, _⟩ := h
    rw [hv.length]
    exact hl As R RN RE hc
  · obtain ⟨t, ht, hg⟩ := hb f cdv A outer s H E hr
    refine ⟨t, ht, ?_⟩
    obtain ⟨As, R, RN, RE, G, hc, hv, see, q1, q2, q3⟩ := h
    have e : L2.start N vs = vs.map some ++ List.replicate (N.length - ps.length) none := by
      unfold L2.start
      rw [hv.length, hl As R RN RE hc]
    rw [e]
    have a : At K H G (As.map Sl.sh ++ List.replicate (N.length - ps.length) Sl.non) (vs.map some ++ List.replicate (N.length - ps.length) none) H G :=
      ⟨.refl G, L2.Same.refl H, see, fun _ _ _ q => q, by simp [hv.length], slots_start _ hv, dis_start⟩
    refine hg H G As R RN RE hc ⟨fun y Fs γ' σ' H' G' d h a' xf => q3 y Fs d H' G' h a'.le a'.same a'.see a'.hid xf⟩ _ _ H G a ⟨fun γ' σ' H' G' h le a' => q1 aN .non H' G' h le a'.same a'.see a'.hid rfl, fun A γ' σ' v H' G' h le a' pv => q1 A v H' G' h le a'.same a'.see a'.hid pv,
      fun As' γ' σ' l vs' H' G' h le a' e1 e2 e3 hv' _ => q2 (.l l (vsh As')) _ H' G' (h l) le a'.same a'.see a'.hid (by rw [Sh.ok]; exact ⟨rfl, e2, e3, vs', e1, okL_vs hv'⟩) (by rw [Sh.ads, adsL_vs]; exact List.nodup_cons.mpr ⟨by simp, nd_nil⟩), fun _ _ _ _ z => z.elim, fun _ _ _ _ z => z.elim, fun S' γ' σ' v H' G' h le a' ok nd _ => q2 S' v H' G' h le a'.same a'.see a'.hid ok nd⟩
end
end Rl

/-! # Rl, twenty-second part: isinstance of exceptions, their fields, an exception's __init__ -/
namespace Rl
open PySem PySem.Spec PyProof.Rows L2
structure Xs (K : PySem.W.Frag) (ns : List Str) : Prop where
  s : XsK K ns
  c : ∀ y, y ∈ ns → XcK K y
def allB (K : PySem.W.Frag) (ns : List Str) : Bool := xsB K ns && ns.all fun y => xcB K y
theorem allB_ok {K : PySem.W.Frag} {ns : List Str} (h : allB K ns = true) : Xs K ns := by
  unfold allB at h
  obtain ⟨h1, h2⟩ := Bool.and_eq_true_iff.mp h
  exact ⟨xsB_ok h1, fun y hy => xcB_ok (List.all_eq_true.mp h2 y hy)⟩
section
variable {K : PySem.W.Frag} {F : Hp} {G0 : Vw} {γ : List Sl} {k : AV → List Sl → Prop} {ks : KS} {te : TE} {ns : List Str}
theorem is_X {H : Hp} {G : Vw} {y : Str} {Fs : List (Str × AV)} {v : V} (s : See K G H) (p : (aX y Fs).p G v) : ∃ a d fs, v = .ref a ∧ H a = some (xoH a (He.ga K y) d) ∧ ∀ dd, d = some dd → H dd = some (.xd fs) := by
  obtain ⟨a, d, e, h, q⟩ := p
  rw [s.k] at h
  cases d with
  | none => exact ⟨a, none, [], e, (s.h _ _ h).1, fun _ z => nomatch z⟩
  | some dd =>
    obtain ⟨fs, h2, _⟩ := q
    exact ⟨a, some dd, fs, e, (s.h _ _ h).1, fun d2 z => by cases z; exact (s.h _ _ h2).1⟩
theorem n_isX {y x : Str} {Fs : List (Str × AV)} {b : Bool} (T : Xs K ns) (hy : y ∈ ns) (hx : x ∈ ns) (hb : subN y x = b) (q : k (aB b) γ) : ON K F G0 (rIsZ K) [aX y Fs, aV (.ref (He.ga K x))] γ k := on_pure (fun H G xs Q s p z => by
  obtain ⟨v, r, rfl, pv, u, r', rfl, pu, rfl⟩ := p
  obtain ⟨a, d, fs, rfl, h1, h2⟩ := is_X s pv
  refine .inl ⟨a, y, d, fs, u, .ref (He.ga K x), b, rfl, h1, h2, T.c y hy, ?_, by rw [← hb]; exact T.s.kit y hy x hx, z _ rfl⟩
  rw [show u = V.ref (He.ga K x) from pu]
  exact .own _) q
theorem n_isXC {y x : Str} {Fs : List (Str × AV)} {b : Bool} (T : Xs K ns) (hy : y ∈ ns) (hx : x ∈ ns) (hb : subN y x = b) (q : k (aB b) γ) : ON K F G0 (rIsZ K) [aX y Fs, aC x] γ k := on_pure (fun H G xs Q s p z => by
  obtain ⟨v, r, rfl, pv, u, r', rfl, pu, rfl⟩ := p
  obtain ⟨a, d, fs, rfl, h1, h2⟩ := is_X s pv
  refine .inl ⟨a, y, d, fs, u, .ref (He.ga K x), b, rfl, h1, h2, T.c y hy, ?_, by rw [← hb]; exact T.s.kit y hy x hx, z _ rfl⟩
  rw [show u = V.ref (G.k x) from pu, s.k]
  exact .own _) q
theorem n_isXv {y : Str} {Fs : List (Str × AV)} (T : Xs K ns) (hy : y ∈ ns) (q : k (aB true) γ) : ON K F G0 (rIsZ K) [aX y Fs, aV (.ty "ValueError")] γ k := on_pure (fun H G xs Q s p z => by
  obtain ⟨v, r, rfl, pv, u, r', rfl, pu, rfl⟩ := p
  obtain ⟨a, d, fs, rfl, h1, h2⟩ := is_X s pv
  refine .inl ⟨a, y, d, fs, u, .type "ValueError", true, rfl, h1, h2, T.c y hy, ?_, T.s.ve y hy, z _ rfl⟩
  rw [show u = V.ty "ValueError" from pu]
  exact .ty _) q
theorem n_isN {x : Str} (T : Xs K ns) (hx : x ∈ ns) (q : k (aB false) γ) : ON K F G0 (rIsZ K) [aN, aV (.ref (He.ga K x))] γ k := on_pure (fun H G xs Q s p z => by
  obtain ⟨v, r, rfl, pv, u, r', rfl, pu, rfl⟩ := p
  refine .inr (.inr (.inl ⟨v, u, .type "NoneType", .ref (He.ga K x), false, rfl, ?_, tya_n K G H v s pv, T.s.no x hx, z _ rfl⟩))
  rw [show u = V.ref (He.ga K x) from pu]
  exact .own _) q
theorem n_isNv (q : k (aB false) γ) : ON K F G0 (rIsZ K) [aN, aV (.ty "ValueError")] γ k := on_pure (fun H G xs Q s p z => by
  obtain ⟨v, r, rfl, pv, u, r', rfl, pu, rfl⟩ := p
  refine .inr (.inr (.inl ⟨v, u, .type "NoneType", .type "ValueError", false, rfl, ?_, tya_n K G H v s pv, ?_, z _ rfl⟩))
  · rw [show u = V.ty "ValueError" from pu]
    exact .ty _
  · exact kit_ty (by decide +kernel)) q
theorem kitAny_X {y : Str} (T : XsK K ns) (hy : y ∈ ns) : ∀ xs : List Str, (∀ x, x ∈ xs → x ∈ ns) → PySem.W.kitAny K (.ref (He.ga K y)) (xs.map fun x => .ref (He.ga K x)) = some (xs.any (subN y))
  | [], _ => rfl
  | x :: xs, h => by
    rw [List.map_cons, PySem.W.kitAny, T.kit y hy x (h x (List.mem_cons_self ..)), List.any_cons]
    cases subN y x with
    | true => rfl
    | false => exact kitAny_X T hy xs fun z hz => h z (List.mem_cons_of_mem _ hz)
theorem avs_cls {G : Vw} : ∀ {xs : List Str} {vs : List V}, avs G (xs.map fun x => aV (.ref (He.ga K x))) vs → vs = xs.map fun x => .ref (He.ga K x)
  | [], _, h => h
  | x :: xs, _, ⟨v, r, e, p, t⟩ => by
    subst e
    rw [avs_cls t, show v = V.ref (He.ga K x) from p]
    rfl
theorem cls_own : ∀ xs : List Str, Paired ClsV (xs.map fun x => V.ref (He.ga K x)) (xs.map fun x => Value.ref (He.ga K x))
  | [] => .nil
  | x :: xs => .cons (.own _) (cls_own xs)
/-- values that are classes, by their names -/
inductive ClsL (K : PySem.W.Frag) : List AV → List Str → Prop where
  | nil : ClsL K [] []
  | cons {x : Str} {r : List AV} {xs : List Str} (h : ClsL K r xs) : ClsL K (aV (.ref (He.ga K x)) :: r) (x :: xs)
theorem ClsL.avs {G : Vw} : ∀ {As : List AV} {xs : List Str} {vs : List V}, ClsL K As xs → Rl.avs G As vs → vs = xs.map fun x => .ref (He.ga K x)
  | _, _, _, .nil, h => h
  | _, _, _, .cons c, ⟨v, r, e, p, t⟩ => by
    subst e
    rw [c.avs t, show v = V.ref (He.ga K _) from p]
    rfl
/-- isinstance(e, (X1, X2, ..)) -/
theorem ge_isXT {tcs : TA} (T : Xs K ns) (h : GE K F G0 te γ fun A γ1 => GA K F G0 tcs γ1 fun Cs γ2 => ∃ (y : Str) (Fs : List (Str × AV)) (xs : List Str) (b : Bool), A = aX y Fs ∧ ClsL K Cs xs ∧ xs.any (subN y) = b ∧ y ∈ ns ∧ (∀ x, x ∈ xs → x ∈ ns) ∧ xs.length ≤ 100000 ∧ k (aB b) γ2) : GE K F G0 (tCB (rIsZ K) (tCons te (tCons (tTup tcs) tNil))) γ k := fun σ H G Q a z =>
  h σ H G _ a fun A γ1 v H1 G1 h1 l1 a1 p1 => h1 σ H1 G1 _ a1 fun Cs γ2 vs H2 G2 ⟨y, Fs, xs, b, eA, e, eb, hy, hxs, hl, q⟩ l2 a2 p2 => by
    subst eA
    have e2 := e.avs p2
    subst e2
    refine ⟨size_ok (by rw [List.length_map]; exact hl), fun p np => ?_⟩
    have s := same_upd (o := .tup (xs.map fun x => V.ref (He.ga K x))) np
    obtain ⟨a0, d, fs, rfl, g1, g2⟩ := is_X (a2.see.same s) ((aX y Fs).mono l2 p1)
    exact .inr (.inl ⟨a0, p, y, d, fs, _, _, _, rfl, SqT.of upd_same, upd_same, g1, g2, T.c y hy, cls_own xs, by rw [← eb]; exact kitAny_X T.s hy xs hxs, z _ γ2 _ _ G2 q (l1.trans l2) (a2.up s) rfl⟩)
theorem o_isX {y : Str} {Fs : List (Str × AV)} (q : k (aB false) γ) : O2 K F G0 (fun x y H Q => y = .non ∧ Q (.bl (decide (x = .non))) H) (aX y Fs) aN γ k := o_isNr ref_X q
theorem o_notX {y : Str} {Fs : List (Str × AV)} (q : k (aB true) γ) : O2 K F G0 (fun x y H Q => y = .non ∧ Q (.bl (!decide (x = .non))) H) (aX y Fs) aN γ k := o_notNr ref_X q
/-- e.f -/
theorem fs_get {G : Vw} {f : Str} {A : AV} : ∀ {Fs : List (Str × AV)} {fs : List (Str × V)}, fs.map (·.1) = Fs.map (·.1) → avs G (Fs.map (·.2)) (fs.map (·.2)) → Fs.lookup f = some A → ∃ v, fs.lookup f = some v ∧ A.p G v
  | [], _, _, _, h => by cases h
  | (g, B) :: Fs, [], e, _, _ => by cases e
  | (g, B) :: Fs, (g', v) :: fs, e, ⟨w, r, e2, pw, t⟩, h => by
    obtain ⟨rfl, rfl⟩ := List.cons.inj e2
    obtain ⟨rfl, e1⟩ := List.cons.inj e
    rw [lookup_put]
    have h' : (if f = g' then some B else Fs.lookup f) = some A := by
      by_cases hf : f = g'
      · subst hf
        rw [if_pos rfl]
        simpa [List.lookup] using h
      · rw [if_neg hf]
        have e : (f == g') = false := by simpa using hf
        simpa [List.lookup, e] using h
    by_cases hf : f = g'
    · rw [if_pos hf] at h' ⊢
      cases h'
      exact ⟨_, rfl, pw⟩
    · rw [if_neg hf] at h' ⊢
      exact fs_get e1 t h'
theorem ge_fx {f : Str} (T : Xs K ns) (h : GE K F G0 te γ fun A γ1 => ∃ y Fs B, A = aX y Fs ∧ y ∈ ns ∧ PySem.W.findIn K (.ref (He.ga K y)) f = some none ∧ Fs.lookup f = some B ∧ k B γ1) : GE K F G0 (tFx K f te) γ k := fun σ H G Q a z =>
  h σ H G _ a fun A γ1 v H1 G1 ⟨y, Fs, B, eA, hy, hno, hB, q⟩ l1 a1 p1 => by
    subst eA
    obtain ⟨a0, d, e, h1, xf⟩ := p1
    rw [a1.see.k] at h1
    cases d with
    | none =>
      rw [show Fs = [] from xf] at hB
      cases hB
    | some dd =>
      obtain ⟨fs, h2, e2, hv⟩ := xf
      obtain ⟨u, hu, pu⟩ := fs_get e2 hv hB
      exact ⟨a0, y, dd, fs, u, e, (a1.see.h _ _ h1).1, (a1.see.h _ _ h2).1, T.c y hy, hno, hu, z B γ1 u H1 G1 q l1 a1 pu⟩
end
/-! ### an exception's __init__ -/
/-- what the written part says of LoadError's __init__ -/
structure LeK (K : PySem.W.Frag) (x : Str) : Prop where
  sp : PySem.W.specialIn K (.ref (He.ga K x)) "__getattribute__" = some (some (.builtin "type.__getattribute__"))
  rd : PySem.W.readsIn K (He.ga K x) (.type "type") = true
  fc : PySem.W.findCls K (.ref (He.ga K x)) (.type "type") "__init__" = some (.val (.builtin "ValueError.__init__"))
def leB (K : PySem.W.Frag) (x : Str) : Bool := decide (PySem.W.specialIn K (.ref (He.ga K x)) "__getattribute__" = some (some (.builtin "type.__getattribute__"))) && PySem.W.readsIn K (He.ga K x) (.type "type") && (match PySem.W.findCls K (.ref (He.ga K x)) (.type "type") "__init__" with
  | some (.val (.builtin n)) => n == "ValueError.__init__"
  | _ => false)
theorem leB_ok {K : PySem.W.Frag} {x : Str} (h : leB K x = true) : LeK K x := by
  unfold leB at h
  obtain ⟨h, h3⟩ := Bool.and_eq_true_iff.mp h
  obtain ⟨h1, h2⟩ := Bool.and_eq_true_iff.mp h
  refine ⟨of_decide_eq_true h1, h2, ?_⟩
  split at h3
  · rename_i n e
    rw [e, beq_iff_eq.mp h3]
  · cases h3
section
variable {X : Cx}
/-- LoadError.__init__(self, ..) -/
theorem pe_leinit {K : PySem.W.Frag} {x : Str} {e : Expr} {es : List Expr} {ta : TA} {p1 p2 pos : Pos} {pl : Sem Bool} (hg : Gl X x) (hm : X.mg x = some (.ref (He.ga X.K x))) (T : LeK X.K x) (ha : PA X (e :: es) ta) (hK : X.K = K := by rfl) (hdb : (x == ("__debug__" : Str)) = false := by decide)
    (hc : eval (.Call (.Attribute (.Name x p1) "__init__" p2) (e :: es) [] pos) X.env = (do
      let ov ← eval (.Name x p1) X.env
      standAt p2.atName
      let (f, first) ← holding [ov] (getMethod ov "__init__" pl)
      callWith pos f first (backTo pos (starEach (e :: es) X.env)) (backToKw pos (keywordEach [] X.env))) := by rfl)
    (he : starEach (e :: es) X.env = (false, eval e X.env) :: starEach es X.env := by rfl) (hpl : (backTo pos (starEach es X.env)).any (·.1) = false := by rfl) : PE X (.Call (.Attribute (.Name x p1) "__init__" p2) (e :: es) [] pos) (tVeI K ta) := by
  subst hK
  refine ⟨fun pins s σ H Q I h => PySem.W.methodCall_KW (ld_glob I hg hm ?_ hdb) hc⟩
  refine PySem.W.method_cls I.kIn T.sp (PySem.W.cls_value I.kIn T.rd T.fc rfl ?_)
  show wpAny _ _ (callWith pos (Value.builtin "ValueError.__init__") [] (backTo pos (starEach (e :: es) X.env)) []) _ _ _
  refine PyProof.Rows.callWith_method1 (thn (ha.run pos pins _ σ H _ (I.tok _) h) fun us s1 ⟨vs, H1, I1, r1, a, C, ws, ev, hl, T', ea, q⟩ => ?_) he hpl
  subst ev
  cases r1 with
  | @cons _ u0 _ ur ra rw' =>
    cases (show u0 = Value.ref a from ra)
    exact oinit_ok T' I1 ea (by rw [← Paired.length rw', sizeLine_eq]; omega) fun s' J => ⟨.non, H1, J, rfl, q⟩
theorem read_i1 {K : PySem.W.Frag} {C : Addr} {f m : Str} (hno : PySem.W.findIn K (.ref C) f = some none) {vs : List V} {H : Hp} {Q : VK} {E : XK} (h : spI K C [f] vs H Q E) : tSeq (tDrop (tVeI K (tCons (tVar 0) (tCons (tC (.str m)) tNil)))) (tOst K f (tVar 0) (tVar 1)) { nx := fun _ H' => Q .non H', rt := Q } (vs.map some) H := by
  obtain ⟨a, ws, rfl, hl, T, ha, q⟩ := h
  obtain ⟨y, rfl⟩ := List.length_eq_one_iff.mp hl
  exact ⟨_, rfl, a, C, [.str m], rfl, Nat.le_of_ble_eq_true rfl, T, ha, _, rfl, _, rfl, a, C, rfl, T, hno, .inl ⟨ha, fun dx hd hne => q dx hd hne⟩⟩
theorem read_i2 {K : PySem.W.Frag} {C : Addr} {f g m : Str} (hf : PySem.W.findIn K (.ref C) f = some none) (hg : PySem.W.findIn K (.ref C) g = some none) {vs : List V} {H : Hp} {Q : VK} {E : XK} (h : spI K C [f, g] vs H Q E) : tSeq (tDrop (tVeI K (tCons (tVar 0) (tCons (tC (.str m)) tNil)))) (tSeq (tOst K f (tVar 0) (tVar 1)) (tOst K g (tVar 0) (tVar 2))) { nx := fun _ H' => Q .non H', rt := Q } (vs.map some) H := by
  obtain ⟨a, ws, rfl, hl, T, ha, q⟩ := h
  match ws, hl with
  | [y, z], _ =>
    refine ⟨_, rfl, a, C, [.str m], rfl, Nat.le_of_ble_eq_true rfl, T, ha, _, rfl, _, rfl, a, C, rfl, T, hf, .inl ⟨ha, fun dx hd hne => ?_⟩⟩
    refine ⟨_, rfl, _, rfl, a, C, rfl, T, hg, .inr ⟨dx, [(f, y)], upd_same, by rw [upd_ne hne, upd_same], Nat.le_of_ble_eq_true rfl, ?_⟩⟩
    show Q .non _
    rw [upd_swap hne]
    exact q dx hd hne
/-- the class's __init__, as it stands -/
structure CalI (P : Program) (w : World) (K : PySem.W.Frag) (mg : Str → Option Value) (base : Heap) (x : Str) (names ps : List Str) : Prop where
  ex : ∃ fI fd, PySem.W.findIn K (.ref (He.ga K x)) "__init__" = some (some (.ref fI)) ∧ PySem.W.typeIn K (.ref fI) = some (.type "function") ∧ FnOk P w K mg base CX0 1 fI fd ps (spI K (He.ga K x) names) ∧ Binds K fd ps []
structure StdI (K : PySem.W.Frag) (x q : Str) (st : Stmt) (ps : List Str) : Prop where
  ex : ∃ fI fd, PySem.W.findIn K (.ref (He.ga K x)) "__init__" = some (some (.ref fI)) ∧ PySem.W.typeIn K (.ref fI) = some (.type "function") ∧ FunD K "__init__" q (defArgs st) (defBody st) (defScope st) [] [] fI fd ∧ Binds K fd ps []
theorem ini_ok {P : Program} {w : World} {K : PySem.W.Frag} {mg : Str → Option Value} {base : Heap} {x q : Str} {st : Stmt} {ps names : List Str} (D : StdI K x q st ps) (S : FnScope ps ps (defScope st)) (hl : ps.length = names.length + 1)
    (hb : ∀ (f : Addr) (cdv : Value) (A : Around) (outer : List Env) (s : Shared) (H : Hp), ∃ t, PSs (cxN P w K mg base ps q (defScope st) f cdv A outer s H) (defBody st) t ∧ ∀ vs H Q E, spI K (He.ga K x) names vs H Q E → t { nx := fun _ H' => Q .non H', rt := Q } (vs.map some) H) : CalI P w K mg base x names ps := by
  obtain ⟨f, fd, h1, h2, F, hbd⟩ := D.ex
  have len : ∀ vs H Q E, spI K (He.ga K x) names vs H Q E → vs.length = ps.length := fun vs H Q E ⟨a, ws, e, h, _⟩ => by rw [e, List.length_cons, h, hl]
  refine ⟨f, fd, h1, h2, F.ok S len (fun cdv A outer s H vs Q E hr h => ?_), hbd⟩
  obtain ⟨t, ht, hg⟩ := hb f cdv A outer s H
  refine ⟨t, PSs.nox (X := cxOf CX0 P w K mg base ps q (defScope st) f cdv A outer s H E) ht, ?_⟩
  have e : L2.start ps vs = vs.map some := by
    unfold L2.start
    rw [len vs H Q E h, Nat.sub_self, List.replicate_zero, List.append_nil]
  rw [e]
  exact hg vs H Q E h
/-- .. out of the head's facts -/
def iniB (K : PySem.W.Frag) (x : Str) : Bool := match PySem.W.findIn K (.ref (He.ga K x)) "__init__" with
  | some (some (.ref f)) => decide (PySem.W.typeIn K (.ref f) = some (.type "function"))
  | _ => false
theorem iniB_ok {K : PySem.W.Frag} {x : Str} (h : iniB K x = true) : PySem.W.findIn K (.ref (He.ga K x)) "__init__" = some (some (.ref (He.ma K (He.ga K x) "__init__"))) ∧ PySem.W.typeIn K (.ref (He.ma K (He.ga K x) "__init__")) = some (.type "function") := by
  unfold iniB at h
  split at h
  · rename_i f e
    unfold He.ma
    rw [e]
    exact ⟨rfl, of_decide_eq_true h⟩
  · cases h
/-- a statement of a class's body -/
def clsS (s : Stmt) (k : Nat) : Stmt := match s with
  | .ClassDef (body := b) .. => b.getD k (.Pass ⟨0, 0, 0, 0⟩)
  | _ => .Pass ⟨0, 0, 0, 0⟩
theorem pmk_0 {K : PySem.W.Frag} {x m : Str} {j : Nat} {p p2 pos : Pos} (T : XcK X.K x) (q : PySem.W.excIn X.K (He.ga X.K x) [.type "ValueError", .type "Exception", .type "BaseException", .type "object"] "ValueError.__new__" = true) (gC : X.mg x = some (.ref (He.ga X.K x))) (hg : Gl X x) (hK : X.K = K := by rfl) (hdb : (x == ("__debug__" : Str)) = false := by decide) :
    PMk X (.Call (.Name x p) [.Constant (.str m) j p2] [] pos) (tMk0 K x) := by
  subst hK
  exact pmk_own PySem.F.excBase_ValueError q gC T.oex.kC (raises_own T.oex.exC T.oex.tyC) hg hdb
theorem pmk_F {K : PySem.W.Frag} {x : Str} {names ps : List Str} {e : Expr} {es : List Expr} {ta : TA} {p pos : Pos} {n : Nat} (T : XcK X.K x) (c : CalI X.prog X.w X.K X.mg X.base x names ps) (hr : Room n X.A) (hn : 2 ≤ n) (gC : X.mg x = some (.ref (He.ga X.K x))) (hg : Gl X x) (ha : PA X (e :: es) ta) (hK : X.K = K := by rfl)
    (hdb : (x == ("__debug__" : Str)) = false := by decide) (he : starEach (e :: es) X.env = (false, eval e X.env) :: starEach es X.env := by rfl) (hpl : (backTo pos (starEach es X.env)).any (·.1) = false := by rfl) : PMk X (.Call (.Name x p) (e :: es) [] pos) (tMkO (He.ga K x) (spI K (He.ga K x) names) [] ta) := by
  subst hK
  obtain ⟨fI, fd, h1, h2, F, hbd⟩ := c.ex
  exact pmk_oex T.oex h1 h2 F (hr.mono hn) hbd .nil pass0 hg gC ha hdb he hpl
end
section
variable {X : Cx} {K : PySem.W.Frag} {x n : Str} {i : Nat} {body suite : List Stmt} {b0 : Stmt} {np pos pos' : Pos} {tb : WX → TS} {Wout : WX}
theorem ps_tryKK {ts : TS} (hK : X.K = K) (hs : X.stack = X.env :: X.outer) (hf : X.env.frame = some X.env.locals) (hex : X.ex = []) (hN : X.N.Nodup) (hi : X.N[i]? = some n) (hln : X.env.kindOf n = some .local) (hg : Gl X x) (hm : X.mg x = some (.ref (He.ga K x))) (tk : Takes X Wout)
    (hb : ∀ (W : WX) (pn : List (Addr × Obj)) (xe : Value → Shared → Prop), Takes (X.tr pn xe) W → PassesOwn (model X.prog X.w) X.A X.env xe → PSs (X.tr pn xe) body (tb W)) (hsu : ∀ (a : Addr) (pn : List (Addr × Obj)), PSs (suX X a pn) (b0 :: suite) ts) (hdb : (x == ("__debug__" : Str)) = false := by decide) :
    PS X (.Try body [.ExceptHandler (some (.Name x np)) (some n) (b0 :: suite) pos'] [] [] pos) (tTryK K (.ref (He.ga K x)) i tb ts Wout) := by
  subst hK
  exact ps_tryK hs hf hex hN hi hln ⟨hg, hdb, .inl hm⟩ tk hb hsu
theorem ps_tryOK {ts : Addr → Value → Option Addr → TS} (hK : X.K = K) (hs : X.stack = X.env :: X.outer) (hf : X.env.frame = some X.env.locals) (hg : Gl X x) (hm : X.mg x = some (.ref (He.ga K x))) (tk : Takes X Wout)
    (hb : ∀ (W : WX) (pn : List (Addr × Obj)) (xe : Value → Shared → Prop), Takes (X.tr pn xe) W → PassesOwn (model X.prog X.w) X.A X.env xe → PSs (X.tr pn xe) body (tb W))
    (hsu : ∀ (a : Addr) (oe : Obj) (cls : Value) (d : Option Addr) (pn : List (Addr × Obj)), Zc cls d oe → (∃ vs, oe.data = .fields vs) → PSs (X.suite a ((a, oe) :: pn)) (b0 :: suite) (ts a cls d)) (hdb : (x == ("__debug__" : Str)) = false := by decide) :
    PS X (.Try body [.ExceptHandler (some (.Name x np)) none (b0 :: suite) pos'] [] [] pos) (tTryO K (.ref (He.ga K x)) tb ts Wout) := by
  subst hK
  exact ps_try_only hs hf ⟨hg, hdb, .inl hm⟩ tk hb hsu
/-- a context that no exception leaves -/
theorem takesN (h : ∀ u s, ¬ XE X (fun _ _ _ _ => False) u s) : Takes X (fun _ _ _ _ => False) := fun u s z => absurd z (h u s)
theorem takes00 : Takes X (fun _ _ _ _ => False) := takesN fun _ _ ⟨_, _, _, _, _, _, _, _, _, _, _, _, _, _, _, _, z⟩ => z
theorem ps_raiseK {W : WX} {e : Expr} {t : L2.St → Hp → XK → Prop} (hc : X.calm = true) (tk : Takes X W) (he : PMk X e t) : PS X (.Raise (some e) none pos) (tRaise W t) := ps_raise hc tk he
end
theorem sx00 {K : PySem.W.Frag} {F : Hp} {G0 : Vw} : SX K F G0 (fun _ _ _ _ => False) (fun _ _ _ => False) := ⟨fun _ _ _ _ _ _ _ z => z.elim⟩
end Rl

/-! # Rl, twenty-third part: list(range(a, b)) -/
namespace Rl
open PySem PySem.Spec PyProof.Rows L2
/-- list(range(a, b)): a new list -/
def tLRange2 (ta : TA) : TE := fun σ H Q => ta σ H fun vs H1 => ∃ (lo hi : Int), vs = [.int lo, .int hi] ∧ (-(2 ^ 62) ≤ lo ∧ lo < 2 ^ 62 ∧ -(2 ^ 62) ≤ hi ∧ hi < 2 ^ 62) ∧ (hi - lo).toNat ≤ 100000 ∧ ∀ l, H1 l = none → Q (.ref l) (upd H1 l (.lst ((upFrom lo (hi - lo).toNat).map V.int)))
theorem upFrom_at (lo : Int) (n i : Nat) : (upFrom lo n)[i]? = if i < n then some (lo + (i : Int)) else none := by
  unfold upFrom
  rw [List.getElem?_map]
  by_cases h : i < n
  · rw [List.getElem?_range h, if_pos h]
    rfl
  · rw [List.getElem?_eq_none (by simp; omega), if_neg h]
    rfl
theorem vals_upL {lo : Int} {n : Nat} {acc : Array Value} (h : ItemsOf (fun i v => ∃ t, v = Value.int (lo + (i : Nat) * 1) t) acc n) : Vals ((upFrom lo n).map V.int) acc.toList := by
  obtain ⟨h1, h2⟩ := h
  refine paired_of (by rw [List.length_map, upFrom_len, Array.length_toList, h1]) fun i x y e1 e2 => ?_
  obtain ⟨k, hk, rfl⟩ : ∃ k, (upFrom lo n)[i]? = some k ∧ x = V.int k := by
    rw [List.getElem?_map] at e1
    cases e : (upFrom lo n)[i]? with
    | none => rw [e] at e1; cases e1
    | some k =>
      rw [e] at e1
      cases e1
      exact ⟨k, rfl, rfl⟩
  obtain ⟨rfl, _⟩ := upFrom_get hk
  obtain ⟨t, rfl⟩ := h2 i y (by rw [← Array.getElem?_toList]; exact e2)
  refine ⟨t, ?_⟩
  rw [Int.mul_one]
theorem pe_lrange2 {X : Cx} {a b : Expr} {ta : TA} {p p2 pos pos2 : Pos} (hc : X.calm = true) (hg : Gl X "list") (hm : X.mg "list" = none) (hg2 : Gl X "range") (hm2 : X.mg "range" = none) (ha : PA X [a, b] ta)
    (hs : starEach [a, b] X.env = [(false, eval a X.env), (false, eval b X.env)] := by rfl) (hs3 : starEach [b] X.env = [(false, eval b X.env)] := by rfl)
    (hs2 : starEach [.Call (.Name "range" p2) [a, b] [] pos2] X.env = (false, eval (.Call (.Name "range" p2) [a, b] [] pos2) X.env) :: starEach [] X.env := by rfl) :
    PE X (.Call (.Name "list" p) [.Call (.Name "range" p2) [a, b] [] pos2] [] pos) (tLRange2 ta) := by
  constructor
  intro pins s σ H Q I h
  refine Call_ (ld_blt I hg hm (by decide +kernel : bootBuiltins ("list" : Str) = some (.type "list")) (callWith_type1 (args_cons (Call_ (ld_blt I hg2 hm2 boot_range (PyProof.Rows.callWith_type1 (thn (ha.run pos2 pins s σ H _ I h) fun us s1 hh => ?_) (by rw [hs, hs3]) (by rw [hs3]; rfl)))) hs2) hs2 rfl))
  obtain ⟨vs, H1, I1, r1, lo, hi, ev, ⟨q1, q2, q3, q4⟩, hn, q⟩ := hh
  subst ev
  cases r1 with
  | cons r rr =>
    cases rr with
    | cons r' rr =>
      cases rr
      obtain ⟨t, rfl⟩ := r
      obtain ⟨t', rfl⟩ := r'
      refine call_range_2 (args_nil ?_)
      have I2 : Inv X pins σ H1 { s1 with heap := s1.heap.push { cls := .type "range", data := .fields #[.int lo t, .int hi t', .int 1 s1.toks] }, toks := s1.toks + 1 } := I1.kept fun b o eb => Heap.get?_push_of_some _ eb
      refine call_list_range (n := (hi - lo).toNat) (I1.ok.hd hc) (Heap.get?_push_size _ rfl) (small_one q1 q2 q3 q4) ?_ (by omega) fun h' tk acc c' kk hnew items => ?_
      · rw [rangeSize_one]
        split <;> omega
      · refine ⟨.ref _, _, I2.laid (t' := tk) (o := .lst ((upFrom lo (hi - lo).toNat).map V.int)) kk (Nat.le_refl _) ?_, rfl, q _ (I2.hok.fresh (Nat.le_refl _))⟩
        have hv := vals_upL items
        refine ⟨by rw [List.length_map, upFrom_len]; exact size_ok hn, acc.toList, c', hv, ?_⟩
        rw [Array.toArray_toList]
        exact hnew
section
variable {K : PySem.W.Frag} {F : Hp} {G0 : Vw} {γ : List Sl}
theorem go_lrange2 {ta : TA} {k : Addr → List AV → List Sl → Prop} (h : GA K F G0 ta γ fun As γ1 => ∃ lo hi : Int, As = [aInt lo, aInt hi] ∧ (-(2 ^ 62) ≤ lo ∧ lo < 2 ^ 62 ∧ -(2 ^ 62) ≤ hi ∧ hi < 2 ^ 62) ∧ (hi - lo).toNat ≤ 100000 ∧ AllA fun l => k l ((upFrom lo (hi - lo).toNat).map aInt) γ1) : GO K F G0 (tLRange2 ta) γ k := fun σ H G Q a z => h σ H G _ a fun As γ1 vs H1 G1 ⟨lo, hi, e, hb, hn, h1⟩ l1 a1 p1 => by
  subst e
  obtain ⟨v, r, rfl, pv, w, r', rfl, pw, rfl⟩ := p1
  refine ⟨lo, hi, by rw [show v = V.int lo from pv, show w = V.int hi from pw], hb, hn, fun l np => ?_⟩
  exact go_new z a1 l1 np (h1 l) (avs_flats V.int G1 _)
/-- [a, b][int(flag)] -/
theorem o_ix2A {A B : AV} {b : Bool} {k : AV → List Sl → Prop} (q : k (if b = true then B else A) γ) : O2 K F G0 (rIx K) (aLst [A, B]) (aInt (if b = true then 1 else 0)) γ k := o_ix2 (.inl rfl) (fun e => by rw [if_pos e] at q; exact q) (fun e => by rw [if_neg (by rw [e]; exact Bool.false_ne_true)] at q; exact q)
theorem mt_indexK {X : Cx} (h : X.K = K := by rfl) : MtR X "list.index" (rIndex K) := h ▸ mt_index
/-- xs.index(y) of flat values that has it -/
theorem ge_indexL {te t2 : TE} {k : AV → List Sl → Prop} (h : GE K F G0 te γ fun A γ1 => ∃ xs : List V, A = aLst (xs.map aV) ∧ GE K F G0 t2 γ1 fun B γ2 => ∃ (y : V) (j : Nat), B = aV y ∧ xs.all flatV = true ∧ xs[j]? = some y ∧ eqV y y = true ∧ (∀ (m : Nat) (z : V), m < j → xs[m]? = some z → eqV z y = false) ∧ k (aInt (j : Nat)) γ2) : GE K F G0 (tBM K "list" (rIndex K) te (tCons t2 tNil)) γ k := fun σ H G Q a z =>
  h σ H G _ a fun A γ1 v H1 G1 ⟨xs, eA, h1⟩ l1 a1 p1 => by
    subst eA
    obtain ⟨b, vs, rfl, hb, hv⟩ := p1
    refine ⟨.inl ⟨rfl, vs, SqL.of (a1.see.l b vs hb)⟩, h1 σ H1 G1 _ a1 fun B γ2 w H2 G2 ⟨y, j, eB, hf, hj, he, hn, q⟩ l2 a2 p2 => ?_⟩
    subst eB
    have e : vs = xs := by
      have := hv
      have f : ∀ (xs vs : List V), avs G1 (xs.map aV) vs → vs = xs := fun xs => by
        induction xs with
        | nil => exact fun vs h => h
        | cons x xs ih =>
          rintro vs ⟨u, r, rfl, pu, t⟩
          rw [show u = x from pu, ih r t]
      exact f xs vs this
    subst e
    have pw : w = y := p2
    subst pw
    have hfy : flatV w = true := List.all_eq_true.mp hf w (List.mem_of_getElem? hj)
    exact ⟨b, vs, w, j, w, rfl, rfl, SqL.of (a2.see.l b vs (l2.l b vs hb)), hfy, hf, hj, he, hn, z _ γ2 _ H2 G2 q (l1.trans l2) a2 rfl⟩
end
end Rl

/-! # Rl, twenty-fourth part: a place in a thing is changed by whatever happens; defs that are lent a thing -/
namespace Rl
open PySem PySem.Spec PyProof.Rows L2
def Sh.root : Sh → Option Addr
  | .l a _ => some a
  | .q a _ _ => some a
  | _ => none
theorem root_val {F H : Hp} {G : Vw} {S : Sh} {v : V} {a : Addr} (r : S.root = some a) (h : S.ok F H G v) : v = .ref a := by
  cases S with
  | v A => cases r
  | t ss => cases r
  | l b ss =>
    cases r
    rw [Sh.ok] at h
    exact h.1
  | q b m ss =>
    cases r
    rw [Sh.ok] at h
    exact h.1
theorem root_mem {S : Sh} {a : Addr} (r : S.root = some a) : a ∈ S.ads := by
  cases S with
  | v A => cases r
  | t ss => cases r
  | l b ss =>
    cases r
    rw [Sh.ads]
    exact List.mem_cons_self ..
  | q b m ss =>
    cases r
    rw [Sh.ads]
    exact List.mem_cons_self ..
section
variable {F F' H H' : Hp} {G G' : Vw}
theorem okL_setW {x : Sh} (le : Vw.Le G G') : ∀ {ss : List Sh} {vs : List V} {j : Nat} {s : Sh} {w : V}, Sh.okL F H G ss vs → (Sh.adsL ss).Nodup → ss[j]? = some s → vs[j]? = some w → x.ok F' H' G' w →
    (∀ b, b ∈ Sh.adsL ss → b ∉ s.ads → (∀ o, H b = some o → H' b = some o) ∧ (H b ≠ none → ∀ ys, G'.l b ys → G.l b ys) ∧ (F b = none → F' b = none)) → Sh.okL F' H' G' (ss.set j x) vs
  | [], _, j, s, w, _, _, e, _, _, _ => by simp at e
  | y :: r, vs, 0, s, w, h, nd, e, ew, hx, hm => by
    rw [Sh.okL] at h
    obtain ⟨v, r', e', p, t⟩ := h
    subst e'
    have e1 : y = s := by simpa using e
    have e2 : v = w := by simpa using ew
    subst e1; subst e2
    rw [List.set_cons_zero, Sh.okL]
    rw [Sh.adsL] at nd
    have dj := (List.nodup_append.mp nd).2.2
    have hm' : ∀ b, b ∈ Sh.adsL r → _ := fun b hb => hm b (by rw [Sh.adsL]; exact List.mem_append_right _ hb) (fun z => dj b z b hb rfl)
    exact ⟨v, r', rfl, hx, Sh.okL_move le r r' (fun c hc => (hm' c hc).1) (fun c hc => (hm' c hc).2.1) (fun c hc => (hm' c hc).2.2) t⟩
  | y :: r, vs, j + 1, s, w, h, nd, e, ew, hx, hm => by
    rw [Sh.okL] at h
    obtain ⟨v, r', e', p, t⟩ := h
    subst e'
    rw [Sh.adsL] at nd
    have dj := (List.nodup_append.mp nd).2.2
    have ndr := (List.nodup_append.mp nd).2.1
    have es : r[j]? = some s := by simpa using e
    rw [List.set_cons_succ, Sh.okL]
    have hm' : ∀ b, b ∈ y.ads → _ := fun b hb => hm b (by rw [Sh.adsL]; exact List.mem_append_left _ hb) (fun z => dj b hb b (adsL_mem es z) rfl)
    exact ⟨v, r', rfl, Sh.ok_move le y v (fun c hc => (hm' c hc).1) (fun c hc => (hm' c hc).2.1) (fun c hc => (hm' c hc).2.2) p, okL_setW le t ndr es (by simpa using ew) hx fun b hb => hm b (by rw [Sh.adsL]; exact List.mem_append_right _ hb)⟩
/-- whatever happened to the cells of the place: the thing is as it was but there -/
theorem put_okW {x S0 : Sh} {a : Addr} (le : Vw.Le G G') (r0 : S0.root = some a) (hx : x.ok F' H' G' (.ref a)) : ∀ {p : List Nat} {S : Sh} {v : V}, S.at p = some S0 → S.ok F H G v → S.ads.Nodup →
    (∀ b, b ∈ S.ads → b ∉ S0.ads → (∀ o, H b = some o → H' b = some o) ∧ (H b ≠ none → ∀ ys, G'.l b ys → G.l b ys) ∧ (F b = none → F' b = none)) → (S.put p x).ok F' H' G' v
  | [], S, v, h, ok, nd, hm => by
    rw [Sh.at] at h
    cases h
    rw [Sh.put, root_val r0 ok]
    exact hx
  | j :: p, S, v, h, ok, nd, hm => by
    rw [Sh.at] at h
    cases e : S.kids[j]? with
    | none => rw [e] at h; cases h
    | some k =>
      rw [e] at h
      have h : k.at p = some S0 := h
      have ndk := nodup_kids nd
      have ndj := nodup_kid ndk e
      have subk : ∀ b, b ∈ S0.ads → b ∈ k.ads := fun b hb => at_mem h hb
      rw [Sh.put, e, Option.getD_some]
      cases S with
      | v A => rw [Sh.kids] at e; simp at e
      | t ss =>
        have e : ss[j]? = some k := e
        rw [Sh.ok] at ok
        rw [Sh.ads] at hm
        obtain ⟨b, xs, e1, e2, q⟩ := ok
        obtain ⟨w, hw1, hw2⟩ := okL_get q e
        rw [Sh.wk, Sh.ok]
        exact ⟨b, xs, e1, le.t b xs e2, okL_setW le q ndk e hw1 (put_okW le r0 hx (p := p) h hw2 ndj fun c hc => hm c (adsL_mem e hc)) fun c hc hk => hm c hc fun z => hk (subk c z)⟩
      | l b ss =>
        have e : ss[j]? = some k := e
        rw [Sh.ok] at ok
        rw [Sh.ads] at hm nd
        obtain ⟨e1, e2, e3, xs, hx', q⟩ := ok
        obtain ⟨w, hw1, hw2⟩ := okL_get q e
        have nb : b ∉ S0.ads := fun z => (List.nodup_cons.mp nd).1 (adsL_mem e (subk b z))
        obtain ⟨m1, m2, m3⟩ := hm b (List.mem_cons_self ..) nb
        rw [Sh.wk, Sh.ok]
        exact ⟨e1, m3 e2, fun ys z => e3 ys (m2 (by rw [hx']; intro z; cases z) ys z), xs, m1 _ hx', okL_setW le q ndk e hw1 (put_okW le r0 hx (p := p) h hw2 ndj fun c hc => hm c (List.mem_cons_of_mem _ (adsL_mem e hc))) fun c hc hk => hm c (List.mem_cons_of_mem _ hc) fun z => hk (subk c z)⟩
      | q b m ss =>
        have e : ss[j]? = some k := e
        rw [Sh.ok] at ok
        rw [Sh.ads] at hm nd
        obtain ⟨e1, e2, e3, xs, hx', q⟩ := ok
        obtain ⟨w, hw1, hw2⟩ := okL_get q e
        have ms : ∀ c, c ∈ m.side → c ∈ b :: (m.side ++ Sh.adsL ss) := fun c hc => List.mem_cons_of_mem _ (List.mem_append_left _ hc)
        have mk : ∀ c, c ∈ Sh.adsL ss → c ∈ b :: (m.side ++ Sh.adsL ss) := fun c hc => List.mem_cons_of_mem _ (List.mem_append_right _ hc)
        have nb : b ∉ S0.ads := fun z => (List.nodup_cons.mp nd).1 (List.mem_append_right _ (adsL_mem e (subk b z)))
        have ns : ∀ c, c ∈ m.side → c ∉ S0.ads := fun c hc z => (List.nodup_append.mp (List.nodup_cons.mp nd).2).2.2 c hc c (adsL_mem e (subk c z)) rfl
        obtain ⟨m1, m2, m3⟩ := hm b (List.mem_cons_self ..) nb
        obtain ⟨o, ho, _⟩ := Kd.has_at hx'
        rw [Sh.wk, Sh.ok]
        refine ⟨e1, m3 e2, fun ys z => e3 ys (m2 (by rw [ho]; intro z; cases z) ys z), xs, Kd.has_move le (fun c hc => ?_) (fun c hc => (hm c (ms c hc) (ns c hc)).2.1) (fun c hc => (hm c (ms c hc) (ns c hc)).2.2) hx', okL_setW le q ndk e hw1 (put_okW le r0 hx (p := p) h hw2 ndj fun c hc => hm c (mk c (adsL_mem e hc))) fun c hc hk => hm c (mk c hc) fun z => hk (subk c z)⟩
        rcases hc with rfl | hc
        · exact m1
        · exact (hm c (ms c hc) (ns c hc)).1
end
theorem adsL_setW {x : Sh} : ∀ {ss : List Sh} {j : Nat} {s : Sh}, ss[j]? = some s → (Sh.adsL ss).Nodup → x.ads.Nodup → (∀ b, b ∈ x.ads → b ∈ s.ads ∨ b ∉ Sh.adsL ss) →
    (Sh.adsL (ss.set j x)).Nodup ∧ ∀ b, b ∈ Sh.adsL (ss.set j x) → b ∈ x.ads ∨ b ∈ Sh.adsL ss
  | [], j, s, e, _, _, _ => by simp at e
  | y :: r, 0, s, e, nd, ndx, hb => by
    have e1 : y = s := by simpa using e
    subst e1
    rw [List.set_cons_zero, Sh.adsL]
    rw [Sh.adsL] at nd hb
    have dj := (List.nodup_append.mp nd).2.2
    refine ⟨List.nodup_append.mpr ⟨ndx, (List.nodup_append.mp nd).2.1, fun u hu v hv z => ?_⟩, fun b h => ?_⟩
    · subst z
      rcases hb u hu with h | h
      · exact dj u h u hv rfl
      · exact h (List.mem_append_right _ hv)
    · rcases List.mem_append.mp h with h | h
      · exact .inl h
      · rw [Sh.adsL]
        exact .inr (List.mem_append_right _ h)
  | y :: r, j + 1, s, e, nd, ndx, hb => by
    have es : r[j]? = some s := by simpa using e
    rw [List.set_cons_succ, Sh.adsL]
    rw [Sh.adsL] at nd hb
    have dj := (List.nodup_append.mp nd).2.2
    obtain ⟨i1, i2⟩ := adsL_setW es (List.nodup_append.mp nd).2.1 ndx fun b h => (hb b h).imp id fun z h' => z (List.mem_append_right _ h')
    refine ⟨List.nodup_append.mpr ⟨(List.nodup_append.mp nd).1, i1, fun u hu v hv z => ?_⟩, fun b h => ?_⟩
    · subst z
      rcases i2 u hv with h | h
      · rcases hb u h with h' | h'
        · exact dj u hu u (adsL_mem es h') rfl
        · exact h' (List.mem_append_left _ hu)
      · exact dj u hu u h rfl
    · rw [Sh.adsL]
      rcases List.mem_append.mp h with h | h
      · exact .inr (List.mem_append_left _ h)
      · exact (i2 b h).imp id fun z => List.mem_append_right _ z
theorem put_nd {x S0 : Sh} (ndx : x.ads.Nodup) : ∀ {p : List Nat} {S : Sh}, S.at p = some S0 → S.ads.Nodup → (∀ b, b ∈ x.ads → b ∈ S0.ads ∨ b ∉ S.ads) → (S.put p x).ads.Nodup ∧ ∀ b, b ∈ (S.put p x).ads → b ∈ x.ads ∨ b ∈ S.ads
  | [], S, h, nd, hb => by
    rw [Sh.at] at h
    cases h
    rw [Sh.put]
    exact ⟨ndx, fun b h => .inl h⟩
  | j :: p, S, h, nd, hb => by
    rw [Sh.at] at h
    cases e : S.kids[j]? with
    | none => rw [e] at h; cases h
    | some k =>
      rw [e] at h
      have h : k.at p = some S0 := h
      have ndk := nodup_kids nd
      have ndj := nodup_kid ndk e
      have sub : ∀ b, b ∈ Sh.adsL S.kids → b ∈ S.ads := fun b hb => by
        cases S with
        | v A => rw [Sh.kids, Sh.adsL] at hb; cases hb
        | t ss => rw [Sh.ads]; exact hb
        | l a ss => rw [Sh.ads]; exact List.mem_cons_of_mem _ hb
        | q a m ss => rw [Sh.ads]; exact List.mem_cons_of_mem _ (List.mem_append_right _ hb)
      obtain ⟨i1, i2⟩ := put_nd ndx (p := p) h ndj fun b hx => (hb b hx).imp id fun z hk => z (sub b (adsL_mem e hk))
      have key : ∀ b, b ∈ (k.put p x).ads → b ∈ k.ads ∨ b ∉ S.ads := fun b hx => by
        rcases i2 b hx with h' | h'
        · exact (hb b h').imp (fun z => at_mem h z) id
        · exact .inl h'
      rw [Sh.put, e, Option.getD_some]
      obtain ⟨s1, s2⟩ := adsL_setW e ndk i1 fun b hx => (key b hx).imp id fun z hk => z (sub b hk)
      have s3 : ∀ b, b ∈ Sh.adsL (S.kids.set j (k.put p x)) → b ∈ x.ads ∨ b ∈ Sh.adsL S.kids := fun b hx => by
        rcases s2 b hx with h' | h'
        · exact (i2 b h').imp id fun z => adsL_mem e z
        · exact .inr h'
      have s4 : ∀ b, b ∈ Sh.adsL (S.kids.set j (k.put p x)) → b ∈ Sh.adsL S.kids ∨ b ∉ S.ads := fun b hx => by
        rcases s2 b hx with h' | h'
        · exact (key b h').imp (fun z => adsL_mem e z) id
        · exact .inl h'
      cases S with
      | v A => rw [Sh.kids] at e; simp at e
      | t ss =>
        rw [Sh.wk, Sh.ads, Sh.ads]
        exact ⟨s1, s3⟩
      | l a ss =>
        rw [Sh.ads] at nd s4
        rw [Sh.wk, Sh.ads, Sh.ads]
        refine ⟨List.nodup_cons.mpr ⟨fun z => ?_, s1⟩, fun b hx => ?_⟩
        · rcases s4 a z with h' | h'
          · exact (List.nodup_cons.mp nd).1 h'
          · exact h' (List.mem_cons_self ..)
        · rcases List.mem_cons.mp hx with rfl | hx
          · exact .inr (List.mem_cons_self ..)
          · exact (s3 b hx).imp id fun z => List.mem_cons_of_mem _ z
      | q a m ss =>
        rw [Sh.ads] at nd s4
        have nd1 := List.nodup_cons.mp nd
        have nd2 := List.nodup_append.mp nd1.2
        rw [Sh.wk, Sh.ads, Sh.ads]
        refine ⟨List.nodup_cons.mpr ⟨fun z => ?_, List.nodup_append.mpr ⟨nd2.1, s1, fun u hu v hv z => ?_⟩⟩, fun b hx => ?_⟩
        · rcases List.mem_append.mp z with z | z
          · exact nd1.1 (List.mem_append_left _ z)
          · rcases s4 a z with h' | h'
            · exact nd1.1 (List.mem_append_right _ h')
            · exact h' (List.mem_cons_self ..)
        · subst z
          rcases s4 u hv with h' | h'
          · exact nd2.2.2 u hu u h' rfl
          · exact h' (List.mem_cons_of_mem _ (List.mem_append_left _ hu))
        · rcases List.mem_cons.mp hx with rfl | hx
          · exact .inr (List.mem_cons_self ..)
          · rcases List.mem_append.mp hx with hx | hx
            · exact .inr (List.mem_cons_of_mem _ (List.mem_append_left _ hx))
            · exact (s3 b hx).imp id fun z => List.mem_cons_of_mem _ (List.mem_append_right _ z)
section
variable {K : PySem.W.Frag} {F : Hp} {G0 : Vw} {γ : List Sl} {σ : L2.St} {H H' : Hp} {G G' : Vw}
/-- the cells of a place in slot i's thing, and cells of nobody, were given away; back comes another thing at the same address -/
theorem At.putWN {i : Nat} {S S0 x : Sh} {p : List Nat} {b : Addr} {N : List Addr} (a : At K F G0 γ σ H G) (e : γ[i]? = some (.tr S)) (ep : S.at p = some S0) (r0 : S0.root = some b) (hN : ∀ c, c ∈ S0.ads → c ∈ N) (nN : ∀ c, c ∈ N → c ∈ S0.ads ∨ (F c = none ∧ Free γ c)) (le : Vw.Le G G') (sm : Same (hidN H N) H') (see : See K G' H') (hid : ∀ c ys, H c ≠ none → c ∉ N → G'.l c ys → G.l c ys)
    (ok' : x.ok (hidN H N) H' G' (.ref b)) (nd' : x.ads.Nodup) : At K F G0 (γ.set i (.tr (S.put p x))) σ H' G' ∧ ∀ c, c ∈ (S.put p x).ads → c ∈ S.ads ∨ c ∈ N ∨ H c = none := by
  obtain ⟨v, e1, ok, nd⟩ := a.trAt e
  obtain ⟨w, ok0⟩ := at_ok ep ok
  have sub : ∀ c, c ∈ S0.ads → c ∈ S.ads := fun c hc => at_mem ep hc
  have noF : ∀ c, c ∈ N → F c = none := fun c hc => (nN c hc).elim (fun hc => (Sh.ok_ad S0 w ok0 c hc).1) fun h => h.1
  have xs : ∀ c, c ∈ x.ads → c ∈ N ∨ H c = none := fun c hc => by
    have h1 := (Sh.ok_ad x _ ok' c hc).1
    by_cases h : c ∈ N
    · exact .inl h
    · rw [hidN_out h] at h1
      exact .inr h1
  have xF : ∀ c, c ∈ x.ads → F c = none := fun c hc => (xs c hc).elim (noF c) fun h => a.noF h
  have okF : x.ok F H' G' (.ref b) := Sh.ok_move (.refl G') x _ (fun _ _ _ e => e) (fun _ _ _ _ e => e) (fun c hc _ => xF c hc) ok'
  have outS : ∀ c, c ∈ N ∨ H c = none → c ∈ S0.ads ∨ c ∉ S.ads := fun c hc => by
    rcases hc with hc | hc
    · exact (nN c hc).imp id fun h z => h.2 i _ e z
    · refine .inr fun z => ?_
      obtain ⟨o, ho, _⟩ := (a.has e z).2.2
      rw [hc] at ho
      cases ho
  have inS : ∀ c, c ∈ S.ads → c ∉ S0.ads → c ∉ N := fun c hc h0 hn => (nN c hn).elim h0 fun h => h.2 i _ e hc
  have mv : ∀ c, c ∉ N → (∀ o, H c = some o → H' c = some o) ∧ (H c ≠ none → ∀ ys, G'.l c ys → G.l c ys) := fun c hc => ⟨fun o ho => sm c o (by rw [hidN_out hc]; exact ho), fun hn ys q => hid c ys hn hc q⟩
  obtain ⟨n1, n2⟩ := put_nd nd' ep nd fun c hc => outS c (xs c hc)
  have okP : (S.put p x).ok F H' G' v := put_okW le r0 okF ep ok nd fun c hs hc => ⟨(mv c (inS c hs hc)).1, (mv c (inS c hs hc)).2, id⟩
  have hl : i < γ.length := (List.getElem?_eq_some_iff.mp e).1
  have n3 : ∀ c, c ∈ (S.put p x).ads → c ∈ S.ads ∨ c ∈ N ∨ H c = none := fun c hc => (n2 c hc).elim (fun h => .inr (xs c h)) .inl
  refine ⟨⟨a.le.trans le, fun c o q => sm c o ?_, see, fun c ys hb q => a.hid c ys hb (hid c ys (fun z => hb (a.noF z)) (fun z => hb (noF c z)) q), by rw [List.length_set, a.len], fun j T q => ?_, dis_set a.dis fun c hc j T hj q hT => ?_⟩, n3⟩
  · rw [hidN_out (fun z => by rw [noF c z] at q; cases q)]
    exact a.same c o q
  · by_cases hj : i = j
    · subst hj
      rw [List.getElem?_set_self hl] at q
      cases q
      exact ⟨v, by rw [e1]; rfl, okP, n1⟩
    · rw [List.getElem?_set_ne hj] at q
      have dj : ∀ c, c ∈ T.ads → c ∉ N := fun c hc z => (nN c z).elim (fun h => hj (a.dis i j _ T c e q (sub c h) hc)) fun h => h.2 j T q hc
      exact (a.slot j T q).move le (fun c hc => (mv c (dj c hc)).1) (fun c hc => (mv c (dj c hc)).2) fun _ _ e => e
  · rcases n3 c hc with h | h | h
    · exact hj (a.dis i j _ T c e q h hT).symm
    · exact (nN c h).elim (fun h => hj (a.dis i j _ T c e q (sub c h) hT).symm) fun h => h.2 j T q hT
    · exact a.noOwn h j T q hT
theorem At.putW {i : Nat} {S S0 x : Sh} {p : List Nat} {b : Addr} (a : At K F G0 γ σ H G) (e : γ[i]? = some (.tr S)) (ep : S.at p = some S0) (r0 : S0.root = some b) (le : Vw.Le G G') (sm : Same (hidN H S0.ads) H') (see : See K G' H') (hid : ∀ c ys, H c ≠ none → c ∉ S0.ads → G'.l c ys → G.l c ys)
    (ok' : x.ok (hidN H S0.ads) H' G' (.ref b)) (nd' : x.ads.Nodup) : At K F G0 (γ.set i (.tr (S.put p x))) σ H' G' ∧ ∀ c, c ∈ (S.put p x).ads → c ∈ S.ads ∨ H c = none := by
  obtain ⟨h1, h2⟩ := a.putWN e ep r0 (fun c h => h) (fun c h => .inl h) le sm see hid ok' nd'
  exact ⟨h1, fun c hc => (h2 c hc).elim .inl fun h => h.elim (fun h => .inl (at_mem ep h)) .inr⟩
/-- an own cell is written: what is known stays -/
theorem See.updO {a : Addr} {o w : HO} (s : See K G H) (h : H a = some o) (ho : Ow o) (nl : ∀ ys, ¬ G.l a ys) : See K G (upd H a w) := by
  refine ⟨fun b xs q => ?_, fun b xs q => ?_, fun b xs q => ?_, fun b u q => ?_, s.k⟩
  · rcases s.t b xs q with (z | ⟨u, z⟩) | z
    · exact .inl (.inl (by rw [upd_ne (ne_of z h (ow_tup ho))]; exact z))
    · exact .inl (.inr ⟨u, by rw [upd_ne (ne_of z h (ow_frz ho))]; exact z⟩)
    · exact .inr z
  · rw [upd_ne (fun (z : b = a) => nl xs (z ▸ q))]
    exact s.l b xs q
  · rcases s.c b xs q with ⟨u, z⟩ | z
    · exact .inl ⟨u, by rw [upd_ne (ne_of z h (ow_frz ho))]; exact z⟩
    · exact .inr z
  · obtain ⟨z, n⟩ := s.h b u q
    exact ⟨by rw [upd_ne (ne_of z h (by rintro rfl; exact ow_nl ho n))]; exact z, n⟩
end
end Rl

/-! # Rl, twenty-fifth part: instances: defs that are lent a thing, methods, fields -/
namespace Rl
open PySem PySem.Spec PyProof.Rows L2
/-- S: the lent thing; As: the other arguments; R: a value told, the thing then; RN: a new thing told; RE: an exception -/
abbrev Cw := Sh → List AV → (AV → Sh → Prop) → (Sh → Sh → Prop) → (Str → List (Str × AV) → Sh → Prop) → Prop
def Back (K : PySem.W.Frag) (S : Sh) (a : Addr) (H : Hp) (G : Vw) (S' : Sh) (H' : Hp) (G' : Vw) : Prop := Vw.Le G G' ∧ Same (hidN H S.ads) H' ∧ See K G' H' ∧ (∀ c ys, H c ≠ none → c ∉ S.ads → G'.l c ys → G.l c ys) ∧ S'.ok (hidN H S.ads) H' G' (.ref a) ∧ S'.ads.Nodup
def spW (K : PySem.W.Frag) (C : Cw) : Sp := fun vs H Q E => ∃ S As R RN RE G a r, C S As R RN RE ∧ S.root = some a ∧ vs = .ref a :: r ∧ S.ok (hidN H S.ads) H G (.ref a) ∧ S.ads.Nodup ∧ avs G As r ∧ See K G H ∧
  (∀ A S' u H' G', R A S' → Back K S a H G S' H' G' → A.p G' u → Q u H') ∧
  (∀ T S' u H' G', RN T S' → Back K S a H G S' H' G' → T.ok (hidN H S.ads) H' G' u → T.ads.Nodup → (∀ c, c ∈ T.ads → c ∉ S'.ads) → Q u H') ∧
  (∀ y Fs d S' H' G', RE y Fs S' → Back K S a H G S' H' G' → XF G' d Fs → E (.ref (G'.k y)) d H')
/-! ### the body of such a def -/
@[reducible] def endW (S : Sh) (R : AV → Sh → Prop) (RN : Sh → Sh → Prop) : KS where
  nx := fun γ => ∃ S', γ[0]? = some (.tr S') ∧ S'.root = S.root ∧ R aN S'
  rt := fun A γ => ∃ S', γ[0]? = some (.tr S') ∧ S'.root = S.root ∧ R A S'
  ro := fun As' γ => ∃ S', γ[0]? = some (.tr S') ∧ S'.root = S.root ∧ AllA fun l => RN (.l l (vsh As')) S'
  rn := fun T γ => ∃ S', γ[0]? = some (.tr S') ∧ S'.root = S.root ∧ RN T S'
structure StdM (K : PySem.W.Frag) (C m q : Str) (st : Stmt) (ps : List Str) : Prop where
  ex : ∃ f fd, Meth K (He.ga K C) m f ∧ FunD K m q (defArgs st) (defBody st) (defScope st) [] [] f fd ∧ Binds K fd ps []
structure CalM (P : Program) (w : World) (K : PySem.W.Frag) (mg : Str → Option Value) (base : Heap) (n : Nat) (C m : Str) (ps : List Str) (sp : Sp) : Prop where
  ex : ∃ f fd, FnOk P w K mg base (L2.CX P w) n f fd ps sp ∧ Meth K (He.ga K C) m f ∧ Binds K fd ps []
  len : ∀ vs H Q E, sp vs H Q E → vs.length = ps.length
section
variable {P : Program} {w : World} {K : PySem.W.Frag} {mg : Str → Option Value} {base : Heap}
theorem sh_sl {S : Sh} {a : Addr} (r : S.root = some a) : S.sl = .tr S := by
  cases S with
  | v A => cases r
  | t ss => cases r
  | l b ss => rfl
  | q b m ss => rfl
theorem startW {H : Hp} {G : Vw} {S : Sh} {As : List AV} {r : List V} {a : Addr} (n : Nat) (rt : S.root = some a) (ok : S.ok (hidN H S.ads) H G (.ref a)) (nd : S.ads.Nodup) (hv : avs G As r) (see : See K G H) :
    At K (hidN H S.ads) G (.tr S :: (As.map Sl.sh ++ List.replicate n Sl.non)) (some (.ref a) :: (r.map some ++ List.replicate n none)) H G := by
  have e : Sh.adsL (S :: vsh As) = S.ads := by rw [Sh.adsL, adsL_vs, List.append_nil]
  have okL : Sh.okL (hidN H S.ads) H G (S :: vsh As) (.ref a :: r) := by
    rw [Sh.okL]
    exact ⟨_, _, rfl, ok, okL_vs hv⟩
  have a0 := startJ (K := K) (F := hidN H S.ads) n see okL (by rw [e]; exact nd)
  rw [e] at a0
  have e2 : (S :: vsh As).map Sh.sl = .tr S :: As.map Sl.sh := by
    rw [List.map_cons, sh_sl rt, List.map_map]
    rfl
  rw [e2] at a0
  exact a0
theorem endBack {S S' : Sh} {a : Addr} {H H' : Hp} {G G' : Vw} {γ : List Sl} {σ : L2.St} (rt : S.root = some a) (at' : At K (hidN H S.ads) G γ σ H' G') (e : γ[0]? = some (.tr S')) (r' : S'.root = S.root) : Back K S a H G S' H' G' := by
  obtain ⟨v, e1, ok, nd⟩ := at'.trAt e
  have hv := root_val (r'.trans rt) ok
  subst hv
  exact ⟨at'.le, at'.same, at'.see, fun c ys hn hc q => at'.hid c ys (by rw [hidN_out hc]; exact hn) q, ok, nd⟩
theorem fn_okW {C m q : Str} {st : Stmt} {p : Str} {ps N : List Str} {n : Nat} {D : Cw} (M : StdM K C m q st (p :: ps)) (Sc : FnScope N (p :: ps) (defScope st)) (hl : ∀ S As R RN RE, D S As R RN RE → As.length = ps.length)
    (hb : ∀ (f : Addr) (cdv : Value) (A : Around) (outer : List Env) (s : Shared) (H : Hp) (E : XK), Room n (A.deeper (envOfC q (defScope st) s.heap.objs.size f cdv)) →
      ∃ t, PSs (cxE P w K mg base N q (defScope st) f cdv A outer s H E) (defBody st) t ∧ ∀ F G0 S As R RN RE, D S As R RN RE → SX K F G0 (fun cls d _ H => E cls d H) (fun y Fs γ => ∃ S', γ[0]? = some (.tr S') ∧ S'.root = S.root ∧ RE y Fs S') →
        NX K F G0 t (.tr S :: (As.map Sl.sh ++ List.replicate (N.length - (p :: ps).length) Sl.non)) (endW S R RN)) : CalM P w K mg base (n + 1) C m (p :: ps) (spW K D) := by
  obtain ⟨f, fd, hm, F, hbd⟩ := M.ex
  have len : ∀ vs H Q E, spW K D vs H Q E → vs.length = (p :: ps).length := fun vs H Q E h => by
    obtain ⟨S, As, R, RN, RE, G, a, r, hc, _, rfl, _, _, hv, _⟩ := h
    rw [List.length_cons, hv.length, hl S As R RN RE hc, List.length_cons]
  refine ⟨⟨f, fd, F.ok (CX := L2.CX P w) Sc len (fun cdv A outer s H vs Q E hr h => ?_), hm, hbd⟩, len⟩
  obtain ⟨t, ht, hg⟩ := hb f cdv A outer s H E hr
  refine ⟨t, ht, ?_⟩
  have hlen := len vs H Q E h
  obtain ⟨S, As, R, RN, RE, G, a, r, hc, rt, rfl, ok, nd, hv, see, q1, q2, q3⟩ := h
  have e : L2.start N (.ref a :: r) = some (.ref a) :: (r.map some ++ List.replicate (N.length - (p :: ps).length) none) := by
    unfold L2.start
    rw [hlen]
    rfl
  rw [e]
  have a0 := startW (K := K) (N.length - (p :: ps).length) rt ok nd hv see
  refine hg _ G S As R RN RE hc ⟨fun y Fs γ' σ' H' G' d ⟨S', e0, r', h⟩ a' xf => q3 y Fs d S' H' G' h (endBack rt a' e0 r') xf⟩ _ _ H G a0 ⟨?_, ?_, ?_, fun _ _ _ _ z => z.elim, fun _ _ _ _ z => z.elim, ?_⟩
  · rintro γ' σ' H' G' ⟨S', e0, r', h⟩ le a'
    exact q1 aN S' .non H' G' h (endBack rt a' e0 r') rfl
  · rintro A γ' σ' v H' G' ⟨S', e0, r', h⟩ le a' pv
    exact q1 A S' v H' G' h (endBack rt a' e0 r') pv
  · rintro As' γ' σ' l vs' H' G' ⟨S', e0, r', h⟩ le a' e1 e2 e3 hv' fr
    refine q2 (.l l (vsh As')) S' _ H' G' (h l) (endBack rt a' e0 r') (by rw [Sh.ok]; exact ⟨rfl, e2, e3, vs', e1, okL_vs hv'⟩) (by rw [Sh.ads, adsL_vs]; exact List.nodup_cons.mpr ⟨by simp, nd_nil⟩) fun c hc hs => ?_
    rw [Sh.ads, adsL_vs] at hc
    obtain rfl := List.mem_singleton.mp hc
    exact fr 0 _ e0 hs
  · rintro T γ' σ' v H' G' ⟨S', e0, r', h⟩ le a' ok' nd' fr
    exact q2 T S' v H' G' h (endBack rt a' e0 r') ok' nd' fun c hc hs => fr c hc 0 _ e0 hs
end
/-! ### method calls -/
/-- o.m(..), with what is wished of an exception by the caller's slots -/
def tMethS (C : Addr) (m : Str) (sp : Sp) (E : L2.St → XK) (ta : TE) (t : TA) : TE := fun σ H Q => ta σ H fun x H1 => ∃ a dx fs, x = .ref a ∧ H1 a = some (.ins C dx fs) ∧ fs.lookup m = none ∧ t σ H1 fun vs H2 => sp (x :: vs) H2 Q (E σ)
section
variable {X : Cx} {K : PySem.W.Frag} {n k : Nat} {C m : Str} {ps : List Str} {sp : Sp} {E : L2.St → XK} {p pos apos : Pos} {e o : Expr} {es : List Expr} {ta : TE} {t : TA}
theorem pe_methW {pl : Sem Bool} (he : PE X o ta) (c : Cls K (He.ga K C)) (M : CalM X.prog X.w K X.mg X.base n C m ps sp) (hr : Room k X.A) (hx : ∀ σ, PassesAt (L2.CX X.prog X.w) X σ (E σ)) (ha : PA X (e :: es) t) (hK : X.K = K := by rfl) (hn : n ≤ k := by decide)
    (hst : starEach (e :: es) X.env = (false, eval e X.env) :: starEach es X.env := by rfl) (hpl : (backTo pos (starEach es X.env)).any (·.1) = false := by rfl)
    (ht : eval (.Call (.Attribute o m apos) (e :: es) [] pos) X.env = (do
      let ov ← eval o X.env
      standAt apos.atName
      let (f, first) ← holding [ov] (getMethod ov m pl)
      callWith pos f first (backTo pos (starEach (e :: es) X.env)) (backToKw pos (keywordEach [] X.env))) := by rfl) :
    PE X (.Call (.Attribute o m apos) (e :: es) [] pos) (tMethS (He.ga K C) m sp E ta t) := by
  subst hK
  obtain ⟨f, fd, F, hm, hb⟩ := M.ex
  refine ⟨fun pins s σ H Q I h => ?_⟩
  refine PySem.W.methodCall_KW (pl := pl) (thn (he.run pins s σ H _ I h) fun u s1 ⟨x, H1, I1, rx, a, dx, fs, ex, ea, l, q⟩ => ?_) ht
  subst ex
  obtain rfl : u = Value.ref a := rx
  refine getmeth_ok I1 ea c hm l ?_
  refine PySem.W.callWith_K (first := [.ref a]) (h₀ := X.base) I.ok.mod.kin hm.kp (thn (ha.run pos pins s1 σ H1 _ I1 q) fun us s2 ⟨vs, H2, I2, r, q2⟩ => ⟨I2.kIn, ?_⟩) hst hpl
  exact run_fnS (us := .ref a :: us) (vs := .ref a :: vs) F (hr.mono hn) hb (hx σ) I2 (.cons rfl r) q2
theorem pe_methW0 {pl : Sem Bool} (he : PE X o ta) (c : Cls K (He.ga K C)) (M : CalM X.prog X.w K X.mg X.base n C m ps sp) (hr : Room k X.A) (hx : ∀ σ, PassesAt (L2.CX X.prog X.w) X σ (E σ)) (hK : X.K = K := by rfl) (hn : n ≤ k := by decide)
    (ht : eval (.Call (.Attribute o m apos) [] [] pos) X.env = (do
      let ov ← eval o X.env
      standAt apos.atName
      let (f, first) ← holding [ov] (getMethod ov m pl)
      callWith pos f first (backTo pos (starEach [] X.env)) (backToKw pos (keywordEach [] X.env))) := by rfl) :
    PE X (.Call (.Attribute o m apos) [] [] pos) (tMethS (He.ga K C) m sp E ta tNil) := by
  subst hK
  obtain ⟨f, fd, F, hm, hb⟩ := M.ex
  refine ⟨fun pins s σ H Q I h => ?_⟩
  refine PySem.W.methodCall_KW (pl := pl) (thn (he.run pins s σ H _ I h) fun u s1 ⟨x, H1, I1, rx, a, dx, fs, ex, ea, l, q⟩ => ?_) ht
  subst ex
  obtain rfl : u = Value.ref a := rx
  refine getmeth_ok I1 ea c hm l ?_
  exact PySem.W.callWith_K0 (first := [.ref a]) I1.kIn hm.kp (run_fnS (us := [.ref a]) (vs := [.ref a]) F (hr.mono hn) hb (hx σ) I1 (.cons rfl .nil) q)
/-- C(..) -/
def tMakeS (C : Addr) (sp : Sp) (E : L2.St → XK) (t : TA) : TE := fun σ H Q => t σ H fun vs H1 => ∀ x dx, H1 x = none → H1 dx = none → dx ≠ x →
  sp (.ref x :: vs) (upd (upd H1 dx (.own x)) x (.ins C dx [])) (fun v H2 => v = .non ∧ Q (.ref x) H2) (E σ)
end
section
variable {X : Cx} {K : PySem.W.Frag} {n k : Nat} {C : Str} {ps : List Str} {sp : Sp} {E : L2.St → XK} {p pos apos : Pos} {e o : Expr} {es : List Expr} {ta : TE} {t : TA} {pins : List (Addr × Obj)} {σ : L2.St} {H : Hp} {s : Shared}
theorem run_makeS {CX : CXT} {f Ca : Addr} {fd : FuncData} {k : Nat} {Q : VK} {E : XK} {us : List Value} {vs : List V} (M : Mk X.K Ca f) (F : FnOk X.prog X.w X.K X.mg X.base CX k f fd ps sp) (hr : Room (k + 1) X.A) (hb : Binds X.K fd ps [])
    (hx : PassesAt CX X σ E) (hup : ∀ (H1 : Hp) (s1 : Shared) (e : Value) (s' : Shared), Inv X pins σ H1 s1 → CX X.stack H1 s1 E e s' → X.xe e s') (I : Inv X pins σ H s) (r : Vals vs us)
    (h : ∀ x dx, H x = none → H dx = none → dx ≠ x → sp (.ref x :: vs) (upd (upd H dx (.own x)) x (.ins Ca dx [])) (fun v H2 => v = .non ∧ Q (.ref x) H2) E) :
    wpAny (model X.prog X.w) X.A (call (.ref Ca) us) (EP X pins σ Q) X.xe s := by
  have hq := h (s.heap.objs.size + 1) s.heap.objs.size (I.hok.fresh (Nat.le_succ _)) (I.hok.fresh (Nat.le_refl _)) (Nat.ne_of_lt (Nat.lt_succ_self _))
  have I2 := Inv.made (C := Ca) I
  have r2 : Vals (V.ref (s.heap.objs.size + 1) :: vs) (Value.ref (s.heap.objs.size + 1) :: us) := .cons rfl r
  have hl : (Value.ref (s.heap.objs.size + 1) :: us).length = ps.length := by
    have e := r2.length
    rw [F.len _ _ _ _ hq] at e
    exact e.symm
  have bb := hb { s with heap := (s.heap.push PySem.W.emptyDict).push (PySem.W.instObj Ca s.heap.objs.size) } (Value.ref (s.heap.objs.size + 1) :: us) I2.kIn (by rw [List.append_nil]; exact hl)
  rw [List.append_nil] at bb
  refine wpAny_call (make_map (f := f) I.kIn M.makes M.init (beq_iff_eq.mp M.fn) (codeAny_mono (F.run _ X.stack _ _ ⟨Value.ref (s.heap.objs.size + 1) :: us, []⟩ (Value.ref (s.heap.objs.size + 1) :: us) _ _ E (hr.make Ca us [])
    (I2.env0.make Ca us []) bb r2 hq) fun r s' hq' => ?_))
  cases r with
  | error e => exact hup _ _ e s' I2 hq'
  | ok fl =>
    cases fl with
    | ret u =>
      obtain ⟨v, H', I3, rv, ev, q3⟩ := I2.after hq'
      subst ev
      exact ⟨rv, ⟨V.ref (s.heap.objs.size + 1), H', I3, rfl, q3⟩⟩
    | next => exact False.elim hq'
    | brk => exact False.elim hq'
    | cont => exact False.elim hq'
theorem pe_makeW {f : Addr} (Mf : Mk K (He.ga K C) f) (M : CalM X.prog X.w K X.mg X.base n C "__init__" ps sp) (hr : Room k X.A) (hg : Gl X C) (hm : X.mg C = some (.ref (He.ga K C))) (hx : ∀ σ, PassesAt (L2.CX X.prog X.w) X σ (E σ))
    (ha : PA X (e :: es) t) (hK : X.K = K := by rfl) (hn : n + 1 ≤ k := by decide) (hdb : (C == ("__debug__" : Str)) = false := by decide) (he : starEach (e :: es) X.env = (false, eval e X.env) :: starEach es X.env := by rfl) (hpl : (backTo pos (starEach es X.env)).any (·.1) = false := by rfl) :
    PE X (.Call (.Name C p) (e :: es) [] pos) (tMakeS (He.ga K C) sp E t) := by
  subst hK
  obtain ⟨f', fd, F, hmt, hb⟩ := M.ex
  have ef : f' = f := by
    have := hmt.at_.symm.trans Mf.init
    injection this with this
    injection this with this
    injection this
  subst ef
  refine ⟨fun pins s σ H Q I h => ?_⟩
  refine wpAny_Call_Name_kw (ld_glob I hg hm ?_ hdb)
  refine PySem.W.callWith_K (h₀ := X.base) I.ok.mod.kin Mf.kp (thn (ha.run pos pins s σ H _ I h) fun us s1 ⟨vs, H1, I1, r, q⟩ => ⟨I1.kIn, ?_⟩) he hpl
  exact run_makeS Mf F (hr.mono hn) hb (hx σ) (fun H2 s2 e s' I2 hq => hx σ pins H2 s2 e s' I2 hq) I1 r q
end
section
variable {K : PySem.W.Frag} {F : Hp} {G0 : Vw} {γ : List Sl} {t te : TE} {ks : KS}
/-! ### what is told by a method, on the slots -/
/-- the call itself: back is the place in slot i's thing -/
theorem run_W {C : Cw} {E : L2.St → XK} {σ : L2.St} {H : Hp} {G : Vw} {i : Nat} {S S0 : Sh} {p : List Nat} {b : Addr} {As : List AV} {r : List V} {Q : VK} {kA : AV → List Sl → Prop} {kN : Sh → List Sl → Prop} {kx : Str → List (Str × AV) → List Sl → Prop}
    (hX : SX K F G0 (fun cls d σ H => E σ cls d H) kx) (a : At K F G0 γ σ H G) (e : γ[i]? = some (.tr S)) (ep : S.at p = some S0) (r0 : S0.root = some b) (hv : avs G As r)
    (h : C S0 As (fun A S' => kA A (γ.set i (.tr (S.put p S')))) (fun T S' => kN T (γ.set i (.tr (S.put p S')))) (fun y Fs S' => kx y Fs (γ.set i (.tr (S.put p S')))))
    (zA : ∀ A γ' v H' G', kA A γ' → Vw.Le G G' → At K F G0 γ' σ H' G' → A.p G' v → Q v H')
    (zN : ∀ T γ' v H' G', kN T γ' → Vw.Le G G' → At K F G0 γ' σ H' G' → T.ok F H' G' v → T.ads.Nodup → (∀ b, b ∈ T.ads → Free γ' b) → Q v H') : spW K C (.ref b :: r) H Q (E σ) := by
  obtain ⟨v, e1, ok, nd⟩ := a.trAt e
  obtain ⟨w, ok0⟩ := at_ok ep ok
  have hw := root_val r0 ok0
  subst hw
  have nd0 : S0.ads.Nodup := by
    have f : ∀ {p : List Nat} {S : Sh}, S.ads.Nodup → S.at p = some S0 → S0.ads.Nodup := by
      intro p
      induction p with
      | nil =>
        intro S nd ep
        rw [Sh.at] at ep
        cases ep
        exact nd
      | cons j p ih =>
        intro S nd ep
        rw [Sh.at] at ep
        cases e : S.kids[j]? with
        | none => rw [e] at ep; cases ep
        | some k =>
          rw [e] at ep
          exact ih (nodup_kid (nodup_kids nd) e) ep
    exact f nd ep
  have ok0' : S0.ok (hidN H S0.ads) H G (.ref b) := Sh.ok_move (.refl G) S0 _ (fun _ _ _ e => e) (fun _ _ _ _ e => e) (fun c hc _ => hidN_in hc) ok0
  refine ⟨S0, As, _, _, _, G, b, r, h, r0, rfl, ok0', nd0, hv, a.see, ?_, ?_, ?_⟩
  · rintro A S' u H' G' q ⟨le, sm, see, hid, ok', nd'⟩ pv
    exact zA A _ u H' G' q le (a.putW e ep r0 le sm see hid ok' nd').1 pv
  · rintro T S' u H' G' q ⟨le, sm, see, hid, ok', nd'⟩ okT ndT dj
    obtain ⟨a', n'⟩ := a.putW e ep r0 le sm see hid ok' nd'
    have tn : ∀ c, c ∈ T.ads → (c ∈ S0.ads ∨ H c = none) := fun c hc => by
      have h1 := (Sh.ok_ad T u okT c hc).1
      by_cases h : c ∈ S0.ads
      · exact .inl h
      · rw [hidN_out h] at h1
        exact .inr h1
    have tF : ∀ c, c ∈ T.ads → F c = none := fun c hc => (tn c hc).elim (fun h => (Sh.ok_ad S0 _ ok0 c h).1) fun h => a.noF h
    refine zN T _ u H' G' q le a' (Sh.ok_move (.refl G') T u (fun _ _ _ e => e) (fun _ _ _ _ e => e) (fun c hc _ => tF c hc) okT) ndT fun c hc j U hj hU => ?_
    by_cases hij : i = j
    · subst hij
      rw [List.getElem?_set_self (set_lt hj)] at hj
      cases hj
      have hU : c ∈ (S.put p S').ads := hU
      rcases tn c hc with h1 | h1
      · -- c was in the place: it is in the put thing only through S'
        have key : ∀ {p : List Nat} {S : Sh}, S.at p = some S0 → S.ads.Nodup → (∀ c, c ∈ S'.ads → c ∈ S0.ads ∨ c ∉ S.ads) → c ∈ (S.put p S').ads → c ∈ S'.ads := by
          intro p
          induction p with
          | nil =>
            intro S ep nd hb hU
            rw [Sh.put] at hU
            exact hU
          | cons j p ih =>
            intro S ep nd hb hU
            rw [Sh.at] at ep
            cases e : S.kids[j]? with
            | none => rw [e] at ep; cases ep
            | some k =>
              rw [e] at ep
              have ep : k.at p = some S0 := ep
              have ndk := nodup_kids nd
              have sub : ∀ b, b ∈ Sh.adsL S.kids → b ∈ S.ads := fun b hb => by
                cases S with
                | v A => rw [Sh.kids, Sh.adsL] at hb; cases hb
                | t ss => rw [Sh.ads]; exact hb
                | l a ss => rw [Sh.ads]; exact List.mem_cons_of_mem _ hb
                | q a m ss => rw [Sh.ads]; exact List.mem_cons_of_mem _ (List.mem_append_right _ hb)
              have hb' : ∀ c, c ∈ S'.ads → c ∈ S0.ads ∨ c ∉ k.ads := fun c hc => (hb c hc).imp id fun z hk => z (sub c (adsL_mem e hk))
              have ck : c ∈ k.ads := at_mem ep h1
              rw [Sh.put, e, Option.getD_some] at hU
              have fin : c ∈ Sh.adsL (S.kids.set j (k.put p S')) → c ∈ S'.ads := fun hm => by
                have g : ∀ {ss : List Sh} {j : Nat}, ss[j]? = some k → (Sh.adsL ss).Nodup → c ∈ Sh.adsL (ss.set j (k.put p S')) → c ∈ (k.put p S').ads := by
                  intro ss
                  induction ss with
                  | nil => intro j h; simp at h
                  | cons y r ihs =>
                    intro j h nd hm
                    rw [Sh.adsL] at nd
                    cases j with
                    | zero =>
                      have e1 : y = k := by simpa using h
                      subst e1
                      rw [List.set_cons_zero, Sh.adsL] at hm
                      rcases List.mem_append.mp hm with hm | hm
                      · exact hm
                      · exact absurd rfl ((List.nodup_append.mp nd).2.2 c ck c hm)
                    | succ j =>
                      have es : r[j]? = some k := by simpa using h
                      rw [List.set_cons_succ, Sh.adsL] at hm
                      rcases List.mem_append.mp hm with hm | hm
                      · exact absurd rfl ((List.nodup_append.mp nd).2.2 c hm c (adsL_mem es ck))
                      · exact ihs es (List.nodup_append.mp nd).2.1 hm
                exact ih ep (nodup_kid ndk e) hb' (g e ndk hm)
              have cks : c ∈ Sh.adsL S.kids := adsL_mem e ck
              cases S with
              | v A => rw [Sh.kids] at e; simp at e
              | t ss => rw [Sh.wk, Sh.ads] at hU; exact fin hU
              | l a ss =>
                rw [Sh.ads] at nd
                rw [Sh.wk, Sh.ads] at hU
                rcases List.mem_cons.mp hU with rfl | hU
                · exact absurd cks (List.nodup_cons.mp nd).1
                · exact fin hU
              | q a m ss =>
                rw [Sh.ads] at nd
                have nd1 := List.nodup_cons.mp nd
                rw [Sh.wk, Sh.ads] at hU
                rcases List.mem_cons.mp hU with rfl | hU
                · exact absurd (List.mem_append_right _ cks) nd1.1
                · rcases List.mem_append.mp hU with hU | hU
                  · exact absurd rfl ((List.nodup_append.mp nd1.2).2.2 c hU c cks)
                  · exact fin hU
        have xs : ∀ c, c ∈ S'.ads → c ∈ S0.ads ∨ c ∉ S.ads := fun c hc => by
          have h1 := (Sh.ok_ad S' _ ok' c hc).1
          by_cases h : c ∈ S0.ads
          · exact .inl h
          · rw [hidN_out h] at h1
            refine .inr fun z => ?_
            obtain ⟨o, ho, _⟩ := (a.has e z).2.2
            rw [h1] at ho
            cases ho
        exact dj c hc (key ep nd xs hU)
      · rcases n' c hU with h2 | h2
        · obtain ⟨o, ho, _⟩ := (a.has e h2).2.2
          rw [h1] at ho
          cases ho
        · -- new in both: in S' or not in the put thing
          have key2 : c ∈ S'.ads := by
            have := (put_nd nd' ep nd fun c hc => (by
              have h1 := (Sh.ok_ad S' _ ok' c hc).1
              by_cases h : c ∈ S0.ads
              · exact .inl h
              · rw [hidN_out h] at h1
                refine .inr fun z => ?_
                obtain ⟨o, ho, _⟩ := (a.has e z).2.2
                rw [h1] at ho
                cases ho)).2 c hU
            rcases this with h3 | h3
            · exact h3
            · obtain ⟨o, ho, _⟩ := (a.has e h3).2.2
              rw [h1] at ho
              cases ho
          exact dj c hc key2
    · rw [List.getElem?_set_ne hij] at hj
      rcases tn c hc with h1 | h1
      · exact hij (a.dis i j _ U c e hj (at_mem ep h1) hU)
      · exact a.noOwn h1 j U hj hU
  · rintro y Fs d S' H' G' q ⟨le, sm, see, hid, ok', nd'⟩ xf
    exact hX.go y Fs _ σ H' G' d q (a.putW e ep r0 le sm see hid ok' nd').1 xf
end
end Rl

/-! # Rl, twenty-sixth part: instances in the judgements -/
namespace Rl
open PySem PySem.Spec PyProof.Rows L2
/-- a value told, or a thing whose lists are all new -/
def GR (K : PySem.W.Frag) (F : Hp) (G0 : Vw) (t : TE) (γ : List Sl) (kA : AV → List Sl → Prop) (kN : Sh → List Sl → Prop) : Prop := ∀ σ H G Q, At K F G0 γ σ H G →
  (∀ A γ' v H' G', kA A γ' → Vw.Le G G' → At K F G0 γ' σ H' G' → A.p G' v → Q v H') →
  (∀ T γ' v H' G', kN T γ' → Vw.Le G G' → At K F G0 γ' σ H' G' → T.ok F H' G' v → T.ads.Nodup → (∀ b, b ∈ T.ads → Free γ' b) → Q v H') → t σ H Q
/-- f is the name of field j -/
def FirstAt (ns : List Str) (j : Nat) (f : Str) : Prop := ns[j]? = some f ∧ f ∉ ns.take j
instance (ns : List Str) (j : Nat) (f : Str) : Decidable (FirstAt ns j f) := inferInstanceAs (Decidable (_ ∧ _))
theorem zip_look {α : Type} {f : Str} : ∀ {ns : List Str} {xs : List α} {j : Nat} {x : α}, FirstAt ns j f → xs[j]? = some x → (ns.zip xs).lookup f = some x
  | [], _, _, _, h, _ => by
    have := h.1
    simp at this
  | n :: r, [], _, _, _, h => by simp at h
  | n :: r, y :: xs, 0, x, h, e => by
    have e1 : n = f := by simpa using h.1
    have e2 : y = x := by simpa using e
    subst e1; subst e2
    show List.lookup n ((n, y) :: r.zip xs) = _
    simp [List.lookup]
  | n :: r, y :: xs, j + 1, x, h, e => by
    have hn : f ≠ n := fun z => h.2 (by rw [z]; simp)
    have hb : (f == n) = false := beq_eq_false_iff_ne.mpr hn
    show List.lookup f ((n, y) :: r.zip xs) = _
    rw [List.lookup, hb]
    exact zip_look ⟨by simpa using h.1, fun z => h.2 (by rw [List.take_succ_cons]; exact List.mem_cons_of_mem _ z)⟩ (by simpa using e)
theorem zip_none {α : Type} {f : Str} : ∀ {ns : List Str} {xs : List α}, f ∉ ns → (ns.zip xs).lookup f = none
  | [], _, _ => rfl
  | n :: r, [], _ => rfl
  | n :: r, y :: xs, h => by
    have hb : (f == n) = false := beq_eq_false_iff_ne.mpr fun z => h (by rw [z]; exact List.mem_cons_self ..)
    show List.lookup f ((n, y) :: r.zip xs) = _
    rw [List.lookup, hb]
    exact zip_none fun z => h (List.mem_cons_of_mem _ z)
theorem putF_old {f : Str} {y : V} : ∀ {ns : List Str} {xs : List V} {j : Nat}, FirstAt ns j f → ns.length = xs.length → putF f y (ns.zip xs) = ns.zip (xs.set j y)
  | [], _, _, h, _ => by
    have := h.1
    simp at this
  | n :: r, [], _, _, h => by simp at h
  | n :: r, x :: xs, 0, h, e => by
    have e1 : n = f := by simpa using h.1
    show putF f y ((n, x) :: r.zip xs) = _
    rw [putF, if_pos e1]
    rfl
  | n :: r, x :: xs, j + 1, h, e => by
    have hn : n ≠ f := fun z => h.2 (by rw [z]; simp)
    show putF f y ((n, x) :: r.zip xs) = _
    rw [putF, if_neg hn, putF_old (j := j) ⟨by simpa using h.1, fun z => h.2 (by rw [List.take_succ_cons]; exact List.mem_cons_of_mem _ z)⟩ (by simpa using e)]
    rfl
theorem putF_new {f : Str} {y : V} : ∀ {ns : List Str} {xs : List V}, f ∉ ns → ns.length = xs.length → putF f y (ns.zip xs) = (ns ++ [f]).zip (xs ++ [y])
  | [], [], _, _ => rfl
  | [], _ :: _, _, h => by simp at h
  | n :: r, [], _, h => by simp at h
  | n :: r, x :: xs, h, e => by
    have hn : n ≠ f := fun z => h (by rw [z]; exact List.mem_cons_self ..)
    show putF f y ((n, x) :: r.zip xs) = _
    rw [putF, if_neg hn, putF_new (fun z => h (List.mem_cons_of_mem _ z)) (by simpa using e)]
    rfl
section
variable {X : Cx} {K : PySem.W.Frag} {o e value : Expr} {f : Str} {pos pos' : Pos} {ta tv : TE}
theorem pe_fldK (he : PE X e ta) (hK : X.K = K := by rfl) (hb : attributeBase e f X.env (eval e X.env) = eval e X.env := by rfl) : PE X (.Attribute e f pos) (tFld K ta f) := hK ▸ pe_fld he hb
theorem ps_fldK (ha : PE X o ta) (hv : PE X value tv) (hK : X.K = K := by rfl) (hs : swapsWith value (some (.Attribute o f pos')) pos.line X.env = pure false := by rfl) : PS X (.Assign [.Attribute o f pos'] value pos) (sFld K ta tv f) := hK ▸ ps_fld ha hv hs
end
section
variable {K : PySem.W.Frag} {F : Hp} {G0 : Vw} {γ : List Sl} {t te ta tv : TE} {ks : KS} {kA : AV → List Sl → Prop} {kN : Sh → List Sl → Prop}
theorem ge_gr {k : AV → List Sl → Prop} (h : GR K F G0 te γ k fun T γ' => k T.av γ') : GE K F G0 te γ k := fun σ H G Q a z =>
  h σ H G Q a z fun T γ' v H' G' q le a' ok nd fr => by
    obtain ⟨G2, l2, a2, p⟩ := a'.addTree ok fr
    exact z _ γ' v H' G2 q (le.trans l2) a2 p
theorem gn_gr {k : Sh → List Sl → Prop} (h : GR K F G0 te γ (fun A γ' => k (.v A) γ') k) : GN K F G0 te γ k := fun σ H G Q a z =>
  h σ H G Q a (fun A γ' v H' G' q le a' pv => z (.v A) γ' v H' G' q le a' (by rw [Sh.ok]; exact pv) (by rw [Sh.ads]; exact nd_nil) fun b hb => by rw [Sh.ads] at hb; cases hb) z
theorem gs_setR {i : Nat} (h : GR K F G0 te γ (fun A γ' => ks.nx (γ'.set i (.sh A))) fun T γ' => ks.nx (γ'.set i (.tr T))) : GS K F G0 (tAsg te (gName i)) γ ks := fun D σ H G a s =>
  h σ H G _ a (fun A γ' v H' G' q le a' pv => s.nx _ _ H' G' q le (a'.sets pv)) fun T γ' v H' G' q le a' ok nd fr => s.nx _ _ H' G' q le (At.set (S := .tr T) a' ⟨v, rfl, ok, nd⟩ fr)
theorem gs_retR (h : GR K F G0 te γ (fun A γ' => ks.rt A γ') fun T γ' => ks.rn T γ') : GS K F G0 (tRet te) γ ks := fun D σ H G a s =>
  h σ H G _ a (fun A γ' v H' G' q le a' pv => s.rt A γ' σ v H' G' q le a' pv) fun T γ' v H' G' q le a' ok nd fr => s.rn T γ' σ v H' G' q le a' ok nd fr
theorem gs_dropR (h : GR K F G0 te γ (fun A γ' => ks.nx γ') fun T γ' => ks.nx γ') : GS K F G0 (tDrop te) γ ks := fun D σ H G a s =>
  h σ H G _ a (fun A γ' v H' G' q le a' pv => s.nx _ _ H' G' q le a') fun T γ' v H' G' q le a' ok nd fr => s.nx _ _ H' G' q le a'
/-! ### fields -/
theorem gb_fld {C f : Str} (j : Nat) (c : Cls K (He.ga K C)) (n : NoAttr K (He.ga K C) f) {k : Sh → List Sl → Prop} (h : GB K F G0 ta γ fun S γ1 => ∃ a dx ns ss S', S = .q a (.ins dx C ns) ss ∧ FirstAt ns j f ∧ ss[j]? = some S' ∧ k S' γ1) : GB K F G0 (tFld K ta f) γ k := fun σ H G Q a z =>
  h σ H G _ a fun S γ1 v H1 G1 ⟨b, dx, ns, ss, S', e, hf, hs, q⟩ l1 a1 ok => by
    subst e
    rw [Sh.ok] at ok
    obtain ⟨rfl, _, _, xs, ⟨hx, hl, _⟩, okL⟩ := ok
    obtain ⟨w, h1, h2⟩ := okL_get okL hs
    exact ⟨b, G1.k C, dx, ns.zip xs, w, rfl, hx, by rw [a1.see.k]; exact c, by rw [a1.see.k]; exact n, zip_look hf h1, z S' γ1 w H1 G1 q l1 a1 h2⟩
theorem okL_setV {H : Hp} {G : Vw} {T : Sh} {y : V} (hT : T.ok F H G y) : ∀ {ss : List Sh} {xs : List V} {j : Nat}, Sh.okL F H G ss xs → Sh.okL F H G (ss.set j T) (xs.set j y)
  | [], xs, j, h => by
    rw [Sh.okL] at h
    subst h
    rw [List.set_nil, List.set_nil, Sh.okL]
  | s :: ss, xs, 0, h => by
    rw [Sh.okL] at h
    obtain ⟨x, r, rfl, p, t⟩ := h
    rw [List.set_cons_zero, List.set_cons_zero, Sh.okL]
    exact ⟨y, r, rfl, hT, t⟩
  | s :: ss, xs, j + 1, h => by
    rw [Sh.okL] at h
    obtain ⟨x, r, rfl, p, t⟩ := h
    rw [List.set_cons_succ, List.set_cons_succ, Sh.okL]
    exact ⟨x, _, rfl, p, okL_setV hT t⟩
/-- a field of slot i's instance is written -/
theorem At.putIns {σ : L2.St} {H : Hp} {G : Vw} {i : Nat} {a dx : Addr} {C : Str} {ns ns' : List Str} {ss ss' : List Sh} {T : Sh} {y : V} {xs xs' : List V} (at0 : At K F G0 γ σ H G) (e : γ[i]? = some (.tr (.q a (.ins dx C ns) ss)))
    (okT : T.ok F H G y) (ndT : T.ads.Nodup) (frT : ∀ b, b ∈ T.ads → Free γ b) (hx : H a = some (.ins (G.k C) dx (ns.zip xs))) (okL : Sh.okL F H G ss xs) (hl' : ns'.length = xs'.length)
    (hok : ∀ {F' H' : Hp}, Sh.okL F' H' G ss xs → T.ok F' H' G y → Sh.okL F' H' G ss' xs') (hnd : (Sh.adsL ss).Nodup → (∀ c, c ∈ T.ads → c ∉ Sh.adsL ss) → (Sh.adsL ss').Nodup ∧ ∀ c, c ∈ Sh.adsL ss' → c ∈ T.ads ∨ c ∈ Sh.adsL ss) :
    At K F G0 (γ.set i (.tr (.q a (.ins dx C ns') ss'))) σ (upd H a (.ins (G.k C) dx (ns'.zip xs'))) G := by
  obtain ⟨v, e1, ok, nd⟩ := at0.trAt e
  have ok' := ok
  rw [Sh.ok] at ok'
  obtain ⟨rfl, fa, na, ys, ⟨hx2, hl, hdx, fdx, ndx⟩, _⟩ := ok'
  rw [Sh.ads] at nd
  have md : dx ∈ (Kd.ins dx C ns).side := List.mem_singleton.mpr rfl
  have hne : dx ≠ a := fun z => by
    rw [z, hx] at hdx
    cases hdx
  have sads : (Sh.q a (.ins dx C ns) ss).ads = a :: ((Kd.ins dx C ns).side ++ Sh.adsL ss) := by rw [Sh.ads]
  have dT : ∀ c, c ∈ T.ads → c ∉ (Sh.q a (.ins dx C ns) ss).ads := fun c hc z => frT c hc i _ e z
  have inN : ∀ c, c ∈ (Sh.q a (.ins dx C ns) ss).ads → c ∈ (Sh.q a (.ins dx C ns) ss).ads ++ T.ads := fun c h => List.mem_append_left _ h
  have aN : a ∈ (Sh.q a (.ins dx C ns) ss).ads := by rw [sads]; exact List.mem_cons_self ..
  have dN : dx ∈ (Sh.q a (.ins dx C ns) ss).ads := by rw [sads]; exact List.mem_cons_of_mem _ (List.mem_append_left _ md)
  have kN : ∀ c, c ∈ Sh.adsL ss → c ∈ (Sh.q a (.ins dx C ns) ss).ads := fun c h => by rw [sads]; exact List.mem_cons_of_mem _ (List.mem_append_right _ h)
  have n1 := List.nodup_cons.mp nd
  have n2 := List.nodup_append.mp n1.2
  obtain ⟨m1, m2⟩ := hnd n2.2.1 fun c hc z => dT c hc (kN c z)
  have out : ∀ c, c ∈ Sh.adsL ss' → c ≠ a ∧ c ≠ dx := fun c hc => by
    rcases m2 c hc with h | h
    · exact ⟨fun z => dT c h (z ▸ aN), fun z => dT c h (z ▸ dN)⟩
    · exact ⟨fun z => n1.1 (List.mem_append_right _ (z ▸ h)), fun z => n2.2.2 dx md c h z.symm⟩
  refine (at0.putWN (p := []) (N := (Sh.q a (.ins dx C ns) ss).ads ++ T.ads) (x := .q a (.ins dx C ns') ss') e rfl (rfl : Sh.root _ = some a) inN (fun c hc => ?_) (.refl G) (fun c o q => ?_) (at0.see.updO hx trivial na) (fun _ _ _ _ q => q) ?_ ?_).1
  · rcases List.mem_append.mp hc with h | h
    · exact .inl h
    · exact .inr ⟨(Sh.ok_ad T y okT c h).1, frT c h⟩
  · have : c ≠ a := fun z => by
      rw [z, hidN_in (inN a aN)] at q
      cases q
    rw [upd_ne this]
    by_cases h : c ∈ (Sh.q a (.ins dx C ns) ss).ads ++ T.ads
    · rw [hidN_in h] at q; cases q
    · rw [hidN_out h] at q; exact q
  · rw [Sh.ok]
    have mk : ∀ c, c ≠ a → ∀ o, H c = some o → upd H a (.ins (G.k C) dx (ns'.zip xs')) c = some o := fun c hc o ho => by
      rw [upd_ne hc]
      exact ho
    refine ⟨rfl, hidN_in (inN a aN), na, xs', ⟨upd_same, hl', by rw [upd_ne hne]; exact hdx, hidN_in (inN dx dN), ndx⟩, hok ?_ ?_⟩
    · exact Sh.okL_move (.refl G) ss xs (fun c hc => mk c fun z => n1.1 (List.mem_append_right _ (z ▸ hc))) (fun _ _ _ _ e => e) (fun c hc _ => hidN_in (inN c (kN c hc))) okL
    · exact Sh.ok_move (.refl G) T y (fun c hc => mk c fun z => dT c hc (z ▸ aN)) (fun _ _ _ _ e => e) (fun c hc _ => hidN_in (List.mem_append_right _ hc)) okT
  · rw [Sh.ads]
    refine List.nodup_cons.mpr ⟨fun z => ?_, List.nodup_append.mpr ⟨by simp [Kd.side], m1, fun u hu w hw z => ?_⟩⟩
    · rcases List.mem_append.mp z with z | z
      · exact hne (List.mem_singleton.mp z).symm
      · exact (out a z).1 rfl
    · obtain rfl := List.mem_singleton.mp hu
      exact (out w hw).2 z.symm
theorem take_len {α β : Type} {xs : List α} {ys : List β} (h : xs.length = ys.length) (x : α) (y : β) : (xs ++ [x]).length = (ys ++ [y]).length := by
  rw [List.length_append, List.length_append, h]
  rfl
/-- self.f = e, a new field -/
theorem gs_fldNew {C f : Str} {i : Nat} (c : Cls K (He.ga K C)) (n : NoAttr K (He.ga K C) f) (h : GN K F G0 tv γ fun T γ1 => ∃ a dx ns ss, γ1[i]? = some (.tr (.q a (.ins dx C ns) ss)) ∧ f ∉ ns ∧ ns.length < 900 ∧ ks.nx (γ1.set i (.tr (.q a (.ins dx C (ns ++ [f])) (ss ++ [T]))))) : GS K F G0 (sFld K (tVar i) tv f) γ ks := fun D σ H G a s =>
  h σ H G _ a fun T γ1 y H1 G1 ⟨b, dx, ns, ss, e, hf, hn, q⟩ l1 a1 ok nd fr => by
    obtain ⟨v, e1, okS, _⟩ := a1.trAt e
    rw [Sh.ok] at okS
    obtain ⟨rfl, fa, na, xs, ⟨hx, hl, _⟩, okL⟩ := okS
    refine ⟨_, e1, b, G1.k C, dx, ns.zip xs, rfl, hx, by rw [a1.see.k]; exact c, by rw [a1.see.k]; exact n, by rw [List.length_zip]; omega, ?_⟩
    rw [putF_new hf hl]
    refine s.nx _ _ _ G1 q l1 (a1.putIns e ok nd fr hx okL (take_len hl f y) (fun h1 h2 => okL_append h1 ?_) fun h1 h2 => ?_)
    · rw [Sh.okL]
      exact ⟨y, [], rfl, h2, by rw [Sh.okL]⟩
    · have e3 : Sh.adsL (ss ++ [T]) = Sh.adsL ss ++ T.ads := by rw [adsL_append, Sh.adsL, Sh.adsL, List.append_nil]
      rw [e3]
      exact ⟨List.nodup_append.mpr ⟨h1, nd, fun u hu w hw z => h2 w hw (z ▸ hu)⟩, fun c hc => (List.mem_append.mp hc).symm⟩
/-- self.f = e, field j -/
theorem gs_fldOld {C f : Str} {i : Nat} (j : Nat) (c : Cls K (He.ga K C)) (n : NoAttr K (He.ga K C) f) (h : GN K F G0 tv γ fun T γ1 => ∃ a dx ns ss, γ1[i]? = some (.tr (.q a (.ins dx C ns) ss)) ∧ FirstAt ns j f ∧ ns.length < 900 ∧ j < ss.length ∧ ks.nx (γ1.set i (.tr (.q a (.ins dx C ns) (ss.set j T))))) : GS K F G0 (sFld K (tVar i) tv f) γ ks := fun D σ H G a s =>
  h σ H G _ a fun T γ1 y H1 G1 ⟨b, dx, ns, ss, e, hf, hn, hj, q⟩ l1 a1 ok nd fr => by
    obtain ⟨v, e1, okS, _⟩ := a1.trAt e
    rw [Sh.ok] at okS
    obtain ⟨rfl, fa, na, xs, ⟨hx, hl, _⟩, okL⟩ := okS
    refine ⟨_, e1, b, G1.k C, dx, ns.zip xs, rfl, hx, by rw [a1.see.k]; exact c, by rw [a1.see.k]; exact n, by rw [List.length_zip]; omega, ?_⟩
    rw [putF_old hf hl]
    refine s.nx _ _ _ G1 q l1 (a1.putIns e ok nd fr hx okL (by rw [List.length_set]; exact hl) (fun h1 h2 => okL_setV h2 h1) fun h1 h2 => ?_)
    obtain ⟨i1, i2⟩ := adsL_setW (List.getElem?_eq_getElem hj) h1 nd fun b hb => .inr (h2 b hb)
    exact ⟨i1, i2⟩
/-! ### methods -/
/-- o.m(..), o a place in slot i's thing -/
theorem gr_meth {C : Cw} {Cn m : Str} {E : L2.St → XK} {ta : TE} {t : TA} {kx : Str → List (Str × AV) → List Sl → Prop} (hX : SX K F G0 (fun cls d σ H => E σ cls d H) kx)
    (h : GB K F G0 ta γ fun S0 γ0 => ∃ a dx ns ss, S0 = .q a (.ins dx Cn ns) ss ∧ m ∉ ns ∧ GA K F G0 t γ0 fun As γ1 => ∃ i S p, γ1[i]? = some (.tr S) ∧ S.at p = some S0 ∧ C S0 As (fun A S' => kA A (γ1.set i (.tr (S.put p S')))) (fun T S' => kN T (γ1.set i (.tr (S.put p S')))) (fun y Fs S' => kx y Fs (γ1.set i (.tr (S.put p S'))))) : GR K F G0 (tMethS (He.ga K Cn) m (spW K C) E ta t) γ kA kN := fun σ H G Q a zA zN =>
  h σ H G _ a fun S0 γ0 v H1 G1 ⟨b, dx, ns, ss, e, hm, h1⟩ l1 a1 ok => by
    subst e
    have hv := root_val (a := b) rfl ok
    subst hv
    rw [Sh.ok] at ok
    obtain ⟨_, _, _, xs, ⟨hx, hl, _⟩, _⟩ := ok
    refine ⟨b, dx, ns.zip xs, rfl, by rw [← a1.see.k]; exact hx, zip_none hm, h1 σ H1 G1 _ a1 fun As γ1 vs H2 G2 ⟨i, S, p, e1, ep, hc⟩ l2 a2 hv => ?_⟩
    exact run_W hX a2 e1 ep rfl hv hc (fun A γ' v H' G' q le a' pv => zA A γ' v H' G' q (l1.trans (l2.trans le)) a' pv) fun T γ' v H' G' q le a' ok nd fr => zN T γ' v H' G' q (l1.trans (l2.trans le)) a' ok nd fr
/-- slot i's instance, as it stands when the arguments are there -/
def SelfAt (γ : List Sl) (i : Nat) (Cn : Str) (k : Sh → Prop) : Prop := ∃ a dx ns ss, γ[i]? = some (.tr (.q a (.ins dx Cn ns) ss)) ∧ k (.q a (.ins dx Cn ns) ss)
theorem self_at {γ : List Sl} {i : Nat} {Cn : Str} {k : Sh → Prop} {a dx : Addr} {ns : List Str} {ss : List Sh} (e : γ[i]? = some (.tr (.q a (.ins dx Cn ns) ss))) (h : k (.q a (.ins dx Cn ns) ss)) : SelfAt γ i Cn k := ⟨a, dx, ns, ss, e, h⟩
/-- self.m(..) -/
theorem gr_self {C : Cw} {Cn m : Str} {E : L2.St → XK} {i : Nat} {t : TA} {kx : Str → List (Str × AV) → List Sl → Prop} (hX : SX K F G0 (fun cls d σ H => E σ cls d H) kx) (h0 : ∃ a dx ns ss, γ[i]? = some (.tr (.q a (.ins dx Cn ns) ss)) ∧ m ∉ ns)
    (h : GA K F G0 t γ fun As γ1 => SelfAt γ1 i Cn fun S => C S As (fun A S' => kA A (γ1.set i (.tr S'))) (fun T S' => kN T (γ1.set i (.tr S'))) (fun y Fs S' => kx y Fs (γ1.set i (.tr S')))) : GR K F G0 (tMethS (He.ga K Cn) m (spW K C) E (tVar i) t) γ kA kN := fun σ H G Q a zA zN => by
  obtain ⟨b, dx, ns, ss, e, hm⟩ := h0
  obtain ⟨v, e1, ok, _⟩ := a.trAt e
  have hv := root_val (a := b) rfl ok
  subst hv
  rw [Sh.ok] at ok
  obtain ⟨_, _, _, xs, ⟨hx, hl, _⟩, _⟩ := ok
  refine ⟨.ref b, e1, b, dx, ns.zip xs, rfl, by rw [← a.see.k]; exact hx, zip_none hm, h σ H G _ a fun As γ1 vs H2 G2 ⟨b2, dx2, ns2, ss2, e2, hc⟩ l2 a2 hv => ?_⟩
  obtain ⟨v2, e3, ok2, _⟩ := a2.trAt e2
  rw [e1] at e3
  cases e3
  have hb : V.ref b = .ref b2 := root_val (a := b2) rfl ok2
  injection hb with hb
  subst hb
  exact run_W (p := []) hX a2 e2 rfl rfl hv hc (fun A γ' v H' G' q le a' pv => zA A γ' v H' G' q (l2.trans le) a' pv) fun T γ' v H' G' q le a' ok nd fr => zN T γ' v H' G' q (l2.trans le) a' ok nd fr
/-- C(..): a new instance -/
theorem gr_make {C : Cw} {Cn : Str} {E : L2.St → XK} {t : TA} {kx : Str → List (Str × AV) → List Sl → Prop} (hX : SX K F G0 (fun cls d σ H => E σ cls d H) kx)
    (h : GA K F G0 t γ fun As γ1 => ∀ a dx, C (.q a (.ins dx Cn []) []) As (fun A S' => A = aN ∧ kN S' γ1) (fun _ _ => False) (fun y Fs _ => kx y Fs γ1)) : GR K F G0 (tMakeS (He.ga K Cn) (spW K C) E t) γ kA kN := fun σ H G Q a zA zN =>
  h σ H G _ a fun As γ1 vs H1 G1 h1 l1 a1 hv b dx nb nd hne => by
    have e : (Sh.q b (.ins dx Cn []) []).ads = [b, dx] := by
      rw [Sh.ads, Sh.adsL, List.append_nil]
      rfl
    have fr : ∀ c, c ∈ [b, dx] → H1 c = none := fun c hc => by
      rcases List.mem_cons.mp hc with rfl | hc
      · exact nb
      · rw [List.mem_singleton.mp hc]
        exact nd
    have s1 : Same H1 (upd (upd H1 dx (.own b)) b (.ins (He.ga K Cn) dx [])) := (same_upd nd).trans (same_upd (by rw [upd_ne (fun z => hne z.symm)]; exact nb))
    have a2 := a1.up s1
    have e1 : upd (upd H1 dx (.own b)) b (.ins (He.ga K Cn) dx []) dx = some (.own b) := by rw [upd_ne hne, upd_same]
    have ok : (Sh.q b (.ins dx Cn []) []).ok (hidN (upd (upd H1 dx (.own b)) b (.ins (He.ga K Cn) dx [])) (Sh.q b (.ins dx Cn []) []).ads) (upd (upd H1 dx (.own b)) b (.ins (He.ga K Cn) dx [])) G1 (.ref b) := by
      rw [e, Sh.ok]
      refine ⟨rfl, hidN_in (by simp), a1.noL nb, [], ⟨by rw [a1.see.k]; exact upd_same, rfl, e1, hidN_in (by simp), a1.noL nd⟩, by rw [Sh.okL]⟩
    have own0 : ∀ c, hidN (upd (upd H1 dx (.own b)) b (.ins (He.ga K Cn) dx [])) [b, dx] c = none → H1 c = none := fun c hc => by
      by_cases h : c ∈ [b, dx]
      · exact fr c h
      · rw [hidN_out h] at hc
        cases e0 : H1 c with
        | none => rfl
        | some o =>
          rw [s1 c o e0] at hc
          cases hc
    have keep : ∀ {S' : Sh} {H' : Hp} {G' : Vw}, Back K (.q b (.ins dx Cn []) []) b (upd (upd H1 dx (.own b)) b (.ins (He.ga K Cn) dx [])) G1 S' H' G' → Vw.Le G1 G' ∧ At K F G0 γ1 σ H' G' := fun {S' H' G'} ⟨le, sm, see, hid, ok', nd'⟩ => by
      rw [e] at sm hid
      refine ⟨le, a1.call le (fun c o q => sm c o ?_) see fun c ys hn q => hid c ys (fun z => ?_) (fun z => hn (fr c z)) q⟩
      · rw [hidN_out (fun z => by rw [fr c z] at q; cases q)]
        exact s1 c o q
      · cases e0 : H1 c with
        | none => exact hn e0
        | some o =>
          rw [s1 c o e0] at z
          cases z
    refine ⟨_, As, _, _, _, G1, b, vs, h1 b dx, rfl, rfl, ok, by rw [e]; exact List.nodup_cons.mpr ⟨fun z => hne (List.mem_singleton.mp z).symm, by simp⟩, hv, a2.see, ?_, ?_, ?_⟩
    · rintro A S' u H' G' ⟨rfl, q⟩ bk pv
      obtain ⟨le, a3⟩ := keep bk
      obtain ⟨_, _, _, _, ok', nd'⟩ := bk
      rw [e] at ok'
      exact ⟨pv, zN S' γ1 _ H' G' q (l1.trans le) a3 (Sh.ok_move (.refl G') S' _ (fun _ _ _ e => e) (fun _ _ _ _ e => e) (fun c _ hc => a1.noF (own0 c hc)) ok') nd' fun c hc => a1.noOwn (own0 c (Sh.ok_ad S' _ ok' c hc).1)⟩
    · rintro T S' u H' G' q
      exact q.elim
    · rintro y Fs d S' H' G' q bk xf
      exact hX.go y Fs γ1 σ H' G' d q (keep bk).2 xf
/-- e.m(..), e a new thing that is left behind -/
theorem gr_temp {C : Cw} {Cn m : Str} {E : L2.St → XK} {t : TA} {kx : Str → List (Str × AV) → List Sl → Prop} (hX : SX K F G0 (fun cls d σ H => E σ cls d H) kx)
    (h : GN K F G0 ta γ fun T γ0 => ∃ a dx ns ss, T = .q a (.ins dx Cn ns) ss ∧ m ∉ ns ∧ ∀ F' G0', GA K F' G0' t γ0 fun As γ1 => C T As (fun A S' => kA A γ1) (fun T' S' => kN T' γ1) (fun y Fs S' => kx y Fs γ1)) : GR K F G0 (tMethS (He.ga K Cn) m (spW K C) E ta t) γ kA kN := fun σ H G Q a zA zN =>
  h σ H G _ a fun T γ0 v H1 G1 ⟨b, dx, ns, ss, e, hm, h1⟩ l1 a1 ok nd fr => by
    have kp := Kept.ofTree ok fr
    have ok0 := ok
    subst e
    have hv := root_val (a := b) rfl ok
    subst hv
    rw [Sh.ok] at ok0
    obtain ⟨_, _, _, xs, ⟨hx, hl, _⟩, _⟩ := ok0
    refine ⟨b, dx, ns.zip xs, rfl, by rw [← a1.see.k]; exact hx, zip_none hm, h1 _ G1 σ H1 G1 _ (a1.hold kp) fun As γ1 vs H2 G2 hc l2 a2 hv => ?_⟩
    obtain ⟨a3, kp3, st⟩ := a1.unhold kp a2
    generalize hT : (Sh.q b (.ins dx Cn ns) ss) = T at *
    have ok3 : T.ok (hidN H2 T.ads) H2 G2 (.ref b) := Sh.ok_move l2 T _ (fun c hc o e => by rw [st c hc]; exact e) (fun c hc _ ys q => (kp3.nl c hc ys q).elim) (fun c hc _ => hidN_in hc) ok
    have keep : ∀ {S' : Sh} {H' : Hp} {G' : Vw}, Back K T b H2 G2 S' H' G' → Vw.Le G2 G' ∧ At K F G0 γ1 σ H' G' := fun {S' H' G'} ⟨le, sm, see, hid, ok', nd'⟩ => ⟨le, a3.callJ kp3.no kp3.fr le sm see fun c ys hn hc q => hid c ys hn hc q⟩
    refine ⟨T, As, _, _, _, G2, b, vs, hc, by rw [← hT]; rfl, rfl, ok3, nd, hv, a3.see, ?_, ?_, ?_⟩
    · rintro A S' u H' G' q bk pv
      obtain ⟨le, a4⟩ := keep bk
      exact zA A γ1 u H' G' q (l1.trans (l2.trans le)) a4 pv
    · rintro T' S' u H' G' q bk okT ndT dj
      obtain ⟨le, a4⟩ := keep bk
      have tn : ∀ c, c ∈ T'.ads → (c ∈ T.ads ∨ H2 c = none) := fun c hc => by
        have h1 := (Sh.ok_ad T' u okT c hc).1
        by_cases h : c ∈ T.ads
        · exact .inl h
        · rw [hidN_out h] at h1
          exact .inr h1
      exact zN T' γ1 u H' G' q (l1.trans (l2.trans le)) a4 (Sh.ok_move (.refl G') T' u (fun _ _ _ e => e) (fun _ _ _ _ e => e) (fun c hc _ => (tn c hc).elim (kp3.no c) fun h => a3.noF h) okT) ndT fun c hc => (tn c hc).elim (kp3.fr c) fun h => a3.noOwn h
    · rintro y Fs d S' H' G' q bk xf
      exact hX.go y Fs γ1 σ H' G' d q (keep bk).2 xf
/-! ### a place is given away: its lists are known to all from here on -/
theorem gs_freezeP {ts : TS} (i : Nat) (p : List Nat) {S S0 : Sh} {b : Addr} (e : γ[i]? = some (.tr S)) (ep : S.at p = some S0) (r0 : S0.root = some b) (q : NX K F G0 ts (γ.set i (.tr (S.put p (.v S0.av)))) ks) : GS K F G0 ts γ ks := fun D σ H G a s => by
  obtain ⟨v, e1, ok, nd⟩ := a.trAt e
  obtain ⟨w, ok0⟩ := at_ok ep ok
  have hw := root_val r0 ok0
  subst hw
  have le : Vw.Le G ⟨G.t, fun b xs => G.l b xs ∨ (b ∈ S0.ads ∧ H b = some (.lst xs)), G.c, G.h, G.k⟩ := ⟨fun _ _ h => h, fun _ _ h => .inl h, fun _ _ h => h, fun _ _ h => h, rfl⟩
  have a2 := (a.putW (x := .v S0.av) e ep r0 le (fun c o q => ?_) ⟨a.see.t, fun c ys q => ?_, a.see.c, a.see.h, a.see.k⟩ (fun c ys _ hc q => ?_) ?_ (by rw [Sh.ads]; exact nd_nil)).1
  · exact q D σ H _ a2 (s.up le)
  · by_cases h : c ∈ S0.ads
    · rw [hidN_in h] at q; cases q
    · rw [hidN_out h] at q; exact q
  · rcases q with q | q
    · exact a.see.l c ys q
    · exact q.2
  · rcases q with q | q
    · exact q
    · exact absurd q.1 hc
  · rw [Sh.ok]
    exact Sh.ok_av le S0 _ (fun c hc xs hx => .inr ⟨hc, hx⟩) ok0
end
end Rl

/-! # Rl, twenty-seventh part: walks over own lists, names that point into a thing -/
namespace Rl
open PySem PySem.Spec PyProof.Rows L2
/-- what a name knows of a thing that it points to -/
def Sh.ptr : Sh → AV
  | .v A => A
  | .t _ => aAny
  | .l a _ => aV (.ref a)
  | .q a _ _ => aV (.ref a)
theorem ptr_ok {F H : Hp} {G : Vw} {S : Sh} {v : V} (h : S.ok F H G v) : S.ptr.p G v := by
  cases S with
  | v A =>
    rw [Sh.ok] at h
    exact h
  | t ss => trivial
  | l a ss => exact root_val (a := a) rfl h
  | q a m ss => exact root_val (a := a) rfl h
section
variable {K : PySem.W.Frag} {F : Hp} {G0 : Vw} {γ : List Sl} {t te ta tv : TE} {ks : KS}
/-- slot j points to a place in slot i's thing -/
theorem gb_ptr {j i : Nat} {S S0 : Sh} {p : List Nat} {b : Addr} {k : Sh → List Sl → Prop} (e : γ[j]? = some (.sh (aV (.ref b)))) (ei : γ[i]? = some (.tr S)) (ep : S.at p = some S0) (r0 : S0.root = some b) (q : k S0 γ) : GB K F G0 (tVar j) γ k := fun σ H G Q a z => by
  obtain ⟨v, e1, pv⟩ := a.shAt e
  have pv : v = .ref b := pv
  subst pv
  obtain ⟨u, e2, ok, nd⟩ := a.trAt ei
  obtain ⟨w, ok0⟩ := at_ok ep ok
  have hw := root_val r0 ok0
  subst hw
  exact ⟨_, e1, z S0 γ _ H G q (.refl G) a ok0⟩
/-- row[e] = .., row a list at a place of slot i's thing -/
theorem gg_setPtr {j : Nat} {ti : TE} {A : AV} {kg : List Sl → Prop} (i : Nat) (p : List Nat)
    (h : GE K F G0 ti γ fun B γ1 => ∃ S b ts m n, γ1[j]? = some (.sh (aV (.ref b))) ∧ γ1[i]? = some (.tr S) ∧ S.at p = some (.l b ts) ∧ B = aInt m ∧ ixN ts.length m = some n ∧ (∃ A0, ts[n]? = some (.v A0)) ∧ kg (γ1.set i (.tr (S.put p (.l b (ts.set n (.v A)))))))
    (h0 : ∃ S b ts, γ[j]? = some (.sh (aV (.ref b))) ∧ γ[i]? = some (.tr S) ∧ S.at p = some (.l b ts)) : GG K F G0 (gSub (tVar j) ti rSetL) A γ kg := fun σ H G v Q a pv z => by
  obtain ⟨S0, b0, ts0, e0, ei0, ep0⟩ := h0
  obtain ⟨u, e1, pu⟩ := a.shAt e0
  have pu : u = .ref b0 := pu
  subst pu
  refine ⟨_, e1, h σ H G _ a fun B γ1 w H1 G1 ⟨S, b, ts, m, n, e2, ei, ep, eB, en, ⟨A0, eA⟩, q⟩ l1 a1 pw => ?_⟩
  subst eB
  have pw : w = V.int m := pw
  subst pw
  obtain ⟨u, e3, pu⟩ := a1.shAt e2
  rw [e1] at e3
  cases e3
  have pu : V.ref b0 = .ref b := pu
  injection pu with pu
  subst pu
  obtain ⟨xs, hx, okL, nb⟩ := a1.atL ei ep
  refine ⟨b0, xs, m, n, rfl, rfl, hx, by rw [okL_len okL]; exact en, z _ _ _ G1 q l1 (a1.putT ei ep ?_ ?_)⟩
  · refine adsL_set eA ?_
    rw [Sh.ads, Sh.ads]
    exact List.Sublist.refl _
  · exact okL_setV (by rw [Sh.ok]; exact A.mono l1 pv) (okL_upd okL nb)
/-- for i, x in enumerate(xs), xs a list of N things at a place of a slot's thing, which stays -/
theorem gs_forEnumP {g : TG} {ts : TS} (N : Nat) (I : Nat → List Sl → Prop)
    (h : GB K F G0 te γ fun S0 γ1 => ∃ (a0 : Addr) (ss : List Sh), S0 = .l a0 ss ∧ I 0 γ1 ∧
      (∀ n γ2, n ≤ N → I n γ2 → ∃ (i : Nat) (S : Sh) (p : List Nat) (ss2 : List Sh), γ2[i]? = some (.tr S) ∧ S.at p = some (.l a0 ss2) ∧ ss2.length = N ∧ (n < N → ∃ s : Sh, ss2[n]? = some s ∧ GG K F G0 g (aTup [aInt (n : Nat), s.ptr]) γ2 fun γ3 => GS K F G0 ts γ3 (ks.lop (I (n + 1))))) ∧ ∀ γ2, I N γ2 → ks.nx γ2) : GS K F G0 (tFor (iEnum K (tCons te tNil)) g ts) γ ks := fun D σ H G a s =>
  h σ H G _ a fun S0 γ1 v H1 G1 ⟨a0, ss, e, h0, hs, hd⟩ l1 a1 ok => by
    subst e
    have hv := root_val (a := a0) rfl ok
    subst hv
    rw [Sh.ok] at ok
    obtain ⟨_, _, _, xs, hx, okL⟩ := ok
    refine ⟨a0, xs, rfl, SqL.of hx, fun n m σ H => m = N - n ∧ n ≤ N ∧ ∃ γ2 G2, I n γ2 ∧ Vw.Le G1 G2 ∧ At K F G0 γ2 σ H G2, ⟨N, rfl, Nat.zero_le _, γ1, G1, h0, .refl G1, a1⟩, ?_⟩
    rintro n m σ2 H2 ⟨rfl, hn, γ2, G2, q1, q2, q3⟩
    obtain ⟨i, S, p, ss2, ei, ep, hl, hgo⟩ := hs n γ2 hn q1
    obtain ⟨ys, hy, okY, _⟩ := q3.atL ei ep
    have hly := okL_len okY
    by_cases hlt : n < N
    · obtain ⟨si, es, hg⟩ := hgo hlt
      obtain ⟨y, ey, oky⟩ := okL_get okY es
      refine .inr ⟨⟨ys, y, SqL.of hy, ey⟩, fun σ' H' => ∃ γ2 G2, I (n + 1) γ2 ∧ Vw.Le G1 G2 ∧ At K F G0 γ2 σ' H' G2, fun σ' H' z => ⟨N - (n + 1), by omega, rfl, hlt, z⟩, fun x H' yl => ?_⟩
      obtain ⟨T, x', rfl, nT, rfl, yl⟩ := yl
      have e2 := yl ys (SqL.of hy)
      rw [ey] at e2
      cases e2
      have a3 := (q3.up (same_upd (o := .tup [.int (n : Nat), y]) nT)).addT (p := T) (vs := [.int (n : Nat), y]) (SqT.of upd_same)
      refine hg σ2 _ _ (.ref T) _ a3 ⟨T, _, rfl, .inr ⟨rfl, rfl⟩, _, _, rfl, rfl, _, [], rfl, si.ptr.mono (G2.leT T _) (ptr_ok oky), rfl⟩ fun γ3 σ3 H3 G4 h3 l3 a4 => ?_
      have l4 := q2.trans ((G2.leT T _).trans l3)
      exact h3 _ σ3 H3 G4 a4 ⟨fun γ' σ' H' G' z l a' => ⟨γ', G', z, l4.trans l, a'⟩, fun A γ' σ' v H' G' z l => s.rt A γ' σ' v H' G' z (l1.trans (l4.trans l)), fun As γ' σ' w vs H' G' z l => s.ro As γ' σ' w vs H' G' z (l1.trans (l4.trans l)), fun γ' σ' H' G' z l => s.nx γ' σ' H' G' z (l1.trans (l4.trans l)), fun γ' σ' H' G' z l a' => ⟨γ', G', z, l4.trans l, a'⟩, fun S γ' σ' v H' G' z l => s.rn S γ' σ' v H' G' z (l1.trans (l4.trans l))⟩
    · have en : n = N := by omega
      subst en
      exact .inl ⟨⟨ys, SqL.of hy, by rw [hly, hl]; exact Nat.le_refl _⟩, s.nx γ2 σ2 H2 G2 (hd γ2 q1) (l1.trans q2) q3⟩
/-- self.f = e, a new field or field j -/
theorem gs_fld {C f : Str} {i : Nat} (j : Nat) (c : Cls K (He.ga K C)) (n : NoAttr K (He.ga K C) f) (h : GN K F G0 tv γ fun T γ1 => ∃ a dx ns ss, γ1[i]? = some (.tr (.q a (.ins dx C ns) ss)) ∧ ns.length < 900 ∧ ((f ∉ ns ∧ ks.nx (γ1.set i (.tr (.q a (.ins dx C (ns ++ [f])) (ss ++ [T]))))) ∨ (FirstAt ns j f ∧ j < ss.length ∧ ks.nx (γ1.set i (.tr (.q a (.ins dx C ns) (ss.set j T))))))) : GS K F G0 (sFld K (tVar i) tv f) γ ks := fun D σ H G a s =>
  h σ H G _ a fun T γ1 y H1 G1 ⟨b, dx, ns, ss, e, hn, hq⟩ l1 a1 ok nd fr => by
    obtain ⟨v, e1, okS, _⟩ := a1.trAt e
    rw [Sh.ok] at okS
    obtain ⟨rfl, fa, na, xs, ⟨hx, hl, _⟩, okL⟩ := okS
    refine ⟨_, e1, b, G1.k C, dx, ns.zip xs, rfl, hx, by rw [a1.see.k]; exact c, by rw [a1.see.k]; exact n, by rw [List.length_zip]; omega, ?_⟩
    rcases hq with ⟨hf, q⟩ | ⟨hf, hj, q⟩
    · rw [putF_new hf hl]
      refine s.nx _ _ _ G1 q l1 (a1.putIns e ok nd fr hx okL (take_len hl f y) (fun h1 h2 => okL_append h1 ?_) fun h1 h2 => ?_)
      · rw [Sh.okL]
        exact ⟨y, [], rfl, h2, by rw [Sh.okL]⟩
      · have e3 : Sh.adsL (ss ++ [T]) = Sh.adsL ss ++ T.ads := by rw [adsL_append, Sh.adsL, Sh.adsL, List.append_nil]
        rw [e3]
        exact ⟨List.nodup_append.mpr ⟨h1, nd, fun u hu w hw z => h2 w hw (z ▸ hu)⟩, fun c hc => (List.mem_append.mp hc).symm⟩
    · rw [putF_old hf hl]
      refine s.nx _ _ _ G1 q l1 (a1.putIns e ok nd fr hx okL (by rw [List.length_set]; exact hl) (fun h1 h2 => okL_setV h2 h1) fun h1 h2 => ?_)
      obtain ⟨i1, i2⟩ := adsL_setW (List.getElem?_eq_getElem hj) h1 nd fun b hb => .inr (h2 b hb)
      exact ⟨i1, i2⟩
theorem gs_seqF {f : Str} {us : TS} (h : GS K F G0 (sFld K ta tv f) γ (ks.nxt fun γ1 => NX K F G0 us γ1 ks)) : GS K F G0 (tSeq (sFld K ta tv f) us) γ ks := gs_seq h
theorem at_gb {k : Sh → List Sl → Prop} (h : GB K F G0 te γ k) : GB K F G0 te γ k := h
theorem ge_fldV {f : Str} {k : AV → List Sl → Prop} (h : GB K F G0 (tFld K ta f) γ fun S γ1 => ∃ A, S = .v A ∧ k A γ1) : GE K F G0 (tFld K ta f) γ k := ge_gb h
end
/-! ### the head's facts of a class -/
def clB (K : PySem.W.Frag) (x : Str) : Bool := PySem.W.plainGet K (He.ga K x) Str.empty && PySem.W.hasDictIn K (He.ga K x) && PySem.W.plainOver K (He.ga K x) && decide (PySem.W.findIn K (.ref (He.ga K x)) "__setattr__" = some (some (.builtin "object.__setattr__")))
theorem clB_ok {K : PySem.W.Frag} {x : Str} (h : clB K x = true) : Cls K (He.ga K x) := by
  unfold clB at h
  simp only [Bool.and_eq_true] at h
  exact ⟨h.1.1.1, h.1.1.2, h.1.2, of_decide_eq_true h.2⟩
def meB (K : PySem.W.Frag) (x m : Str) : Bool := match PySem.W.findIn K (.ref (He.ga K x)) m with
  | some (some (.ref f)) => PySem.W.isFn K (.ref f)
  | _ => false
theorem meB_ok {K : PySem.W.Frag} {x m : Str} (h : meB K x m = true) : PySem.W.findIn K (.ref (He.ga K x)) m = some (some (.ref (He.ma K (He.ga K x) m))) ∧ PySem.W.isFn K (.ref (He.ma K (He.ga K x) m)) = true := by
  unfold meB at h
  unfold He.ma
  split at h
  · rename_i f e
    rw [e]
    exact ⟨rfl, h⟩
  · cases h
def mkB (K : PySem.W.Frag) (x : Str) : Bool := PySem.W.makesIn K (He.ga K x) && PySem.W.keepIn K (.ref (He.ga K x)) && meB K x "__init__"
theorem mkB_ok {K : PySem.W.Frag} {x : Str} (h : mkB K x = true) : Mk K (He.ga K x) (He.ma K (He.ga K x) "__init__") := by
  unfold mkB at h
  simp only [Bool.and_eq_true] at h
  exact ⟨h.1.1, (meB_ok h.2).1, (meB_ok h.2).2, h.1.2⟩
/-- what is never called: the ground of a recursion -/
theorem calM_none {P : Program} {w : World} {K : PySem.W.Frag} {mg : Str → Option Value} {base : Heap} {n : Nat} {C m q : Str} {st : Stmt} {ps : List Str} {D : Cw} (M : StdM K C m q st ps) (h : ∀ S As R RN RE, ¬ D S As R RN RE) : CalM P w K mg base n C m ps (spW K D) := by
  obtain ⟨f, fd, hm, F, hbd⟩ := M.ex
  refine ⟨⟨f, fd, ⟨fun vs H Q E h2 => ?_, fun A outer s H args us vs Q E hr e0 hb r h2 => ?_⟩, hm, hbd⟩, fun vs H Q E h2 => ?_⟩
  · obtain ⟨S, As, R, RN, RE, G, a, r, hc, _⟩ := h2
    exact (h _ _ _ _ _ hc).elim
  · obtain ⟨S, As, R, RN, RE, G, a, r, hc, _⟩ := h2
    exact (h _ _ _ _ _ hc).elim
  · obtain ⟨S, As, R, RN, RE, G, a, r, hc, _⟩ := h2
    exact (h _ _ _ _ _ hc).elim
end Rl

/-! # the best cut; a new thing's parts: indexed, unpacked -/
namespace Rl
open PySem PySem.Spec PyProof.Rows L2
theorem mem_allF {p : Nat} {i j : Nat} (hij : i ≤ j) (hj : j < p) : ((((i : Nat) : Int), ((j : Nat) : Int)) : Int × Int) ∈ allCuts p := by
  refine List.mem_flatMap.mpr ⟨i, List.mem_range.mpr (by omega), List.mem_map.mpr ⟨(j : Int), ?_, rfl⟩⟩
  unfold upFrom
  exact List.mem_map.mpr ⟨j - i, List.mem_range.mpr (by omega), by omega⟩
theorem bst_ge (f : Int × Int → Rat) (cs : List (Int × Int)) : ∀ k, k ≤ cs.length → ∀ c, c ∈ cs.take k → f c ≤ f (bst f cs k)
  | 0, _, c, hc => by rw [List.take_zero] at hc; cases hc
  | k + 1, hk, c, hc => by
    have ih := bst_ge f cs k (by omega)
    have e : cs.take (k + 1) = cs.take k ++ [cs[k]] := by rw [List.take_add_one, List.getElem?_eq_getElem (by omega)]; rfl
    have eg : cs.getD k (0, 0) = cs[k] := by rw [List.getD_eq_getElem?_getD, List.getElem?_eq_getElem (by omega)]; rfl
    show f c ≤ f (if f (bst f cs k) < f (cs.getD k (0, 0)) then cs.getD k (0, 0) else bst f cs k)
    rw [eg]
    rw [e] at hc
    rcases List.mem_append.mp hc with hc | hc
    · have := ih c hc
      split <;> grind
    · rw [List.mem_singleton.mp hc]
      split <;> grind
theorem bst_isin {p : Nat} (hp : 0 < p) (f : Int × Int → Rat) : ∀ k, k ≤ (allCuts p).length → bst f (allCuts p) k ∈ allCuts p
  | 0, _ => mem_allF (i := 0) (j := 0) (Nat.le_refl _) hp
  | k + 1, hk => by
    have ih := bst_isin hp f k (by omega)
    have eg : (allCuts p).getD k (0, 0) = (allCuts p)[k] := by rw [List.getD_eq_getElem?_getD, List.getElem?_eq_getElem (by omega)]; rfl
    show (if f (bst f (allCuts p) k) < f ((allCuts p).getD k (0, 0)) then (allCuts p).getD k (0, 0) else bst f (allCuts p) k) ∈ allCuts p
    rw [eg]
    split
    · exact List.getElem_mem _
    · exact ih
abbrev bestS (rooms : List Rat) (asks : List Ask) : Rat := shownR rooms asks (bst (shownR rooms asks) (allCuts rooms.length) (allCuts rooms.length).length)
theorem dl_over {p : Nat} {a : Ask} (h1 : a.one < p) (h2 : a.other < p) {i j : Nat} (hij : i ≤ j) (hj : j < p) (h : apartB (((i : Nat) : Int), ((j : Nat) : Int)) a.one a.other = true) : overB p a.one a.other true i = !overB p a.one a.other true j := by
  rw [over_lin h1 h2 (show i < p by omega), over_lin h1 h2 hj]
  unfold apartB withinB at h
  simp only at h
  rw [Bool.eq_iff_iff]
  simp only [Bool.not_eq_true', decide_eq_false_iff_not, Bool.and_eq_decide, decide_eq_true_eq, decide_eq_decide] at h ⊢
  split <;> split <;> split <;> omega
theorem dl_term {p : Nat} {a : Ask} (h1 : a.one < p) (h2 : a.other < p) {i j : Nat} (hij : i ≤ j) (hj : j < p) {x : Rat} (x0 : 0 ≤ x) (x1 : x ≤ a.size) : (if apartB (((i : Nat) : Int), ((j : Nat) : Int)) a.one a.other = true then a.size else 0) ≤ term p a x i + term p a x j := by
  by_cases h : apartB (((i : Nat) : Int), ((j : Nat) : Int)) a.one a.other = true
  · rw [if_pos h]
    have e := dl_over h1 h2 hij hj h
    unfold term
    rw [e]
    cases overB p a.one a.other true j
    · simp
      grind
    · simp
      grind
  · rw [if_neg h]
    unfold term
    split <;> split <;> grind
theorem dl_across {p : Nat} {asks : List Ask} {parts : List Rat} (hl : parts.length = asks.length) (hd : ∀ q, q ∈ asks → q.one < p ∧ q.other < p ∧ q.one ≠ q.other) (hb : ∀ a, a ∈ asks.zip parts → 0 ≤ a.2 ∧ a.2 ≤ a.1.size) {i j : Nat} (hij : i ≤ j) (hj : j < p) : ∀ k, k ≤ parts.length → acrossTo asks (((i : Nat) : Int), ((j : Nat) : Int)) k ≤ loadAt p asks parts k i + loadAt p asks parts k j
  | 0, _ => by
    show (0 : Rat) ≤ 0 + 0
    rw [Rat.add_zero]
    exact Rat.le_refl
  | k + 1, hk => by
    have ih := dl_across hl hd hb hij hj k (by omega)
    have ha : k < asks.length := by omega
    obtain ⟨d1, d2, _⟩ := hd _ (List.getElem_mem ha)
    have hz : k < (asks.zip parts).length := by rw [List.length_zip]; omega
    have hm := hb _ (List.getElem_mem hz)
    rw [List.getElem_zip] at hm
    have ht := dl_term d1 d2 hij hj hm.1 hm.2
    rw [acrossTo_succ (List.getElem?_eq_getElem ha), loadAt_succ ha (by omega), loadAt_succ ha (by omega)]
    grind
theorem cutF_nat {p : Nat} {c : Int × Int} (hc : c ∈ allCuts p) : ∃ i j : Nat, c = (((i : Nat) : Int), ((j : Nat) : Int)) ∧ i ≤ j ∧ j < p := by
  obtain ⟨c0, c1, c2⟩ := mem_cutsTo hc (Nat.le_refl _)
  obtain ⟨ci, cj⟩ := c
  obtain ⟨i, rfl⟩ := Int.eq_ofNat_of_zero_le c0
  obtain ⟨j, rfl⟩ := Int.eq_ofNat_of_zero_le (Int.le_trans c0 c1)
  have c1 : ((i : Nat) : Int) ≤ (j : Nat) := c1
  have c2 : ((j : Nat) : Int) < (p : Nat) := c2
  exact ⟨i, j, rfl, by omega, by omega⟩
/-- no cut shows more than what loads keep -/
theorem shown_le {rooms : List Rat} {asks : List Ask} {parts : List Rat} {t : Rat} (hl : parts.length = asks.length) (hd : ∀ q, q ∈ asks → q.one < rooms.length ∧ q.other < rooms.length ∧ q.one ≠ q.other) (hb : ∀ i (h1 : i < asks.length) (h2 : i < parts.length), 0 ≤ parts[i] ∧ parts[i] ≤ asks[i].size) (hr : ∀ x, x ∈ rooms → 0 < x) (hL : ∀ i (h : i < rooms.length), loadAt rooms.length asks parts asks.length i ≤ t * rooms[i]) {c : Int × Int} (hc : c ∈ allCuts rooms.length) : shownR rooms asks c ≤ t := by
  obtain ⟨i, j, rfl, hij, hj⟩ := cutF_nat hc
  have hi : i < rooms.length := by omega
  have h := dl_across hl hd (fun a ha => by
    obtain ⟨k, hk, rfl⟩ := List.mem_iff_getElem.mp ha
    rw [List.getElem_zip]
    exact hb k (by rw [List.length_zip] at hk; omega) (by rw [List.length_zip] at hk; omega)) hij hj parts.length (Nat.le_refl _)
  rw [hl, acrossTo_all] at h
  rw [← shown_get hi hj]
  have h1 := hL i hi
  have h2 := hL j hj
  have r1 := hr _ (List.getElem_mem hi)
  have r2 := hr _ (List.getElem_mem hj)
  generalize acrossR asks (((i : Nat) : Int), ((j : Nat) : Int)) = x at *
  generalize loadAt rooms.length asks parts asks.length i = a at *
  generalize loadAt rooms.length asks parts asks.length j = b at *
  generalize rooms[i] = r at *
  generalize rooms[j] = s at *
  have rs : 0 < r + s := by grind
  refine Rat.not_lt.mp fun hlt => ?_
  have h3 : t * (r + s) < x / (r + s) * (r + s) := Rat.mul_lt_mul_of_pos_right hlt rs
  rw [Rat.div_mul_cancel (by grind)] at h3
  grind
theorem best_le {rooms : List Rat} {asks : List Ask} {parts : List Rat} {t : Rat} (hp : 0 < rooms.length) (hl : parts.length = asks.length) (hd : ∀ q, q ∈ asks → q.one < rooms.length ∧ q.other < rooms.length ∧ q.one ≠ q.other) (hb : ∀ i (h1 : i < asks.length) (h2 : i < parts.length), 0 ≤ parts[i] ∧ parts[i] ≤ asks[i].size) (hr : ∀ x, x ∈ rooms → 0 < x) (hL : ∀ i (h : i < rooms.length), loadAt rooms.length asks parts asks.length i ≤ t * rooms[i]) : bestS rooms asks ≤ t :=
  shown_le hl hd hb hr hL (bst_isin hp _ _ (Nat.le_refl _))
section
variable {K : PySem.W.Frag} {F : Hp} {G0 : Vw} {γ : List Sl} {te : TE} {ks : KS}
theorem adsL_subl : ∀ {ss : List Sh} {m : Nat} {s : Sh}, ss[m]? = some s → s.ads.Sublist (Sh.adsL ss)
  | [], m, s, h => by simp at h
  | x :: ss, 0, s, h => by
    have : x = s := by simpa using h
    subst this
    rw [Sh.adsL]
    exact List.sublist_append_left _ _
  | x :: ss, m + 1, s, h => by
    rw [Sh.adsL]
    exact (adsL_subl (ss := ss) (m := m) (by simpa using h)).trans (List.sublist_append_right _ _)
theorem atI_get {α : Type} {xs : List α} {j : Int} {x : α} (e : atI xs j = some x) : ∃ m : Nat, xs[m]? = some x := by
  unfold atI at e
  cases hj : ixN xs.length j with
  | none => rw [hj] at e; cases e
  | some m => rw [hj] at e; exact ⟨m, e⟩
theorem its_subl {S S' : Sh} {j : Int} (e : atI S.its j = some S') : S'.ads.Sublist S.ads := by
  obtain ⟨m, h⟩ := atI_get e
  cases S with
  | v A => have h : ([] : List Sh)[m]? = some S' := h; simp at h
  | t ss => rw [Sh.ads]; exact adsL_subl h
  | l a ss => rw [Sh.ads]; exact (adsL_subl (ss := ss) h).trans (List.sublist_cons_self _ _)
  | q a m' ss => have h : ([] : List Sh)[m]? = some S' := h; simp at h
/-- a part of a new thing: the rest is dropped -/
theorem gn_ixC {j : Int} {k : Sh → List Sl → Prop} (h : GN K F G0 te γ fun S γ1 => ∃ S', atI S.its j = some S' ∧ k S' γ1) : GN K F G0 (tOp (rIx K) te (tC (.int j))) γ k := fun σ H G Q a z =>
  h σ H G _ a fun S γ1 v H1 G1 ⟨S', e, q⟩ l1 a1 ok nd fr => ok_ix a1.see ok e Q fun w hw => z S' γ1 w H1 G1 q l1 a1 hw ((its_subl e).nodup nd) fun b hb => fr b ((its_subl e).subset hb)
theorem sl_ok {H : Hp} {G : Vw} {S : Sh} {v : V} (ok : S.ok F H G v) (nd : S.ads.Nodup) : slOk F H G S.sl (some v) := by
  cases S with
  | v A => rw [Sh.ok] at ok; exact ⟨v, rfl, ok⟩
  | t ss => exact ⟨v, rfl, ok, nd⟩
  | l a ss => exact ⟨v, rfl, ok, nd⟩
  | q a m ss => exact ⟨v, rfl, ok, nd⟩
def GGsN (K : PySem.W.Frag) (F : Hp) (G0 : Vw) (u : TGs) (ss : List Sh) (γ : List Sl) (kg : List Sl → Prop) : Prop := ∀ σ H G vs Q, At K F G0 γ σ H G → Sh.okL F H G ss vs → (Sh.adsL ss).Nodup → (∀ b, b ∈ Sh.adsL ss → Free γ b) → (∀ γ' σ' H' G', kg γ' → Vw.Le G G' → At K F G0 γ' σ' H' G' → Q σ' H') → u vs σ H Q
theorem ggn_nil {kg : List Sl → Prop} (q : kg γ) : GGsN K F G0 gNil [] γ kg := fun σ H G vs Q a ok nd fr z => by
  rw [Sh.okL] at ok
  exact ⟨ok, z γ σ H G q (.refl G) a⟩
theorem ggn_cons {i : Nat} {u : TGs} {s : Sh} {ss : List Sh} {kg : List Sl → Prop} (h : GGsN K F G0 u ss (γ.set i s.sl) kg) : GGsN K F G0 (gCons (gName i) u) (s :: ss) γ kg := fun σ H G vs Q a ok nd fr z => by
  rw [Sh.okL] at ok
  rw [Sh.adsL] at nd fr
  obtain ⟨x, r, rfl, p, q⟩ := ok
  have n1 := (List.nodup_append.mp nd)
  have a1 := At.set a (i := i) (S := s.sl) (v := x) (sl_ok p n1.1) fun b hb => fr b (List.mem_append_left _ (sl_ads hb))
  exact ⟨x, r, rfl, h (σ.set i (some x)) H G r Q a1 q n1.2.1 (fun b hb => free_set (fr b (List.mem_append_right _ hb)) fun hc => n1.2.2 b (sl_ads hc) b hb rfl) z⟩
/-- a new tuple is unpacked into names -/
theorem gs_asgN {n : Nat} {u : TGs} (h : GN K F G0 te γ fun S γ1 => ∃ ss, S = .t ss ∧ ss.length = n ∧ GGsN K F G0 u ss γ1 ks.nx) : GS K F G0 (tAsg te (gTup K n u)) γ ks := fun D σ H G a s =>
  h σ H G _ a fun S γ1 v H1 G1 ⟨ss, e, hn, hg⟩ l1 a1 ok nd fr => by
    subst e
    rw [Sh.ok] at ok
    rw [Sh.ads] at nd fr
    obtain ⟨b, xs, rfl, ht, hv⟩ := ok
    exact ⟨b, xs, rfl, a1.see.t b xs ht, by rw [okL_len hv, hn], hg σ H1 G1 xs _ a1 hv nd fr fun γ' σ' H' G' q l2 a2 => s.nx γ' σ' H' G' q (l1.trans l2) a2⟩
end
end Rl

/-! # lists of ints: least and greatest, places written -/
namespace Rl
open PySem PySem.Spec PyProof.Rows L2
section
variable {K : PySem.W.Frag} {F : Hp} {G0 : Vw} {γ : List Sl} {k : AV → List Sl → Prop}
theorem n_maxL {xs : List Int} (hne : 0 < xs.length) (h : ∀ m, m ∈ xs → (∀ y, y ∈ xs → y ≤ m) → k (aInt m) γ) : ON K F G0 (L2.rMax K) [aL aInt xs] γ k := fun σ H G vs Q a p z => by
  obtain ⟨v, r, rfl, ⟨b, ws, rfl, ht, hv⟩, rfl⟩ := p
  have e := avs_flat (f := fun x => V.int x) hv
  subst e
  exact ⟨b, xs, rfl, a.see.seq (.inl ht), hne, fun m h1 h2 => z _ γ _ H G (h m h1 h2) (.refl G) a rfl⟩
theorem n_minL {xs : List Int} (hne : 0 < xs.length) (h : ∀ m, m ∈ xs → (∀ y, y ∈ xs → m ≤ y) → k (aInt m) γ) : ON K F G0 (L2.rMin K) [aL aInt xs] γ k := fun σ H G vs Q a p z => by
  obtain ⟨v, r, rfl, ⟨b, ws, rfl, ht, hv⟩, rfl⟩ := p
  have e := avs_flat (f := fun x => V.int x) hv
  subst e
  exact ⟨b, xs, rfl, a.see.seq (.inl ht), hne, fun m h1 h2 => z _ γ _ H G (h m h1 h2) (.refl G) a rfl⟩
theorem n_sumL {xs : List Int} (q : k (aInt xs.sum) γ) : ON K F G0 (L2.rSum K) [aL aInt xs] γ k := fun σ H G vs Q a p z => by
  obtain ⟨v, r, rfl, ⟨b, ws, rfl, ht, hv⟩, rfl⟩ := p
  have e := avs_flat (f := fun x => V.int x) hv
  subst e
  exact ⟨b, xs, rfl, a.see.seq (.inl ht), z _ γ _ H G q (.refl G) a rfl⟩
end
theorem set_rangeG {α : Type} {p : Nat} {f g : Nat → α} {j : Nat} {x : α} (hx : x = g j) (hne : ∀ t, t < p → t ≠ j → f t = g t) : ((List.range p).map f).set j x = (List.range p).map g := by
  refine List.ext_getElem (by simp) fun i h1 h2 => ?_
  rw [List.getElem_set]
  simp only [List.length_set, List.length_map, List.length_range] at h1
  split
  · next e =>
    subst e
    simp [hx]
  · next e =>
    simp only [List.getElem_map, List.getElem_range]
    exact hne i h1 (Ne.symm e)
theorem get_rangeG {α : Type} {p : Nat} {f : Nat → α} {j : Nat} (h : j < p) : atI ((List.range p).map f) (j : Int) = some (f j) := by
  refine atI_nat ?_
  rw [List.getElem?_map, List.getElem?_range h]
  rfl
/-- the greatest of f 0 .. f n -/
def maxTo (f : Nat → Int) : Nat → Int
  | 0 => f 0
  | n + 1 => max (maxTo f n) (f (n + 1))
theorem maxTo_ge (f : Nat → Int) : ∀ n t, t ≤ n → f t ≤ maxTo f n
  | 0, t, h => by
    have : t = 0 := by omega
    subst this
    exact Int.le_refl _
  | n + 1, t, h => by
    show f t ≤ max (maxTo f n) (f (n + 1))
    by_cases e : t = n + 1
    · subst e
      omega
    · have := maxTo_ge f n t (by omega)
      omega
theorem maxTo_is (f : Nat → Int) : ∀ n, ∃ t, t ≤ n ∧ maxTo f n = f t
  | 0 => ⟨0, Nat.le_refl _, rfl⟩
  | n + 1 => by
    obtain ⟨t, ht, e⟩ := maxTo_is f n
    show ∃ t, t ≤ n + 1 ∧ max (maxTo f n) (f (n + 1)) = f t
    by_cases h : maxTo f n ≤ f (n + 1)
    · exact ⟨n + 1, Nat.le_refl _, by omega⟩
    · exact ⟨t, by omega, by omega⟩
theorem maxTo_one {f : Nat → Int} {n : Nat} {m : Int} (h1 : m ∈ (List.range (n + 1)).map f) (h2 : ∀ y, y ∈ (List.range (n + 1)).map f → y ≤ m) : m = maxTo f n := by
  obtain ⟨t, ht, rfl⟩ := List.mem_map.mp h1
  have ht := List.mem_range.mp ht
  have a := maxTo_ge f n t (by omega)
  obtain ⟨u, hu, e⟩ := maxTo_is f n
  have b := h2 (f u) (List.mem_map.mpr ⟨u, List.mem_range.mpr (by omega), rfl⟩)
  omega
end Rl

/-! # dicts that are made and then only read -/
namespace Rl
open PySem PySem.Spec PyProof.Rows L2
/-- the dict that an expression makes is locked for good -/
def tDFz (te : TE) : TE := fun σ H Q => te σ H fun x H1 => ∃ p kvs, x = .ref p ∧ H1 p = some (.dK kvs) ∧ ∀ od, Q (.ref p) (upd H1 p (.frz od (.dK kvs)))
theorem pe_dfz {X : Cx} {e : Expr} {te : TE} (h : PE X e te) : PE X e (tDFz te) := ⟨fun pins s σ H Q I q => thn (h.run pins s σ H _ I q) fun u s1 ⟨x, H1, I1, rx, p, kvs, ex, e1, q1⟩ => by
  subst ex
  obtain ⟨od, I2⟩ := I1.lock e1 True.intro
  exact ⟨_, _, I2, rx, q1 od⟩⟩
section
variable {K : PySem.W.Frag} {F : Hp} {G0 : Vw} {γ : List Sl} {k : AV → List Sl → Prop}
theorem fz_new {σ : L2.St} {H : Hp} {G : Vw} {Q : VK} {kvs : List (Key × V)} (a : At K F G0 γ σ H G) {p : Addr} (np : H p = none) (q : k (aDk kvs) γ) (z : ∀ A γ' v H' G', k A γ' → Vw.Le G G' → At K F G0 γ' σ H' G' → A.p G' v → Q v H') (od : Obj) : Q (.ref p) (upd H p (.frz od (.dK kvs))) :=
  z _ γ _ _ (G.addH p (.frz od (.dK kvs))) q (G.leH p _) (a.newH np True.intro) ⟨p, od, rfl, .inr ⟨rfl, rfl⟩⟩
theorem ge_d0 (q : k (aDk []) γ) : GE K F G0 (tDFz tDNewK) γ k := fun σ H G Q a z p np => by
  refine ⟨p, [], rfl, upd_same, fun od => ?_⟩
  rw [upd_upd]
  exact fz_new a np q z od
theorem ge_d1 {key : Key} {x v : V} (hx : x = kV key) (q : k (aDk [(key, v)]) γ) : GE K F G0 (tDFz (tDisp [(tC x, tC v)])) γ k := fun σ H G Q a z p np => by
  subst hx
  refine ⟨upd_same, [(key, v)], rfl, Nat.le_of_ble_eq_true rfl, p, [(key, v)], rfl, upd_same, fun od => ?_⟩
  rw [upd_upd, upd_upd]
  exact fz_new a np q z od
theorem o_leS {i j : Str} (q : k (aB (!decide (j.cps.toList < i.cps.toList))) γ) : O2 K F G0 (fun x y H Q => ∃ i j, x = .str i ∧ y = .str j ∧ Q (.bl (!decide (j.cps.toList < i.cps.toList))) H) (aS i) (aS j) γ k := o2_pure (fun H G x y Q s p1 p2 z => by
  have e1 : x = V.str i := p1
  have e2 : y = V.str j := p2
  subst e1; subst e2
  exact ⟨i, j, rfl, rfl, z _ rfl⟩) q
end
theorem one_lt (a c : Nat) : (!decide (([a] : List Nat) < [c])) = decide (c ≤ a) := by
  rw [Bool.eq_iff_iff, Bool.not_eq_true', decide_eq_false_iff_not, decide_eq_true_iff]
  constructor
  · intro h
    exact Nat.not_lt.mp fun z => h (List.Lex.rel z)
  · intro h z
    cases z with
    | rel z => omega
    | cons z => cases z
/-! ### data of bounded size -/
mutual
def Dt.sm : Dt → Prop
  | .i z => z.natAbs < 2 ^ 300
  | .s x => x.length ≤ 1000 ∧ PyData.strOk x = true
  | .b _ => True
  | .n => True
  | .t ds => ds.length ≤ 1000 ∧ Dt.sms ds
  | .l ds => ds.length ≤ 1000 ∧ Dt.sms ds
  | .k _ => True
def Dt.sms : List Dt → Prop
  | [] => True
  | d :: ds => d.sm ∧ Dt.sms ds
end
theorem sms_mem : ∀ {ds : List Dt} {d : Dt}, Dt.sms ds → d ∈ ds → d.sm
  | e :: ds, d, h, hd => by
    rw [Dt.sms] at h
    rcases List.mem_cons.mp hd with rfl | hd
    · exact h.1
    · exact sms_mem h.2 hd
def Sm (A : AV) : Prop := ∃ d : Dt, d.sm ∧ A = aD d
def Sms (As : List AV) : Prop := ∃ ds : List Dt, Dt.sms ds ∧ As = ds.map aD
theorem sm_i {i : Int} (h : i.natAbs < 2 ^ 300) : Sm (aInt i) := ⟨.i i, by rw [Dt.sm]; exact h, (aD_i i).symm⟩
theorem sm_s {x : Str} (h : x.length ≤ 1000) (g : PyData.strOk x = true) : Sm (aS x) := ⟨.s x, by rw [Dt.sm]; exact ⟨h, g⟩, (aD_s x).symm⟩
theorem signs_ok {codes : List Nat} (h : ∀ c, c ∈ codes → c < 1000) : PyData.strOk ⟨codes.toArray⟩ = true := by
  unfold PyData.strOk
  rw [← Array.all_toList, List.all_eq_true]
  intro c hc
  have := h c hc
  exact decide_eq_true (by omega)
theorem sm_b (x : Bool) : Sm (aB x) := ⟨.b x, by rw [Dt.sm]; trivial, (aD_b x).symm⟩
theorem sm_n : Sm aN := ⟨.n, by rw [Dt.sm]; trivial, aD_n.symm⟩
theorem sm_k (kvs : List (Key × V)) : Sm (aDk kvs) := ⟨.k kvs, by rw [Dt.sm]; trivial, (aD_k kvs).symm⟩
theorem sms_nil : Sms [] := ⟨[], by rw [Dt.sms]; trivial, rfl⟩
theorem sms_cons {A : AV} {As : List AV} (h : Sm A) (t : Sms As) : Sms (A :: As) := by
  obtain ⟨d, h1, rfl⟩ := h
  obtain ⟨ds, h2, rfl⟩ := t
  exact ⟨d :: ds, by rw [Dt.sms]; exact ⟨h1, h2⟩, rfl⟩
theorem sms_map {α : Type} {f : α → AV} : ∀ {xs : List α}, (∀ x, x ∈ xs → Sm (f x)) → Sms (xs.map f)
  | [], _ => sms_nil
  | x :: xs, h => sms_cons (h x (List.mem_cons_self ..)) (sms_map fun y hy => h y (List.mem_cons_of_mem _ hy))
theorem sms_append {As Bs : List AV} : Sms As → Sms Bs → Sms (As ++ Bs) := by
  rintro ⟨ds, h, rfl⟩ ⟨es, g, rfl⟩
  refine ⟨ds ++ es, ?_, by rw [List.map_append]⟩
  induction ds with
  | nil => exact g
  | cons d ds ih =>
    rw [Dt.sms] at h
    show Dt.sms (d :: (ds ++ es))
    rw [Dt.sms]
    exact ⟨h.1, ih h.2⟩
theorem sms_mem' {As : List AV} (h : Sms As) {A : AV} (hA : A ∈ As) : Sm A := by
  obtain ⟨ds, h, rfl⟩ := h
  obtain ⟨d, hd, rfl⟩ := List.mem_map.mp hA
  exact ⟨d, sms_mem h hd, rfl⟩
theorem sm_t {As : List AV} (h : Sms As) (hl : As.length ≤ 1000) : Sm (aTup As) := by
  obtain ⟨ds, h, rfl⟩ := h
  exact ⟨.t ds, by rw [Dt.sm]; exact ⟨by rw [List.length_map] at hl; exact hl, h⟩, (aD_t ds).symm⟩
theorem sm_l {As : List AV} (h : Sms As) (hl : As.length ≤ 1000) : Sm (aLst As) := by
  obtain ⟨ds, h, rfl⟩ := h
  exact ⟨.l ds, by rw [Dt.sm]; exact ⟨by rw [List.length_map] at hl; exact hl, h⟩, (aD_l ds).symm⟩
/-- one of some, by its place -/
theorem ix_sm {As : List AV} {r : Int} (h : Sms As) (h0 : 0 ≤ r) (h1 : r < As.length) : ∃ A, atI As r = some A ∧ Sm A := by
  obtain ⟨A, e1, e2⟩ := ixNat h0 h1
  exact ⟨A, e1, sms_mem' h (List.mem_of_getElem? e2)⟩
theorem o_ixSm {K : PySem.W.Frag} {F : Hp} {G0 : Vw} {γ : List Sl} {k : AV → List Sl → Prop} {As : List AV} {r n : Int} (h : Sms As) (h0 : 0 ≤ r) (h1 : r < n) (hn : (As.length : Int) = n) (q : ∀ A, Sm A → k A γ) : O2 K F G0 (rIx K) (aLst As) (aInt r) γ k := by
  obtain ⟨A, e, hA⟩ := ix_sm h h0 (by omega)
  exact o_ixL e (q A hA)
end Rl

/-! # own lists are lent to a call that may refuse; rings as data -/
namespace Rl
open PySem PySem.Spec PyProof.Rows L2
section
variable {K : PySem.W.Frag} {F : Hp} {G0 : Vw} {γ : List Sl} {k : AV → List Sl → Prop} {ks : KS}
theorem XF.lent {G : Vw} {d : Option Addr} {Fs : List (Str × AV)} (h : XF G d Fs) (l : Lfs (Fs.map (·.2))) : XF (unlent γ G) d Fs := by
  cases d with
  | none => exact h
  | some dd =>
    obtain ⟨fs, h1, h2, h3⟩ := h
    exact ⟨fs, h1, h2, avs.mono (G := ⟨G.t, fun _ _ => False, fun _ _ => False, G.h, G.k⟩) (G' := unlent γ G) ⟨fun _ _ h => h, fun _ _ h => False.elim h, fun _ _ h => False.elim h, fun _ _ h => h, rfl⟩ (lf_avs l h3)⟩
theorem gs_dropCallEL {C : Ce} {E : L2.St → XK} {ta : TA} {kx : Str → List (Str × AV) → List Sl → Prop} (hX : SX K F G0 (fun cls d σ H => E σ cls d H) kx) (h : ∀ F' G0', GA K F' G0' ta (lend γ) fun As _ => C As (fun _ => ks.nx γ) (fun _ => ks.nx γ) (fun y Fs => Lfs (Fs.map (·.2)) ∧ kx y Fs γ)) : GS K F G0 (tDrop (tCallS (spE K C) E ta)) γ ks := fun D σ H G a s =>
  h H _ σ H _ _ a.lendAt fun As γ1 vs H1 G1 h1 l1 a1 p1 => by
    have un : ∀ {H' : Hp} {G' : Vw}, At K H (lentV γ H G) γ1 σ H' G' → Vw.Le G (unlent γ G') ∧ At K F G0 γ σ H' (unlent γ G') := fun b => a.unlend (lent_le γ H G) b fun c ys h => h.imp id fun ⟨_, i, S, e, hb⟩ fr => fr i S e hb
    refine ⟨As, _, _, _, G1, h1, p1, a1.see, fun A v H' G' q le sm see hid pv => ?_, fun S v H' G' q le sm see hid ok nd => ?_, fun y Fs d H' G' q le sm see hid xf => ?_⟩
    · obtain ⟨l2, a2⟩ := un (a1.call le sm see hid)
      exact s.nx γ σ H' _ q l2 a2
    · obtain ⟨l2, a2⟩ := un (a1.call le sm see hid)
      exact s.nx γ σ H' _ q l2 a2
    · obtain ⟨l2, a2⟩ := un (a1.call le sm see hid)
      exact hX.go y Fs γ σ H' (unlent γ G') d q.2 a2 (XF.lent xf q.1)
end
theorem gs_raiseFX {K : PySem.W.Frag} {F : Hp} {G0 : Vw} {γ : List Sl} {ks : KS} {W : WX} {ns : List Str} {x : Str} {names : List Str} {ta : TA} {kx : Str → List (Str × AV) → List Sl → Prop} (hX : SX K F G0 W kx) (T : Xs K ns) (hx : x ∈ ns) (h : GA K F G0 ta γ fun As γ1 => As.length = names.length ∧ As.length ≤ 1000 ∧ kx x (names.zip As).reverse γ1) : GS K F G0 (tRaise W (tMkO (He.ga K x) (spI K (He.ga K x) names) [] ta)) γ ks := gs_raiseF hX (T.c x hx) h
theorem atI_0 {α : Type} (x : α) (xs : List α) : atI (x :: xs) 0 = some x := atI_nat (j := 0) rfl
theorem atI_1 {α : Type} (x y : α) (xs : List α) : atI (x :: y :: xs) 1 = some y := atI_nat (j := 1) rfl
theorem atI_2 {α : Type} (x y z : α) (xs : List α) : atI (x :: y :: z :: xs) 2 = some z := atI_nat (j := 2) rfl
/-! ### rings as data -/
def dF (q : Rat) : Dt := .t [.i q.num, .i (q.den : Nat)]
theorem aD_F (q : Rat) : aD (dF q) = aF q := by
  unfold dF
  rw [aD_t]
  simp only [List.map_cons, List.map_nil, aD_i]
def dAsk (q : Ask) : Dt := .t [.s q.name, .i (q.one : Nat), .i (q.other : Nat), dF q.size]
theorem aD_ask (q : Ask) : aD (dAsk q) = aAsk q := by
  unfold dAsk
  rw [aD_t]
  simp only [List.map_cons, List.map_nil, aD_i, aD_s, aD_F]
theorem aD_Fs (xs : List Rat) : aD (.l (xs.map dF)) = aL aF xs := by
  rw [aD_l, List.map_map]
  exact congrArg aLst (List.map_congr_left fun x _ => aD_F x)
theorem aD_asks (xs : List Ask) : aD (.l (xs.map dAsk)) = aL aAsk xs := by
  rw [aD_l, List.map_map]
  exact congrArg aLst (List.map_congr_left fun x _ => aD_ask x)
theorem aD_ring (rooms : List Rat) (asks : List Ask) : aD (.t [.l (rooms.map dF), .l (asks.map dAsk)]) = aRing rooms asks := by
  rw [aD_t]
  simp only [List.map_cons, List.map_nil, aD_Fs, aD_asks]
/-- the first of some that is not so -/
def firstNot {α : Type} (p : Nat → α → Bool) : List α → Nat → Option Nat
  | [], _ => none
  | x :: xs, i => if p i x then firstNot p xs (i + 1) else some i
def aO : Option Nat → AV
  | none => aN
  | some i => aInt (i : Nat)
theorem lf_aO (o : Option Nat) : Lf (aO o) := by
  cases o <;> exact lf_v _
end Rl

/-! # defs that change their last argument, an own list -/
namespace Rl
open PySem PySem.Spec PyProof.Rows L2
abbrev Cl := List AV → List AV → (AV → List AV → Prop) → (List AV → List AV → Prop) → Prop
def spL (K : PySem.W.Frag) (C : Cl) : Sp := fun vs H Q _ => ∃ S As R RO G l ws r, C S As R RO ∧ vs = r ++ [.ref l] ∧ avs G As r ∧ See K G H ∧ H l = some (.lst ws) ∧ avs G S ws ∧ (∀ ys, ¬ G.l l ys) ∧
  (∀ A S' v H' G' ws', R A S' → Vw.Le G G' → Same (hid1 H l) H' → See K G' H' → (∀ b xs, H b ≠ none → G'.l b xs → G.l b xs) → H' l = some (.lst ws') → avs G' S' ws' → A.p G' v → Q v H') ∧
  (∀ As' S' m vs' H' G' ws', RO As' S' → Vw.Le G G' → Same (hid1 H l) H' → See K G' H' → (∀ b xs, H b ≠ none → G'.l b xs → G.l b xs) → H' l = some (.lst ws') → avs G' S' ws' → H' m = some (.lst vs') → H m = none → (∀ ys, ¬ G'.l m ys) → avs G' As' vs' → Q (.ref m) H')
section
variable {K : PySem.W.Frag} {F : Hp} {G0 : Vw} {γ : List Sl} {ta te : TE} {k : AV → List Sl → Prop} {ks : KS}
/-- values, and an own list behind them -/
def GL (K : PySem.W.Frag) (F : Hp) (G0 : Vw) (t : TA) (γ : List Sl) (k : List AV → Addr → List AV → Nat → List Sl → Prop) : Prop := ∀ σ H G Q, At K F G0 γ σ H G →
  (∀ As l S i γ' vs H' G', k As l S i γ' → γ'[i]? = some (.own l S) → Vw.Le G G' → At K F G0 γ' σ H' G' → avs G' As vs → Q (vs ++ [.ref l]) H') → t σ H Q
theorem gl_last {i : Nat} {k : List AV → Addr → List AV → Nat → List Sl → Prop} (h : ∃ l S, γ[i]? = some (.own l S) ∧ k [] l S i γ) : GL K F G0 (tCons (tVar i) tNil) γ k := fun σ H G Q a z => by
  obtain ⟨l, S, e, q⟩ := h
  obtain ⟨e1, _⟩ := a.ownAt e
  exact ⟨_, e1, z [] l S i γ [] H G q e (.refl G) a rfl⟩
theorem gl_cons {t : TA} {k : List AV → Addr → List AV → Nat → List Sl → Prop} (h : GE K F G0 ta γ fun A γ1 => GL K F G0 t γ1 fun As l S i γ2 => k (A :: As) l S i γ2) : GL K F G0 (tCons ta t) γ k := fun σ H G Q a z =>
  h σ H G _ a fun A γ1 v H1 G1 h1 l1 a1 p1 => h1 σ H1 G1 _ a1 fun As l S i γ2 vs H2 G2 q e l2 a2 p2 => z (A :: As) l S i γ2 (v :: vs) H2 G2 q e (l1.trans l2) a2 ⟨v, vs, rfl, A.mono l2 p1, p2⟩
theorem ge_callL {C : Cl} {E : XK} {t : TA} (h : GL K F G0 t γ fun As l S i γ1 => C S As (fun A S' => k A (γ1.set i (.own l S'))) (fun As' S' => k (aLst As') (γ1.set i (.own l S')))) : GE K F G0 (tCall (spL K C) [] E t) γ k := fun σ H G Q a z =>
  h σ H G _ a fun As l S i γ1 vs H1 G1 h1 e2 l1 a1 p1 => by
    obtain ⟨e4, ws, g1, g2, g3, g4⟩ := a1.ownAt e2
    show spL K C (vs ++ [V.ref l] ++ []) H1 Q E
    rw [List.append_nil]
    refine ⟨S, As, _, _, G1, l, ws, vs, h1, rfl, p1, a1.see, g1, g4, g3, fun A S2 v H' G' ws' q le sm see hid e hv pv => z A _ v H' G' q (l1.trans le) (a1.callM e2 le sm see hid e hv) pv, fun As' S2 m vs' H' G' ws' q le sm see hid e hv e5 e6 e7 hv2 => ?_⟩
    have a2 := a1.callM e2 le sm see hid e hv
    refine z _ _ _ H' _ q (l1.trans (le.trans (G'.leL m vs'))) (a2.addL e5 (a1.noF e6) (free_set (a1.noOwn e6) fun hb => ?_)) ⟨m, vs', rfl, .inr ⟨rfl, rfl⟩, hv2.mono (G'.leL m vs')⟩
    rw [own_ad hb, g1] at e6
    cases e6
/-- .. a new list behind them -/
def GLT (K : PySem.W.Frag) (F : Hp) (G0 : Vw) (t : TA) (γ : List Sl) (k : List AV → List AV → List Sl → Prop) : Prop := ∀ σ H G Q, At K F G0 γ σ H G →
  (∀ As l S γ' vs ws H' G', k As S γ' → Vw.Le G G' → At K F G0 γ' σ H' G' → avs G' As vs → H' l = some (.lst ws) → F l = none → (∀ ys, ¬ G'.l l ys) → avs G' S ws → Free γ' l → Q (vs ++ [.ref l]) H') → t σ H Q
theorem glt_last {k : List AV → List AV → List Sl → Prop} (h : GO K F G0 te γ fun _ S γ1 => k [] S γ1) : GLT K F G0 (tCons te tNil) γ k := fun σ H G Q a z =>
  h σ H G _ a fun l S γ1 ws H1 G1 h1 l1 a1 e1 f1 n1 p1 d1 => z [] l S γ1 [] ws H1 G1 h1 l1 a1 rfl e1 f1 n1 p1 d1
theorem glt_cons {t : TA} {k : List AV → List AV → List Sl → Prop} (h : GE K F G0 ta γ fun A γ1 => GLT K F G0 t γ1 fun As S γ2 => k (A :: As) S γ2) : GLT K F G0 (tCons ta t) γ k := fun σ H G Q a z =>
  h σ H G _ a fun A γ1 v H1 G1 h1 l1 a1 p1 => h1 σ H1 G1 _ a1 fun As l S γ2 vs ws H2 G2 q l2 a2 p2 => z (A :: As) l S γ2 (v :: vs) ws H2 G2 q (l1.trans l2) a2 ⟨v, vs, rfl, A.mono l2 p1, p2⟩
theorem ge_callLT {C : Cl} {E : XK} {t : TA} (h : GLT K F G0 t γ fun As S γ1 => C S As (fun A _ => k A γ1) (fun As' _ => k (aLst As') γ1)) : GE K F G0 (tCall (spL K C) [] E t) γ k := fun σ H G Q a z =>
  h σ H G _ a fun As l S γ1 vs ws H1 G1 h1 l1 a1 p1 e1 f1 n1 ps d1 => by
    show spL K C (vs ++ [V.ref l] ++ []) H1 Q E
    rw [List.append_nil]
    refine ⟨S, As, _, _, G1, l, ws, vs, h1, rfl, p1, a1.see, e1, ps, n1, fun A S2 v H' G' ws' q le sm see hid e hv pv => z A γ1 v H' G' q (l1.trans le) (a1.callX f1 d1 le sm see hid) pv, fun As' S2 m vs' H' G' ws' q le sm see hid e hv e5 e6 e7 hv2 => ?_⟩
    have a4 := a1.callX f1 d1 le sm see hid
    exact z _ γ1 _ H' _ q (l1.trans (le.trans (G'.leL m vs'))) (a4.addL e5 (a1.noF e6) (a1.noOwn e6)) ⟨m, vs', rfl, .inr ⟨rfl, rfl⟩, hv2.mono (G'.leL m vs')⟩
theorem ge_callL1 {C : Cl} {E : XK} {i : Nat} (h : GE K F G0 ta γ fun A γ1 => ∃ l S, γ1[i]? = some (.own l S) ∧ C S [A] (fun A S' => k A (γ1.set i (.own l S'))) (fun As' S' => k (aLst As') (γ1.set i (.own l S')))) : GE K F G0 (tCall (spL K C) [] E (tCons ta (tCons (tVar i) tNil))) γ k := ge_callL (gl_cons fun σ H G Q a z => h σ H G Q a fun A γ1 v H1 G1 q l1 a1 p1 => z A γ1 v H1 G1 (gl_last q) l1 a1 p1)
theorem ge_callL2 {C : Cl} {E : XK} {tb : TE} {i : Nat} (h : GE K F G0 ta γ fun A γ1 => GE K F G0 tb γ1 fun B γ2 => ∃ l S, γ2[i]? = some (.own l S) ∧ C S [A, B] (fun A S' => k A (γ2.set i (.own l S'))) (fun As' S' => k (aLst As') (γ2.set i (.own l S')))) : GE K F G0 (tCall (spL K C) [] E (tCons ta (tCons tb (tCons (tVar i) tNil)))) γ k := ge_callL (gl_cons fun σ H G Q a z => h σ H G Q a fun A γ1 v H1 G1 q l1 a1 p1 => z A γ1 v H1 G1 (gl_cons fun σ H G Q a z => q σ H G Q a fun A γ1 v H1 G1 q l1 a1 p1 => z A γ1 v H1 G1 (gl_last q) l1 a1 p1) l1 a1 p1)
theorem ge_callLT1 {C : Cl} {C' : Ct} {E E' : XK} {t' : TA} (h : GE K F G0 ta γ fun A γ1 => GA K F G0 t' γ1 fun As' γ2 => C' As' (fun _ => False) (fun S => AllA fun _ => C S [A] (fun A _ => k A γ2) (fun As _ => k (aLst As) γ2))) : GE K F G0 (tCall (spL K C) [] E (tCons ta (tCons (tCall (spOf K C') [] E' t') tNil))) γ k := ge_callLT (glt_cons fun σ H G Q a z => h σ H G Q a fun A γ1 v H1 G1 q l1 a1 p1 => z A γ1 v H1 G1 (glt_last (go_call q)) l1 a1 p1)
end
section
variable {P : Program} {w : World} {K : PySem.W.Frag} {mg : Str → Option Value} {base : Heap}
theorem get_mid {α : Type} {xs ys : List α} {x z : α} {i : Nat} (h : (xs ++ x :: ys)[i]? = some z) : (i < xs.length ∧ xs[i]? = some z) ∨ (i = xs.length ∧ x = z) ∨ (xs.length < i ∧ ys[i - (xs.length + 1)]? = some z) := by
  by_cases h1 : i < xs.length
  · rw [List.getElem?_append_left h1] at h
    exact .inl ⟨h1, h⟩
  · rw [List.getElem?_append_right (by omega)] at h
    by_cases h2 : i = xs.length
    · subst h2
      rw [Nat.sub_self] at h
      exact .inr (.inl ⟨rfl, by simpa using h⟩)
    · refine .inr (.inr ⟨by omega, ?_⟩)
      rw [show i - xs.length = (i - (xs.length + 1)) + 1 by omega] at h
      simpa using h
theorem fn_okL {x : Str} {st : Stmt} {p : Str} {ps N : List Str} {n : Nat} {C : Cl} (D : Std K mg x st (ps ++ [p])) (S : FnScope N (ps ++ [p]) (defScope st)) (hl : ∀ S As R RO, C S As R RO → As.length = ps.length)
    (hb : ∀ (f : Addr) (cdv : Value) (A : Around) (outer : List Env) (s : Shared) (H : Hp), Room n (A.deeper (envOfC x (defScope st) s.heap.objs.size f cdv)) →
      ∃ t, PSs (cxN P w K mg base N x (defScope st) f cdv A outer s H) (defBody st) t ∧ ∀ F G0 l S As R RO, C S As R RO → NX K F G0 t (As.map Sl.sh ++ Sl.own l S :: List.replicate (N.length - (ps.length + 1)) Sl.non)
        { nx := fun γ => ∃ S', γ[ps.length]? = some (.own l S') ∧ R aN S', rt := fun A γ => ∃ S', γ[ps.length]? = some (.own l S') ∧ R A S', ro := fun As γ => ∃ S', γ[ps.length]? = some (.own l S') ∧ RO As S' }) : Cal P w K mg base (n + 1) x (ps ++ [p]) (spL K C) := by
  obtain ⟨f, fd, Fd, hm, hbd⟩ := D.ex
  refine ⟨f, fd, Fd.ok S (fun vs H Q E h => ?_) (fun cdv A outer s H vs Q E hr h => ?_), hm, Fd.kp, hbd⟩
  · obtain ⟨S', As, R, RO, G, l, ws, r, hc, e, hv, _⟩ := h
    rw [e, List.length_append, List.length_append, hv.length, hl S' As R RO hc]
    rfl
  · obtain ⟨t, ht, hg⟩ := hb f cdv A outer s H hr
    refine ⟨t, PSs.nox (X := cxOf CX0 P w K mg base N x (defScope st) f cdv A outer s H E) ht, ?_⟩
    obtain ⟨S', As, R, RO, G, l, ws, r, hc, e, hv, see, hl1, hs, hn, q1, q2⟩ := h
    subst e
    have hAl := hl S' As R RO hc
    have hrl : r.length = ps.length := by rw [hv.length, hAl]
    have e : L2.start N (r ++ [V.ref l]) = r.map some ++ some (V.ref l) :: List.replicate (N.length - (ps.length + 1)) none := by
      unfold L2.start
      rw [List.map_append, List.length_append, hrl, List.append_assoc]
      rfl
    rw [e]
    have a : At K (hid1 H l) G (As.map Sl.sh ++ Sl.own l S' :: List.replicate (N.length - (ps.length + 1)) Sl.non) (r.map some ++ some (V.ref l) :: List.replicate (N.length - (ps.length + 1)) none) H G := by
      have own_at : ∀ {i : Nat} {T : Sl}, (As.map Sl.sh ++ Sl.own l S' :: List.replicate (N.length - (ps.length + 1)) Sl.non)[i]? = some T → (i < ps.length ∧ ∃ A, As[i]? = some A ∧ T = .sh A) ∨ (i = ps.length ∧ T = .own l S') ∨ T = .non := fun {i T} q => by
        rcases get_mid q with ⟨h1, h2⟩ | ⟨h1, h2⟩ | ⟨h1, h2⟩
        · rw [List.length_map, hAl] at h1
          rw [List.getElem?_map] at h2
          obtain ⟨A, e1, e2⟩ := Option.map_eq_some_iff.mp h2
          exact .inl ⟨h1, A, e1, e2.symm⟩
        · rw [List.length_map, hAl] at h1
          exact .inr (.inl ⟨h1, h2.symm⟩)
        · exact .inr (.inr (List.eq_of_mem_replicate (List.mem_of_getElem? h2)))
      refine ⟨.refl G, fun b o q => ?_, see, fun _ _ _ q => q, by simp [hv.length], fun i T q => ?_, fun i j S T b h1 h2 hb hc => ?_⟩
      · unfold hid1 at q
        by_cases hb : b = l
        · rw [if_pos hb] at q; cases q
        · rw [if_neg hb] at q; exact q
      · rcases own_at q with ⟨h1, A, e1, rfl⟩ | ⟨h1, rfl⟩ | rfl
        · obtain ⟨v, e2, pv⟩ := hv.get e1
          refine ⟨v, ?_, pv⟩
          rw [List.getElem?_append_left (by rw [List.length_map, hrl]; exact h1), List.getElem?_map, e2]
          rfl
        · refine ⟨?_, ws, hl1, by unfold hid1; rw [if_pos rfl], hn, hs⟩
          rw [h1, List.getElem?_append_right (by rw [List.length_map, hrl]; exact Nat.le_refl _), List.length_map, hrl, Nat.sub_self]
          rfl
        · trivial
      · rcases own_at h1 with ⟨_, A, _, rfl⟩ | ⟨i1, rfl⟩ | rfl
        · exact (no_ads hb).elim
        · rcases own_at h2 with ⟨_, A, _, rfl⟩ | ⟨j1, rfl⟩ | rfl
          · exact (no_ads hc).elim
          · omega
          · exact (no_adsN hc).elim
        · exact (no_adsN hb).elim
    have hidd : ∀ {G' : Vw} {H' : Hp} {γ' : List Sl} {σ' : L2.St} {S2 : List AV}, At K (hid1 H l) G γ' σ' H' G' → γ'[ps.length]? = some (.own l S2) → ∀ b xs, H b ≠ none → G'.l b xs → G.l b xs := fun {G' H' γ' σ' S2} a' e0 b xs hb q => by
      by_cases hbl : b = l
      · subst hbl
        obtain ⟨_, _, _, _, g3, _⟩ := a'.ownAt e0
        exact absurd q (g3 xs)
      · exact a'.hid b xs (by unfold hid1; rw [if_neg hbl]; exact hb) q
    refine hg (hid1 H l) G l S' As R RO hc _ _ H G a ⟨fun γ' σ' H' G' ⟨S2, e0, h⟩ le a' => ?_, fun A γ' σ' v H' G' ⟨S2, e0, h⟩ le a' pv => ?_, fun As' γ' σ' m vs' H' G' ⟨S2, e0, h⟩ le a' e1 e2 e3 hv' e4 => ?_, fun _ _ _ _ z => z.elim, fun _ _ _ _ z => z.elim, fun _ _ _ _ _ _ z => z.elim⟩
    · obtain ⟨_, ws', g1, _, _, g4⟩ := a'.ownAt e0
      exact q1 aN S2 .non H' G' ws' h le a'.same a'.see (hidd a' e0) g1 g4 rfl
    · obtain ⟨_, ws', g1, _, _, g4⟩ := a'.ownAt e0
      exact q1 A S2 v H' G' ws' h le a'.same a'.see (hidd a' e0) g1 g4 pv
    · obtain ⟨_, ws', g1, _, g3, g4⟩ := a'.ownAt e0
      refine q2 As' S2 m vs' H' G' ws' h le a'.same a'.see (hidd a' e0) g1 g4 e1 ?_ e3 hv'
      by_cases hm : m = l
      · exact absurd (hm ▸ own_ads m S2) (e4 ps.length _ e0)
      · unfold hid1 at e2
        rw [if_neg hm] at e2
        exact e2
end
end Rl

/-! # the head's facts, with the interpreter's own table (super's call of a class's __init__ reads it) -/
namespace He
open PySem PySem.Spec PyProof.Rows L2
def asS (g : Addr → Option Obj) (n : Nat) : List Addr := asD g n ++ [cStatics]
def obsS (n : Nat) (fa : List Fa) (fn : List DefD) (ex : PySem.W.Frag → Bool) (g : Addr → Option Obj) : AlD × Bool := (obsD fa fn (frG g (asS g n)), ex (frG g (asS g n)))
def hookS (n : Nat) (fa : List Fa) (fn : List DefD) (ex : PySem.W.Frag → Bool) : PySem.W.Hook where
  α := AlD × Bool
  obs := fun s => obsS n fa fn ex s.heap.get?
  val := fun _ => (valD fn, true)
  says := fun _ h => ∃ K : PySem.W.Frag, K.In h ∧ SaysD fa fn K ∧ ex K = true
  of := fun _ _ e => ⟨_, frG_in, congrArg (fun z : AlD × Bool => z.1) e, congrArg (fun z : AlD × Bool => z.2) e⟩
  keeps := fun _ _ _ ⟨K, hK, c⟩ k => ⟨K, PySem.W.Frag.In.keeps hK k, c⟩
theorem obsS_eq {n : Nat} {fa : List Fa} {fn : List DefD} {ex : PySem.W.Frag → Bool} {g : Addr → Option Obj} {s : Shared} (h : ∀ a, g a = s.heap.get? a) : obsS n fa fn ex g = (hookS n fa fn ex).obs s := by
  have e : g = s.heap.get? := funext h
  rw [e] <;> rfl
end He

/-! # repr of data, in the law's own def: there no guard stands -/
namespace Rl
open PySem PySem.Spec PyProof.Rows L2
/-- the law's call, as the head makes it -/
def AtLaw (P : Program) (w : World) (K : PySem.W.Frag) (mg : Str → Option Value) (base : Heap) (f : Addr) (sp : Sp) : Prop :=
  ∀ (s : Shared) (H : Hp) (u : Value) (v : V) (Q : VK) (E : XK), Env0 P w K mg base callerA [] s H → RelV v u → sp [v] H Q E →
    codeAny (model P w) callerA (.call (.ref f) ⟨[u], []⟩) (CR CX0 [] P w H s Q E) s
section
variable {P : Program} {w : World} {K : PySem.W.Frag} {mg : Str → Option Value} {base : Heap}
theorem at_law {x p : Str} {st : Stmt} {N : List Str} {n : Nat} {C : Ct} {f : Addr} {fd : FuncData} (D : FunD K x x (defArgs st) (defBody st) (defScope st) [] [] f fd) (S : FnScope N [p] (defScope st))
    (hl : ∀ As R RO, C As R RO → As.length = 1) (room : Room (n + 1) callerA) (bind : ∀ (s : Shared) (u : Value), BindsTo s fd ⟨[u], []⟩ [(p, u)])
    (body : ∀ (cdv : Value) (s : Shared) (H : Hp), Room n (callerA.deeper (envOfC x (defScope st) s.heap.objs.size f cdv)) → (callerA.deeper (envOfC x (defScope st) s.heap.objs.size f cdv)).guards = some [] →
      ∃ t, PSs (cxN P w K mg base N x (defScope st) f cdv callerA [] s H) (defBody st) t ∧ ∀ F G0 As R RO, C As R RO → NX K F G0 t (As.map Sl.sh ++ List.replicate (N.length - 1) Sl.non) (endK R RO)) : AtLaw P w K mg base f (spOf K C) := by
  intro s H u v Q E env rv hs
  obtain ⟨oc, od, dV, kV, doc, pm, an, cdv, ct, osl, rfl, look, code, _, _⟩ := D.ex
  have old : ∀ b o, base.get? b = some o → s.heap.get? b = some o := fun b o e => (env.bs b o e).1
  have inK : K.In s.heap := env.mod.kin.keeps old
  obtain ⟨t, ht, reads⟩ := body cdv s H (room.deeper _) rfl
  obtain ⟨As, R, RO, G, hc, hv, see, z1, z2⟩ := hs
  have one := hl As R RO hc
  have kinds : ∀ y ∈ [(p, u)], (defScope st).names.lookup y.1 = some .local ∨ ((defScope st).names.lookup y.1 = some .cell ∧ ((cellsFrom (s.heap.objs.size + 1) (defScope st).names []).lookup y.1).isSome = true) := fun y hy => by
    rw [List.mem_singleton.mp hy]
    exact (S.par p (List.mem_singleton.mpr rfl)).imp id fun c => ⟨c, PySem.W.cellsFrom_some _ _ _ (.inl c)⟩
  refine codeAny_call_function room.depth (inK _ _ look) rfl S.co S.gen rfl (PySem.W.codeRec_of inK code) (bind s u _ _ _ _ ?_)
  refine wpAny_newFunctionEnv_cells S.kind kinds ?_
  intro env' he s1 inside
  cases he
  refine ⟨(env.mod.nolimit.keeps old).keeps inside.toInCall.keep, codeAny_func ?_⟩
  have I0 : Inv (cxOf CX0 P w K mg base N x (defScope st) f cdv callerA [] s H E) [] (start N [v]) H s1 := inv_start (us := [u]) S room.hd env rfl (.cons rv .nil) inside
  have start_eq : start N [v] = [v].map some ++ List.replicate (N.length - 1) none := rfl
  have at0 : At K H G (As.map Sl.sh ++ List.replicate (N.length - 1) Sl.non) ([v].map some ++ List.replicate (N.length - 1) none) H G :=
    ⟨.refl G, L2.Same.refl H, see, fun _ _ _ q => q, by simp [one]; omega, slots_start _ hv, dis_start⟩
  have done := reads H G As R RO hc ({ nx := fun _ H' => Q .non H', rt := Q }) _ H G at0
    ⟨fun γ' σ' H' G' h le a' => z1 aN .non H' G' h le a'.same a'.see a'.hid rfl, fun A γ' σ' v H' G' h le a' pv => z1 A v H' G' h le a'.same a'.see a'.hid pv,
      fun As' γ' σ' l vs' H' G' h le a' e1 e2 e3 hv' _ => z2 As' l vs' H' G' h le a'.same a'.see a'.hid e1 e2 e3 hv', fun _ _ _ _ z => z.elim, fun _ _ _ _ z => z.elim, fun _ _ _ _ _ _ z => z.elim⟩
  have term := PSs.nox (X := cxOf CX0 P w K mg base N x (defScope st) f cdv callerA [] s H E) ht
  refine wpAny_mono (term.run [] s1 (start N [v]) H _ I0 done) (fun fl s2 post => ?_) fun e s2 post => post
  match fl, post with
  | .next, ⟨σ2, H2, J, q⟩ => exact ⟨V.non, H2, J.os, J.bare, J.base, J.hok, rfl, q⟩
  | .ret y, ⟨y', σ2, H2, J, ry, q⟩ => exact ⟨y', H2, J.os, J.bare, J.base, J.hok, ry, q⟩
  | .brk, ⟨_, _, _, q⟩ => exact False.elim q
  | .cont, ⟨_, _, _, q⟩ => exact False.elim q
theorem call_law {mb : Str → Option Value} {fa a : Addr} {sp : Sp} {s : Shared} {vs : List Value} {ns : List Int}
    (inK : K.In s.heap) (names : s.heap.Ns mainGlobals mg) (blt : s.heap.Ns builtinsNs mb) (boot : ∀ x : Str, x ≠ "__name__" → mb x = bootBuiltins x) (calm : s.heap.NoLimit) (gens : s.gens = #[])
    (obj : s.heap.get? a = some { cls := .type "list", data := .seq vs.toArray }) (nums : IntsAre vs ns) (few : ns.length ≤ sizeLine)
    (promise : ∀ base : Heap, K.In base → base.Ns mainGlobals mg → AtLaw P w K mg base fa sp)
    (begins : ∀ H : Hp, Only H → SqL K H a (ns.map V.int) → sp [.ref a] H (fun v _ => v = .bl true) fun _ _ _ => False) :
    codeAny (model P w) callerA (.call (.ref fa) ⟨[.ref a], []⟩) (fun r s' => r = .ok (.ret (.bool true)) ∧ OldK s.heap s'.heap ∧ s'.os = s.os ∧ AllBare s'.gens) s := by
  have vals := vals_ints nums
  have main : ∀ H : Hp, (∀ b, H b ≠ none → b = a ∧ K.lookup a = none) → Only H → SqL K H a (ns.map V.int) → HOk P w H s.heap →
      codeAny (model P w) callerA (.call (.ref fa) ⟨[.ref a], []⟩) (fun r s' => r = .ok (.ret (.bool true)) ∧ OldK s.heap s'.heap ∧ s'.os = s.os ∧ AllBare s'.gens) s := fun H hA only sq ok => by
    have isNone : ∀ b, (b = a → K.lookup a ≠ none) → H b = none := fun b hb => Classical.byContradiction fun z => absurd (hA b z).2 (hb (hA b z).1)
    have noDict : ∀ {b : Addr} {o : Obj} {es : Array DictEntry} {ep : Nat}, s.heap.get? b = some o → o.data = .dict es ep → H b = none := fun {b o es ep} e d => Classical.byContradiction fun z => by
      obtain ⟨rfl, _⟩ := hA b z
      cases e.symm.trans obj
      cases (show Data.seq vs.toArray _ = Data.dict es ep from d)
    have table : ∀ {b : Addr} {m : Str → Option Value}, s.heap.Ns b m → (hidT s.heap H).Ns b m := fun {b m} ⟨o, es, ep, e, d, r⟩ => ⟨o, es, ep, hidT_get e (noDict e d), d, r⟩
    have under : K.In (hidT s.heap H) := fun b o e => hidT_get (inK b o e) (isNone b fun q => by rw [← q, e]; exact Option.some_ne_none _)
    obtain ⟨mc, l1, l2⟩ := calm
    have env : Env0 P w K mg (hidT s.heap H) callerA [] s H := ⟨rfl, ⟨under, table names, ⟨mb, table blt, boot⟩, ⟨mc, table l1, l2⟩⟩, fun b o e => of_hidT e, Nat.le_of_eq (hidT_size _ _), trivial, fun b hb => (List.not_mem_nil hb).elim, ok, .of_eq gens⟩
    refine codeAny_mono (promise _ under (table names) s H (.ref a) (.ref a) _ _ env rfl (begins H only sq)) fun r s2 post => ?_
    match r, post with
    | .error e, post => exact False.elim post
    | .ok .next, post => exact False.elim post
    | .ok .brk, post => exact False.elim post
    | .ok .cont, post => exact False.elim post
    | .ok (.ret y), ⟨v, H2, os, bare, un, ok2, ry, q⟩ =>
      have q : v = .bl true := q
      rw [q] at ry
      have ey : y = Value.bool true := ry
      rw [ey]
      refine ⟨rfl, OldK.of_keep fun b o e => ?_, os, bare⟩
      by_cases free : H b = none
      · exact un.keep b o e free List.not_mem_nil List.not_mem_nil
      · rcases only b with z | ⟨ob, xs, z⟩
        · exact absurd z free
        · have z2 := un.frzs b ob _ z
          have same := Option.some.inj ((ok b _ z).1.symm.trans e)
          rw [← same]
          exact (ok2 b _ z2).1
  by_cases inside : K.lookup a = none
  · refine main (fun b => if b = a then some (.frz { cls := .type "list", data := .seq vs.toArray } (.lst (ns.map V.int))) else none) (fun b hb => ?_) (fun b => ?_) (.inl (.inr ⟨{ cls := .type "list", data := .seq vs.toArray }, if_pos rfl⟩)) (fun b o e => ?_)
    · exact Classical.byContradiction fun z => hb (if_neg fun q => z ⟨q, inside⟩)
    · by_cases q : b = a
      · exact .inr ⟨_, _, if_pos q⟩
      · exact .inl (if_neg q)
    · by_cases q : b = a
      · subst q
        cases (if_pos rfl).symm.trans e
        exact ⟨obj, by rw [List.length_map]; exact few, vs, _, vals, obj⟩
      · cases (if_neg q).symm.trans e
  · obtain ⟨o, look⟩ := Option.ne_none_iff_exists'.mp inside
    cases (inK a o look).symm.trans obj
    refine main (fun _ => none) (fun b hb => absurd rfl hb) (fun _ => .inl rfl) (.inr ⟨_, vs.toArray, _, look, rfl, rfl, rfl, ?_, by simpa using vals⟩) (fun b o e => by cases e)
    rw [List.size_toArray, nums.length]
    exact few
end
/-- the law's end, by its call at the head -/
theorem walk_law {l : PySem.W.OpenLaw} {n : Nat} {q : Program} {loose : List Str} {XP : (Str → Option Value) → Heap → Prop} {YP : World → Heap → Prop} {d : DefRec}
    (most : l.most = some n) (few : n ≤ sizeLine) (plain : d.params.defaults = [])
    (F : ∀ (w : World) (mg : Str → Option Value) (fa : Addr) (h : Heap), YP w h → h.Ns mainGlobals mg → mg d.name = some (.ref fa) →
      ∃ (K : PySem.W.Frag) (sp : Sp), K.In h ∧ (∀ (H : Hp) (a : Addr) (ns : List Int), ns.length ≤ n → Only H → SqL K H a (ns.map V.int) → sp [.ref a] H (fun v _ => v = .bl true) fun _ _ _ => False) ∧
        ∀ base : Heap, K.In base → base.Ns mainGlobals mg → AtLaw l.prog w K mg base fa sp) :
    PySem.W.WalkO q loose XP YP l.row.toRowW d [] (fun f vs => PySem.call f vs) :=
  Att.attach_call most plain fun w s0 s1 mg mb fa o pm cd doc a vs ns G Y ho hd hcd hmg obj nums len gens => by
    obtain ⟨K, sp, inK, begins, promise⟩ := F w mg fa _ Y G.T.g hmg
    exact call_law inK G.T.g G.T.b G.T.builtins G.T.nolimit gens obj nums (Nat.le_trans len few) promise fun H => begins H a ns len
/-! ### repr of data -/
section
variable {X : Cx}
def rRepr (K : PySem.W.Frag) (xs : List V) (H : Hp) (Q : VK) : Prop := ∃ (a : Addr) (d : PyData), xs = [.ref a] ∧ Dp K H (.ref a) d ∧ d.showable = true ∧ d.hasDict = false ∧ d.depth ≤ 100 ∧ d.shown.length ≤ sizeLine ∧ Q (.str d.shown) H
theorem call_repr {n : Nat} (hg : X.A.guards = some []) (room : Room n X.A) : CallR X (.builtin "repr") (rRepr X.K) := fun pins s σ H xs us Q I r h => by
  obtain ⟨a, d, rfl, hd, hs, hn, hp, hz, q⟩ := h
  have un := room.un
  cases r with
  | cons ru rr =>
    cases rr
    cases ru
    obtain ⟨as, rd⟩ := Dp.reads I d _ _ hd rfl
    exact repr_of_reads' rd hs (PyData.noDict_hsm hn) hg (by omega) (fun _ _ e => e) (fun h' u tk hk => ⟨.str _, H, I.kept (t' := tk) hk, ⟨_, rfl⟩, q⟩) hz
theorem call_reprK {K : PySem.W.Frag} {n : Nat} (hg : X.A.guards = some []) (room : Room n X.A) (h : X.K = K := by rfl) : CallR X (.builtin "repr") (rRepr K) := h ▸ call_repr hg room
end
section
variable {K : PySem.W.Frag} {F : Hp} {G0 : Vw} {γ : List Sl} {k : AV → List Sl → Prop}
theorem n_repr {A : AV} {d : PyData} (h : Isd A d) (hr : ∀ G v, A.p G v → ∃ a, v = .ref a) (hs : d.showable = true) (hn : d.hasDict = false) (hp : d.depth ≤ 100) (hz : d.shown.length ≤ sizeLine) (q : k (aS d.shown) γ) : ON K F G0 (rRepr K) [A] γ k := fun σ H G vs Q a p z => by
  obtain ⟨v, r, rfl, pv, rfl⟩ := p
  obtain ⟨b, rfl⟩ := hr G v pv
  exact ⟨b, d, rfl, h K G H _ a.see pv, hs, hn, hp, hz, z _ γ _ H G q (.refl G) a rfl⟩
end
end Rl

/-! # the text of data: what repr needs to know -/
namespace Rl
open PySem PySem.Spec PyProof.Rows L2
/-- data that can be shown: its depth, its weight -/
def Shw (n W : Nat) (A : AV) : Prop := ∃ d, Isd A d ∧ PyData.showable d = true ∧ PyData.hasDict d = false ∧ PyData.depth d ≤ n ∧ PyData.leavesShort 1921 d = true ∧ PyData.weight d ≤ W
def Shws (n W : Nat) (As : List AV) : Prop := ∃ ds, Isds As ds ∧ PyData.showableAll ds = true ∧ PyData.hasDictAll ds = false ∧ PyData.depthAll ds ≤ n ∧ PyData.leavesShortAll 1921 ds = true ∧ PyData.weightAll ds ≤ W
theorem Shw.mono {n m W V : Nat} {A : AV} (h : Shw n W A) (hn : n ≤ m) (hw : W ≤ V) : Shw m V A := by
  obtain ⟨d, h1, h2, h3, h4, h5, h6⟩ := h
  exact ⟨d, h1, h2, h3, Nat.le_trans h4 hn, h5, Nat.le_trans h6 hw⟩
theorem shw_int {i : Int} {b : Nat} (h : i.natAbs < 2 ^ b) (h0 : 0 < b) (hb : b ≤ 1900) : Shw 0 b (aInt i) := by
  have hl := log2_lt_pow h h0
  refine ⟨.int i, isd_int i, ?_, ?_, ?_, ?_, ?_⟩
  · rw [PyData.showable]
    exact decide_eq_true (by omega)
  · rw [PyData.hasDict]
  · rw [PyData.depth]
    exact Nat.le_refl _
  · rw [PyData.leavesShort]
    refine decide_eq_true ?_
    rw [PyData.shown]
    exact int_text_len_1921 (by omega)
  · rw [PyData.weight]
    split
    · exact Nat.zero_le _
    · omega
theorem shw_s {z : Str} {W : Nat} (h : z.length ≤ W) (hc : ∀ c, c ∈ z.cps.toList → c < 16 ^ 8) : Shw 0 W (aS z) := by
  refine ⟨.str z, isd_s z, ?_, ?_, ?_, ?_, ?_⟩
  · rw [PyData.showable]
  · rw [PyData.hasDict]
  · rw [PyData.depth]
    exact Nat.le_refl _
  · rw [PyData.leavesShort]
    exact List.all_eq_true.mpr fun c h => decide_eq_true (hc c h)
  · rw [PyData.weight]
    exact h
theorem shws_nil {n : Nat} : Shws n 0 [] := by
  refine ⟨[], isds_nil, ?_, ?_, ?_, ?_, ?_⟩
  · rw [PyData.showableAll]
  · rw [PyData.hasDictAll]
  · rw [PyData.depthAll]
    exact Nat.zero_le _
  · rw [PyData.leavesShortAll]
  · rw [PyData.weightAll]
    exact Nat.le_refl _
theorem shws_cons {n W V : Nat} {A : AV} {As : List AV} (h : Shw n W A) (t : Shws n V As) : Shws n (W + 1 + V) (A :: As) := by
  obtain ⟨d, h1, h2, h3, h4, h5, h6⟩ := h
  obtain ⟨ds, t1, t2, t3, t4, t5, t6⟩ := t
  refine ⟨d :: ds, isds_cons h1 t1, ?_, ?_, ?_, ?_, ?_⟩
  · rw [PyData.showableAll, h2, t2]
    rfl
  · rw [PyData.hasDictAll, h3, t3]
    rfl
  · rw [PyData.depthAll]
    exact Nat.max_le.mpr ⟨h4, t4⟩
  · rw [PyData.leavesShortAll, h5, t5]
    rfl
  · rw [PyData.weightAll]
    omega
theorem shws_map {α : Type} {n W : Nat} {f : α → AV} : ∀ xs : List α, (∀ x, x ∈ xs → Shw n W (f x)) → Shws n (xs.length * (W + 1)) (xs.map f)
  | [], _ => by
    rw [List.length_nil, Nat.zero_mul]
    exact shws_nil
  | x :: xs, h => by
    have e : (x :: xs).length * (W + 1) = W + 1 + xs.length * (W + 1) := by rw [List.length_cons, Nat.succ_mul, Nat.add_comm]
    rw [e]
    exact shws_cons (h x (List.mem_cons_self ..)) (shws_map xs fun y hy => h y (List.mem_cons_of_mem _ hy))
theorem shw_tup {n W : Nat} {As : List AV} (h : Shws n W As) : Shw (n + 1) W (aTup As) := by
  obtain ⟨ds, t1, t2, t3, t4, t5, t6⟩ := h
  refine ⟨.tuple ds, isd_tup t1, ?_, ?_, ?_, ?_, ?_⟩
  · rw [PyData.showable]; exact t2
  · rw [PyData.hasDict]; exact t3
  · rw [PyData.depth]; omega
  · rw [PyData.leavesShort]; exact t5
  · rw [PyData.weight]; exact t6
theorem shw_lst {n W : Nat} {As : List AV} (h : Shws n W As) : Shw (n + 1) W (aLst As) := by
  obtain ⟨ds, t1, t2, t3, t4, t5, t6⟩ := h
  refine ⟨.list ds, isd_lst t1, ?_, ?_, ?_, ?_, ?_⟩
  · rw [PyData.showable]; exact t2
  · rw [PyData.hasDict]; exact t3
  · rw [PyData.depth]; omega
  · rw [PyData.leavesShort]; exact t5
  · rw [PyData.weight]; exact t6
theorem Shws.mono {n m W V : Nat} {As : List AV} (h : Shws n W As) (hn : n ≤ m) (hw : W ≤ V) : Shws m V As := by
  obtain ⟨d, h1, h2, h3, h4, h5, h6⟩ := h
  exact ⟨d, h1, h2, h3, Nat.le_trans h4 hn, h5, Nat.le_trans h6 hw⟩
theorem shw_F {q : Rat} {a b : Nat} (h : Sz a b q) (ha : 0 < a) (hb : 0 < b) (la : a ≤ 1900) (lb : b ≤ 1900) : Shw 1 (a + b + 2) (aF q) :=
  shw_tup ((shws_cons (shw_int h.num ha la) (shws_cons (shw_int (i := (q.den : Nat)) (by rw [Int.natAbs_natCast]; exact h.den) hb lb) shws_nil)).mono (Nat.le_refl _) (by omega))
theorem shw_nm {z : Str} (h : Nm z) : Shw 0 8 (aS z) := shw_s h.le fun c hc => Nat.lt_of_le_of_lt (h.low c hc).2 (by decide)
theorem shw_nat {x : Nat} (h : x < 1024) : Shw 0 10 (aInt (x : Nat)) := shw_int (by rw [Int.natAbs_natCast]; exact h) (by decide) (by decide)
theorem shw_ask {q : Ask} (hn : Nm q.name) (h1 : q.one < 1024) (h2 : q.other < 1024) (hs : Sz 41 4 q.size) : Shw 2 80 (aAsk q) :=
  shw_tup ((shws_cons ((shw_nm hn).mono (Nat.zero_le _) (Nat.le_refl _)) (shws_cons ((shw_nat h1).mono (Nat.zero_le _) (Nat.le_refl _)) (shws_cons ((shw_nat h2).mono (Nat.zero_le _) (Nat.le_refl _)) (shws_cons (shw_F hs (by decide) (by decide) (by decide) (by decide)) shws_nil)))).mono (Nat.le_refl _) (by decide))
theorem shw_ring {rooms : List Rat} {asks : List Ask} {m c : Nat} (h : RingOk m c rooms asks) (hm : m ≤ 20) (hc : c ≤ 40) : Shw 4 5000 (aRing rooms asks) := by
  have l1 : rooms.length ≤ m := h.most
  have l2 : asks.length ≤ c := h.count
  have r := shw_lst (shws_map (f := aF) rooms fun q hq => shw_F (h.pos q hq).2 (by decide) (by decide) (by decide) (by decide))
  have a := shw_lst (shws_map (f := aAsk) asks fun q hq => shw_ask (h.nm q hq) (by have := (h.dif q hq).1; have := h.two; omega) (by have := (h.dif q hq).2.1; omega) (h.size q hq).2)
  refine shw_tup ((shws_cons (r.mono (by decide) (Nat.le_refl _)) (shws_cons (a.mono (Nat.le_refl 3) (Nat.le_refl _)) shws_nil)).mono (Nat.le_refl _) ?_)
  omega
theorem repr_text {n W : Nat} {A : AV} (h : Shw n W A) (hn : n ≤ 100) (hW : W ≤ 8000) (hr : ∀ G v, A.p G v → ∃ a, v = .ref a) :
    ∃ z : Str, ∀ {K : PySem.W.Frag} {F : Hp} {G0 : Vw} {γ : List Sl} {k : AV → List Sl → Prop}, k (aS z) γ → ON K F G0 (rRepr K) [A] γ k := by
  obtain ⟨d, h1, h2, h3, h4, h5, h6⟩ := h
  have hl := PyData.shown_le 1921 (by decide) d h5
  refine ⟨d.shown, fun q => n_repr h1 hr h2 h3 (Nat.le_trans h4 hn) ?_ q⟩
  have e : sizeLine = 16777216 := by decide
  rw [e]
  have : (1921 + 2) * d.weight ≤ (1921 + 2) * 8000 := Nat.mul_le_mul (Nat.le_refl _) (by omega)
  omega
theorem tup_ref {As : List AV} : ∀ G v, (aTup As).p G v → ∃ a, v = .ref a := fun G v ⟨a, vs, e, _⟩ => ⟨a, e⟩
end Rl

/-! # str of data, in the law's own def: as repr -/
namespace Rl
open PySem PySem.Spec PyProof.Rows L2
section
variable {X : Cx}
theorem call_strD {n : Nat} (hg : X.A.guards = some []) (room : Room n X.A) : CallR X (.type "str") (rRepr X.K) := fun pins s σ H xs us Q I r h => by
  obtain ⟨a, d, rfl, hd, hs, hn, hp, hz, q⟩ := h
  have un := room.un
  cases r with
  | cons ru rr =>
    cases rr
    cases ru
    obtain ⟨as, rd⟩ := Dp.reads I d _ _ hd rfl
    exact str_of_reads rd hs (PyData.noDict_hsm hn) hg (by omega) (fun _ _ e => e) (fun h' u tk hk => ⟨.str _, H, I.kept (t' := tk) hk, ⟨_, rfl⟩, q⟩) hz
theorem call_strDK {K : PySem.W.Frag} {n : Nat} (hg : X.A.guards = some []) (room : Room n X.A) (h : X.K = K := by rfl) : CallR X (.type "str") (rRepr K) := h ▸ call_strD hg room
end
end Rl


/-! # values on a common lattice -/
namespace Rl
open PySem PySem.Spec PyProof.Rows L2
def InL (L : Nat) (x : Rat) : Prop := ∃ n : Int, x * (L : Rat) = (n : Rat)
theorem InL.add {L : Nat} {x y : Rat} (h : InL L x) (g : InL L y) : InL L (x + y) := by
  obtain ⟨n, hn⟩ := h; obtain ⟨m, hm⟩ := g
  exact ⟨n + m, by rw [Rat.add_mul, hn, hm, Rat.intCast_add]⟩
theorem InL.sub {L : Nat} {x y : Rat} (h : InL L x) (g : InL L y) : InL L (x - y) := by
  obtain ⟨n, hn⟩ := h; obtain ⟨m, hm⟩ := g
  exact ⟨n - m, by rw [Rat.intCast_sub, ← hn, ← hm]; grind⟩
theorem InL.zero (L : Nat) : InL L 0 := ⟨0, by rw [Rat.zero_mul]; rfl⟩
theorem inL_of {L : Nat} {x : Rat} (h : x.den ∣ L) : InL L x := by
  obtain ⟨c, rfl⟩ := h
  refine ⟨x.num * c, ?_⟩
  have e : x * (x.den : Rat) = (x.num : Rat) := by
    have h1 : (x.num : Rat) / (x.den : Rat) = x := by
      have h2 := Rat.num_divInt_den x
      rw [Rat.divInt_eq_div, Rat.intCast_natCast] at h2
      exact h2
    have h3 : (x.den : Rat) ≠ 0 := by
      intro e
      have : x.den = 0 := by exact_mod_cast e
      exact x.den_nz this
    grind
  rw [Rat.natCast_mul, ← Rat.mul_assoc, e, Rat.intCast_mul]
  rfl
theorem InL.den {L : Nat} {x : Rat} (h : InL L x) (h0 : 0 < L) : x.den ∣ L := by
  obtain ⟨n, hn⟩ := h
  have e : x = Rat.divInt n (L : Int) := by
    rw [Rat.divInt_eq_div, Rat.intCast_natCast, ← hn]
    have : (L : Rat) ≠ 0 := by
      intro e
      have : L = 0 := by exact_mod_cast e
      omega
    grind
  rw [e, Rat.den_divInt]
  split
  · exact Nat.one_dvd _
  · exact Nat.div_dvd_of_dvd (Int.gcd_dvd_natAbs_left ..)
theorem InL.mono {L M : Nat} {x : Rat} (h : InL L x) (h0 : 0 < L) (d : L ∣ M) : InL M x := inL_of (Nat.dvd_trans (h.den h0) d)

theorem InL.sz {L a b c : Nat} {x y : Rat} (h : InL L x) (h0 : 0 < L) (hL : L < 2 ^ a) (x0 : 0 ≤ x) (xy : x ≤ y) (hy : Sz b c y) : Sz (b + a) a x := by
  have hd := Nat.le_of_dvd h0 (h.den h0)
  refine ⟨?_, Nat.lt_of_le_of_lt hd hL⟩
  have n0 : 0 ≤ x.num := Rat.num_nonneg.mpr x0
  have l1 := (Rat.le_iff x y).mp xy
  have y1 : (1 : Int) ≤ (y.den : Int) := by have := y.den_pos; omega
  have l2 : x.num ≤ x.num * (y.den : Int) := by
    have := Int.mul_le_mul_of_nonneg_left y1 n0
    omega
  have y0 : 0 ≤ y.num := Rat.num_nonneg.mpr (Rat.le_trans x0 xy)
  have l3 : x.num ≤ y.num * (x.den : Int) := by omega
  have l4 : x.num.natAbs ≤ y.num.natAbs * x.den := by
    have : ((y.num.natAbs * x.den : Nat) : Int) = y.num * (x.den : Int) := by
      rw [Int.natCast_mul, Int.natAbs_of_nonneg y0]
    omega
  rw [Nat.pow_add]
  refine Nat.lt_of_le_of_lt l4 (Nat.mul_lt_mul_of_lt_of_le hy.num (Nat.le_trans hd (Nat.le_of_lt hL)) ?_)
  exact Nat.lt_of_lt_of_le h0 (Nat.le_of_lt hL) 
/-- the least common multiple of the numbers from 1 to n -/
def lcmTo : Nat → Nat
  | 0 => 1
  | n + 1 => Nat.lcm (lcmTo n) (n + 1)
theorem dvd_lcmTo : ∀ {n d : Nat}, 0 < d → d ≤ n → d ∣ lcmTo n
  | 0, d, h, g => by omega
  | n + 1, d, h, g => by
    by_cases e : d = n + 1
    · rw [e]; exact Nat.dvd_lcm_right ..
    · exact Nat.dvd_trans (dvd_lcmTo h (by omega)) (Nat.dvd_lcm_left ..)
theorem lcmTo_lt : lcmTo 255 < 2 ^ 380 := by decide +kernel
theorem lcmTo_pos : 0 < lcmTo 255 := by decide +kernel
theorem InL.mul {L M : Nat} {x y : Rat} (h : InL L x) (g : InL M y) : InL (L * M) (x * y) := by
  obtain ⟨n, hn⟩ := h; obtain ⟨m, hm⟩ := g
  exact ⟨n * m, by rw [Rat.intCast_mul, ← hn, ← hm, Rat.natCast_mul]; grind⟩
end Rl

/-! # looking up in a dict that is only read -/
namespace Rl
open PySem PySem.Spec PyProof.Rows L2
theorem pe_dgetK {X : Cx} {o i : Expr} {pos : Pos} {td ty : TE} {n : Nat} (room : Room n X.A) (ho : PE X o td) (hi : PE X i ty) (hs : NoSl i) : PE X (.Subscript o i pos) (tDGet td ty) := pe_dget (by have := room.units; omega) ho hi hs
section
variable {K : PySem.W.Frag} {F : Hp} {G0 : Vw} {γ : List Sl} {k : AV → List Sl → Prop}
theorem ge_dget {td ty : TE} (h : GE K F G0 td γ fun A γ1 => ∃ kvs, A = aDk kvs ∧ GE K F G0 ty γ1 fun B γ2 => ∃ (key : Key) (v : V), B = aV (kV key) ∧ valV kvs key = some v ∧ k (aV v) γ2) : GE K F G0 (tDGet td ty) γ k := fun σ H G Q a z =>
  h σ H G _ a fun A γ1 x H1 G1 ⟨kvs, e, h1⟩ l1 a1 p1 => by
    subst e
    refine h1 _ H1 G1 _ a1 fun B γ2 y H2 G2 ⟨key, v, eB, hv, q⟩ l2 a2 p2 => ?_
    subst eB
    obtain ⟨p, o, ex, hp⟩ := (aDk kvs).mono l2 p1
    have ey : y = kV key := p2
    subst ex; subst ey
    have hh := (a2.see.h p _ hp)
    exact ⟨p, v, rfl, .inl ⟨kvs, key, .inr ⟨o, hh.1⟩, rfl, hv.symm⟩, z _ γ2 v H2 G2 q (l1.trans l2) a2 rfl⟩
theorem ge_d2 {k1 k2 : Key} {x1 v1 x2 v2 : V} (h1 : x1 = kV k1) (h2 : x2 = kV k2) (q : k (aDk (mergeK [] [(k1, v1), (k2, v2)])) γ) : GE K F G0 (tDFz (tDisp [(tC x1, tC v1), (tC x2, tC v2)])) γ k := fun σ H G Q a z p np => by
  subst h1; subst h2
  refine ⟨upd_same, [(k1, v1), (k2, v2)], rfl, Nat.le_of_ble_eq_true rfl, p, mergeK [] [(k1, v1), (k2, v2)], rfl, upd_same, fun od => ?_⟩
  rw [upd_upd, upd_upd]
  exact fz_new a np q z od
end
end Rl

/-! # the text of data by its length alone -/
namespace Rl
open PySem PySem.Spec PyProof.Rows L2
/-- data that can be shown: its depth, its text's length -/
def Sx (n W : Nat) (A : AV) : Prop := ∃ d, Isd A d ∧ PyData.showable d = true ∧ PyData.hasDict d = false ∧ PyData.depth d ≤ n ∧ d.shown.length ≤ W
def Sxs (n W : Nat) (As : List AV) : Prop := ∃ ds, Isds As ds ∧ PyData.showableAll ds = true ∧ PyData.hasDictAll ds = false ∧ PyData.depthAll ds ≤ n ∧ ((PyData.shownAll ds).map (·.length)).sum + 2 * (PyData.shownAll ds).length ≤ W
theorem Sx.mono {n m W V : Nat} {A : AV} (h : Sx n W A) (hn : n ≤ m) (hw : W ≤ V) : Sx m V A := by
  obtain ⟨d, h1, h2, h3, h4, h5⟩ := h
  exact ⟨d, h1, h2, h3, Nat.le_trans h4 hn, Nat.le_trans h5 hw⟩
theorem Sxs.mono {n m W V : Nat} {As : List AV} (h : Sxs n W As) (hn : n ≤ m) (hw : W ≤ V) : Sxs m V As := by
  obtain ⟨d, h1, h2, h3, h4, h5⟩ := h
  exact ⟨d, h1, h2, h3, Nat.le_trans h4 hn, Nat.le_trans h5 hw⟩
theorem sx_of {n W : Nat} {A : AV} (h : Shw n W A) : Sx n (1923 * W + 1921) A := by
  obtain ⟨d, h1, h2, h3, h4, h5, h6⟩ := h
  refine ⟨d, h1, h2, h3, h4, Nat.le_trans (PyData.shown_le 1921 (by decide) d h5) ?_⟩
  have : (1921 + 2) * d.weight ≤ 1923 * W := Nat.mul_le_mul (by decide) h6
  omega
theorem sx_int {i : Int} {b : Nat} (h : i.natAbs < 2 ^ b) (h0 : 0 < b) (hb : b ≤ 1900) : Sx 0 1921 (aInt i) := by
  have hl := log2_lt_pow h h0
  refine ⟨.int i, isd_int i, ?_, ?_, ?_, ?_⟩
  · rw [PyData.showable]
    exact decide_eq_true (by omega)
  · rw [PyData.hasDict]
  · rw [PyData.depth]
    exact Nat.le_refl _
  · rw [PyData.shown]
    exact int_text_len_1921 (by omega)
theorem sx_s {z : Str} {W : Nat} (h : z.length ≤ W) (hc : ∀ c, c ∈ z.cps.toList → c < 16 ^ 8) : Sx 0 (10 * W + 8) (aS z) := by
  refine ⟨.str z, isd_s z, ?_, ?_, ?_, ?_⟩
  · rw [PyData.showable]
  · rw [PyData.hasDict]
  · rw [PyData.depth]
    exact Nat.le_refl _
  · have := PyData.shown_le 8 (by decide) (.str z) (by rw [PyData.leavesShort]; exact List.all_eq_true.mpr fun c h => decide_eq_true (hc c h))
    rw [PyData.weight] at this
    have e : z.cps.size = z.length := rfl
    omega
theorem sx_b (b : Bool) : Sx 0 5 (aB b) := by
  refine ⟨.bool b, isd_b b, ?_, ?_, ?_, ?_⟩
  · rw [PyData.showable]
  · rw [PyData.hasDict]
  · rw [PyData.depth]
    exact Nat.le_refl _
  · cases b <;> decide +kernel
theorem sx_n : Sx 0 4 aN := by
  refine ⟨.none, isd_n, ?_, ?_, ?_, ?_⟩
  · rw [PyData.showable]
  · rw [PyData.hasDict]
  · rw [PyData.depth]
    exact Nat.le_refl _
  · decide +kernel
theorem sxs_nil {n : Nat} : Sxs n 0 [] := by
  refine ⟨[], isds_nil, ?_, ?_, ?_, ?_⟩
  · rw [PyData.showableAll]
  · rw [PyData.hasDictAll]
  · rw [PyData.depthAll]
    exact Nat.zero_le _
  · rw [PyData.shownAll]
    exact Nat.le_refl _
theorem sxs_cons {n W V : Nat} {A : AV} {As : List AV} (h : Sx n W A) (t : Sxs n V As) : Sxs n (W + 2 + V) (A :: As) := by
  obtain ⟨d, h1, h2, h3, h4, h5⟩ := h
  obtain ⟨ds, t1, t2, t3, t4, t5⟩ := t
  refine ⟨d :: ds, isds_cons h1 t1, ?_, ?_, ?_, ?_⟩
  · rw [PyData.showableAll, h2, t2]
    rfl
  · rw [PyData.hasDictAll, h3, t3]
    rfl
  · rw [PyData.depthAll]
    exact Nat.max_le.mpr ⟨h4, t4⟩
  · rw [PyData.shownAll, List.map_cons, List.sum_cons, List.length_cons]
    omega
theorem sxs_append {n W V : Nat} {As Bs : List AV} (h : Sxs n W As) (t : Sxs n V Bs) : Sxs n (W + V) (As ++ Bs) := by
  induction As generalizing W with
  | nil => exact t.mono (Nat.le_refl _) (by omega)
  | cons A As ih =>
    obtain ⟨ds, h1, h2, h3, h4, h5⟩ := h
    obtain ⟨d, ds, rfl, g1, g2⟩ := h1
    rw [PyData.showableAll, Bool.and_eq_true] at h2
    rw [PyData.hasDictAll, Bool.or_eq_false_iff] at h3
    rw [PyData.depthAll] at h4
    rw [PyData.shownAll, List.map_cons, List.sum_cons, List.length_cons] at h5
    have a := ih (W := W - (d.shown.length + 2)) ⟨ds, g2, h2.2, h3.2, by omega, by omega⟩
    have := sxs_cons (W := d.shown.length) ⟨d, g1, h2.1, h3.1, by omega, Nat.le_refl _⟩ a
    exact this.mono (Nat.le_refl _) (by omega)
theorem sxs_map {α : Type} {n W : Nat} {f : α → AV} : ∀ xs : List α, (∀ x, x ∈ xs → Sx n W (f x)) → Sxs n (xs.length * (W + 2)) (xs.map f)
  | [], _ => by
    rw [List.length_nil, Nat.zero_mul]
    exact sxs_nil
  | x :: xs, h => by
    have e : (x :: xs).length * (W + 2) = W + 2 + xs.length * (W + 2) := by rw [List.length_cons, Nat.succ_mul, Nat.add_comm]
    rw [e]
    exact sxs_cons (h x (List.mem_cons_self ..)) (sxs_map xs fun y hy => h y (List.mem_cons_of_mem _ hy))
theorem sx_tup {n W : Nat} {As : List AV} (h : Sxs n W As) : Sx (n + 1) (W + 3) (aTup As) := by
  obtain ⟨ds, t1, t2, t3, t4, t5⟩ := h
  refine ⟨.tuple ds, isd_tup t1, ?_, ?_, ?_, ?_⟩
  · rw [PyData.showable]; exact t2
  · rw [PyData.hasDict]; exact t3
  · rw [PyData.depth]; omega
  · rw [PyData.shown]
    exact Nat.le_trans (tupleText_len_le _) (by omega)
theorem sx_lst {n W : Nat} {As : List AV} (h : Sxs n W As) : Sx (n + 1) (W + 3) (aLst As) := by
  obtain ⟨ds, t1, t2, t3, t4, t5⟩ := h
  refine ⟨.list ds, isd_lst t1, ?_, ?_, ?_, ?_⟩
  · rw [PyData.showable]; exact t2
  · rw [PyData.hasDict]; exact t3
  · rw [PyData.depth]; omega
  · rw [PyData.shown]
    exact Nat.le_trans (listText_len_le _) (by omega)
theorem sx_F {q : Rat} {a b : Nat} (h : Sz a b q) (ha : 0 < a) (hb : 0 < b) (la : a ≤ 1900) (lb : b ≤ 1900) : Sx 1 3849 (aF q) :=
  sx_tup ((sxs_cons (sx_int h.num ha la) (sxs_cons (sx_int (i := (q.den : Nat)) (by rw [Int.natAbs_natCast]; exact h.den) hb lb) sxs_nil)).mono (Nat.le_refl _) (by omega))
theorem sx_nat {x : Nat} (h : x < 1024) : Sx 0 1921 (aInt (x : Nat)) := sx_int (b := 10) (by rw [Int.natAbs_natCast]; exact h) (by decide) (by decide)
theorem repr_sx {n W : Nat} {A : AV} (h : Sx n W A) (hn : n ≤ 100) (hW : W ≤ 16000000) (hr : ∀ G v, A.p G v → ∃ a, v = .ref a) :
    ∃ z : Str, ∀ {K : PySem.W.Frag} {F : Hp} {G0 : Vw} {γ : List Sl} {k : AV → List Sl → Prop}, k (aS z) γ → ON K F G0 (rRepr K) [A] γ k := by
  obtain ⟨d, h1, h2, h3, h4, h5⟩ := h
  refine ⟨d.shown, fun q => n_repr h1 hr h2 h3 (Nat.le_trans h4 hn) ?_ q⟩
  have e : sizeLine = 16777216 := by decide
  rw [e]
  omega
/-- an own list and a known one put together: the own one stays one's own -/
theorem go_catO {K : PySem.W.Frag} {F : Hp} {G0 : Vw} {γ : List Sl} {tb : TE} {i : Nat} {k : Addr → List AV → List Sl → Prop} (h0 : ∃ l As, γ[i]? = some (.own l As)) (h : GE K F G0 tb γ fun B γ1 => ∃ l As Bs, B = aLst Bs ∧ γ1[i]? = some (.own l As) ∧ As.length + Bs.length ≤ 100000 ∧ AllA fun l' => k l' (As ++ Bs) γ1) : GO K F G0 (tOp (rAdd K) (tVar i) tb) γ k := fun σ H G Q a z => by
  obtain ⟨l, As, e0⟩ := h0
  obtain ⟨e1, _⟩ := a.ownAt e0
  refine ⟨_, e1, h σ H G _ a fun B γ1 y H1 G1 ⟨l', As', Bs, e, e2, hl, q⟩ l1 a1 p1 => ?_⟩
  subst e
  obtain ⟨e4, vs, h1, _, _, hv⟩ := a1.ownAt e2
  rw [e1] at e4
  cases e4
  obtain ⟨c, ws, rfl, hc, hw⟩ := p1
  exact .inr (.inr (.inl ⟨_, c, vs, ws, rfl, rfl, h1, a1.see.l c ws hc, size_ok (by rw [hv.length, hw.length]; exact hl), fun p np => go_new z a1 l1 np (q p) (hv.append hw)⟩))
theorem cutL_init {α : Type} (xs : List α) (x : α) : cutL (xs ++ [x]) none (some (-1)) = xs := by
  unfold cutL
  have e : HT.sIx (xs ++ [x]).length (xs ++ [x]).length (some (-1)) = xs.length := by
    show (if (-1 : Int) < 0 then ((-1 : Int) + ((xs ++ [x]).length : Int)).toNat else min (-1 : Int).toNat (xs ++ [x]).length) = xs.length
    rw [if_pos (by decide), List.length_append, List.length_singleton]
    omega
  rw [HT.sIx_none, e, List.drop_zero, Nat.sub_zero, List.take_left]
theorem lst_ref {As : List AV} : ∀ G v, (aLst As).p G v → ∃ a, v = .ref a := fun G v ⟨a, vs, e, _⟩ => ⟨a, e⟩
end Rl

/-! # sorted of pairs of whole numbers; the least of a tuple of some -/
namespace Rl
open PySem PySem.Spec PyProof.Rows L2
section
variable {prog : Program} {w : World} {A : Around} {E : Value → Shared → Prop} {s : Shared} {l : Addr}
theorem min_intTup {xs : Array (Int × Tok)} {Q : Value → Shared → Prop} (hh : A.handled = none) (hl : s.heap.IsTuple l (intItems xs)) (hne : 0 < xs.size)
    (h : ∀ v h' tk, (intItems xs)[argBest (fun i j => decide (numAt xs i < numAt xs j)) (xs.size - 1)]? = some v → (∀ b o, s.heap.get? b = some o → h'.get? b = some o) → Q v { s with heap := h', toks := tk }) :
    wpAny (model prog w) A (call (.builtin "min") [.ref l]) Q E s := by
  have hlt : l < s.heap.objs.size := by obtain ⟨_, e, _⟩ := hl; exact Heap.lt_size e
  refine call_min_walk (wpAny_pyIter_tuple hl ?_)
  have hl2 : (s.heap.push { cls := .type "tuple_iterator", data := .fields #[.ref l, .int 0 0] }).IsTuple l (intItems xs) := by
    obtain ⟨o, e, r⟩ := hl
    exact ⟨o, Heap.get?_push_of_some _ e, r⟩
  refine ⟨_, _, _, _, _, _, _, rfl, Walks.tuple (A := A.in1) hh _ l (Nat.ne_of_lt hlt) (intItems xs), ⟨⟨_, Heap.get?_push_size _ rfl, rfl, rfl⟩, hl2⟩, fun b hb => ?_, by simpa [intItems] using hne, CmpOf.ints_lt (numAt xs) (fun _ _ => intItems_at), fun v h' tk hP hk => ?_⟩
  · show b < (s.heap.push _).objs.size
    rw [Heap.size_push]
    rcases List.mem_cons.mp hb with rfl | hb
    · exact Nat.lt_succ_self _
    · rcases List.mem_cons.mp hb with rfl | hb
      · exact Nat.lt_succ_of_lt hlt
      · cases hb
  · refine h v h' tk (by simpa [intItems] using hP) fun b o e => ?_
    refine hk b o (fun hm => ?_) (Heap.get?_push_of_some _ e)
    rcases List.mem_cons.mp hm with e1 | hm
    · exact absurd (e1 ▸ Heap.lt_size e) (Nat.lt_irrefl _)
    · cases hm
theorem min_rawT {its : List Value} {ns : List Int} {Q : Value → Shared → Prop} (hh : A.handled = none) (hl : s.heap.IsTuple l its.toArray) (hi : IntsAre its ns) (hne : 0 < ns.length)
    (h : ∀ h' tk M t', (∀ b o, s.heap.get? b = some o → h'.get? b = some o) → M ∈ ns → (∀ a, a ∈ ns → M ≤ a) → Q (.int M t') { s with heap := h', toks := tk }) : wpAny (model prog w) A (call (.builtin "min") [.ref l]) Q E s := by
  obtain ⟨xs, e⟩ := hi.allInts.items
  have hn : numsOf (intItems xs).toList = ns := by rw [← e]; exact hi.numsOf
  rw [nums_intItems] at hn
  subst hn
  rw [e] at hl
  have hsz : 0 < xs.size := by simpa using hne
  refine min_intTup hh hl hsz fun v h' tk hv hk => ?_
  obtain ⟨t, rfl⟩ := intItems_at hv
  obtain ⟨h1, h2⟩ := argBest_lt (numAt xs) (xs.size - 1)
  refine h h' tk _ t hk ?_ fun a ha => ?_
  · rw [numAt_eq]; exact PySem.getD_mem (by rw [List.length_map, Array.length_toList]; omega)
  · obtain ⟨j, hj, rfl⟩ := mem_getD ha
    rw [List.length_map, Array.length_toList] at hj
    rw [← numAt_eq]; exact h2 j (by omega)
end
def rMinT (K : PySem.W.Frag) : List V → Hp → VK → Prop := fun vs H Q => ∃ (a : Addr) (ns : List Int), vs = [V.ref a] ∧ SqT K H a (ns.map V.int) ∧ 0 < ns.length ∧ ∀ m, m ∈ ns → (∀ y, y ∈ ns → m ≤ y) → Q (.int m) H
theorem call_minT {X : Cx} (hc : X.calm = true) : CallR X (.builtin "min") (rMinT X.K) := by
  intro pins s σ H vs us Q I r h
  obtain ⟨a, ns, rfl, hs, hne, q⟩ := h
  obtain ⟨its, rv, hl, _⟩ := I.tuple hs
  rw [Vals.ref1 r]
  exact min_rawT (I.ok.hd hc) hl rv.ints hne fun h' tk m t' hk h1 h2 => ⟨.int _, H, I.kept hk, ⟨_, rfl⟩, q m h1 h2⟩
theorem call_minTK {X : Cx} {K : PySem.W.Frag} (hc : X.calm = true) (h : X.K = K := by rfl) : CallR X (.builtin "min") (rMinT K) := h ▸ call_minT hc
theorem n_minT {K : PySem.W.Frag} {F : Hp} {G0 : Vw} {γ : List Sl} {k : AV → List Sl → Prop} {x y : Int} (q : k (aInt (min x y)) γ) : ON K F G0 (rMinT K) [aTup [aInt x, aInt y]] γ k := fun σ H G vs Q a p z => by
  obtain ⟨v, r, rfl, ⟨b, ws, rfl, ht, hv⟩, rfl⟩ := p
  obtain ⟨w1, r1, rfl, g1, w2, r2, rfl, g2, rfl⟩ := hv
  have g1 : w1 = .int x := g1
  have g2 : w2 = .int y := g2
  subst g1; subst g2
  refine ⟨b, [x, y], rfl, a.see.t b _ ht, by simp, fun m h1 h2 => ?_⟩
  have e : m = min x y := by
    have h3 := h2 x (by simp)
    have h4 := h2 y (by simp)
    simp at h1
    omega
  rw [e]
  exact z _ γ _ H G q (.refl G) a rfl
/-- the pairs that some references stand for -/
def PrsOf (K : PySem.W.Frag) (H : Hp) (xs : List V) (ps : List (Int × Int)) : Prop := xs.length = ps.length ∧ ∀ (i : Nat) (x : V) (q : Int × Int), xs[i]? = some x → ps[i]? = some q → ∃ t, x = .ref t ∧ SqT K H t [.int q.1, .int q.2]
def rSrtP (K : PySem.W.Frag) : List V → Hp → VK → Prop := fun vs H Q => ∃ (a : Addr) (xs : List V) (ps : List (Int × Int)), vs = [V.ref a] ∧ SqL K H a xs ∧ PrsOf K H xs ps ∧
  ∀ ys qs p, ys.length = qs.length → (∀ (j : Nat) (y : V) (q : Int × Int), ys[j]? = some y → qs[j]? = some q → ∃ i : Nat, xs[i]? = some y ∧ ps[i]? = some q) → SrtO.Srtd SrtO.lexB qs → qs.Perm ps → H p = none → Q (.ref p) (upd H p (.lst ys))
section
variable {X : Cx}
theorem call_srtP : CallR X (.builtin "sorted") (rSrtP X.K) := by
  intro pins s σ H vs us Q I r h
  obtain ⟨a, xs, ps, rfl, hs, ⟨hl0, hx⟩, q⟩ := h
  classical
  obtain ⟨k, hk⟩ : ∃ k : V → Int × Int, ∀ (i : Nat) (x : V) (q : Int × Int), xs[i]? = some x → ps[i]? = some q → k x = q ∧ ∃ t, x = .ref t ∧ SqT X.K H t [.int q.1, .int q.2] := by
    refine ⟨fun x => if h : ∃ q : Int × Int, ∃ t, x = .ref t ∧ SqT X.K H t [.int q.1, .int q.2] then Classical.choose h else (0, 0), fun i x q e1 e2 => ?_⟩
    obtain ⟨t, et, ht⟩ := hx i x q e1 e2
    have hh : ∃ q : Int × Int, ∃ t, x = .ref t ∧ SqT X.K H t [.int q.1, .int q.2] := ⟨q, t, et, ht⟩
    refine ⟨?_, t, et, ht⟩
    show (if h : ∃ q : Int × Int, ∃ t, x = .ref t ∧ SqT X.K H t [.int q.1, .int q.2] then Classical.choose h else (0, 0)) = q
    rw [dif_pos hh]
    obtain ⟨t', et', ht'⟩ := Classical.choose_spec hh
    rw [et] at et'
    cases et'
    have e := I.tuple_inj ht' ht
    injection e with e1 e
    injection e with e2 _
    injection e1 with e1
    injection e2 with e2
    exact Prod.ext e1 e2
  have hkm : ∀ x, x ∈ xs → ∃ t, x = V.ref t ∧ SqT X.K H t [.int (k x).1, .int (k x).2] := fun x hm => by
    obtain ⟨i, hi, e⟩ := List.mem_iff_getElem.mp hm
    have e1 : xs[i]? = some x := by rw [List.getElem?_eq_getElem hi, e]
    have hi2 : i < ps.length := by rw [← hl0]; exact hi
    obtain ⟨g1, t, g2, g3⟩ := hk i x ps[i] e1 (List.getElem?_eq_getElem hi2)
    exact ⟨t, g2, by rw [g1]; exact g3⟩
  have hmap : xs.map k = ps := by
    refine List.ext_getElem (by rw [List.length_map]; exact hl0) fun i h1 h2 => ?_
    rw [List.getElem_map]
    rw [List.length_map] at h1
    exact (hk i _ _ (List.getElem?_eq_getElem h1) (List.getElem?_eq_getElem h2)).1
  obtain ⟨its, rv, hl, hz⟩ := I.list hs
  obtain ⟨u, rfl, ru⟩ := vals1 r
  obtain rfl : u = Value.ref a := ru
  obtain ⟨e1, e2⟩ := refs_back rv fun x m => by
    obtain ⟨t, e, _⟩ := hkm x m
    exact ⟨t, e⟩
  refine SrtO.sorted_pairsO (k := fun u => k (backV u)) hl.isList (by rw [← rv.length]; exact hz) (fun v hv => ?_) fun h' d out h1 h2 kp hd hn => ?_
  · obtain ⟨t, rfl⟩ := e2 v hv
    have hm : V.ref t ∈ xs := by rw [e1]; exact List.mem_map.mpr ⟨_, hv, rfl⟩
    obtain ⟨t', e, ht⟩ := hkm _ hm
    cases e
    obtain ⟨its2, r2, ⟨o, ho, hc, n, hd⟩, _⟩ := I.tuple ht
    obtain ⟨u1, u2, rfl, ri, rj⟩ := vals2 r2
    obtain ⟨t1, rfl⟩ := ri
    obtain ⟨t2, rfl⟩ := rj
    exact ⟨t, o, t1, t2, n, rfl, ho, hc, hd⟩
  · have h3 : ∀ u ∈ out, ∃ a, u = Value.ref a := fun u hu => e2 u (h2.perm.mem_iff.mp hu)
    obtain ⟨n, hn⟩ := hn
    have hb : SrtO.Stb (ltP k) (out.map backV) xs := by
      rw [e1]
      exact SrtO.Stb.map (ltP_swo k) backV h2
    have hp : ((out.map backV).map k).Perm ps := by
      rw [← hmap]
      exact hb.perm.map k
    refine ⟨.ref d, upd H d (.lst (out.map backV)), I.laid (t' := s.toks) kp hd ⟨?_, out, n, vals_back h3, hn⟩, rfl, q (out.map backV) ((out.map backV).map k) d (List.length_map ..).symm (fun j y q hy hq => ?_) ?_ hp (I.hok.fresh hd)⟩
    · rw [hb.len]
      exact hz
    · rw [List.getElem?_map, hy] at hq
      have hq : k y = q := Option.some.inj hq
      have hm : y ∈ xs := hb.perm.mem_iff.mp (List.mem_of_getElem? hy)
      obtain ⟨i, hi, e⟩ := List.mem_iff_getElem.mp hm
      have g1 : xs[i]? = some y := by rw [List.getElem?_eq_getElem hi, e]
      have hi2 : i < ps.length := by rw [← hl0]; exact hi
      refine ⟨i, g1, ?_⟩
      rw [List.getElem?_eq_getElem hi2, ← hq]
      exact congrArg some (hk i y ps[i] g1 (List.getElem?_eq_getElem hi2)).1.symm
    · exact SrtO.srtd_map (f := k) (SrtO.srtd_map h1)
theorem call_srtPK {K : PySem.W.Frag} (h : X.K = K := by rfl) : CallR X (.builtin "sorted") (rSrtP K) := h ▸ call_srtP
end
abbrev aPr (q : Int × Int) : AV := aTup [aInt q.1, aInt q.2]
theorem n_srt {K : PySem.W.Frag} {F : Hp} {G0 : Vw} {γ : List Sl} {k : AV → List Sl → Prop} {ps : List (Int × Int)} (q : ∀ qs, SrtO.Srtd SrtO.lexB qs → qs.Perm ps → k (aLst (qs.map aPr)) γ) : ON K F G0 (rSrtP K) [aLst (ps.map aPr)] γ k := fun σ H G xs Q a px z => by
  obtain ⟨v, r, rfl, ⟨b, vs, rfl, hb, hv⟩, rfl⟩ := px
  have get : ∀ (i : Nat) (x : V) (p : Int × Int), vs[i]? = some x → ps[i]? = some p → (aPr p).p G x := fun i x p e1 e2 => by
    obtain ⟨x', h1, h2⟩ := avs.get hv (show (ps.map aPr)[i]? = some (aPr p) by rw [List.getElem?_map, e2]; rfl)
    rw [e1] at h1
    cases h1
    exact h2
  have hlen : vs.length = ps.length := by rw [hv.length, List.length_map]
  refine ⟨b, vs, ps, rfl, .inl (.inl (a.see.l b vs hb)), ⟨hlen, fun i x p e1 e2 => ?_⟩, fun ys qs p hl hal hs hp np => ?_⟩
  · obtain ⟨t, ws, rfl, ht, hw⟩ := get i x p e1 e2
    refine ⟨t, rfl, ?_⟩
    obtain ⟨w1, r1, rfl, g1, w2, r2, rfl, g2, rfl⟩ := hw
    have g1 : w1 = .int p.1 := g1
    have g2 : w2 = .int p.2 := g2
    subst g1; subst g2
    exact a.see.t t _ ht
  · have hys : avs G (qs.map aPr) ys := by
      clear hs hp
      have hal2 : ∀ (j : Nat) (y : V) (q : Int × Int), ys[j]? = some y → qs[j]? = some q → (aPr q).p G y := fun j y q h1 h2 => by
        obtain ⟨i, g1, g2⟩ := hal j y q h1 h2
        exact get i y q g1 g2
      clear q hal
      induction qs generalizing ys with
      | nil =>
        rw [List.length_nil] at hl
        exact List.length_eq_zero_iff.mp hl
      | cons q qs ih =>
        cases ys with
        | nil => cases hl
        | cons y ys =>
          refine ⟨y, ys, rfl, hal2 0 y q rfl rfl, ih ys (by simpa using hl) fun j y' q' h1 h2 => hal2 (j + 1) y' q' (by simpa using h1) (by simpa using h2)⟩
    exact z _ γ _ _ _ (q qs hs hp) (G.leL p _) ((a.up (same_upd np)).addL upd_same (a.noF np) (a.noOwn np)) ⟨p, _, rfl, .inr ⟨rfl, rfl⟩, hys.mono (G.leL p _)⟩
end Rl

/-! # own lists lent to calls that change or make others; how many different whole numbers -/
namespace Rl
open PySem PySem.Spec PyProof.Rows L2
section
variable {K : PySem.W.Frag} {F : Hp} {G0 : Vw} {γ : List Sl} {ks : KS}
theorem lfs_down {G : Vw} {As : List AV} {vs : List V} (l : Lfs As) (h : avs G As vs) : avs (unlent γ G) As vs := avs.mono (G := ⟨G.t, fun _ _ => False, fun _ _ => False, G.h, G.k⟩) (G' := unlent γ G) ⟨fun _ _ h => h, fun _ _ h => False.elim h, fun _ _ h => False.elim h, fun _ _ h => h, rfl⟩ (lf_avs l h)
theorem lf_down {G : Vw} {A : AV} {v : V} (l : Lf A) (h : A.p G v) : A.p (unlent γ G) v := A.mono (G := ⟨G.t, fun _ _ => False, fun _ _ => False, G.h, G.k⟩) ⟨fun _ _ h => h, fun _ _ h => False.elim h, fun _ _ h => False.elim h, fun _ _ h => h, rfl⟩ (l G v h)
/-- a def that changes the own list in slot i, the other own lists lent -/
theorem ge_callML {C : Cm} {E : XK} {t : TA} {i : Nat} {k : AV → List Sl → Prop} (h0 : ∃ l S, γ[i]? = some (.own l S)) (h : ∀ F' G0', GA K F' G0' t (lend (γ.set i .non)) fun As _ => ∃ l S, γ[i]? = some (.own l S) ∧ C S As (fun A S' => Lf A ∧ Lfs S' ∧ k A (γ.set i (.own l S'))) (fun As' S' => Lfs As' ∧ Lfs S' ∧ k (aLst As') (γ.set i (.own l S')))) : GE K F G0 (tCall (spM K C) [] E (tCons (tVar i) t)) γ k := fun σ H G Q a z => by
  obtain ⟨l0, S0, e0⟩ := h0
  obtain ⟨e1, ws, g1, g2, g3, g4⟩ := a.ownAt e0
  have a0 := a.forget i
  refine ⟨_, e1, h H _ σ H _ _ a0.lendAt fun As γ1 vs H1 G1 ⟨l, S, e2, h1⟩ l1 a1 p1 => ?_⟩
  rw [e0] at e2
  cases e2
  have sm1 : Same H H1 := a1.same
  have old : ∀ j T, (γ.set i .non)[j]? = some T → ∀ b, b ∈ T.ads → i ≠ j ∧ γ[j]? = some T := fun j T e b hb => by
    by_cases hij : i = j
    · subst hij
      rw [List.getElem?_set_self (by have := (List.getElem?_eq_some_iff.mp e).1; rw [List.length_set] at this; exact this)] at e
      cases e
      exact absurd hb no_adsN
    · rw [List.getElem?_set_ne hij] at e
      exact ⟨hij, e⟩
  have back : ∀ b ys, H b ≠ none → G1.l b ys → G.l b ys ∨ ∃ (j : Nat) (T : Sl), i ≠ j ∧ γ[j]? = some T ∧ b ∈ T.ads := fun b ys hb q => by
    rcases a1.hid b ys hb q with q | ⟨_, j, T, e, hT⟩
    · exact .inl q
    · exact .inr ⟨j, T, (old j T e b hT).1, (old j T e b hT).2, hT⟩
  have nl : ∀ ys, ¬ G1.l l0 ys := fun ys q => by
    rcases back l0 ys (by rw [g1]; exact nofun) q with q | ⟨j, T, hij, e, hT⟩
    · exact g3 ys q
    · exact hij (a.dis i j _ T l0 e0 e (own_ads l0 S0) hT)
  have le0 : Vw.Le G G1 := (lent_le (γ.set i .non) H G).trans l1
  have p0 : avs G1 S0 ws := g4.mono le0
  have fin : ∀ {H' : Hp} {G' : Vw} {S' : List AV} {ws' : List V}, Lfs S' → Vw.Le G1 G' → Same (hid1 H1 l0) H' → See K G' H' → (∀ b xs, H1 b ≠ none → G'.l b xs → G1.l b xs) → H' l0 = some (.lst ws') → avs G' S' ws' → Vw.Le G (unlent γ G') ∧ At K F G0 (γ.set i (.own l0 S')) σ H' (unlent γ G') := by
    intro H' G' S' ws' hS le sm see hid e hv
    have leT := le0.trans le
    have l2 : Vw.Le G (unlent γ G') := ⟨leT.t, fun c xs h => ⟨leT.l c xs h, fun j T e hb => (a.has e hb).2.1 xs h⟩, leT.c, leT.h, leT.k⟩
    refine ⟨l2, a.callM e0 l2 (fun b o q => ?_) ⟨see.t, fun c xs h => see.l c xs h.1, see.c, see.h, see.k⟩ (fun b xs hb q => ?_) e (lfs_down hS hv)⟩
    · refine sm b o ?_
      unfold hid1 at q ⊢
      by_cases hbl : b = l0
      · rw [if_pos hbl] at q
        cases q
      · rw [if_neg hbl] at q ⊢
        exact sm1 b o q
    · have hb1 : H1 b ≠ none := fun z => by
        cases hb2 : H b with
        | none => exact hb hb2
        | some o =>
          rw [sm1 b o hb2] at z
          cases z
      rcases back b xs hb (hid b xs hb1 q.1) with r | ⟨j, T, _, e, hT⟩
      · exact r
      · exact absurd hT (q.2 j T e)
  show spM K C (V.ref l0 :: vs ++ []) H1 Q E
  rw [List.append_nil]
  refine ⟨S0, As, _, _, G1, l0, ws, vs, h1, rfl, p1, a1.see, sm1 l0 _ g1, p0, nl, fun A S2 v H' G' ws' q le sm see hid e hv pv => ?_, fun As' S2 m vs' H' G' ws' q le sm see hid e hv e5 e6 e7 hv2 => ?_⟩
  · obtain ⟨l2, a2⟩ := fin q.2.1 le sm see hid e hv
    exact z A _ v H' _ q.2.2 l2 a2 (lf_down q.1 pv)
  · obtain ⟨l2, a2⟩ := fin q.2.1 le sm see hid e hv
    have hm : H m = none := by
      cases hb2 : H m with
      | none => rfl
      | some o =>
        rw [sm1 m o hb2] at e6
        cases e6
    refine z _ _ _ H' _ q.2.2 (l2.trans ((unlent γ G').leL m vs')) (a2.addL e5 (a.noF hm) (free_set (a.noOwn hm) fun hb => ?_)) ⟨m, vs', rfl, .inr ⟨rfl, rfl⟩, (lfs_down q.1 hv2).mono ((unlent γ G').leL m vs')⟩
    rw [own_ad hb, g1] at hm
    cases hm
/-- a def that tells a flat value or a new list, the own lists lent -/
theorem gn_callL {C : Cn} {E : XK} {ta : TA} {k : Sh → List Sl → Prop} (h : ∀ F' G0', GA K F' G0' ta (lend γ) fun As _ => C As (fun A => Lf A ∧ k (.v A) γ) (fun S => ∃ l As', S = .l l (vsh As') ∧ Lfs As' ∧ k S γ)) : GN K F G0 (tCall (spN K C) [] E ta) γ k := fun σ H G Q a z =>
  h H _ σ H _ _ a.lendAt fun As γ1 vs H1 G1 h1 l1 a1 p1 => by
    have un : ∀ {H' : Hp} {G' : Vw}, At K H (lentV γ H G) γ1 σ H' G' → Vw.Le G (unlent γ G') ∧ At K F G0 γ σ H' (unlent γ G') := fun b => a.unlend (lent_le γ H G) b fun c ys h => h.imp id fun ⟨_, i, S, e, hb⟩ fr => fr i S e hb
    show spN K C (vs ++ []) H1 Q E
    rw [List.append_nil]
    refine ⟨As, _, _, G1, h1, p1, a1.see, fun A v H' G' q le sm see hid pv => ?_, fun S v H' G' q le sm see hid ok nd => ?_⟩
    · obtain ⟨l2, a2⟩ := un (a1.call le sm see hid)
      exact z (.v A) γ v H' _ q.2 l2 a2 (by rw [Sh.ok]; exact lf_down q.1 pv) (by rw [Sh.ads]; exact List.nodup_nil) (fun b hb => by rw [Sh.ads] at hb; cases hb)
    · obtain ⟨l2, a2⟩ := un (a1.call le sm see hid)
      obtain ⟨l, As', rfl, hl, q⟩ := q
      rw [Sh.ok] at ok
      obtain ⟨rfl, o1, o2, xs, hx, o3⟩ := ok
      have hm : H l = none := by
        cases hb2 : H l with
        | none => rfl
        | some o =>
          rw [a1.same l o hb2] at o1
          cases o1
      refine z (.l l (vsh As')) γ _ H' _ q l2 a2 (by rw [Sh.ok]; exact ⟨rfl, a.noF hm, fun ys q => o2 ys q.1, xs, hx, okL_vs (lfs_down hl (vs_okL o3))⟩) nd (fun b hb => ?_)
      rw [Sh.ads, adsL_vs] at hb
      rw [List.mem_singleton.mp hb]
      exact a.noOwn hm
theorem gn_callEL {C : Ce} {E : L2.St → XK} {ta : TA} {k : Sh → List Sl → Prop} {kx : Str → List (Str × AV) → List Sl → Prop} (hX : SX K F G0 (fun cls d σ H => E σ cls d H) kx) (h : ∀ F' G0', GA K F' G0' ta (lend γ) fun As _ => C As (fun A => Lf A ∧ k (.v A) γ) (fun S => ∃ l As', S = .l l (vsh As') ∧ Lfs As' ∧ k S γ) (fun y Fs => Lfs (Fs.map (·.2)) ∧ kx y Fs γ)) : GN K F G0 (tCallS (spE K C) E ta) γ k := fun σ H G Q a z =>
  h H _ σ H _ _ a.lendAt fun As γ1 vs H1 G1 h1 l1 a1 p1 => by
    have un : ∀ {H' : Hp} {G' : Vw}, At K H (lentV γ H G) γ1 σ H' G' → Vw.Le G (unlent γ G') ∧ At K F G0 γ σ H' (unlent γ G') := fun b => a.unlend (lent_le γ H G) b fun c ys h => h.imp id fun ⟨_, i, S, e, hb⟩ fr => fr i S e hb
    refine ⟨As, _, _, _, G1, h1, p1, a1.see, fun A v H' G' q le sm see hid pv => ?_, fun S v H' G' q le sm see hid ok nd => ?_, fun y Fs d H' G' q le sm see hid xf => ?_⟩
    · obtain ⟨l2, a2⟩ := un (a1.call le sm see hid)
      exact z (.v A) γ v H' _ q.2 l2 a2 (by rw [Sh.ok]; exact lf_down q.1 pv) (by rw [Sh.ads]; exact List.nodup_nil) (fun b hb => by rw [Sh.ads] at hb; cases hb)
    · obtain ⟨l2, a2⟩ := un (a1.call le sm see hid)
      obtain ⟨l, As', rfl, hl, q⟩ := q
      rw [Sh.ok] at ok
      obtain ⟨rfl, o1, o2, xs, hx, o3⟩ := ok
      have hm : H l = none := by
        cases hb2 : H l with
        | none => rfl
        | some o =>
          rw [a1.same l o hb2] at o1
          cases o1
      refine z (.l l (vsh As')) γ _ H' _ q l2 a2 (by rw [Sh.ok]; exact ⟨rfl, a.noF hm, fun ys q => o2 ys q.1, xs, hx, okL_vs (lfs_down hl (vs_okL o3))⟩) nd (fun b hb => ?_)
      rw [Sh.ads, adsL_vs] at hb
      rw [List.mem_singleton.mp hb]
      exact a.noOwn hm
    · obtain ⟨l2, a2⟩ := un (a1.call le sm see hid)
      exact hX.go y Fs γ σ H' (unlent γ G') d q.2 a2 (XF.lent xf q.1)
end
section
variable {K : PySem.W.Frag} {F : Hp} {G0 : Vw} {γ : List Sl} {ks : KS}
theorem gs_toTr {ts : TS} (i : Nat) {l : Addr} {As : List AV} (e : γ[i]? = some (.own l As)) (q : NX K F G0 ts (γ.set i (.tr (.l l (vsh As)))) ks) : GS K F G0 ts γ ks := fun D σ H G a s => by
  obtain ⟨e1, xs, hx, f, n, hv⟩ := a.ownAt e
  have hl : i < γ.length := (List.getElem?_eq_some_iff.mp e).1
  have ea : ∀ b, b ∈ (Sl.tr (.l l (vsh As))).ads → b ∈ (Sl.own l As).ads := fun b hb => by
    have hb : b ∈ (Sh.l l (vsh As)).ads := hb
    rw [Sh.ads, adsL_vs] at hb
    exact hb
  refine q D σ H G ⟨a.le, a.same, a.see, a.hid, by rw [List.length_set, a.len], fun j T z => ?_, dis_sub a.dis e fun b hb => ea b hb⟩ s
  by_cases hij : i = j
  · subst hij
    rw [List.getElem?_set_self hl] at z
    cases z
    rw [e1]
    exact ⟨_, rfl, by rw [Sh.ok]; exact ⟨rfl, f, n, xs, hx, okL_vs hv⟩, by rw [Sh.ads, adsL_vs]; exact List.nodup_cons.mpr ⟨by simp, List.nodup_nil⟩⟩
  · rw [List.getElem?_set_ne hij] at z
    exact a.slot j T z
end
/-! ### how many different whole numbers -/
theorem met_lt {val : Nat → Int} {i j : Nat} (hij : i < j) (e : val i = val j) : ∀ {n : Nat}, j < n → (firstMet val n).length < n
  | 0, h => absurd h (Nat.not_lt_zero _)
  | n + 1, h => by
    rw [firstMet_succ]
    unfold step_dedup
    have le := firstMet_length_le val n
    by_cases hj : j = n
    · subst hj
      have : (firstMet val j).any (· == val j) = true := by
        rw [firstMet_any]
        exact List.any_eq_true.mpr ⟨val i, List.mem_map.mpr ⟨i, List.mem_range.mpr hij, rfl⟩, by rw [e]; exact beq_self_eq_true _⟩
      rw [if_pos this]
      omega
    · have ih := met_lt hij e (n := n) (by omega)
      split
      · omega
      · rw [List.length_append, List.length_singleton]
        omega
def metN (ns : List Int) : Nat := (firstMet (fun i => ns.getD i 0) ns.length).length
theorem met4 {a b c d : Int} (h : ¬ metN [a, b, c, d] < 4) : a ≠ b ∧ a ≠ c ∧ a ≠ d ∧ b ≠ c ∧ b ≠ d ∧ c ≠ d :=
  ⟨fun e => h (met_lt (i := 0) (j := 1) (by decide) e (n := 4) (by decide)), fun e => h (met_lt (i := 0) (j := 2) (by decide) e (n := 4) (by decide)), fun e => h (met_lt (i := 0) (j := 3) (by decide) e (n := 4) (by decide)), fun e => h (met_lt (i := 1) (j := 2) (by decide) e (n := 4) (by decide)), fun e => h (met_lt (i := 1) (j := 3) (by decide) e (n := 4) (by decide)), fun e => h (met_lt (i := 2) (j := 3) (by decide) e (n := 4) (by decide))⟩
theorem met_le (ns : List Int) : metN ns ≤ ns.length := firstMet_length_le _ _
def tLenSet (K : PySem.W.Frag) (ta : TE) : TE := fun σ H Q => ta σ H fun x H1 => ∃ (l : Addr) (ns : List Int), x = .ref l ∧ SqL K H1 l (ns.map V.int) ∧ ns.length ≤ 4000 ∧ Q (.int (metN ns : Nat)) H1
theorem pe_lenSet {X : Cx} {a : Expr} {ta : TE} {p p2 q pos : Pos} (hg : Gl X "len") (hm : X.mg "len" = none) (hg2 : Gl X "set") (hm2 : X.mg "set" = none) (ha : PE X a ta) (hc : X.calm = true := by rfl)
    (na : starEach [a] X.env = (false, eval a X.env) :: starEach [] X.env := by rfl) : PE X (.Call (.Name "len" p) [.Call (.Name "set" p2) [a] [] q] [] pos) (tLenSet X.K ta) := by
  refine ⟨fun pins s σ H Q I h => ?_⟩
  refine Call_ (ld_blt I hg hm boot_len ?_)
  refine PyProof.Rows.callWith_builtin1 (PyProof.Rows.args_cons ?_ rfl) rfl rfl
  refine Call_ (ld_blt I hg2 hm2 boot_set ?_)
  refine PyProof.Rows.callWith_type1 (PyProof.Rows.args_cons (thn (ha.run pins s σ H _ I h) fun v s1 ⟨x, H1, I1, r1, q1⟩ => PyProof.Rows.args_nil ?_) na) na rfl
  obtain ⟨l, ns, rfl, hq, hl, q1⟩ := q1
  cases r1
  obtain ⟨its, r, pl, hz⟩ := I1.list hq
  have hlen : its.toArray.size = ns.length := by rw [List.size_toArray, ← r.length, List.length_map]
  refine call_set_list (I1.ok.hd hc) pl.isList (by simpa using RZ.intsAre_vals r) (by rw [hlen]; unfold scanBound; omega) fun h' tk hS hk => ?_
  refine PyProof.Rows.args_nil ?_
  rw [hlen] at hS
  have hM : (firstMet (fun i => ns.getD i 0) ns.length).length = metN ns := rfl
  have hm3 := met_le ns
  obtain ⟨o, es, ep, t, ho, hex, hd, _, _, _, hf, hn⟩ := hS
  rw [hM] at hn
  have I2 : Inv X pins σ H1 { s1 with heap := h', toks := tk } := I1.kept fun b o e => hk b o (Heap.lt_size e) e
  exact call_len_set ho hex hd hf (by rw [hn] <;> omega) ⟨.int (metN ns), H1, I2.tok _, ⟨_, by rw [hn]⟩, q1⟩
theorem ints_avs {G : Vw} : ∀ {ns : List Int} {vs : List V}, avs G (ns.map aInt) vs → vs = ns.map V.int
  | [], _, h => h
  | n :: ns, _, ⟨v, r, e, p, t⟩ => by
    subst e
    rw [ints_avs t]
    cases p
    rfl
theorem ge_lenSet {K : PySem.W.Frag} {F : Hp} {G0 : Vw} {γ : List Sl} {te : TE} {k : AV → List Sl → Prop} (h : GE K F G0 te γ fun A γ1 => ∃ ns : List Int, A = aLst (ns.map aInt) ∧ ns.length ≤ 4000 ∧ k (aInt (metN ns : Nat)) γ1) : GE K F G0 (tLenSet K te) γ k := fun σ H G Q a z =>
  h σ H G _ a fun A γ1 v H1 G1 ⟨ns, e, hl, q⟩ l1 a1 p1 => by
    subst e
    obtain ⟨b, vs, rfl, hb, hv⟩ := p1
    have : vs = ns.map V.int := ints_avs hv
    subst this
    exact ⟨b, ns, rfl, a1.see.seq (.inl hb), hl, z _ γ1 _ H1 G1 q l1 a1 rfl⟩
end Rl

/-! # sorted of pairs whose firsts are whole numbers, all different; the seconds are anything -/
namespace Rl
open PySem PySem.Spec PyProof.Rows L2
section
variable {prog : Program} {w : World} {A : Around} {E : Value → Shared → Prop} {s : Shared}
def IsIT (h : Heap) (v : Value) (x : Int) : Prop := ∃ a o t u n, v = .ref a ∧ h.get? a = some o ∧ o.cls = .type "tuple" ∧ o.data = .seq #[.int x t, u] n
theorem IsIT.keeps {h h' : Heap} {v : Value} {x : Int} (p : IsIT h v x) (k : ∀ b o, h.get? b = some o → o.cls = .type "tuple" → h'.get? b = some o) : IsIT h' v x := by
  obtain ⟨a, o, t, u, n, e, ho, hc, hd⟩ := p
  exact ⟨a, o, t, u, n, e, k _ _ ho hc, hc, hd⟩
theorem it_firsts {h : Heap} : ∀ {vs : List Value}, (∀ v ∈ vs, ∃ x, IsIT h v x) → ∃ fs : List Value, PySem.W.KatTups h vs fs ∧ fs.length = vs.length ∧ ∀ f ∈ fs, ∃ x t, f = Value.int x t
  | [], _ => ⟨[], PySem.W.KatTups.nil, rfl, fun _ hm => by simp at hm⟩
  | v :: vs, hp => by
    obtain ⟨fs, h1, h2, h3⟩ := it_firsts (vs := vs) fun v' hm => hp v' (List.mem_cons_of_mem _ hm)
    obtain ⟨x, a, o, t, u, n, e, ho, hc, hd⟩ := hp v (List.mem_cons_self ..)
    subst e
    refine ⟨.int x t :: fs, PySem.W.KatTups.cons ho hc hd rfl h1, by rw [List.length_cons, List.length_cons, h2], fun f hm => ?_⟩
    rcases List.mem_cons.mp hm with rfl | hm
    · exact ⟨x, t, rfl⟩
    · exact h3 f hm
theorem swo_key {α : Type} (k : α → Int) : SrtO.Swo fun v u => decide (k v < k u) := by
  refine ⟨fun x y h => ?_, fun x y z h1 h2 => ?_⟩
  · have h := of_decide_eq_true h
    exact decide_eq_false (by omega)
  · have h1 := of_decide_eq_false h1
    have h2 := of_decide_eq_false h2
    exact decide_eq_false (by omega)
theorem it_cmp {vs : List Value} {k : Value → Int} (hp : ∀ v ∈ vs, IsIT s.heap v (k v)) (hd : ∀ v ∈ vs, ∀ u ∈ vs, k v = k u → v = u) : SrtO.Cmp prog w A s (tuples' true) (fun p => p.1 ∈ vs) (SrtO.lt2 fun v u => decide (k v < k u)) := by
  intro p q hm hm'
  have h1 := hp _ hm
  have h2 := hp _ hm'
  have h3 := hd _ hm _ hm'
  show wpAny (model prog w) A (keyLt' (tuples' true) p.1 q.1) (fun r s' => s' = s ∧ r = decide (k p.1 < k q.1)) (fun _ _ => False) s
  generalize k p.1 = x at h1 h3 ⊢
  generalize k q.1 = x' at h2 h3 ⊢
  obtain ⟨a, o, t, u, n, e, ho, hc, hd⟩ := h1
  obtain ⟨a', o', t', u', n', e', ho', hc', hd'⟩ := h2
  rw [e, e'] at h3
  rw [e, e']
  refine PySem.W.kat_lt ho hd ho' hd' ?_
  show PySem.W.KatLex prog w A true (decide (2 < 2)) _ [(.int x t, .int x' t'), (u, u')] 0 s
  refine PySem.W.kat_cons (SeqAt.EqAt.int_int x t x' t' prog w _ _ ?_)
  refine PySem.W.kat_go (fun e1 => ?_) (fun e1 => ?_)
  · have ex : x = x' := by simpa using e1
    have ea := h3 ex
    injection ea with ea
    subst ea
    rw [ho] at ho'
    cases ho'
    rw [hd] at hd'
    injection hd' with hd' _
    have eu : u = u' := by
      have := congrArg (fun z : Array Value => z[1]?) hd'
      simpa using this
    subst eu
    subst ex
    refine PySem.W.kat_yes (PySem.W.kat_cons (SeqAt.EqAt.same u prog w _ _ ?_))
    refine PySem.W.kat_go (fun e2 => ?_) (fun e2 => absurd e2 (by decide))
    exact PySem.W.kat_yes (PySem.W.kat_nil ⟨rfl, (decide_eq_false (Int.lt_irrefl _)).symm⟩)
  · exact PySem.W.kat_no (PyProof.Rows.oneLt_int ⟨rfl, rfl⟩)
theorem it_sortable {a : Addr} {vs : List Value} {k : Value → Int} (h0 : 0 < vs.length) (hp : ∀ v ∈ vs, IsIT s.heap v (k v)) (hd : ∀ v ∈ vs, ∀ u ∈ vs, k v = k u → v = u) (ha : ∀ o, s.heap.get? a = some o → o.cls ≠ .type "tuple") : SrtO.SortableO prog w A s a vs fun v u => decide (k v < k u) := by
  intro h' keep
  have hp' : ∀ v ∈ vs, IsIT h' v (k v) := fun v hm => (hp v hm).keeps fun b o e c => keep b o (fun z => by subst z; exact ha o e c) e
  obtain ⟨fs, h1, h2, h3⟩ := it_firsts fun v hm => ⟨_, hp' v hm⟩
  refine ⟨tuples' true, fun Q E hq => ?_, it_cmp hp' hd⟩
  refine PySem.W.kat_kind (T := .type "int") h1 (by omega) (fun f hm => ?_) (by rfl) ?_
  · obtain ⟨x, t, rfl⟩ := h3 f hm
    exact PySem.W.Looks.now
  · have e : (Value.type "int" != Value.type "tuple") = true := by first | decide +kernel | rfl | decide
    rw [e]
    exact hq
theorem sorted_it {l : Addr} {vs : List Value} {k : Value → Int} {Q : Value → Shared → Prop} (hl : s.heap.IsList l vs.toArray) (hz : vs.length ≤ sizeLine) (hp : ∀ v ∈ vs, IsIT s.heap v (k v)) (hd : ∀ v ∈ vs, ∀ u ∈ vs, k v = k u → v = u)
    (h : ∀ (h' : Heap) (d : Addr) (out : List Value), SrtO.Srtd (fun v u => decide (k v < k u)) out → SrtO.Stb (fun v u => decide (k v < k u)) out vs → (∀ b o, s.heap.get? b = some o → h'.get? b = some o) → s.heap.objs.size ≤ d → (∃ n, h'.get? d = some (seqObj "list" out.toArray n)) → Q (.ref d) { s with heap := h' }) :
    wpAny (model prog w) A (call (.builtin "sorted") [.ref l]) Q E s := by
  refine SrtO.sorted_ord (swo_key k) hl hz (fun h2 h₁ a ha kk => ?_) fun out hs hb => ?_
  · refine it_sortable (s := { s with heap := h₁ }) (by omega) (fun v hm => (hp v hm).keeps fun b o e _ => (kk b o e).2) hd fun o e => ?_
    have e' : some o = some (seqObj "list" vs.toArray 0) := e.symm.trans ha
    cases e'
    intro c
    exact absurd (Value.type.inj c) (by decide)
  · exact h _ _ out hs hb (fun b o e => PyProof.Rows.sortedAll_old e) (Nat.le_succ _) (PyProof.Rows.sortedAll_at s.heap vs out.toArray)
end
/-- some references stand for pairs with these firsts -/
def ItOf (K : PySem.W.Frag) (H : Hp) (xs : List V) (ps : List Int) : Prop := xs.length = ps.length ∧ ∀ (i : Nat) (x : V) (q : Int), xs[i]? = some x → ps[i]? = some q → ∃ t y, x = .ref t ∧ SqT K H t [.int q, y]
def rSrtT (K : PySem.W.Frag) : List V → Hp → VK → Prop := fun vs H Q => ∃ (a : Addr) (xs : List V) (ps : List Int), vs = [V.ref a] ∧ SqL K H a xs ∧ ItOf K H xs ps ∧ ps.Nodup ∧
  ∀ (ys : List V) (qs : List Int) (p : Addr), ys.length = qs.length → (∀ (j : Nat) (y : V) (q : Int), ys[j]? = some y → qs[j]? = some q → ∃ i : Nat, xs[i]? = some y ∧ ps[i]? = some q) → qs.Pairwise (fun a b => a ≤ b) → qs.Perm ps → H p = none → Q (.ref p) (upd H p (.lst ys))
section
variable {X : Cx}
theorem call_srtT : CallR X (.builtin "sorted") (rSrtT X.K) := by
  intro pins s σ H vs us Q I r h
  obtain ⟨a, xs, ps, rfl, hs, ⟨hl0, hx⟩, hnd, q⟩ := h
  classical
  obtain ⟨k, hk⟩ : ∃ k : V → Int, ∀ (i : Nat) (x : V) (q : Int), xs[i]? = some x → ps[i]? = some q → k x = q ∧ ∃ t y, x = .ref t ∧ SqT X.K H t [.int q, y] := by
    refine ⟨fun x => if h : ∃ q : Int, ∃ t y, x = .ref t ∧ SqT X.K H t [.int q, y] then Classical.choose h else 0, fun i x q e1 e2 => ?_⟩
    obtain ⟨t, y, et, ht⟩ := hx i x q e1 e2
    have hh : ∃ q : Int, ∃ t y, x = .ref t ∧ SqT X.K H t [.int q, y] := ⟨q, t, y, et, ht⟩
    refine ⟨?_, t, y, et, ht⟩
    show (if h : ∃ q : Int, ∃ t y, x = .ref t ∧ SqT X.K H t [.int q, y] then Classical.choose h else 0) = q
    rw [dif_pos hh]
    obtain ⟨t', y', et', ht'⟩ := Classical.choose_spec hh
    rw [et] at et'
    cases et'
    have e := I.tuple_inj ht' ht
    injection e with e1 e
    injection e1 with e1
  have hkm : ∀ x, x ∈ xs → ∃ t y, x = V.ref t ∧ SqT X.K H t [.int (k x), y] := fun x hm => by
    obtain ⟨i, hi, e⟩ := List.mem_iff_getElem.mp hm
    have e1 : xs[i]? = some x := by rw [List.getElem?_eq_getElem hi, e]
    have hi2 : i < ps.length := by rw [← hl0]; exact hi
    obtain ⟨g1, t, y, g2, g3⟩ := hk i x ps[i] e1 (List.getElem?_eq_getElem hi2)
    exact ⟨t, y, g2, by rw [g1]; exact g3⟩
  have hmap : xs.map k = ps := by
    refine List.ext_getElem (by rw [List.length_map]; exact hl0) fun i h1 h2 => ?_
    rw [List.getElem_map]
    rw [List.length_map] at h1
    exact (hk i _ _ (List.getElem?_eq_getElem h1) (List.getElem?_eq_getElem h2)).1
  have hinj : ∀ x, x ∈ xs → ∀ y, y ∈ xs → k x = k y → x = y := fun x hx y hy e => by
    obtain ⟨i, hi, rfl⟩ := List.mem_iff_getElem.mp hx
    obtain ⟨j, hj, rfl⟩ := List.mem_iff_getElem.mp hy
    rw [← hmap] at hnd
    have pw := List.pairwise_iff_getElem.mp (List.pairwise_map.mp hnd)
    rcases Nat.lt_trichotomy i j with g | g | g
    · exact absurd e (pw i j hi hj g)
    · subst g
      rfl
    · exact absurd e.symm (pw j i hj hi g)
  obtain ⟨its, rv, hl, hz⟩ := I.list hs
  obtain ⟨u, rfl, ru⟩ := vals1 r
  obtain rfl : u = Value.ref a := ru
  obtain ⟨e1, e2⟩ := refs_back rv fun x m => by
    obtain ⟨t, _, e, _⟩ := hkm x m
    exact ⟨t, e⟩
  have hback : ∀ v, v ∈ its → backV v ∈ xs := fun v hv => by rw [e1]; exact List.mem_map.mpr ⟨_, hv, rfl⟩
  refine sorted_it (k := fun u => k (backV u)) hl.isList (by rw [← rv.length]; exact hz) (fun v hv => ?_) (fun v hv u hu e => ?_) fun h' d out h1 h2 kp hd hn => ?_
  · obtain ⟨t, rfl⟩ := e2 v hv
    have hm : V.ref t ∈ xs := hback _ hv
    obtain ⟨t', y, e, ht⟩ := hkm _ hm
    cases e
    obtain ⟨its2, r2, ⟨o, ho, hc, n, hd⟩, _⟩ := I.tuple ht
    obtain ⟨u1, u2, rfl, ri, rj⟩ := vals2 r2
    obtain ⟨t1, rfl⟩ := ri
    exact ⟨t, o, t1, u2, n, rfl, ho, hc, hd⟩
  · obtain ⟨t, rfl⟩ := e2 v hv
    obtain ⟨t', rfl⟩ := e2 u hu
    have := hinj _ (hback _ hv) _ (hback _ hu) e
    have : V.ref t = V.ref t' := this
    injection this with this
    rw [this]
  · have h3 : ∀ u ∈ out, ∃ a, u = Value.ref a := fun u hu => e2 u (h2.perm.mem_iff.mp hu)
    obtain ⟨n, hn⟩ := hn
    have hb : SrtO.Stb (fun x y => decide (k x < k y)) (out.map backV) xs := by
      rw [e1]
      exact SrtO.Stb.map (swo_key k) backV h2
    have hp : ((out.map backV).map k).Perm ps := by
      rw [← hmap]
      exact hb.perm.map k
    refine ⟨.ref d, upd H d (.lst (out.map backV)), I.laid (t' := s.toks) kp hd ⟨?_, out, n, vals_back h3, hn⟩, rfl, q (out.map backV) ((out.map backV).map k) d (List.length_map ..).symm (fun j y q hy hq => ?_) ?_ hp (I.hok.fresh hd)⟩
    · rw [hb.len]
      exact hz
    · rw [List.getElem?_map, hy] at hq
      have hq : k y = q := Option.some.inj hq
      have hm : y ∈ xs := hb.perm.mem_iff.mp (List.mem_of_getElem? hy)
      obtain ⟨i, hi, e⟩ := List.mem_iff_getElem.mp hm
      have g1 : xs[i]? = some y := by rw [List.getElem?_eq_getElem hi, e]
      have hi2 : i < ps.length := by rw [← hl0]; exact hi
      refine ⟨i, g1, ?_⟩
      rw [List.getElem?_eq_getElem hi2, ← hq]
      exact congrArg some (hk i y ps[i] g1 (List.getElem?_eq_getElem hi2)).1.symm
    · rw [List.map_map]
      refine List.pairwise_map.mpr (List.Pairwise.imp (fun {x y} h => ?_) h1)
      have h := of_decide_eq_false h
      show k (backV x) ≤ k (backV y)
      omega
theorem call_srtTK {K : PySem.W.Frag} (h : X.K = K := by rfl) : CallR X (.builtin "sorted") (rSrtT K) := h ▸ call_srtT
end
theorem key_uniq {α : Type} {key : α → Int} : ∀ {l m : List α}, l.Pairwise (fun a b => key a < key b) → m.Pairwise (fun a b => key a < key b) → l.Perm m → l = m
  | [], m, _, _, h => (List.Perm.eq_nil h.symm).symm
  | x :: l, [], _, _, h => absurd h.length_eq (by simp)
  | x :: l, y :: m, hl, hm, h => by
    have e : x = y := by
      rcases List.mem_cons.mp (h.mem_iff.mp (List.mem_cons_self (a := x) (l := l))) with e | hx
      · exact e
      · rcases List.mem_cons.mp (h.mem_iff.mpr (List.mem_cons_self (a := y) (l := m))) with e | hy
        · exact e.symm
        · have a := (List.pairwise_cons.mp hl).1 y hy
          have b := (List.pairwise_cons.mp hm).1 x hx
          omega
    subst e
    rw [key_uniq (List.pairwise_cons.mp hl).2 (List.pairwise_cons.mp hm).2 (List.perm_cons _ |>.mp h)]
/-- sorted of told pairs: any order of them by their firsts is the one that is told -/
theorem n_srtT {K : PySem.W.Frag} {F : Hp} {G0 : Vw} {γ : List Sl} {k : AV → List Sl → Prop} {α : Type} {key : α → Int} {g : α → AV} {ps rs : List α} (hp : rs.Perm ps) (hr : rs.Pairwise fun a b => key a < key b) (q : k (aLst (rs.map fun x => aTup [aInt (key x), g x])) γ) : ON K F G0 (rSrtT K) [aLst (ps.map fun x => aTup [aInt (key x), g x])] γ k := fun σ H G xs Q a px z => by
  obtain ⟨v, r, rfl, ⟨b, vs, rfl, hb, hv⟩, rfl⟩ := px
  have get : ∀ (i : Nat) (x : V) (p : α), vs[i]? = some x → ps[i]? = some p → (aTup [aInt (key p), g p]).p G x := fun i x p e1 e2 => by
    obtain ⟨x', h1, h2⟩ := avs.get hv (show (ps.map fun x => aTup [aInt (key x), g x])[i]? = some (aTup [aInt (key p), g p]) by rw [List.getElem?_map, e2]; rfl)
    rw [e1] at h1
    cases h1
    exact h2
  have hlen : vs.length = ps.length := by rw [hv.length, List.length_map]
  have hnd : (ps.map key).Nodup := by
    refine ((hp.map key).nodup_iff).mp ?_
    refine List.pairwise_map.mpr (hr.imp fun {x y} h e => ?_)
    omega
  have hinj : ∀ x, x ∈ ps → ∀ y, y ∈ ps → key x = key y → x = y := fun x hx y hy e => by
    obtain ⟨i, hi, rfl⟩ := List.mem_iff_getElem.mp hx
    obtain ⟨j, hj, rfl⟩ := List.mem_iff_getElem.mp hy
    have pw := List.pairwise_iff_getElem.mp (List.pairwise_map.mp hnd)
    rcases Nat.lt_trichotomy i j with h | h | h
    · exact absurd e (pw i j hi hj h)
    · subst h
      rfl
    · exact absurd e.symm (pw j i hj hi h)
  refine ⟨b, vs, ps.map key, rfl, .inl (.inl (a.see.l b vs hb)), ⟨by rw [hlen, List.length_map], fun i x p e1 e2 => ?_⟩, hnd, fun ys qs p hl hal hs hpq np => ?_⟩
  · rw [List.getElem?_map] at e2
    obtain ⟨y, ey, rfl⟩ := Option.map_eq_some_iff.mp e2
    obtain ⟨t, ws, rfl, ht, hw⟩ := get i x y e1 ey
    obtain ⟨w1, r1, rfl, g1, w2, r2, rfl, g2, rfl⟩ := hw
    have g1 : w1 = .int (key y) := g1
    subst g1
    exact ⟨t, w2, rfl, a.see.t t _ ht⟩
  · have eq : qs = rs.map key := by
      have hnq : qs.Nodup := hpq.nodup_iff.mpr hnd
      have h1 : qs.Pairwise fun a b => a < b := (hs.and hnq).imp fun {x y} h => by
        have := h.1
        have := h.2
        omega
      have h2 : (rs.map key).Pairwise fun a b => a < b := List.pairwise_map.mpr hr
      exact key_uniq (key := id) h1 h2 (hpq.trans (hp.map key).symm)
    subst eq
    have hys : avs G (rs.map fun x => aTup [aInt (key x), g x]) ys := by
      have hal2 : ∀ (j : Nat) (y : V) (q : α), ys[j]? = some y → rs[j]? = some q → (aTup [aInt (key q), g q]).p G y := fun j y q h1 h2 => by
        obtain ⟨i, g1, g2⟩ := hal j y (key q) h1 (by rw [List.getElem?_map, h2]; rfl)
        rw [List.getElem?_map] at g2
        obtain ⟨p', ep, ek⟩ := Option.map_eq_some_iff.mp g2
        have : p' = q := hinj p' (List.mem_of_getElem? ep) q (hp.mem_iff.mp (List.mem_of_getElem? h2)) ek
        subst this
        exact get i y p' g1 ep
      rw [List.length_map] at hl
      clear q hal hs hpq hp hr
      induction rs generalizing ys with
      | nil =>
        rw [List.length_nil] at hl
        exact List.length_eq_zero_iff.mp hl
      | cons q qs ih =>
        cases ys with
        | nil => cases hl
        | cons y ys =>
          refine ⟨y, ys, rfl, hal2 0 y q rfl rfl, ih ys (by simpa using hl) fun j y' q' h1 h2 => hal2 (j + 1) y' q' (by simpa using h1) (by simpa using h2)⟩
    exact z _ γ _ _ _ q (G.leL p _) ((a.up (same_upd np)).addL upd_same (a.noF np) (a.noOwn np)) ⟨p, _, rfl, .inr ⟨rfl, rfl⟩, hys.mono (G.leL p _)⟩
end Rl

/-! # Rl, forty-third part: fields as targets in a row of targets; enumerate over tuples -/
namespace Rl
open PySem PySem.Spec PyProof.Rows L2
/-- o.f as a target -/
def gFld (K : PySem.W.Frag) (to : TE) (f : Str) : TG := fun v σ H Q => to σ H fun x H1 => ∃ a C dx fs, x = .ref a ∧ H1 a = some (.ins C dx fs) ∧ L2.Cls K C ∧ NoAttr K C f ∧ fs.length < 1000 ∧ Q σ (upd H1 a (.ins C dx (putF f v fs)))
theorem pg_fldK {X : Cx} {K : PySem.W.Frag} {o : Expr} {f : Str} {to : TE} {pos : Pos} (ho : PE X o to) (hK : X.K = K := by rfl) : PG X (.Attribute o f pos) (gFld K to f) := by
  subst hK
  refine ⟨fun pins s σ H v u Q I r h => ?_⟩
  rw [arm_assign_Attribute]
  refine wpAny_bind (wpAny_holding (thn (ho.run pins s σ H _ I h) fun ov s1 ⟨x, H1, I1, rx, a, C, dx, fs, ex, ea, c, n, l, q⟩ => ?_))
  subst ex
  obtain rfl : ov = Value.ref a := rx
  refine wpAny_bind (wpAny_standAt (wpAny_bind (wpAny_holding (setattr_ok I1 ea c n l r fun s3 I3 => ?_))))
  exact wpAny_release ⟨σ, _, I3, q⟩
section
variable {K : PySem.W.Frag} {F : Hp} {G0 : Vw} {γ : List Sl}
/-- self.f = .. in a row of targets -/
theorem gg_fld {C f : Str} {i : Nat} {A : AV} {kg : List Sl → Prop} (j : Nat) (c : L2.Cls K (He.ga K C)) (n : NoAttr K (He.ga K C) f) (h : ∃ a dx ns ss, γ[i]? = some (.tr (.q a (.ins dx C ns) ss)) ∧ ns.length < 900 ∧ ((f ∉ ns ∧ kg (γ.set i (.tr (.q a (.ins dx C (ns ++ [f])) (ss ++ [.v A]))))) ∨ (FirstAt ns j f ∧ j < ss.length ∧ kg (γ.set i (.tr (.q a (.ins dx C ns) (ss.set j (.v A)))))))) : GG K F G0 (gFld K (tVar i) f) A γ kg := fun σ H G y Q a1 py z => by
  obtain ⟨b, dx, ns, ss, e, hn, hq⟩ := h
  obtain ⟨v, e1, okS, _⟩ := a1.trAt e
  rw [Sh.ok] at okS
  obtain ⟨rfl, fa, na, xs, ⟨hx, hl, _⟩, okL⟩ := okS
  have ok : (Sh.v A).ok F H G y := by rw [Sh.ok]; exact py
  have ad : (Sh.v A).ads = [] := by rw [Sh.ads]
  have nd : (Sh.v A).ads.Nodup := by rw [ad]; exact List.nodup_nil
  have fr : ∀ b, b ∈ (Sh.v A).ads → Free γ b := fun b hb => by rw [ad] at hb; cases hb
  refine ⟨_, e1, b, G.k C, dx, ns.zip xs, rfl, hx, by rw [a1.see.k]; exact c, by rw [a1.see.k]; exact n, by rw [List.length_zip]; omega, ?_⟩
  rcases hq with ⟨hf, q⟩ | ⟨hf, hj, q⟩
  · rw [putF_new hf hl]
    refine z _ σ _ G q (.refl G) (a1.putIns e ok nd fr hx okL (take_len hl f y) (fun h1 h2 => okL_append h1 ?_) fun h1 h2 => ?_)
    · rw [Sh.okL]
      exact ⟨y, [], rfl, h2, by rw [Sh.okL]⟩
    · have e3 : Sh.adsL (ss ++ [Sh.v A]) = Sh.adsL ss := by rw [adsL_append, Sh.adsL, Sh.adsL, ad, List.append_nil, List.append_nil]
      rw [e3]
      exact ⟨h1, fun c hc => .inr hc⟩
  · rw [putF_old hf hl]
    refine z _ σ _ G q (.refl G) (a1.putIns e ok nd fr hx okL (by rw [List.length_set]; exact hl) (fun h1 h2 => okL_setV h2 h1) fun h1 h2 => ?_)
    obtain ⟨i1, i2⟩ := adsL_setW (List.getElem?_eq_getElem hj) h1 nd fun b hb => .inr (h2 b hb)
    exact ⟨i1, i2⟩
end
/-! ### enumerate(tuple) -/
theorem meets_enumB {v : Value} {ob : Obj} {HB : Heap → Prop} (B : Begins v ob HB) :
    Meets (Builtin.«enumerate.__new__» ⟨[.type "enumerate", v], []⟩) (fun _ R s => HB s.heap ∧ R (.ok (.ret (.ref (s.heap.push ob).objs.size)))
      { s with heap := (s.heap.push ob).push { cls := .type "enumerate", data := .fields #[.none, .bool false, .ref s.heap.objs.size, rawInt 0, .none, .none] } }) :=
  .of_wp fun prog w A R s h => by
    obtain ⟨hp, gl, dd, tk, os⟩ := s
    obtain ⟨hb, hr⟩ := h
    have hs := sub_enumerate
    have qq : ∀ {A1 : Around} {E1 : Value → Shared → Prop} {Q1 : Value → Shared → Prop}, Q1 (.ref hp.objs.size) ⟨hp.push ob, gl, dd, tk, os⟩ → wpAny (model prog w) A1 (pyIter v) Q1 E1 ⟨hp, gl, dd, tk, os⟩ :=
      fun q => B.iter prog w _ _ ⟨hp, gl, dd, tk, os⟩ _ hb q
    wp_walk using qq
    refine wpAny_stack_any fun st => wpAny_pure ?_
    split
    · rename_i cc _ _ _ _ _
      cases (cc == Value.type "enumerate")
      · wp_walk using qq
        exact ⟨_, rfl, hr⟩
      · wp_walk using qq
        exact ⟨_, rfl, hr⟩
    · wp_walk using qq
      exact ⟨_, rfl, hr⟩
theorem call_enumB {prog : Program} {w : World} {A : Around} {E : Value → Shared → Prop} {s : Shared} {v : Value} {ob : Obj} {HB : Heap → Prop} {Q : Value → Shared → Prop} (B : Begins v ob HB) (hb : HB s.heap)
    (hq : ∀ h', IsEnum h' (s.heap.objs.size + 1) s.heap.objs.size 0 .none → h'.get? s.heap.objs.size = some ob → h'.objs.size = s.heap.objs.size + 2 → (∀ b o, s.heap.get? b = some o → h'.get? b = some o) → Q (.ref (s.heap.objs.size + 1)) { s with heap := h' }) :
    wpAny (model prog w) A (call (.type "enumerate") [v]) Q E s := by
  have sz : (s.heap.push ob).objs.size = s.heap.objs.size + 1 := Heap.size_push ..
  refine callType_new F.called_enumerate (by decide) (F.typeCall_enumerate_1 _) (F.newCall_enumerate_1 _) (fun obj => F.args_object_init_2 obj _) F.entry_enumerate_new (meets_enumB B) ⟨hb, ?_⟩
  show _ ∧ _
  rw [sz]
  have en : IsEnum ((s.heap.push ob).push { cls := .type "enumerate", data := .fields #[.none, .bool false, .ref s.heap.objs.size, rawInt 0, .none, .none] }) (s.heap.objs.size + 1) s.heap.objs.size 0 .none := by
    have z := Heap.get?_push_size (s.heap.push ob) (o := { cls := .type "enumerate", data := .fields #[.none, .bool false, .ref s.heap.objs.size, rawInt 0, .none, .none] }) rfl
    rw [sz] at z
    exact z
  exact ⟨⟨_, en, rfl⟩, hq _ en (Heap.get?_push_of_some _ (Heap.get?_push_size _ B.free)) (by rw [Heap.size_push, sz]) fun b o x => Heap.get?_push_of_some _ (Heap.get?_push_of_some _ x)⟩
/-- the tuple at a as it stands at each turn, each item in a new pair -/
def IteT (K : PySem.W.Frag) (a : Addr) : It :=
  ⟨fun i H => ∃ (xs : List V) (x : V), SqT K H a xs ∧ xs[i]? = some x, fun i H v H' => ∃ T x, v = .ref T ∧ H T = none ∧ H' = upd H T (.tup [.int (i : Nat), x]) ∧ ∀ xs, SqT K H a xs → xs[i]? = some x, fun i H => ∃ xs : List V, SqT K H a xs ∧ xs.length ≤ i⟩
theorem turn_enumT {P : Program} {w : World} {K : PySem.W.Frag} {elts : List Expr} {kk : Nat} {tpos : Pos} (a e it : Addr) :
    Turn P w K (.Tuple elts kk tpos) (IteT K a) [e, it] e (fun i h => (∃ old, IsEnum h e it ((i : Nat) : Int) old) ∧ h.IsTupleIter it a i ∧ e ≠ it ∧ a ≠ it ∧ a ≠ e) where
  mem := List.mem_cons_self ..
  obj := fun i h st b hb => by
    obtain ⟨⟨old, en⟩, ⟨o, ho, hc, hd⟩, _⟩ := st
    rcases (by simpa using hb : b = e ∨ b = it) with rfl | rfl
    · exact ⟨_, en, fun v q => nomatch q⟩
    · exact ⟨o, ho, fun v q => by rw [hd] at q; cases q⟩
  keep := fun i h h' st k => by
    obtain ⟨⟨old, en⟩, ti, hne⟩ := st
    exact ⟨⟨old, k e (by simp) _ en⟩, ti.at (fun o q => k it (by simp) o q), hne⟩
  item := by
    intro X hP hw hK hc i pins s σ H E I hf st hg
    subst hP hw hK
    obtain ⟨⟨old, en⟩, ti, ne1, ne2, ne3⟩ := st
    obtain ⟨xs, x, hq, hx⟩ := hg
    obtain ⟨its, rv, p, hz⟩ := I.tuple hq
    obtain ⟨u, hu, ru⟩ := rv.get hx
    have pt : s.heap.IsTuple a its.toArray := p
    have el : e < s.heap.objs.size := Heap.lt_size en
    have il : it < s.heap.objs.size := by obtain ⟨_, q, _⟩ := ti; exact Heap.lt_size q
    have hlt : i < its.toArray.size := by
      have := (List.getElem?_eq_some_iff.mp hu).1
      simpa using this
    refine wpAny_pyNext_enum_itemD (Draws.tuple (prog := X.prog) (w := X.w) (show X.A.in1.handled = none from I.ok.hd hc) it a ne2 its.toArray) en ⟨ti, pt⟩ hlt ne1 (by simp [ne1, Ne.symm ne3]) fun y h' tk py ho st' hT hsz hk => ?_
    obtain rfl : u = y := by
      have := (by simpa using hu : its.toArray[i]? = some u)
      rw [this] at py
      injection py
    refine ⟨_, rfl, wpAny_letOwnedTupleGo_enum (s := { s with heap := h', toks := tk + 1 }) ho fun h'' en' sb => ?_⟩
    have tt : h''.get? s.heap.objs.size = some { cls := .type "tuple", data := .seq #[.int i tk, u] } := (sb.2 _ (Nat.ne_of_gt el)).trans hT
    have new : ObjOk X.prog X.w (upd H s.heap.objs.size (.tup [.int (i : Nat), x])) h'' s.heap.objs.size (.tup [.int (i : Nat), x]) := ⟨by show 2 ≤ sizeLine; decide, [.int i tk, u], .cons ⟨_, rfl⟩ (.cons ru .nil), ⟨_, tt, rfl, _, rfl⟩⟩
    have I1 : Inv X pins σ (upd H s.heap.objs.size (.tup [.int (i : Nat), x])) { s with heap := h'', toks := tk + 1 } :=
      I.turnedNew (ch := [e, it]) (fun b ob hb q => (sb.2 b (fun z => hb (by simp [z]))).trans (hk b ob (fun z => hb (by simp [z])) (fun z => hb (by simp [z])) q)) hf (Nat.le_refl _) new
    refine ⟨.ref s.heap.objs.size, _, I1, rfl, ⟨_, x, rfl, I.hok.fresh (Nat.le_refl _), rfl, fun ys hy => by rw [I.tuple_inj hy hq]; exact hx⟩, ⟨⟨u, ?_⟩, st'.1.at fun o q => (sb.2 it (Ne.symm ne1)).trans q, ne1, ne2, ne3⟩, fun b hb => ?_⟩
    · rw [show ((i + 1 : Nat) : Int) = (i : Int) + 1 by omega]
      exact en'
    · have lb : b < s.heap.objs.size := by rcases (by simpa using hb : b = e ∨ b = it) with rfl | rfl <;> assumption
      rw [upd_ne (Nat.ne_of_lt lb)]
      exact (hf b hb).1
  done := by
    intro X hP hw hK hc i pins s σ H E I hf st hg
    subst hP hw hK
    obtain ⟨⟨old, en⟩, ti, ne1, ne2, ne3⟩ := st
    obtain ⟨xs, hq, hx⟩ := hg
    obtain ⟨its, rv, p, hz⟩ := I.tuple hq
    obtain ⟨f0, f1, f2, f3, f4, f5⟩ := hf it (by simp)
    have hl := rv.length
    have pt : s.heap.IsTuple a its.toArray := p
    have hT : s.TypeIs (.ref e) "enumerate" := ⟨_, en, rfl⟩
    unfold pyNext
    refine wpAny_bind (wpAny_attempt (wpAny_callSpecial?_slot (name := Str.ofString "__next__") hT F.slot_enumerate_next (wpAny_call_entry F.slot_enumerate_next hT F.entry_enumerate_next ?_ (F.args_enumerate_next_1 _))))
    show wpAny _ _ (field (.ref e) 2 >>= _) _ _ _
    refine wpAny_bind (wpAny_field en rfl (x := .ref it) rfl (wpAny_bind (wpAny_nextOf_tuple_end (I.ok.hd hc) ti pt (by simp; omega) fun h' x eb hx' => ?_)))
    obtain ⟨o, ho, hc'⟩ := hx'
    refine wpAny_bind (wpAny_isInstance (T := "StopIteration") (b := true) ⟨o, ho, hc'⟩ isSubtype_stop ?_)
    exact wpAny_pure ⟨rfl, I.turned (t' := s.toks) (fun b o hb q => eb b o hb q) f0 f1 f3 f4 f5⟩
  self := fun A i s Q E st h => by
    obtain ⟨⟨_, en⟩, _⟩ := st
    exact wpAny_pyIter_enum en h
def iEnumT (K : PySem.W.Frag) (ta : TA) : TI := fun σ H R => ta σ H fun vs H1 => ∃ a xs, vs = [.ref a] ∧ SqT K H1 a xs ∧ R (IteT K a) H1
theorem pi_enumT {X : Cx} {K : PySem.W.Frag} {e : Expr} {ta : TA} {p pos tpos : Pos} {elts : List Expr} {kk : Nat} (hg : Gl X "enumerate") (hm : X.mg "enumerate" = none) (ha : PA X [e] ta) (hK : X.K = K := by rfl) (hs : starEach [e] X.env = [(false, eval e X.env)] := by rfl) : PI X (.Tuple elts kk tpos) (.Call (.Name "enumerate" p) [e] [] pos) (iEnumT K ta) := by
  subst hK
  refine ⟨fun pins s σ H R I h => ?_⟩
  refine Call_ (ld_blt I hg hm boot_enumerate (PyProof.Rows.callWith_type1 (thn (ha.run pos pins s σ H _ I h) fun us s1 ⟨vs, H1, I1, r1, a, xs, ex, hq, q⟩ => ?_) hs rfl))
  subst ex
  cases r1 with
  | cons r rr =>
    cases rr
    cases r
    obtain ⟨its, rv, p', hz⟩ := I1.tuple hq
    have pt : s1.heap.IsTuple a its.toArray := p'
    have la : a < s1.heap.objs.size := by obtain ⟨_, q, _⟩ := pt; exact Heap.lt_size q
    refine call_enumB (begins_tuple a its.toArray) pt fun h' en hit hsz hk => wpAny_pyIter_enum en ?_
    have I2 : Inv X pins σ H1 { s1 with heap := h' } := I1.kept (t' := s1.toks) hk
    refine ⟨s1.heap.objs.size + 1, [s1.heap.objs.size + 1, s1.heap.objs.size], _, _, H1, rfl, I2, turn_enumT a (s1.heap.objs.size + 1) s1.heap.objs.size, ⟨⟨.none, en⟩, ⟨_, hit, rfl, rfl⟩, Nat.succ_ne_self _, Nat.ne_of_lt la, Nat.ne_of_lt (Nat.lt_succ_of_lt la)⟩, fun b hb => ?_, q⟩
    have hle : s1.heap.objs.size ≤ b := by rcases (by simpa using hb : b = s1.heap.objs.size + 1 ∨ b = s1.heap.objs.size) with rfl | rfl <;> omega
    exact I1.fpOk hle (I1.hok.fresh hle)
section
variable {K : PySem.W.Frag} {F : Hp} {G0 : Vw} {γ : List Sl} {k : List AV → List Sl → Prop}
theorem gi_enumT {ta : TA} (h : GA K F G0 ta γ fun Cs γ1 => ∃ As, Cs = [aTup As] ∧ k (enumA 0 As) γ1) : GI K F G0 (iEnumT K ta) γ k := fun σ H G R a z =>
  h σ H G _ a fun Cs γ1 vs H1 G1 ⟨As, e, h1⟩ l1 a1 p1 => by
    subst e
    obtain ⟨v, r, rfl, ⟨b, ws, rfl, hb, hv⟩, rfl⟩ := p1
    refine ⟨b, ws, rfl, a1.see.t b ws hb, z _ γ1 H1 G1 _ h1 l1 a1 ⟨fun i H G le s hi => ?_, fun i H G B v H' le s hB y => ?_, fun H G le s => ?_⟩⟩
    · rw [enumA_len] at hi
      have hi' : i < ws.length := by rw [hv.length]; exact hi
      exact ⟨ws, ws[i], s.t b ws (le.t b ws hb), by simp [hi']⟩
    · obtain ⟨T, x, rfl, nT, rfl, y⟩ := y
      obtain ⟨A, hA, rfl⟩ := enumA_get 0 As i B hB
      obtain ⟨w, e1, p⟩ := hv.get hA
      have e2 := y ws (s.t b ws (le.t b ws hb))
      rw [e1] at e2
      cases e2
      refine ⟨same_upd nT, G.addT T _, G.leT T _, (s.same (same_upd nT)).addT (SqT.of upd_same), fun _ _ q => q, T, _, rfl, .inr ⟨rfl, rfl⟩, _, _, rfl, ?_, _, [], rfl, A.mono (le.trans (G.leT T _)) p, rfl⟩
      show V.int (i : Nat) = V.int ((0 + i : Nat))
      rw [Nat.zero_add]
    · rw [enumA_len]
      exact ⟨ws, s.t b ws (le.t b ws hb), by rw [hv.length]; exact Nat.le_refl _⟩
end
end Rl

/-! # Rl, forty-fourth part: fields of one name in two classes -/
namespace Rl
open PySem PySem.Spec PyProof.Rows L2
/-- slot i has an instance of class C -/
def ClsAt (γ : List Sl) (i : Nat) (C : Str) : Prop := ∃ a dx ns ss, γ[i]? = some (.tr (.q a (.ins dx C ns) ss))
section
variable {K : PySem.W.Frag} {F : Hp} {G0 : Vw} {γ : List Sl} {tv : TE} {ks : KS}
theorem gs_fldC {C f : Str} {i : Nat} (j : Nat) (c : L2.Cls K (He.ga K C)) (n : NoAttr K (He.ga K C) f) (hc : ClsAt γ i C) (h : GN K F G0 tv γ fun T γ1 => ∃ a dx ns ss, γ1[i]? = some (.tr (.q a (.ins dx C ns) ss)) ∧ ns.length < 900 ∧ ((f ∉ ns ∧ ks.nx (γ1.set i (.tr (.q a (.ins dx C (ns ++ [f])) (ss ++ [T]))))) ∨ (FirstAt ns j f ∧ j < ss.length ∧ ks.nx (γ1.set i (.tr (.q a (.ins dx C ns) (ss.set j T))))))) : GS K F G0 (sFld K (tVar i) tv f) γ ks := gs_fld j c n h
theorem gg_fldC {C f : Str} {i : Nat} {A : AV} {kg : List Sl → Prop} (j : Nat) (c : L2.Cls K (He.ga K C)) (n : NoAttr K (He.ga K C) f) (hc : ClsAt γ i C) (h : ∃ a dx ns ss, γ[i]? = some (.tr (.q a (.ins dx C ns) ss)) ∧ ns.length < 900 ∧ ((f ∉ ns ∧ kg (γ.set i (.tr (.q a (.ins dx C (ns ++ [f])) (ss ++ [.v A]))))) ∨ (FirstAt ns j f ∧ j < ss.length ∧ kg (γ.set i (.tr (.q a (.ins dx C ns) (ss.set j (.v A)))))))) : GG K F G0 (gFld K (tVar i) f) A γ kg := gg_fld j c n h
end
end Rl

/-! # Rl, forty-fifth part: dicts that are copied, written once and locked; walks over a locked dict's keys -/
namespace Rl
open PySem PySem.Spec PyProof.Rows L2
/-- an own dict -/
abbrev dkS (l : Addr) (kvs : List (Key × V)) : Sh := .q l (.dk (kvs.map (·.1))) (vsh (kvs.map fun kv => aV kv.2))
theorem zip_fs {α β : Type} : ∀ xs : List (α × β), (xs.map (·.1)).zip (xs.map (·.2)) = xs
  | [] => rfl
  | x :: xs => by
    rw [List.map_cons, List.map_cons, List.zip_cons_cons, zip_fs xs]
theorem okV {F H : Hp} {G : Vw} : ∀ {vs xs : List V}, Sh.okL F H G (vsh (vs.map aV)) xs → xs = vs
  | [], xs, h => by
    have h := h
    rw [List.map_nil] at h
    rw [show vsh [] = [] from rfl, Sh.okL] at h
    exact h
  | v :: vs, xs, h => by
    rw [show vsh ((v :: vs).map aV) = .v (aV v) :: vsh (vs.map aV) from rfl, Sh.okL] at h
    obtain ⟨x, r, rfl, h1, h2⟩ := h
    rw [Sh.ok] at h1
    have h1 : x = v := h1
    rw [h1, okV h2]
theorem vOk {F H : Hp} {G : Vw} : ∀ vs : List V, Sh.okL F H G (vsh (vs.map aV)) vs
  | [] => by
    rw [List.map_nil, show vsh [] = [] from rfl, Sh.okL]
  | v :: vs => by
    rw [show vsh ((v :: vs).map aV) = .v (aV v) :: vsh (vs.map aV) from rfl, Sh.okL]
    exact ⟨v, vs, rfl, by rw [Sh.ok]; rfl, vOk vs⟩
theorem dkS_ads (l : Addr) (kvs : List (Key × V)) : (dkS l kvs).ads = [l] := by
  rw [Sh.ads, adsL_vs]
  rfl
theorem dkS_v (kvs : List (Key × V)) : (kvs.map fun kv => aV kv.2) = (kvs.map (·.2)).map aV := by rw [List.map_map]; rfl
theorem dkS_ok {F H : Hp} {G : Vw} {l : Addr} {kvs : List (Key × V)} (h : H l = some (.dK kvs)) (hF : F l = none) (hn : ∀ ys, ¬ G.l l ys) : (dkS l kvs).ok F H G (.ref l) := by
  rw [Sh.ok]
  refine ⟨rfl, hF, hn, kvs.map (·.2), ⟨?_, by rw [List.length_map, List.length_map]⟩, ?_⟩
  · rw [zip_fs]
    exact h
  · rw [dkS_v]
    exact vOk _
theorem dkS_at {F H : Hp} {G : Vw} {l : Addr} {kvs : List (Key × V)} {v : V} (h : (dkS l kvs).ok F H G v) : v = .ref l ∧ F l = none ∧ (∀ ys, ¬ G.l l ys) ∧ H l = some (.dK kvs) := by
  rw [Sh.ok] at h
  obtain ⟨e, hF, hn, xs, ⟨h1, _⟩, h2⟩ := h
  rw [dkS_v] at h2
  rw [okV h2, zip_fs] at h1
  exact ⟨e, hF, hn, h1⟩
/-- dict(d) -/
def rDictOf : List V → Hp → VK → Prop := fun xs H Q => ∃ p kvs, xs = [.ref p] ∧ Rd H p (.dK kvs) ∧ ∀ l, H l = none → Q (.ref l) (upd H l (.dK kvs))
theorem call_dictC {X : Cx} : CallR X (.type "dict") rDictOf := by
  intro pins s σ H xs us Q I r h
  obtain ⟨p, kvs, ex, hd, q⟩ := h
  subst ex
  cases r with
  | cons r rr =>
    cases rr
    cases r
    exact d_copyOf I hd fun l s' np I' => ⟨.ref l, _, I', rfl, q l np⟩
section
variable {K : PySem.W.Frag} {F : Hp} {G0 : Vw} {γ : List Sl} {ks : KS}
/-- x = dict(d): a dict of one's own -/
theorem gs_setDC {i : Nat} {te : TE} (h : GE K F G0 te γ fun A γ1 => ∃ kvs, A = aDk kvs ∧ AllA fun l => ks.nx (γ1.set i (.tr (dkS l kvs)))) : GS K F G0 (tAsg (tCB rDictOf (tCons te tNil)) (gName i)) γ ks := fun D σ H G a s =>
  h σ H G _ a fun A γ1 v H1 G1 ⟨kvs, e, q⟩ l1 a1 p1 => by
    subst e
    obtain ⟨p, o, rfl, hp⟩ := p1
    refine ⟨p, kvs, rfl, .inr ⟨o, (a1.see.h p _ hp).1⟩, fun l np => ?_⟩
    refine s.nx _ _ _ G1 (q l) l1 ((a1.up (same_upd np)).set (v := .ref l) ⟨.ref l, rfl, dkS_ok upd_same (a1.noF np) (a1.noL np), ?_⟩ fun b hb => ?_)
    · rw [dkS_ads]
      exact List.nodup_cons.mpr ⟨by simp, List.nodup_nil⟩
    · rw [show (Sl.tr (dkS l kvs)).ads = (dkS l kvs).ads from rfl, dkS_ads] at hb
      rw [List.mem_singleton.mp hb]
      exact a1.noOwn np
/-- d[key] = .. of one's own dict -/
theorem gg_setD {i : Nat} {ti : TE} {v : V} {kg : List Sl → Prop} (h : GE K F G0 ti γ fun B γ1 => ∃ l kvs key, B = aV (kV key) ∧ γ1[i]? = some (.tr (dkS l kvs)) ∧ kvs.length ≤ 100000 ∧ kg (γ1.set i (.tr (dkS l (putK kvs key v))))) (h0 : ∃ l kvs, γ[i]? = some (.tr (dkS l kvs))) : GG K F G0 (gSub (tVar i) ti rSetD) (aV v) γ kg := fun σ H G x Q a px z => by
  obtain ⟨l0, kvs0, e0⟩ := h0
  obtain ⟨w0, f0, ok0, _⟩ := a.trAt e0
  obtain ⟨ew, _, _, _⟩ := dkS_at ok0
  subst ew
  refine ⟨_, f0, h σ H G _ a fun B γ1 y H1 G1 ⟨l, kvs, key, eB, e1, hl, q⟩ l1 a1 p1 => ?_⟩
  subst eB
  have ey : y = kV key := p1
  subst ey
  have ex : x = v := px
  subst ex
  obtain ⟨w1, f1, ok1, _⟩ := a1.trAt e1
  obtain ⟨ew, hF, hn, hH⟩ := dkS_at ok1
  subst ew
  rw [f0] at f1
  cases f1
  refine ⟨l0, _, rfl, DPut.k hH (size_lt hl), ?_⟩
  refine z _ σ _ G1 q l1 (a1.rewrite e1 (l := l0) (by rw [show (Sl.tr (dkS l0 kvs)).ads = (dkS l0 kvs).ads from rfl, dkS_ads]; exact List.mem_singleton.mpr rfl) (fun b hb => by rw [show (Sl.tr (dkS l0 (putK kvs key x))).ads = (dkS l0 (putK kvs key x)).ads from rfl, dkS_ads] at hb; rw [show (Sl.tr (dkS l0 kvs)).ads = (dkS l0 kvs).ads from rfl, dkS_ads]; exact hb) ?_)
  refine ⟨.ref l0, by rw [f0]; rfl, dkS_ok upd_same hF hn, ?_⟩
  rw [dkS_ads]
  exact List.nodup_cons.mpr ⟨by simp, List.nodup_nil⟩
/-- one's own dict is locked for good -/
theorem ge_dfzV {i : Nat} {l : Addr} {kvs : List (Key × V)} {k : AV → List Sl → Prop} (e : γ[i]? = some (.tr (dkS l kvs))) (q : k (aDk kvs) (γ.set i (.sh (aDk kvs)))) : GE K F G0 (tDFz (tVar i)) γ k := fun σ H G Q a z => by
  obtain ⟨w, f, ok, _⟩ := a.trAt e
  obtain ⟨ew, hF, hn, hH⟩ := dkS_at ok
  subst ew
  refine ⟨_, f, l, kvs, rfl, hH, fun od => ?_⟩
  have a1 := a.rewrite (S' := .non) (w := .frz od (.dK kvs)) e (l := l) (by rw [show (Sl.tr (dkS l kvs)).ads = (dkS l kvs).ads from rfl, dkS_ads]; exact List.mem_singleton.mpr rfl) (fun b hb => (no_adsN hb).elim) trivial
  have a2 := a1.addH (u := .frz od (.dK kvs)) upd_same trivial
  have a3 := a2.sets (i := i) (A := aDk kvs) (v := .ref l) ⟨l, od, rfl, .inr ⟨rfl, rfl⟩⟩
  rw [List.set_set] at a3
  have es : σ.set i (some (.ref l)) = σ := by
    refine List.ext_getElem? fun j => ?_
    by_cases hj : i = j
    · subst hj
      rw [List.getElem?_set_self (List.getElem?_eq_some_iff.mp f).1, f]
    · rw [List.getElem?_set_ne hj]
  rw [es] at a3
  exact z _ _ _ _ _ q (G.leH l _) a3 ⟨l, od, rfl, .inr ⟨rfl, rfl⟩⟩
/-- for k in d, d locked -/
theorem gi_keys {te : TE} {k : List AV → List Sl → Prop} (h : GE K F G0 te γ fun A γ1 => ∃ kvs, A = aDk kvs ∧ k (kvs.map fun kv => aV (kV kv.1)) γ1) : GI K F G0 (iKeys te) γ k := fun σ H G R a z =>
  h σ H G _ a fun A γ1 v H1 G1 ⟨kvs, e, h1⟩ l1 a1 p1 => by
    subst e
    obtain ⟨p, o, rfl, hp⟩ := p1
    have hh := (a1.see.h p _ hp).1
    refine ⟨p, o, rfl, .inl ⟨kvs, hh, z _ γ1 H1 G1 _ h1 l1 a1 ⟨fun i H G le s hi => ?_, fun i H G B v H' le s hB y => ?_, fun H G le s => ?_⟩⟩⟩
    · rw [List.length_map] at hi
      exact ⟨(s.h p _ (le.h p _ hp)).1, hi⟩
    · obtain ⟨rfl, key, u, hk, rfl⟩ := y
      rw [List.getElem?_map, hk] at hB
      cases hB
      exact ⟨fun _ _ q => q, G, .refl G, s, fun _ _ q => q, rfl⟩
    · rw [List.length_map]
      exact ⟨(s.h p _ (le.h p _ hp)).1, Nat.le_refl _⟩
/-- y in d, y not in d -/
theorem ge_din {ty td : TE} {k : AV → List Sl → Prop} (h : GE K F G0 ty γ fun B γ1 => GE K F G0 td γ1 fun A γ2 => ∃ kvs key, A = aDk kvs ∧ B = aV (kV key) ∧ k (aB (valV kvs key).isSome) γ2) : GE K F G0 (tDIn ty td) γ k := fun σ H G Q a z =>
  h σ H G _ a fun B γ1 y H1 G1 h1 l1 a1 p1 => h1 σ H1 G1 _ a1 fun A γ2 x H2 G2 ⟨kvs, key, eA, eB, q⟩ l2 a2 p2 => by
    subst eA; subst eB
    obtain ⟨p, o, rfl, hp⟩ := p2
    have ey : y = kV key := p1
    subst ey
    exact ⟨p, valV kvs key, rfl, .inl ⟨kvs, key, .inr ⟨o, (a2.see.h p _ hp).1⟩, rfl, rfl⟩, z _ γ2 _ H2 G2 q (l1.trans l2) a2 rfl⟩
theorem ge_dnin {ty td : TE} {k : AV → List Sl → Prop} (h : GE K F G0 ty γ fun B γ1 => GE K F G0 td γ1 fun A γ2 => ∃ kvs key, A = aDk kvs ∧ B = aV (kV key) ∧ k (aB (!(valV kvs key).isSome)) γ2) : GE K F G0 (tDNotIn ty td) γ k := fun σ H G Q a z =>
  h σ H G _ a fun B γ1 y H1 G1 h1 l1 a1 p1 => h1 σ H1 G1 _ a1 fun A γ2 x H2 G2 ⟨kvs, key, eA, eB, q⟩ l2 a2 p2 => by
    subst eA; subst eB
    obtain ⟨p, o, rfl, hp⟩ := p2
    have ey : y = kV key := p1
    subst ey
    exact ⟨p, valV kvs key, rfl, .inl ⟨kvs, key, .inr ⟨o, (a2.see.h p _ hp).1⟩, rfl, rfl⟩, z _ γ2 _ H2 G2 q (l1.trans l2) a2 rfl⟩
end

theorem dunits {X : Cx} {n : Nat} (hr : Room n X.A) : X.A.units + 1 < cLine := by have := hr.units; omega
end Rl

/-! # Rl, forty-sixth part: `is` of two bools -/
namespace Rl
open PySem PySem.Spec PyProof.Rows L2
def rIsBl : R2 := fun x y H Q => ∃ a b, x = .bl a ∧ y = .bl b ∧ Q (.bl (decide (a = b))) H
def rNtBl : R2 := fun x y H Q => ∃ a b, x = .bl a ∧ y = .bl b ∧ Q (.bl (!decide (a = b))) H
theorem op_isBl2 {X : Cx} : OpR X (compareOp .Is) rIsBl := op_is_bl
theorem op_ntBl2 {X : Cx} : OpR X (compareOp .IsNot) rNtBl := op_isnot_bl
section
variable {K : PySem.W.Frag} {F : Hp} {G0 : Vw} {γ : List Sl} {k : AV → List Sl → Prop}
theorem o_isBl {i j : Bool} (q : k (aB (decide (i = j))) γ) : O2 K F G0 rIsBl (aB i) (aB j) γ k := o2_pure (fun H G x y Q s px py z => by
  have ex : x = .bl i := px
  have ey : y = .bl j := py
  subst ex; subst ey
  exact ⟨i, j, rfl, rfl, z _ rfl⟩) q
theorem o_ntBl {i j : Bool} (q : k (aB (!decide (i = j))) γ) : O2 K F G0 rNtBl (aB i) (aB j) γ k := o2_pure (fun H G x y Q s px py z => by
  have ex : x = .bl i := px
  have ey : y = .bl j := py
  subst ex; subst ey
  exact ⟨i, j, rfl, rfl, z _ rfl⟩) q
end
end Rl

/-! # Rl, forty-seventh part: plain defs that are lent a thing; tests by what they tell -/
namespace Rl
open PySem PySem.Spec PyProof.Rows L2
section
variable {K : PySem.W.Frag} {F : Hp} {G0 : Vw} {γ : List Sl} {t te : TE} {ks : KS}
theorem gt_mono {tt : TT} {k k' : Bool → List Sl → Prop} (h : GT K F G0 tt γ k) (m : ∀ b γ1, k b γ1 → k' b γ1) : GT K F G0 tt γ k' := fun σ H G Q a z =>
  h σ H G Q a fun b γ' H' G' q l a' => z b γ' H' G' (m b γ' q) l a'
/-- an if, by the truth its test tells -/
theorem gt_val {tt : TT} {k' : Bool → List Sl → Prop} (c : Bool) (h : GT K F G0 tt γ fun b γ1 => b = c ∧ γ1 = γ) (m : k' c γ) : GT K F G0 tt γ k' := gt_mono h fun b γ1 ⟨e1, e2⟩ => by
  subst e1
  subst e2
  exact m
/-- slot i's thing, as it stands when the arguments are there -/
def ThingAt (γ : List Sl) (i : Nat) (k : Sh → Prop) : Prop := ∃ S b, γ[i]? = some (.tr S) ∧ S.root = some b ∧ k S
theorem thing_at {γ : List Sl} {i : Nat} {k : Sh → Prop} {S : Sh} {b : Addr} (e : γ[i]? = some (.tr S)) (r : S.root = some b) (h : k S) : ThingAt γ i k := ⟨S, b, e, r, h⟩
/-- f(x, ..), x the thing of slot i -/
theorem gr_callF {C : Cw} {kA : AV → List Sl → Prop} {kN : Sh → List Sl → Prop} {i : Nat} {t : TA} (h0 : ∃ S b, γ[i]? = some (.tr S) ∧ S.root = some b)
    (h : GA K F G0 t γ fun As γ1 => ThingAt γ1 i fun S => C S As (fun A S' => kA A (γ1.set i (.tr S'))) (fun T S' => kN T (γ1.set i (.tr S'))) (fun _ _ _ => False)) : GR K F G0 (tCall (spW K C) [] E0 (tCons (tVar i) t)) γ kA kN := fun σ H G Q a zA zN => by
  obtain ⟨S, b, e, r0⟩ := h0
  obtain ⟨v, e1, ok, _⟩ := a.trAt e
  have hv := root_val r0 ok
  subst hv
  refine ⟨.ref b, e1, h σ H G _ a fun As γ1 vs H2 G2 ⟨S2, b2, e2, r2, hc⟩ l2 a2 hv => ?_⟩
  obtain ⟨v2, e3, ok2, _⟩ := a2.trAt e2
  rw [e1] at e3
  cases e3
  have hb : V.ref b = .ref b2 := root_val r2 ok2
  injection hb with hb
  subst hb
  show spW K C (V.ref b :: vs ++ []) H2 Q E0
  rw [List.append_nil]
  exact run_W (p := []) (E := E00) (kx := fun _ _ _ => False) sx0 a2 e2 rfl r2 hv hc (fun A γ' v H' G' q le a' pv => zA A γ' v H' G' q (l2.trans le) a' pv) fun T γ' v H' G' q le a' ok nd fr => zN T γ' v H' G' q (l2.trans le) a' ok nd fr
/-- f(x, ..), x a place in slot i's thing -/
theorem gr_callFP {C : Cw} {kA : AV → List Sl → Prop} {kN : Sh → List Sl → Prop} {ta : TE} {t : TA}
    (h : GB K F G0 ta γ fun S0 γ0 => ∃ b, S0.root = some b ∧ GA K F G0 t γ0 fun As γ1 => ∃ i S p, γ1[i]? = some (.tr S) ∧ S.at p = some S0 ∧ C S0 As (fun A S' => kA A (γ1.set i (.tr (S.put p S')))) (fun T S' => kN T (γ1.set i (.tr (S.put p S')))) (fun _ _ _ => False)) : GR K F G0 (tCall (spW K C) [] E0 (tCons ta t)) γ kA kN := fun σ H G Q a zA zN =>
  h σ H G _ a fun S0 γ0 v H1 G1 ⟨b, r0, h1⟩ l1 a1 ok => by
    have hv := root_val r0 ok
    subst hv
    refine h1 σ H1 G1 _ a1 fun As γ1 vs H2 G2 ⟨i, S, p, e1, ep, hc⟩ l2 a2 hv => ?_
    show spW K C (V.ref b :: vs ++ []) H2 Q E0
    rw [List.append_nil]
    exact run_W (E := E00) (kx := fun _ _ _ => False) sx0 a2 e1 ep r0 hv hc (fun A γ' v H' G' q le a' pv => zA A γ' v H' G' q (l1.trans (l2.trans le)) a' pv) fun T γ' v H' G' q le a' ok nd fr => zN T γ' v H' G' q (l1.trans (l2.trans le)) a' ok nd fr
end
section
variable {P : Program} {w : World} {K : PySem.W.Frag} {mg : Str → Option Value} {base : Heap}
/-- a plain def that is lent a thing -/
theorem fn_okF {x : Str} {st : Stmt} {p : Str} {ps N : List Str} {n : Nat} {D : Cw} (M : Std K mg x st (p :: ps)) (Sc : FnScope N (p :: ps) (defScope st)) (hl : ∀ S As R RN RE, D S As R RN RE → As.length = ps.length)
    (hb : ∀ (f : Addr) (cdv : Value) (A : Around) (outer : List Env) (s : Shared) (H : Hp), Room n (A.deeper (envOfC x (defScope st) s.heap.objs.size f cdv)) →
      ∃ t, PSs (cxN P w K mg base N x (defScope st) f cdv A outer s H) (defBody st) t ∧ ∀ F G0 S As R RN RE, D S As R RN RE →
        NX K F G0 t (.tr S :: (As.map Sl.sh ++ List.replicate (N.length - (p :: ps).length) Sl.non)) (endW S R RN)) : Cal P w K mg base (n + 1) x (p :: ps) (spW K D) := by
  obtain ⟨f, fd, F, hm, hbd⟩ := M.ex
  have len : ∀ vs H Q E, spW K D vs H Q E → vs.length = (p :: ps).length := fun vs H Q E h => by
    obtain ⟨S, As, R, RN, RE, G, a, r, hc, _, rfl, _, _, hv, _⟩ := h
    rw [List.length_cons, hv.length, hl S As R RN RE hc, List.length_cons]
  refine ⟨f, fd, F.ok Sc len (fun cdv A outer s H vs Q E hr h => ?_), hm, F.kp, hbd⟩
  obtain ⟨t, ht, hg⟩ := hb f cdv A outer s H hr
  refine ⟨t, PSs.nox (X := cxOf CX0 P w K mg base N x (defScope st) f cdv A outer s H E) ht, ?_⟩
  have hlen := len vs H Q E h
  obtain ⟨S, As, R, RN, RE, G, a, r, hc, rt, rfl, ok, nd, hv, see, q1, q2, q3⟩ := h
  have e : L2.start N (.ref a :: r) = some (.ref a) :: (r.map some ++ List.replicate (N.length - (p :: ps).length) none) := by
    unfold L2.start
    rw [hlen]
    rfl
  rw [e]
  have a0 := startW (K := K) (N.length - (p :: ps).length) rt ok nd hv see
  refine hg _ G S As R RN RE hc _ _ H G a0 ⟨?_, ?_, ?_, fun _ _ _ _ z => z.elim, fun _ _ _ _ z => z.elim, ?_⟩
  · rintro γ' σ' H' G' ⟨S', e0, r', h⟩ le a'
    exact q1 aN S' .non H' G' h (endBack rt a' e0 r') rfl
  · rintro A γ' σ' v H' G' ⟨S', e0, r', h⟩ le a' pv
    exact q1 A S' v H' G' h (endBack rt a' e0 r') pv
  · rintro As' γ' σ' l vs' H' G' ⟨S', e0, r', h⟩ le a' e1 e2 e3 hv' fr
    refine q2 (.l l (vsh As')) S' _ H' G' (h l) (endBack rt a' e0 r') (by rw [Sh.ok]; exact ⟨rfl, e2, e3, vs', e1, okL_vs hv'⟩) (by rw [Sh.ads, adsL_vs]; exact List.nodup_cons.mpr ⟨by simp, nd_nil⟩) fun c hc hs => ?_
    rw [Sh.ads, adsL_vs] at hc
    obtain rfl := List.mem_singleton.mp hc
    exact fr 0 _ e0 hs
  · rintro T γ' σ' v H' G' ⟨S', e0, r', h⟩ le a' ok' nd' fr
    exact q2 T S' v H' G' h (endBack rt a' e0 r') ok' nd' fun c hc hs => fr c hc 0 _ e0 hs
end
end Rl

/-! # Rl, forty-eighth part: a thing's own list against [] -/
namespace Rl
open PySem PySem.Spec PyProof.Rows L2
section
variable {K : PySem.W.Frag} {F : Hp} {G0 : Vw} {γ : List Sl} {te : TE}
/-- a thing's own list as data -/
theorem own_dp {S : Sh} {p : List Nat} {i : Nat} {b : Addr} {As : List AV} {ds : List PyData} {σ : L2.St} {H : Hp} {G : Vw} (a : At K F G0 γ σ H G) (e : γ[i]? = some (.tr S)) (ep : S.at p = some (.l b (vsh As))) (h : Isds As ds) : Dp K H (.ref b) (.list ds) := by
  obtain ⟨v, e1, ok, nd⟩ := a.trAt e
  obtain ⟨w, ok0⟩ := at_ok ep ok
  rw [Sh.ok] at ok0
  obtain ⟨rfl, f, n, xs, hx, ok2⟩ := ok0
  exact .lst (SqL.of hx) (h.dp a.see (vs_okL ok2))
theorem ge_cmpNilP {r : R2} {c : Bool → Bool} {k : AV → List Sl → Prop} (hr : ∀ (x y : V) (H : Hp) (Q : VK) (d e : PyData), Dp K H x d → Dp K H y e → SeqAt.shaped d = true → SeqAt.shaped e = true → Q (.bl (c (PyData.eqv d e))) H → r x y H Q)
    (h : GB K F G0 te γ fun S0 γ1 => ∃ (i : Nat) (S : Sh) (p : List Nat) (b : Addr) (As : List AV), γ1[i]? = some (.tr S) ∧ S.at p = some (.l b (vsh As)) ∧ S0 = .l b (vsh As) ∧ Dats 19 As ∧ k (aB (c As.isEmpty)) γ1) : GE K F G0 (tOp r te (tLst tNil)) γ k := fun σ H G Q a z =>
  h σ H G _ a fun S0 γ1 v H1 G1 ⟨i, S, p, b, As, e, ep, e0, hd, q⟩ l1 a1 ok => by
    subst e0
    have hv := root_val (a := b) rfl ok
    subst hv
    refine ge_lst (k := fun A γ' => A = aLst [] ∧ γ' = γ1) (ga_nil ⟨by decide, rfl, rfl⟩) σ H1 G1 _ a1 ?_
    rintro A γ' y H2 G2 ⟨rfl, rfl⟩ l2 a2 py
    obtain ⟨ds, b1, b2, b3, b4⟩ := hd
    have sd : SeqAt.shaped (.list ds) = true := by
      unfold SeqAt.shaped
      rw [PyData.canLay0, b3, PyData.depth, decide_eq_true (by omega)]
      rfl
    refine hr _ _ _ _ _ _ (own_dp a2 e ep b1) (isd_lst isds_nil K G2 H2 y a2.see py) sd shaped_nil ?_
    rw [eqv_nil]
    refine z _ _ _ _ _ (show k (aB (c ds.isEmpty)) γ' from ?_) (l1.trans l2) a2 rfl
    rw [← isds_len b1]
    exact q
theorem ge_eqNilP {k : AV → List Sl → Prop} (h : GB K F G0 te γ fun S0 γ1 => ∃ (i : Nat) (S : Sh) (p : List Nat) (b : Addr) (As : List AV), γ1[i]? = some (.tr S) ∧ S.at p = some (.l b (vsh As)) ∧ S0 = .l b (vsh As) ∧ Dats 19 As ∧ k (aB As.isEmpty) γ1) : GE K F G0 (tOp (rEqA K) te (tLst tNil)) γ k :=
  ge_cmpNilP (c := id) (fun x y H Q d e h1 h2 h3 h4 q => .inr ⟨d, e, h1, h2, h3, h4, q⟩) h
theorem ge_neNilP {k : AV → List Sl → Prop} (h : GB K F G0 te γ fun S0 γ1 => ∃ (i : Nat) (S : Sh) (p : List Nat) (b : Addr) (As : List AV), γ1[i]? = some (.tr S) ∧ S.at p = some (.l b (vsh As)) ∧ S0 = .l b (vsh As) ∧ Dats 19 As ∧ k (aB (!As.isEmpty)) γ1) : GE K F G0 (tOp (rNeA K) te (tLst tNil)) γ k :=
  ge_cmpNilP (c := fun b => !b) (fun x y H Q d e h1 h2 h3 h4 q => .inr ⟨d, e, h1, h2, h3, h4, q⟩) h
/-- x.f.pop(): the last thing of a thing's own list, a told one -/
theorem ge_popP {to : TE} {k : AV → List Sl → Prop} (h : GB K F G0 to γ fun S0 γ0 => ∃ (i : Nat) (S : Sh) (p : List Nat) (b : Addr) (As : List AV) (A : AV), S0 = .l b (vsh As) ∧ γ0[i]? = some (.tr S) ∧ S.at p = some (.l b (vsh As)) ∧ As[As.length - 1]? = some A ∧ k A (γ0.set i (.tr (S.put p (.l b (vsh As.dropLast)))))) : GE K F G0 (tBM0 K "list" rPop to) γ k := fun σ H G Q a z =>
  h σ H G _ a fun S0 γ0 v H0 G1 ⟨i, S, p, b, As, A, e0, e, ep, hA, q⟩ l0 a0 ok0 => by
    subst e0
    rw [Sh.ok] at ok0
    obtain ⟨rfl, _, _, xs0, hx0, _⟩ := ok0
    obtain ⟨xs, hx, ok, nb⟩ := a0.atL e ep
    rw [hx0] at hx
    cases hx
    have hv : avs G1 As xs0 := vs_okL ok
    obtain ⟨y, ey, py⟩ := hv.get hA
    have hl : As.length = xs0.length := hv.length.symm
    rw [hl] at ey
    have et : (vsh As).dropLast = vsh As.dropLast := by
      show (As.map Sh.v).dropLast = As.dropLast.map Sh.v
      first | exact List.map_dropLast.symm | exact List.map_dropLast | (rw [List.map_dropLast])
    rw [← et] at q
    exact ⟨.inl ⟨rfl, _, SqL.of hx0⟩, b, xs0, y, rfl, rfl, hx0, ey, z A _ y _ G1 q l0 (a0.putT e ep (adsL_dropLast (vsh As)) (okL_upd (okL_dropLast ok) (fun z => nb ((adsL_dropLast (vsh As)).subset z)))) py⟩
end
/-! ### a text so many times -/
def rMulS : R2 := fun x y H Q => ∃ z n, x = .str z ∧ y = .int n ∧ z.length ≤ 1000 ∧ 1 ≤ n ∧ n ≤ 1000 ∧ Q (.str (Txt.mul z n)) H
theorem op_mulS {X : Cx} : OpR X (binaryOp .Mult) rMulS := by
  intro pins s σ H x y v u Q I rx ry h
  obtain ⟨z, n, rfl, rfl, hz, h0, h1, q⟩ := h
  obtain ⟨t, rfl⟩ := rx
  obtain ⟨t2, rfl⟩ := ry
  exact SB.mul (mulOk_of 1000 1000 hz (by omega) (by omega) (by decide) (by decide)) fun t' tk => ⟨.str (Txt.mul z n), H, I.tok _, ⟨_, rfl⟩, q⟩
section
variable {K : PySem.W.Frag} {F : Hp} {G0 : Vw} {γ : List Sl}
theorem o_mulS {z : Str} {n : Int} {k : AV → List Sl → Prop} (hz : z.length ≤ 1000) (h0 : 1 ≤ n) (h1 : n ≤ 1000) (q : k (aS (Txt.mul z n)) γ) : O2 K F G0 rMulS (aS z) (aInt n) γ k := o2_pure (fun H G x y Q s px py z' => by
  have ex : x = .str z := px
  have ey : y = .int n := py
  exact ⟨z, n, ex, ey, hz, h0, h1, z' _ rfl⟩) q
theorem mul_low {c n : Nat} (hc : 97 ≤ c ∧ c ≤ 122) (h0 : 1 ≤ n) (h1 : n ≤ 8) : Nm (Txt.mul ⟨#[c]⟩ (n : Nat)) := by
  have key : ∀ cs : List Nat, Txt.mul ⟨#[c]⟩ (n : Nat) = ⟨cs.toArray⟩ → 0 < cs.length → cs.length ≤ 8 → (∀ x, x ∈ cs → x = c) → Nm (Txt.mul ⟨#[c]⟩ (n : Nat)) := fun cs e l0 l8 h => by
    rw [e]
    exact ⟨l0, l8, fun x hx => by rw [h x hx]; exact hc⟩
  have h : n = 1 ∨ n = 2 ∨ n = 3 ∨ n = 4 ∨ n = 5 ∨ n = 6 ∨ n = 7 ∨ n = 8 := by omega
  rcases h with rfl | rfl | rfl | rfl | rfl | rfl | rfl | rfl
  · exact key [c] rfl (by simp) (by simp) (by simp)
  · exact key [c, c] rfl (by simp) (by simp) (by simp)
  · exact key [c, c, c] rfl (by simp) (by simp) (by simp)
  · exact key [c, c, c, c] rfl (by simp) (by simp) (by simp)
  · exact key [c, c, c, c, c] rfl (by simp) (by simp) (by simp)
  · exact key [c, c, c, c, c, c] rfl (by simp) (by simp) (by simp)
  · exact key [c, c, c, c, c, c, c] rfl (by simp) (by simp) (by simp)
  · exact key [c, c, c, c, c, c, c, c] rfl (by simp) (by simp) (by simp)
end
/-! ### a list against [], whatever lies in it -/
def rEqNil (K : PySem.W.Frag) : R2 := fun x y H Q => ∃ a b xs, x = .ref a ∧ y = .ref b ∧ SqL K H a xs ∧ SqL K H b [] ∧ Q (.bl xs.isEmpty) H
def rNeNil (K : PySem.W.Frag) : R2 := fun x y H Q => ∃ a b xs, x = .ref a ∧ y = .ref b ∧ SqL K H a xs ∧ SqL K H b [] ∧ Q (.bl (!xs.isEmpty)) H
theorem plain_is {h : Heap} {a : Addr} {its : Array Value} (p : PySem.PlainL h a its) : h.IsList a its := by
  obtain ⟨o, n, e, h1, h2, h3⟩ := p
  exact ⟨o, e, h1, n, h3⟩
theorem op_eqNil {X : Cx} {n : Nat} (hr : Room n X.A) : OpR X (compareOp .Eq) (rEqNil X.K) := by
  intro pins s σ H x y v u Q I rx ry h
  obtain ⟨a, b, xs, rfl, rfl, ha, hb, q⟩ := h
  cases xs with
  | nil => exact op_eqD hr.units pins s σ H _ _ v u Q I rx ry ⟨.list [], .list [], .lst ha .nil, .lst hb .nil, shaped_nil, shaped_nil, by rw [eqv_nil]; exact q⟩
  | cons z zs =>
    cases rx
    cases ry
    obtain ⟨its, r1, p1, _⟩ := I.list ha
    obtain ⟨its2, r2, p2, _⟩ := I.list hb
    have l1 := r1.length
    have l2 := r2.length
    refine SeqAt.RcAt.lists_lengths (plain_is p1) (plain_is p2) ?_ hr.units0 X.prog X.w _ _ ⟨.bl false, H, I, rfl, q⟩
    rw [List.size_toArray, List.size_toArray, ← l1, ← l2]
    rfl
theorem op_neNil {X : Cx} {n : Nat} (hr : Room n X.A) : OpR X (compareOp .NotEq) (rNeNil X.K) := by
  intro pins s σ H x y v u Q I rx ry h
  obtain ⟨a, b, xs, rfl, rfl, ha, hb, q⟩ := h
  cases xs with
  | nil => exact op_neD hr.units pins s σ H _ _ v u Q I rx ry ⟨.list [], .list [], .lst ha .nil, .lst hb .nil, shaped_nil, shaped_nil, by rw [eqv_nil]; exact q⟩
  | cons z zs =>
    cases rx
    cases ry
    obtain ⟨its, r1, p1, _⟩ := I.list ha
    obtain ⟨its2, r2, p2, _⟩ := I.list hb
    have l1 := r1.length
    have l2 := r2.length
    refine SeqAt.RcNeAt.lists_lengths (plain_is p1) (plain_is p2) ?_ hr.units0 X.prog X.w _ _ ⟨.bl true, H, I, rfl, q⟩
    rw [List.size_toArray, List.size_toArray, ← l1, ← l2]
    rfl
theorem op_eqNilK {X : Cx} {K : PySem.W.Frag} {n : Nat} (hr : Room n X.A) (h : X.K = K := by rfl) : OpR X (compareOp .Eq) (rEqNil K) := h ▸ op_eqNil hr
theorem op_neNilK {X : Cx} {K : PySem.W.Frag} {n : Nat} (hr : Room n X.A) (h : X.K = K := by rfl) : OpR X (compareOp .NotEq) (rNeNil K) := h ▸ op_neNil hr
section
variable {K : PySem.W.Frag} {F : Hp} {G0 : Vw} {γ : List Sl}
theorem ge_cmpNilO {i : Nat} {r : R2} {c : Bool → Bool} {k : AV → List Sl → Prop} (hr : ∀ (a b : Addr) (xs : List V) (H : Hp) (Q : VK), SqL K H a xs → SqL K H b [] → Q (.bl (c xs.isEmpty)) H → r (.ref a) (.ref b) H Q)
    (h : ∃ (l : Addr) (As : List AV), γ[i]? = some (.own l As) ∧ k (aB (c As.isEmpty)) γ) : GE K F G0 (tOp r (tVar i) (tLst tNil)) γ k := fun σ H G Q a z => by
  obtain ⟨l, As, e, q⟩ := h
  obtain ⟨e1, _⟩ := a.ownAt e
  refine ⟨_, e1, ge_lst (k := fun A γ' => A = aLst [] ∧ γ' = γ) (ga_nil ⟨by decide, rfl, rfl⟩) σ H G _ a ?_⟩
  rintro A γ' y H2 G2 ⟨rfl, rfl⟩ l2 a2 py
  obtain ⟨e2, vs, g1, _, _, g4⟩ := a2.ownAt e
  obtain ⟨b, ws, rfl, ht, hw⟩ := py
  have ew : ws = [] := List.length_eq_zero_iff.mp hw.length
  subst ew
  refine hr l b vs H2 _ (SqL.of g1) (a2.see.seq (.inl ht)) (z _ _ _ _ _ (show k (aB (c vs.isEmpty)) γ' from ?_) l2 a2 rfl)
  have : vs.isEmpty = As.isEmpty := by
    have := g4.length
    cases vs <;> cases As <;> simp_all
  rw [this]
  exact q
theorem ge_eqNilO {i : Nat} {k : AV → List Sl → Prop} (h : ∃ (l : Addr) (As : List AV), γ[i]? = some (.own l As) ∧ k (aB As.isEmpty) γ) : GE K F G0 (tOp (rEqNil K) (tVar i) (tLst tNil)) γ k :=
  ge_cmpNilO (c := id) (fun a b xs H Q h1 h2 q => ⟨a, b, xs, rfl, rfl, h1, h2, q⟩) h
theorem ge_neNilO {i : Nat} {k : AV → List Sl → Prop} (h : ∃ (l : Addr) (As : List AV), γ[i]? = some (.own l As) ∧ k (aB (!As.isEmpty)) γ) : GE K F G0 (tOp (rNeNil K) (tVar i) (tLst tNil)) γ k :=
  ge_cmpNilO (c := fun b => !b) (fun a b xs H Q h1 h2 q => ⟨a, b, xs, rfl, rfl, h1, h2, q⟩) h
end
end Rl

/-! # things told by calls that own lists are lent to; a list that is given away while what follows still reads it -/
namespace Rl
open PySem PySem.Spec PyProof.Rows L2
mutual
/-- a thing whose values tell nothing of lists -/
def LfSh : Sh → Prop
  | .v A => Lf A
  | .t ss => LfShs ss
  | .l _ ss => LfShs ss
  | .q _ _ _ => False
def LfShs : List Sh → Prop
  | [] => True
  | s :: ss => LfSh s ∧ LfShs ss
end
theorem lfsh_v {A : AV} (h : Lf A) : LfSh (.v A) := by rw [LfSh]; exact h
theorem lfsh_t {ss : List Sh} (h : LfShs ss) : LfSh (.t ss) := by rw [LfSh]; exact h
theorem lfsh_l {l : Addr} {ss : List Sh} (h : LfShs ss) : LfSh (.l l ss) := by rw [LfSh]; exact h
theorem lfshs_nil : LfShs [] := by rw [LfShs]; exact trivial
theorem lfshs_cons {s : Sh} {ss : List Sh} (h : LfSh s) (t : LfShs ss) : LfShs (s :: ss) := by rw [LfShs]; exact ⟨h, t⟩
theorem lfshs_vs : ∀ {As : List AV}, Lfs As → LfShs (vsh As)
  | [], _ => lfshs_nil
  | A :: As, h => lfshs_cons (lfsh_v (h A (List.mem_cons_self ..))) (lfshs_vs fun B hB => h B (List.mem_cons_of_mem _ hB))
section
variable {K : PySem.W.Frag} {F H0 : Hp} {G0 : Vw} {γ : List Sl} {ks : KS}
mutual
theorem ok_downT {H : Hp} {G : Vw} : ∀ (S : Sh) (v : V), LfSh S → S.ok H0 H G v → (∀ b, b ∈ S.ads → H0 b = none → F b = none) → S.ok F H (unlent γ G) v
  | .v A, v, hl, ok, _ => by
    rw [LfSh] at hl
    rw [Sh.ok] at ok ⊢
    exact lf_down hl ok
  | .t ss, v, hl, ok, hf => by
    rw [LfSh] at hl
    rw [Sh.ads] at hf
    rw [Sh.ok] at ok ⊢
    obtain ⟨a, xs, e, ht, h⟩ := ok
    exact ⟨a, xs, e, ht, okL_downT ss xs hl h hf⟩
  | .l a ss, v, hl, ok, hf => by
    rw [LfSh] at hl
    rw [Sh.ads] at hf
    rw [Sh.ok] at ok ⊢
    obtain ⟨e, o1, o2, xs, hx, h⟩ := ok
    exact ⟨e, hf a (List.mem_cons_self ..) o1, fun ys q => o2 ys q.1, xs, hx, okL_downT ss xs hl h fun b hb => hf b (List.mem_cons_of_mem _ hb)⟩
  | .q a m ss, v, hl, _, _ => by
    rw [LfSh] at hl
    exact hl.elim
theorem okL_downT {H : Hp} {G : Vw} : ∀ (ss : List Sh) (vs : List V), LfShs ss → Sh.okL H0 H G ss vs → (∀ b, b ∈ Sh.adsL ss → H0 b = none → F b = none) → Sh.okL F H (unlent γ G) ss vs
  | [], vs, _, ok, _ => by
    rw [Sh.okL] at ok ⊢
    exact ok
  | s :: ss, vs, hl, ok, hf => by
    rw [LfShs] at hl
    rw [Sh.adsL] at hf
    rw [Sh.okL] at ok ⊢
    obtain ⟨x, r, e, p, q⟩ := ok
    exact ⟨x, r, e, ok_downT s x hl.1 p fun b hb => hf b (List.mem_append_left _ hb), okL_downT ss r hl.2 q fun b hb => hf b (List.mem_append_right _ hb)⟩
end
/-- a def that tells a thing with new lists, the own lists lent -/
theorem gn_callLT {C : Cn} {E : XK} {ta : TA} {k : Sh → List Sl → Prop} (h : ∀ F' G0', GA K F' G0' ta (lend γ) fun As _ => C As (fun A => Lf A ∧ k (.v A) γ) (fun S => LfSh S ∧ k S γ)) : GN K F G0 (tCall (spN K C) [] E ta) γ k := fun σ H G Q a z =>
  h H _ σ H _ _ a.lendAt fun As γ1 vs H1 G1 h1 l1 a1 p1 => by
    have un : ∀ {H' : Hp} {G' : Vw}, At K H (lentV γ H G) γ1 σ H' G' → Vw.Le G (unlent γ G') ∧ At K F G0 γ σ H' (unlent γ G') := fun b => a.unlend (lent_le γ H G) b fun c ys h => h.imp id fun ⟨_, i, S, e, hb⟩ fr => fr i S e hb
    show spN K C (vs ++ []) H1 Q E
    rw [List.append_nil]
    refine ⟨As, _, _, G1, h1, p1, a1.see, fun A v H' G' q le sm see hid pv => ?_, fun S v H' G' q le sm see hid ok nd => ?_⟩
    · obtain ⟨l2, a2⟩ := un (a1.call le sm see hid)
      exact z (.v A) γ v H' _ q.2 l2 a2 (by rw [Sh.ok]; exact lf_down q.1 pv) (by rw [Sh.ads]; exact List.nodup_nil) (fun b hb => by rw [Sh.ads] at hb; cases hb)
    · obtain ⟨l2, a2⟩ := un (a1.call le sm see hid)
      have hm : ∀ b, b ∈ S.ads → H b = none := fun b hb => by
        have e := (Sh.ok_ad S v ok b hb).1
        cases hb2 : H b with
        | none => rfl
        | some o =>
          rw [a1.same b o hb2] at e
          cases e
      exact z S γ v H' _ q.2 l2 a2 (ok_downT S v q.1 ok fun b hb _ => a.noF (hm b hb)) nd (fun b hb => a.noOwn (hm b hb))
/-- an own list that is given away; what follows is reckoned while it is still there -/
theorem gna_varOA {i : Nat} {ta : TA} {k : List Sh → List Sl → Prop} (h0 : ∃ l As, γ[i]? = some (.own l As)) (h : GNA K F G0 ta γ fun Ss γ1 => ∃ l As, γ1[i]? = some (.own l As) ∧ k (.l l (vsh As) :: Ss) (γ1.set i .non)) : GNA K F G0 (tCons (tVar i) ta) γ k := fun σ H G Q a z => by
  obtain ⟨l, As, e0⟩ := h0
  obtain ⟨e1, _⟩ := a.ownAt e0
  refine ⟨_, e1, h σ H G _ a fun Ss γ1 vs H1 G1 ⟨l', As', e2, q⟩ l1 a1 ok nd fr => ?_⟩
  obtain ⟨e3, ws, h1, h2, h3, h4⟩ := a1.ownAt e2
  rw [e1] at e3
  cases e3
  have nl : l ∉ Sh.adsL Ss := fun hl => fr l hl i _ e2 (own_ads l As')
  refine z (.l l (vsh As') :: Ss) (γ1.set i .non) (.ref l :: vs) H1 G1 q l1 (a1.forget i) ?_ ?_ fun b hb j T hj hc => ?_
  · rw [Sh.okL]
    exact ⟨_, _, rfl, by rw [Sh.ok]; exact ⟨rfl, h2, h3, ws, h1, okL_vs h4⟩, ok⟩
  · rw [Sh.adsL, Sh.ads, adsL_vs]
    exact List.nodup_cons.mpr ⟨nl, nd⟩
  · rw [Sh.adsL, Sh.ads, adsL_vs] at hb
    by_cases hij : i = j
    · subst hij
      rw [List.getElem?_set_self (set_lt hj)] at hj
      cases hj
      exact no_adsN hc
    · rw [List.getElem?_set_ne hij] at hj
      rcases List.mem_cons.mp hb with rfl | hb
      · exact hij (a1.dis i j _ T b e2 hj (own_ads b As') hc)
      · exact fr b hb j T hj hc
end
end Rl

/-! # sorted of whole numbers and of texts; loops over lists of lists -/
namespace Rl
open PySem PySem.Spec PyProof.Rows L2
section
variable {K : PySem.W.Frag} {F : Hp} {G0 : Vw} {γ : List Sl}
theorem tg_lst {vs : List Nat} {n : Nat} {u : TGs} (hu : Tgs vs u) : Tg vs (gLst K n u) := fun v σ σ0 H Q e q => by
  obtain ⟨a, xs, e1, h1, h2, q⟩ := q
  exact ⟨a, xs, e1, h1, h2, hu xs σ σ0 H Q e q⟩
theorem n_sortI {xs : List Int} {k : AV → List Sl → Prop} (hl : xs.length < 64) (q : ∀ ys : List Int, ys.Perm xs → ys.Pairwise (· ≤ ·) → k (aLst (ys.map aInt)) γ) : ON K F G0 (L2.rSorted K) [aLst (xs.map aInt)] γ k := fun σ H G vs Q a px z => by
  obtain ⟨v, r, rfl, ⟨b, vs, rfl, hb, hv⟩, rfl⟩ := px
  have e := avs_flat (f := fun x => V.int x) hv
  subst e
  refine ⟨b, xs, rfl, .inl (.inl (a.see.l b _ hb)), hl, fun ys p hp hs np => ?_⟩
  exact z _ γ _ _ _ (q ys hp hs) (G.leL p _) ((a.up (same_upd np)).addL upd_same (a.noF np) (a.noOwn np)) ⟨p, _, rfl, .inr ⟨rfl, rfl⟩, avs_flats V.int _ ys⟩
theorem n_sortS {xs : List Str} {k : AV → List Sl → Prop} (hl : xs.length < 64) (q : ∀ ys : List Str, ys.Perm xs → sortedS ys = true → k (aLst (ys.map aS)) γ) : ON K F G0 (L2.rSortedS K) [aLst (xs.map aS)] γ k := fun σ H G vs Q a px z => by
  obtain ⟨v, r, rfl, ⟨b, vs, rfl, hb, hv⟩, rfl⟩ := px
  have e := avs_flat (f := fun x => V.str x) hv
  subst e
  refine ⟨b, xs, rfl, .inl (.inl (a.see.l b _ hb)), hl, fun ys p hp hs np => ?_⟩
  exact z _ γ _ _ _ (q ys hp hs) (G.leL p _) ((a.up (same_upd np)).addL upd_same (a.noF np) (a.noOwn np)) ⟨p, _, rfl, .inr ⟨rfl, rfl⟩, avs_flats V.str _ ys⟩
/-- two whole numbers in order -/
theorem n_sort2 {x y : Int} {k : AV → List Sl → Prop} (q : k (aLst [aInt (min x y), aInt (max x y)]) γ) : ON K F G0 (L2.rSorted K) [aLst [aInt x, aInt y]] γ k := by
  refine n_sortI (xs := [x, y]) (Nat.le_of_ble_eq_true rfl) fun ys hp hs => ?_
  have hl := hp.length_eq
  match ys, hl with
  | [a, b], _ =>
    have hab : a ≤ b := (List.pairwise_cons.mp hs).1 b (List.mem_singleton.mpr rfl)
    have m1 := hp.mem_iff (a := a)
    have m2 := hp.mem_iff (a := b)
    have m3 := hp.mem_iff (a := x)
    have m4 := hp.mem_iff (a := y)
    simp at m1 m2 m3 m4
    have e1 : a = min x y := by omega
    have e2 : b = max x y := by omega
    rw [e1, e2]
    exact q
end
end Rl

/-! # the head's facts of a great program: what is reached, each once, by a mask in place of a search -/
namespace He
open PySem PySem.Spec PyProof.Rows L2
def addQ (acc : List Addr × Nat) (a : Addr) : List Addr × Nat := match Nat.beq (Nat.land 1 (Nat.shiftRight acc.2 a)) 0 with
  | true => (a :: acc.1, Nat.lor acc.2 (Nat.shiftLeft 1 a))
  | false => acc
def layQ (g : Addr → Option Obj) (fr : List Addr) (m : Nat) : List Addr × Nat := fr.foldl (fun acc a => match g a with
  | some o => (refsD o).foldl addQ acc
  | none => acc) ([], m)
def bfsQ (g : Addr → Option Obj) : Nat → List Addr × Nat → List Addr
  | 0, fr => fr.1
  | n + 1, fr => match fr with
    | (as, m) => as ++ bfsQ g n (layQ g as m)
def asQ (g : Addr → Option Obj) (n : Nat) : List Addr := bfsQ g n ([mainGlobals], Nat.shiftLeft 1 mainGlobals) ++ [cStatics]
def obsQ (n : Nat) (fa : List Fa) (fn : List DefD) (ex : PySem.W.Frag → Bool) (g : Addr → Option Obj) : AlD × Bool := (obsD fa fn (frG g (asQ g n)), ex (frG g (asQ g n)))
def hookQ (n : Nat) (fa : List Fa) (fn : List DefD) (ex : PySem.W.Frag → Bool) : PySem.W.Hook where
  α := AlD × Bool
  obs := fun s => obsQ n fa fn ex s.heap.get?
  val := fun _ => (valD fn, true)
  says := fun _ h => ∃ K : PySem.W.Frag, K.In h ∧ SaysD fa fn K ∧ ex K = true
  of := fun _ _ e => ⟨_, frG_in, congrArg (fun z : AlD × Bool => z.1) e, congrArg (fun z : AlD × Bool => z.2) e⟩
  keeps := fun _ _ _ ⟨K, hK, c⟩ k => ⟨K, PySem.W.Frag.In.keeps hK k, c⟩
theorem obsQ_eq {n : Nat} {fa : List Fa} {fn : List DefD} {ex : PySem.W.Frag → Bool} {g : Addr → Option Obj} {s : Shared} (h : ∀ a, g a = s.heap.get? a) : obsQ n fa fn ex g = (hookQ n fa fn ex).obs s := by
  have e : g = s.heap.get? := funext h
  rw [e] <;> rfl
end He

/-! # Rl, fifty-second part: a dict literal as one's own dict; looking up in one's own dict -/
namespace Rl
open PySem PySem.Spec PyProof.Rows L2
section
variable {K : PySem.W.Frag} {F : Hp} {G0 : Vw} {γ : List Sl} {ks : KS} {k : AV → List Sl → Prop}
/-- x = {k: v, k: v, k: v}: a dict of one's own -/
theorem gs_setD3 {i : Nat} {k1 k2 k3 : Key} {x1 x2 x3 v1 v2 v3 : V} (h1 : x1 = kV k1) (h2 : x2 = kV k2) (h3 : x3 = kV k3) (q : AllA fun l => ks.nx (γ.set i (.tr (dkS l (mergeK [] [(k1, v1), (k2, v2), (k3, v3)]))))) : GS K F G0 (tAsg (tDisp [(tC x1, tC v1), (tC x2, tC v2), (tC x3, tC v3)]) (gName i)) γ ks := fun D σ H G a s p np => by
  subst h1; subst h2; subst h3
  refine ⟨upd_same, [(k1, v1), (k2, v2), (k3, v3)], rfl, Nat.le_of_ble_eq_true rfl, ?_⟩
  rw [upd_upd]
  refine s.nx _ _ _ G (q p) (.refl G) ((a.up (same_upd np)).set (v := .ref p) ⟨.ref p, rfl, dkS_ok upd_same (a.noF np) (a.noL np), ?_⟩ fun b hb => ?_)
  · rw [dkS_ads]
    exact List.nodup_cons.mpr ⟨by simp, List.nodup_nil⟩
  · rw [show (Sl.tr (dkS p (mergeK [] [(k1, v1), (k2, v2), (k3, v3)]))).ads = (dkS p (mergeK [] [(k1, v1), (k2, v2), (k3, v3)])).ads from rfl, dkS_ads] at hb
    rw [List.mem_singleton.mp hb]
    exact a.noOwn np
/-- d[key] of one's own dict -/
theorem ge_dgetO {i : Nat} {ty : TE} (h0 : ∃ l kvs, γ[i]? = some (.tr (dkS l kvs))) (h : GE K F G0 ty γ fun B γ1 => ∃ l kvs key v, B = aV (kV key) ∧ γ1[i]? = some (.tr (dkS l kvs)) ∧ valV kvs key = some v ∧ k (aV v) γ1) : GE K F G0 (tDGet (tVar i) ty) γ k := fun σ H G Q a z => by
  obtain ⟨l0, kvs0, e0⟩ := h0
  obtain ⟨w0, f0, ok0, _⟩ := a.trAt e0
  obtain ⟨ew, _, _, _⟩ := dkS_at ok0
  subst ew
  refine ⟨_, f0, h σ H G _ a fun B γ1 y H1 G1 ⟨l, kvs, key, v, eB, e1, hv, q⟩ l1 a1 p1 => ?_⟩
  subst eB
  have ey : y = kV key := p1
  subst ey
  obtain ⟨w1, f1, ok1, _⟩ := a1.trAt e1
  obtain ⟨ew, hF, hn, hH⟩ := dkS_at ok1
  subst ew
  rw [f0] at f1
  cases f1
  exact ⟨l0, v, rfl, .inl ⟨kvs, key, .inl hH, rfl, hv.symm⟩, z _ γ1 v H1 G1 q l1 a1 rfl⟩
end
end Rl

/-! # defs that show data by repr: their promise holds where no guard stands; so they are called by the law's own def, or by one of their kind -/
namespace Rl
open PySem PySem.Spec PyProof.Rows L2
/-- as the layer's own promise of a def, of a caller around whom no guard stands -/
structure FnG (P : Program) (w : World) (K : PySem.W.Frag) (mg : Str → Option Value) (base : Heap) (CX : CXT) (k : Nat) (f : Addr) (fd : FuncData) (ps : List Str) (sp : Sp) : Prop where
  len : ∀ vs H Q E, sp vs H Q E → vs.length = ps.length
  go : ∀ (A : Around) (outer : List Env) (s : Shared) (H : Hp) (args : Args) (us : List Value) (vs : List V) (Q : VK) (E : XK), A.guards = some [] → Room k A → Env0 P w K mg base A outer s H → BindsTo s fd args (ps.zip us) → Vals vs us → sp vs H Q E →
    codeAny (model P w) A (.call (.ref f) args) (CR CX outer P w H s Q E) s
section
variable {P : Program} {w : World} {K : PySem.W.Frag} {mg : Str → Option Value} {base : Heap}
theorem fn_g {CX : CXT} {x : Str} {st : Stmt} {N ps : List Str} {k : Nat} {sp : Sp} {f : Addr} {fd : FuncData} (D : FunD K x x (defArgs st) (defBody st) (defScope st) [] [] f fd) (S : FnScope N ps (defScope st))
    (len : ∀ vs H Q E, sp vs H Q E → vs.length = ps.length)
    (body : ∀ (cdv : Value) (A : Around) (outer : List Env) (s : Shared) (H : Hp) (vs : List V) (Q : VK) (E : XK), Room k (A.deeper (envOfC x (defScope st) s.heap.objs.size f cdv)) → (A.deeper (envOfC x (defScope st) s.heap.objs.size f cdv)).guards = some [] → sp vs H Q E →
      ∃ t, PSs (cxOf CX P w K mg base N x (defScope st) f cdv A outer s H E) (defBody st) t ∧ t { nx := fun _ H' => Q .non H', rt := Q } (L2.start N vs) H) : FnG P w K mg base CX (k + 1) f fd ps sp := by
  refine ⟨len, fun A outer s H args us vs Q E gd room env bd rv hs => ?_⟩
  obtain ⟨oc, od, dV, kV, doc, pm, an, cdv, ct, osl, rfl, look, code, _, _⟩ := D.ex
  have old : ∀ b o, base.get? b = some o → s.heap.get? b = some o := fun b o e => (env.bs b o e).1
  have inK : K.In s.heap := env.mod.kin.keeps old
  have many := len _ _ _ _ hs
  have kinds : ∀ y ∈ ps.zip us, (defScope st).names.lookup y.1 = some .local ∨ ((defScope st).names.lookup y.1 = some .cell ∧ ((cellsFrom (s.heap.objs.size + 1) (defScope st).names []).lookup y.1).isSome = true) := fun y hy =>
    (S.par y.1 (List.of_mem_zip (a := y.1) (b := y.2) hy).1).imp id fun c => ⟨c, PySem.W.cellsFrom_some _ _ _ (.inl c)⟩
  refine codeAny_call_function room.depth (inK _ _ look) rfl S.co S.gen rfl (PySem.W.codeRec_of inK code) (bd _ _ _ _ ?_)
  refine wpAny_newFunctionEnv_cells S.kind kinds ?_
  intro env' he s1 inside
  cases he
  refine ⟨(env.mod.nolimit.keeps old).keeps inside.toInCall.keep, codeAny_func ?_⟩
  obtain ⟨t, ht, done⟩ := body cdv A outer s H vs Q E (room.deeper _) (show A.guards = some [] from gd) hs
  have I0 : Inv (cxOf CX P w K mg base N x (defScope st) f cdv A outer s H E) [] (L2.start N vs) H s1 := inv_start S room.hd env many rv inside
  refine wpAny_mono (ht.run [] s1 (L2.start N vs) H _ I0 done) (fun fl s2 post => ?_) fun e s2 post => post
  match fl, post with
  | .next, ⟨σ2, H2, J, q⟩ => exact ⟨V.non, H2, J.os, J.bare, J.base, J.hok, rfl, q⟩
  | .ret y, ⟨y', σ2, H2, J, ry, q⟩ => exact ⟨y', H2, J.os, J.bare, J.base, J.hok, ry, q⟩
  | .brk, ⟨_, _, _, q⟩ => exact False.elim q
  | .cont, ⟨_, _, _, q⟩ => exact False.elim q
/-- .. told by values, as Ct -/
abbrev Cg := Ct
structure CalG (P : Program) (w : World) (K : PySem.W.Frag) (mg : Str → Option Value) (base : Heap) (n : Nat) (x : Str) (ps : List Str) (sp : Sp) : Prop where
  ex : ∃ f fd, FnG P w K mg base CX0 n f fd ps sp ∧ mg x = some (.ref f) ∧ PySem.W.keepIn K (.ref f) = true ∧ Binds K fd ps []
theorem pe_calG {X : Cx} {n m : Nat} {x : Str} {ps : List Str} {sp : Sp} {e : Expr} {es : List Expr} {t : TA} {p pos : Pos} (c : CalG X.prog X.w X.K X.mg X.base n x ps sp) (gd : X.A.guards = some []) (hr : Room m X.A) (hg : Gl X x)
    (ha : PA X (e :: es) t) (hn : n ≤ m := by decide) (hdb : (x == ("__debug__" : Str)) = false := by decide) (he : starEach (e :: es) X.env = (false, eval e X.env) :: starEach es X.env := by rfl) (hpl : (backTo pos (starEach es X.env)).any (·.1) = false := by rfl) :
    PE X (.Call (.Name x p) (e :: es) [] pos) (tCall sp [] E0 t) := by
  obtain ⟨f, fd, F, hm, hk, hb⟩ := c.ex
  refine ⟨fun pins s σ H Q I h => wpAny_Call_Name_kw (ld_glob I hg hm (PySem.W.callWith_K (h₀ := X.base) I.ok.mod.kin hk (thn (ha.run pos pins s σ H _ I h) ?_) he hpl) hdb)⟩
  intro us s1 ⟨vs, H1, I1, r, q⟩
  refine ⟨I1.kIn, ?_⟩
  have q : sp (vs ++ []) H1 Q E0 := q
  rw [List.append_nil] at q
  have many : us.length = ps.length := r.length.symm.trans (F.len _ _ _ _ q)
  have bd := hb s1 us I1.kIn (by rw [List.append_nil]; exact many)
  rw [List.append_nil] at bd
  refine wpAny_call (codeAny_mono (F.go X.A X.stack s1 H1 ⟨us, []⟩ us vs Q E0 gd (hr.mono hn) I1.env0 bd r q) fun res s2 post => ?_)
  match res, post with
  | .ok (.ret u), post => exact I1.after post
  | .ok .next, post => exact False.elim post
  | .ok .brk, post => exact False.elim post
  | .ok .cont, post => exact False.elim post
  | .error _, post => exact False.elim post
theorem fn_okG {x : Str} {st : Stmt} {ps N : List Str} {n : Nat} {C : Ct} (D : Std K mg x st ps) (S : FnScope N ps (defScope st)) (hl : ∀ As R RO, C As R RO → As.length = ps.length)
    (hb : ∀ (f : Addr) (cdv : Value) (A : Around) (outer : List Env) (s : Shared) (H : Hp), Room n (A.deeper (envOfC x (defScope st) s.heap.objs.size f cdv)) → (A.deeper (envOfC x (defScope st) s.heap.objs.size f cdv)).guards = some [] →
      ∃ t, PSs (cxN P w K mg base N x (defScope st) f cdv A outer s H) (defBody st) t ∧ ∀ F G0 As R RO, C As R RO → NX K F G0 t (As.map Sl.sh ++ List.replicate (N.length - ps.length) Sl.non) (endK R RO)) : CalG P w K mg base (n + 1) x ps (spOf K C) := by
  obtain ⟨f, fd, F, hm, hbd⟩ := D.ex
  refine ⟨f, fd, fn_g F S (fun vs H Q E h => ?_) (fun cdv A outer s H vs Q E hr gd h => ?_), hm, F.kp, hbd⟩
  · obtain ⟨As, R, RO, G, hc, hv, _⟩ := h
    exact hv.length.trans (hl As R RO hc)
  · obtain ⟨t, ht, reads⟩ := hb f cdv A outer s H hr gd
    refine ⟨t, PSs.nox (X := cxOf CX0 P w K mg base N x (defScope st) f cdv A outer s H E) ht, ?_⟩
    obtain ⟨As, R, RO, G, hc, hv, see, q1, q2⟩ := h
    have st0 : L2.start N vs = vs.map some ++ List.replicate (N.length - ps.length) none := by
      unfold L2.start
      rw [hv.length, hl As R RO hc]
    rw [st0]
    have at0 : At K H G (As.map Sl.sh ++ List.replicate (N.length - ps.length) Sl.non) (vs.map some ++ List.replicate (N.length - ps.length) none) H G :=
      ⟨.refl G, L2.Same.refl H, see, fun _ _ _ q => q, by simp [hv.length], slots_start _ hv, dis_start⟩
    refine reads H G As R RO hc _ _ H G at0 ⟨fun γ' σ' H' G' h le a' => q1 aN .non H' G' h le a'.same a'.see a'.hid rfl, fun A γ' σ' v H' G' h le a' pv => q1 A v H' G' h le a'.same a'.see a'.hid pv,
      fun As' γ' σ' l vs' H' G' h le a' e1 e2 e3 hv' _ => q2 As' l vs' H' G' h le a'.same a'.see a'.hid e1 e2 e3 hv', fun _ _ _ _ z => z.elim, fun _ _ _ _ z => z.elim, fun _ _ _ _ _ _ z => z.elim⟩
theorem cal_noneM {x : Str} {st : Stmt} {ps : List Str} {n : Nat} {C : Cm} (D : Std K mg x st ps) (h : ∀ S As R RO, ¬ C S As R RO) : Cal P w K mg base n x ps (spM K C) := by
  obtain ⟨f, fd, F, hm, hbd⟩ := D.ex
  refine ⟨f, fd, ⟨fun vs H Q E h2 => ?_, fun A outer s H args us vs Q E hr e0 hb r h2 => ?_⟩, hm, F.kp, hbd⟩
  · obtain ⟨S, As, R, RO, G, l, ws, r, hc, _⟩ := h2
    exact (h _ _ _ _ hc).elim
  · obtain ⟨S, As, R, RO, G, l, ws, r, hc, _⟩ := h2
    exact (h _ _ _ _ hc).elim
end
section
variable {K : PySem.W.Frag} {F : Hp} {G0 : Vw} {γ : List Sl} {ks : KS}
theorem gs_setD3s {i : Nat} {s1 s2 s3 : Str} {v1 v2 v3 : V} (q : AllA fun l => ks.nx (γ.set i (.tr (dkS l (mergeK [] [(.inr s1, v1), (.inr s2, v2), (.inr s3, v3)]))))) : GS K F G0 (tAsg (tDisp [(tC (.str s1), tC v1), (tC (.str s2), tC v2), (tC (.str s3), tC v3)]) (gName i)) γ ks :=
  gs_setD3 (k1 := .inr s1) (k2 := .inr s2) (k3 := .inr s3) rfl rfl rfl q
end
section
variable {K : PySem.W.Frag} {F : Hp} {G0 : Vw} {γ : List Sl} {ks : KS} {ts us : TS}
/-- if .. : a suite that is not run, whatever is lent -/
theorem gs_pass {t : TT} (h : ∀ F' G0', GT K F' G0' t (lend γ) fun b _ => b = false) (q : GS K F G0 us γ ks) : GS K F G0 (tSeq (tIfS t ts tNext) us) γ ks :=
  gs_seq (gs_if (gt_lend fun F' G0' => (h F' G0').mono fun b _ e => ⟨fun z => Bool.noConfusion (z.symm.trans e), fun _ => gs_next q⟩))
end
end Rl

/-! # repr of any data, empty locked dicts within it too; of flat things -/
namespace Rl
open PySem PySem.Spec PyProof.Rows L2
/-- the module table stands in the written part, and is no list -/
def SysD (K : PySem.W.Frag) : Prop := ∃ o, K.lookup sysModules = some o ∧ o.cls ≠ .type "list"
def syB (K : PySem.W.Frag) : Bool := match K.lookup sysModules with
  | some o => decide (o.cls ≠ .type "list")
  | none => false
theorem syB_ok {K : PySem.W.Frag} (h : syB K = true) : SysD K := by
  unfold syB at h
  cases e : K.lookup sysModules with
  | none => rw [e] at h; cases h
  | some o => rw [e] at h; exact ⟨o, e, of_decide_eq_true h⟩
mutual
inductive Dq (K : PySem.W.Frag) (H : Hp) : V → PyData → Prop
  | non : Dq K H .non .none
  | bl (b : Bool) : Dq K H (.bl b) (.bool b)
  | int (i : Int) : Dq K H (.int i) (.int i)
  | str (x : Str) : Dq K H (.str x) (.str x)
  | seqL {a : Addr} {vs : List V} {es : List PyData} : SqL K H a vs → Dqs K H vs es → Dq K H (.ref a) (.list es)
  | seqT {a : Addr} {vs : List V} {es : List PyData} : SqT K H a vs → Dqs K H vs es → Dq K H (.ref a) (.tuple es)
  | d0 {a : Addr} {o : Obj} : H a = some (.frz o (.dK [])) → Dq K H (.ref a) (.dict [])
inductive Dqs (K : PySem.W.Frag) (H : Hp) : List V → List PyData → Prop
  | nil : Dqs K H [] []
  | cons {v : V} {vs : List V} {e : PyData} {es : List PyData} : Dq K H v e → Dqs K H vs es → Dqs K H (v :: vs) (e :: es)
end
mutual
theorem Dq.of {K : PySem.W.Frag} {H : Hp} : ∀ (d : PyData) (v : V), Dp K H v d → Dq K H v d
  | .none, _, h => by cases h; exact .non
  | .bool b, _, h => by cases h; exact .bl b
  | .int i, _, h => by cases h; exact .int i
  | .str x, _, h => by cases h; exact .str x
  | .list es, _, h => by
    cases h with
    | lst hs ha => exact .seqL hs (Dqs.of es _ ha)
  | .tuple es, _, h => by
    cases h with
    | tup hs ha => exact .seqT hs (Dqs.of es _ ha)
  | .dict _, _, h => by cases h
theorem Dqs.of {K : PySem.W.Frag} {H : Hp} : ∀ (es : List PyData) (vs : List V), DpAll K H vs es → Dqs K H vs es
  | [], _, h => by cases h; exact .nil
  | e :: es, _, h => by
    cases h with
    | cons h1 h2 => exact .cons (Dq.of e _ h1) (Dqs.of es _ h2)
end
section
variable {X : Cx} {pins : List (Addr × Obj)} {σ : L2.St} {H : Hp} {s : Shared}
mutual
theorem Dq.reads (sd : SysD X.K) (I : Inv X pins σ H s) : ∀ (d : PyData) (v : V) (u : Value), Dq X.K H v d → RelV v u → ∃ as, Reads s.heap u d as ∧ sysModules ∉ as
  | .none, _, _, h, r => by
    cases h; cases r
    exact ⟨[], .none, List.not_mem_nil⟩
  | .bool b, _, _, h, r => by
    cases h; cases r
    exact ⟨[], .bool b, List.not_mem_nil⟩
  | .int i, _, _, h, r => by
    cases h
    obtain ⟨t, rfl⟩ := r
    exact ⟨[], .int i t, List.not_mem_nil⟩
  | .str x, _, _, h, r => by
    cases h
    obtain ⟨t, rfl⟩ := r
    exact ⟨[], .str x t, List.not_mem_nil⟩
  | .list es, _, _, h, r => by
    cases h with
    | @seqL a vs _ hs ha =>
      cases r
      obtain ⟨its, rv, ⟨o, n, ho, hc, _, hd⟩, _⟩ := I.list hs
      obtain ⟨as, h1, h2⟩ := Dqs.reads sd I es _ its ha rv
      refine ⟨a :: as, .list ho hc hd h1, fun z => ?_⟩
      rcases List.mem_cons.mp z with z | z
      · obtain ⟨o2, e1, e2⟩ := sd
        have e3 := I.kIn _ _ e1
        rw [z, ho] at e3
        cases e3
        exact e2 hc
      · exact h2 z
  | .tuple es, _, _, h, r => by
    cases h with
    | @seqT a vs _ hs ha =>
      cases r
      obtain ⟨its, rv, ⟨o, ho, hc, n, hd⟩, _⟩ := I.tuple hs
      obtain ⟨as, h1, h2⟩ := Dqs.reads sd I es _ its ha rv
      exact ⟨as, .tuple ho hc hd h1, h2⟩
  | .dict kvs, _, _, h, r => by
    cases h with
    | @d0 a o ha =>
      cases r
      obtain ⟨_, hm, vs, rel, o2, es, ep, ho, hx, hd, _, hp, _⟩ := dk_rd I.hok (.inr ⟨o, ha⟩)
      cases rel
      generalize he : es.toList = l at hp
      cases hp
      refine ⟨a :: [] ++ [], .dict ho hx.1 hd (by rw [he]; exact .nil) (by rw [he]; exact .nil), fun z => ?_⟩
      have z : sysModules = a := by simpa using z
      rw [z] at hm
      simp at hm
theorem Dqs.reads (sd : SysD X.K) (I : Inv X pins σ H s) : ∀ (es : List PyData) (vs : List V) (us : List Value), Dqs X.K H vs es → Vals vs us → ∃ as, ReadsAll s.heap us es as ∧ sysModules ∉ as
  | [], _, _, h, r => by
    cases h; cases r
    exact ⟨[], .nil, List.not_mem_nil⟩
  | e :: es, _, _, h, r => by
    cases h with
    | cons h1 h2 =>
      cases r with
      | cons r1 r2 =>
        obtain ⟨as, a1, a2⟩ := Dq.reads sd I e _ _ h1 r1
        obtain ⟨bs, b1, b2⟩ := Dqs.reads sd I es _ _ h2 r2
        exact ⟨as ++ bs, .cons a1 b1, fun z => (List.mem_append.mp z).elim a2 b2⟩
end
end
/-- the text of a thing -/
def rReprX (K : PySem.W.Frag) (xs : List V) (H : Hp) (Q : VK) : Prop := ∃ (v : V) (d : PyData), xs = [v] ∧ Dq K H v d ∧ d.showable = true ∧ d.depth ≤ 100 ∧ d.shown.length ≤ sizeLine ∧ Q (.str d.shown) H
theorem reprX_of {K : PySem.W.Frag} {xs : List V} {H : Hp} {Q : VK} (h : rRepr K xs H Q) : rReprX K xs H Q := by
  obtain ⟨a, d, e, h1, h2, _, h3, h4, q⟩ := h
  exact ⟨.ref a, d, e, Dq.of d _ h1, h2, h3, h4, q⟩
theorem call_reprX {X : Cx} {n : Nat} (sd : SysD X.K) (hg : X.A.guards = some []) (room : Room n X.A) : CallR X (.builtin "repr") (rReprX X.K) := fun pins s σ H xs us Q I r h => by
  obtain ⟨v, d, rfl, hd, hs, hp, hz, q⟩ := h
  have un := room.un
  cases r with
  | cons ru rr =>
    cases rr
    cases hd with
    | non =>
      cases ru
      exact PySem.P.repr_of_none ⟨.str _, H, I.tok _, ⟨_, rfl⟩, by rw [PyData.shown] at q; exact q⟩
    | bl b =>
      cases ru
      exact PySem.P.repr_of_bool ⟨.str _, H, I.tok _, ⟨_, rfl⟩, by rw [PyData.shown] at q; exact q⟩
    | int i =>
      obtain ⟨t, rfl⟩ := ru
      exact PySem.P.repr_of_int (by simpa [PyData.showable] using hs) ⟨.str _, H, I.tok _, ⟨_, rfl⟩, by rw [PyData.shown] at q; exact q⟩
    | str x =>
      obtain ⟨t, rfl⟩ := ru
      rw [PyData.shown] at q hz
      exact PySem.P.repr_of_str (hsz := hz) ⟨.str _, H, I.tok _, ⟨_, rfl⟩, q⟩
    | seqL h1 h2 =>
      cases ru
      obtain ⟨as, rd, nm⟩ := Dq.reads sd I _ _ _ (.seqL h1 h2) rfl
      exact repr_of_reads' rd hs (fun _ => nm) hg (by omega) (fun _ _ e => e) (fun h' u tk hk => ⟨.str _, H, I.kept (t' := tk) hk, ⟨_, rfl⟩, q⟩) hz
    | seqT h1 h2 =>
      cases ru
      obtain ⟨as, rd, nm⟩ := Dq.reads sd I _ _ _ (.seqT h1 h2) rfl
      exact repr_of_reads' rd hs (fun _ => nm) hg (by omega) (fun _ _ e => e) (fun h' u tk hk => ⟨.str _, H, I.kept (t' := tk) hk, ⟨_, rfl⟩, q⟩) hz
    | d0 h1 =>
      cases ru
      obtain ⟨as, rd, nm⟩ := Dq.reads sd I _ _ _ (.d0 h1) rfl
      exact repr_of_reads' rd hs (fun _ => nm) hg (by omega) (fun _ _ e => e) (fun h' u tk hk => ⟨.str _, H, I.kept (t' := tk) hk, ⟨_, rfl⟩, q⟩) hz
theorem call_reprXK {K : PySem.W.Frag} {X : Cx} {n : Nat} (sd : SysD K) (hg : X.A.guards = some []) (room : Room n X.A) (h : X.K = K := by rfl) : CallR X (.builtin "repr") (rReprX K) := by
  subst h
  exact call_reprX sd hg room
/-! ### what can be shown, by the length of its text -/
def Isq (A : AV) (d : PyData) : Prop := ∀ (K : PySem.W.Frag) (G : Vw) (H : Hp) (v : V), See K G H → A.p G v → Dq K H v d
def Isqs : List AV → List PyData → Prop
  | [], ds => ds = []
  | A :: As, ds => ∃ d r, ds = d :: r ∧ Isq A d ∧ Isqs As r
theorem isq_of {A : AV} {d : PyData} (h : Isd A d) : Isq A d := fun K G H v s p => Dq.of d v (h K G H v s p)
theorem isqs_at {K : PySem.W.Frag} {G : Vw} {H : Hp} (s : See K G H) : ∀ {As : List AV} {ds : List PyData} {vs : List V}, Isqs As ds → avs G As vs → Dqs K H vs ds
  | [], ds, vs, h, p => by
    rw [show ds = [] from h, show vs = [] from p]
    exact .nil
  | A :: As, ds, vs, ⟨d, r, e, h1, h2⟩, ⟨v, w, e2, p1, p2⟩ => by
    subst e; subst e2
    exact .cons (h1 K G H v s p1) (isqs_at s h2 p2)
theorem isq_tup {As : List AV} {ds : List PyData} (h : Isqs As ds) : Isq (aTup As) (.tuple ds) := fun K G H v s ⟨a, vs, e, ht, hv⟩ => by
  subst e
  exact .seqT (s.t a vs ht) (isqs_at s h hv)
theorem isq_lst {As : List AV} {ds : List PyData} (h : Isqs As ds) : Isq (aLst As) (.list ds) := fun K G H v s ⟨a, vs, e, ht, hv⟩ => by
  subst e
  exact .seqL (SqL.of (s.l a vs ht)) (isqs_at s h hv)
theorem isq_d0 : Isq (aDk []) (.dict []) := fun K G H v s ⟨p, o, e, hp⟩ => by
  subst e
  exact .d0 (s.h p _ hp).1
def Sy (n W : Nat) (A : AV) : Prop := ∃ d, Isq A d ∧ PyData.showable d = true ∧ PyData.depth d ≤ n ∧ d.shown.length ≤ W
def Sys (n W : Nat) (As : List AV) : Prop := ∃ ds, Isqs As ds ∧ PyData.showableAll ds = true ∧ PyData.depthAll ds ≤ n ∧ ((PyData.shownAll ds).map (·.length)).sum + 2 * (PyData.shownAll ds).length ≤ W
theorem sy_of {n W : Nat} {A : AV} (h : Sx n W A) : Sy n W A := by
  obtain ⟨d, h1, h2, _, h4, h5⟩ := h
  exact ⟨d, isq_of h1, h2, h4, h5⟩
theorem Sy.mono {n m W V : Nat} {A : AV} (h : Sy n W A) (hn : n ≤ m) (hw : W ≤ V) : Sy m V A := by
  obtain ⟨d, h1, h2, h4, h5⟩ := h
  exact ⟨d, h1, h2, Nat.le_trans h4 hn, Nat.le_trans h5 hw⟩
theorem Sys.mono {n m W V : Nat} {As : List AV} (h : Sys n W As) (hn : n ≤ m) (hw : W ≤ V) : Sys m V As := by
  obtain ⟨d, h1, h2, h4, h5⟩ := h
  exact ⟨d, h1, h2, Nat.le_trans h4 hn, Nat.le_trans h5 hw⟩
theorem sy_d0 : Sy 1 2 (aDk []) := by
  refine ⟨.dict [], isq_d0, ?_, ?_, ?_⟩ <;> decide +kernel
theorem sys_nil {n : Nat} : Sys n 0 [] := by
  refine ⟨[], rfl, ?_, ?_, ?_⟩
  · rw [PyData.showableAll]
  · rw [PyData.depthAll]
    exact Nat.zero_le _
  · rw [PyData.shownAll]
    exact Nat.le_refl _
theorem sys_cons {n W V : Nat} {A : AV} {As : List AV} (h : Sy n W A) (t : Sys n V As) : Sys n (W + 2 + V) (A :: As) := by
  obtain ⟨d, h1, h2, h4, h5⟩ := h
  obtain ⟨ds, t1, t2, t4, t5⟩ := t
  refine ⟨d :: ds, ⟨d, ds, rfl, h1, t1⟩, ?_, ?_, ?_⟩
  · rw [PyData.showableAll, h2, t2]
    rfl
  · rw [PyData.depthAll]
    exact Nat.max_le.mpr ⟨h4, t4⟩
  · rw [PyData.shownAll, List.map_cons, List.sum_cons, List.length_cons]
    omega
theorem sys_append {n V : Nat} {Bs : List AV} (t : Sys n V Bs) : ∀ {As : List AV} {W : Nat}, Sys n W As → Sys n (W + V) (As ++ Bs)
  | [], W, _ => t.mono (Nat.le_refl _) (by omega)
  | A :: As, W, h => by
    obtain ⟨_, ⟨d, ds, rfl, g1, g2⟩, h2, h4, h5⟩ := h
    rw [PyData.showableAll, Bool.and_eq_true] at h2
    rw [PyData.depthAll] at h4
    rw [PyData.shownAll, List.map_cons, List.sum_cons, List.length_cons] at h5
    have a := sys_append t (As := As) (W := W - (d.shown.length + 2)) ⟨ds, g2, h2.2, by omega, by omega⟩
    have := sys_cons (W := d.shown.length) ⟨d, g1, h2.1, by omega, Nat.le_refl _⟩ a
    exact this.mono (Nat.le_refl _) (by omega)
theorem sys_map {α : Type} {n W : Nat} {f : α → AV} : ∀ xs : List α, (∀ x, x ∈ xs → Sy n W (f x)) → Sys n (xs.length * (W + 2)) (xs.map f)
  | [], _ => by
    rw [List.length_nil, Nat.zero_mul]
    exact sys_nil
  | x :: xs, h => by
    have e : (x :: xs).length * (W + 2) = W + 2 + xs.length * (W + 2) := by rw [List.length_cons, Nat.succ_mul, Nat.add_comm]
    rw [e]
    exact sys_cons (h x (List.mem_cons_self ..)) (sys_map xs fun y hy => h y (List.mem_cons_of_mem _ hy))
theorem sys_all {n W : Nat} : ∀ {As : List AV}, (∀ A, A ∈ As → Sy n W A) → Sys n (As.length * (W + 2)) As := fun {As} h => by
  have := sys_map (f := id) As h
  rw [List.map_id] at this
  exact this
theorem sy_tup {n W : Nat} {As : List AV} (h : Sys n W As) : Sy (n + 1) (W + 3) (aTup As) := by
  obtain ⟨ds, t1, t2, t4, t5⟩ := h
  refine ⟨.tuple ds, isq_tup t1, ?_, ?_, ?_⟩
  · rw [PyData.showable]; exact t2
  · rw [PyData.depth]; omega
  · rw [PyData.shown]
    exact Nat.le_trans (tupleText_len_le _) (by omega)
theorem sy_lst {n W : Nat} {As : List AV} (h : Sys n W As) : Sy (n + 1) (W + 3) (aLst As) := by
  obtain ⟨ds, t1, t2, t4, t5⟩ := h
  refine ⟨.list ds, isq_lst t1, ?_, ?_, ?_⟩
  · rw [PyData.showable]; exact t2
  · rw [PyData.depth]; omega
  · rw [PyData.shown]
    exact Nat.le_trans (listText_len_le _) (by omega)
section
variable {K : PySem.W.Frag} {F : Hp} {G0 : Vw} {γ : List Sl} {k : AV → List Sl → Prop}
theorem on_reprX {As : List AV} (h : ON K F G0 (rRepr K) As γ k) : ON K F G0 (rReprX K) As γ k := fun σ H G vs Q a p z => reprX_of (h σ H G vs Q a p z)
end
theorem repr_sy {n W : Nat} {A : AV} (h : Sy n W A) (hn : n ≤ 100) (hW : W ≤ 16000000) :
    ∃ z : Str, ∀ {K : PySem.W.Frag} {F : Hp} {G0 : Vw} {γ : List Sl} {k : AV → List Sl → Prop}, k (aS z) γ → ON K F G0 (rReprX K) [A] γ k := by
  obtain ⟨d, h1, h2, h4, h5⟩ := h
  refine ⟨d.shown, fun q σ H G vs Q a p z => ?_⟩
  obtain ⟨v, r, rfl, pv, rfl⟩ := p
  have e : sizeLine = 16777216 := by decide
  exact ⟨v, d, rfl, h1 _ G H v a.see pv, h2, Nat.le_trans h4 hn, by rw [e]; omega, z _ _ _ H G q (.refl G) a rfl⟩
end Rl
namespace He
open PySem PySem.Spec PyProof.Rows L2
def asT (g : Addr → Option Obj) (n : Nat) : List Addr := asD g n ++ [cStatics, sysModules]
def obsT (n : Nat) (fa : List Fa) (fn : List DefD) (ex : PySem.W.Frag → Bool) (g : Addr → Option Obj) : AlD × Bool := (obsD fa fn (frG g (asT g n)), ex (frG g (asT g n)))
def hookT (n : Nat) (fa : List Fa) (fn : List DefD) (ex : PySem.W.Frag → Bool) : PySem.W.Hook where
  α := AlD × Bool
  obs := fun s => obsT n fa fn ex s.heap.get?
  val := fun _ => (valD fn, true)
  says := fun _ h => ∃ K : PySem.W.Frag, K.In h ∧ SaysD fa fn K ∧ ex K = true
  of := fun _ _ e => ⟨_, frG_in, congrArg (fun z : AlD × Bool => z.1) e, congrArg (fun z : AlD × Bool => z.2) e⟩
  keeps := fun _ _ _ ⟨K, hK, c⟩ k => ⟨K, PySem.W.Frag.In.keeps hK k, c⟩
theorem obsT_eq {n : Nat} {fa : List Fa} {fn : List DefD} {ex : PySem.W.Frag → Bool} {g : Addr → Option Obj} {s : Shared} (h : ∀ a, g a = s.heap.get? a) : obsT n fa fn ex g = (hookT n fa fn ex).obs s := by
  have e : g = s.heap.get? := funext h
  rw [e] <;> rfl
end He

/-! # texts: split, int of a text, one sign in a text; how whole numbers are written -/
namespace Rl
open PySem PySem.Spec PyProof.Rows L2 TL
/-! ### rules -/
def rSpl : V → List V → Hp → VK → Prop := fun x xs H Q => ∃ a b, x = .str a ∧ xs = [.str b] ∧ (b.length == 0) = false ∧ a.length + 2 ≤ sizeLine ∧ rNewStrs (Txt.split a b) H Q
def tSpl (to te : TE) : TE := tM1 rSpl to te
theorem pe_spl {X : Cx} {o e : Expr} {to te : TE} {apos pos : Pos} (ho : PE X o to) (he : PE X e te) (hs : starEach [e] X.env = [(false, eval e X.env)] := by rfl) (hbase : attributeBase o "split" X.env (eval o X.env) = eval o X.env := by rfl) (hline : (apos.endLine == pos.line) = true := by rfl) :
    PE X (.Call (.Attribute o "split" apos) [e] [] pos) (tSpl to te) := pe_split ho he hs hbase hline
section
variable {K : PySem.W.Frag} {F : Hp} {G0 : Vw} {γ : List Sl}
theorem go_spl {to te : TE} {k : Addr → List AV → List Sl → Prop} (h : GE K F G0 to γ fun A γ1 => ∃ a : Str, A = aS a ∧ GE K F G0 te γ1 fun B γ2 => ∃ b : Str, B = aS b ∧ ((b.length == 0) = false ∧ a.length ≤ 100000) ∧ AllA fun l => k l ((Txt.split a b).map aS) γ2) : GO K F G0 (tSpl to te) γ k := fun σ H G Q a z =>
  h σ H G _ a fun A γ1 v H1 G1 ⟨x, eA, h1⟩ l1 a1 p1 => by
    subst eA
    have ev : v = .str x := p1
    subst ev
    refine ⟨⟨x, rfl⟩, h1 σ H1 G1 _ a1 fun B γ2 w H2 G2 ⟨y, eB, ⟨h2, h3⟩, h4⟩ l2 a2 p2 => ?_⟩
    subst eB
    have ew : w = .str y := p2
    subst ew
    have e : sizeLine = 16777216 := by decide
    exact ⟨x, y, rfl, rfl, h2, by rw [e]; omega, fun l np => go_new z a2 (l1.trans l2) np (h4 l) (avs_flats V.str G2 _)⟩
/-- int(text) -/
def rIntT : List V → Hp → VK → Prop := fun xs H Q => ∃ a n, xs = [.str a] ∧ PySem.intText? a = some n ∧ a.length ≤ 640 ∧ Q (.int n) H
theorem call_intT {X : Cx} : CallR X (.type "int") rIntT := call_int_str
theorem n_intT {a : Str} {n : Int} {k : AV → List Sl → Prop} (h : PySem.intText? a = some n) (hl : a.length ≤ 640) (q : k (aInt n) γ) : ON K F G0 rIntT [aS a] γ k := on_pure (fun H G xs Q s p z => by
  obtain ⟨v, r, rfl, pv, rfl⟩ := p
  have ev : v = .str a := pv
  subst ev
  exact ⟨a, n, rfl, h, hl, z _ rfl⟩) q
/-- str(number) -/
def rStrI : List V → Hp → VK → Prop := fun xs H Q => ∃ i, xs = [.int i] ∧ i.natAbs.log2 < 1920 ∧ Q (.str (toString i)) H
theorem call_strI {X : Cx} : CallR X (.type "str") rStrI := call_str_int
/-- how a whole number is written -/
def txI (n : Int) : Str := Str.ofString (toString n)
theorem n_strI {i : Int} {k : AV → List Sl → Prop} (h : i.natAbs.log2 < 1920) (q : k (aS (txI i)) γ) : ON K F G0 rStrI [aInt i] γ k := on_pure (fun H G xs Q s p z => by
  obtain ⟨v, r, rfl, pv, rfl⟩ := p
  have ev : v = .int i := pv
  subst ev
  exact ⟨i, rfl, h, z _ rfl⟩) q
/-- a text in a text -/
def rInS (neg : Bool) : R2 := fun x y H Q => ∃ i j, x = .str i ∧ y = .str j ∧ Q (.bl (if neg then !(!(Builtin.Str.occurrences j i 0 j.length 1).isEmpty) else !(Builtin.Str.occurrences j i 0 j.length 1).isEmpty)) H
theorem op_inS {X : Cx} : OpR X (compareOp .In) (rInS false) := op_in_str
theorem op_notInS {X : Cx} : OpR X (compareOp .NotIn) (rInS true) := op_notin_str
theorem o_in1 {neg : Bool} {c : Nat} {z : Str} {k : AV → List Sl → Prop} (q : k (aB (if neg then !decide (c ∈ z.cps.toList) else decide (c ∈ z.cps.toList))) γ) : O2 K F G0 (rInS neg) (aS ⟨#[c]⟩) (aS z) γ k := o2_pure (fun H G x y Q s p1 p2 w => by
  have e1 : x = V.str ⟨#[c]⟩ := p1
  have e2 : y = V.str z := p2
  subst e1; subst e2
  refine ⟨_, z, rfl, rfl, w _ ?_⟩
  show V.bl _ = V.bl _
  rw [PySem.StrLaws.found_one z c]) q
end
/-! ### how whole numbers are written -/
def tL (x : Str) : List Nat := x.cps.toList
theorem tL_ext {x y : Str} (h : tL x = tL y) : x = y := ext_tl h
theorem tL_mk (l : List Nat) : tL ⟨l.toArray⟩ = l := rfl
theorem tL_app (x y : Str) : tL (x ++ y) = tL x ++ tL y := tl_append x y
theorem tL_len (x : Str) : (tL x).length = x.length := (len_tl x).symm
theorem tL_nat (n : Nat) : tL (txI (n : Int)) = numL n := tl_num n
theorem tL_neg (n : Nat) : tL (txI (-((n + 1 : Nat) : Int))) = 45 :: numL (n + 1) := by
  have e : toString (-((n + 1 : Nat) : Int)) = "-" ++ toString (((n + 1 : Nat)) : Int) := rfl
  unfold txI
  rw [e]
  have h : Str.ofString ("-" ++ toString (((n + 1 : Nat)) : Int)) = Str.ofString "-" ++ Str.ofString (toString (((n + 1 : Nat)) : Int)) := by
    apply tL_ext
    rw [tL_app]
    show tl _ = tl _ ++ tl _
    rw [tl_ofString, tl_ofString, tl_ofString, String.toList_append, List.map_append]
  rw [h, tL_app]
  show tl _ ++ tl _ = _
  rw [tl_num]
  rfl
theorem tL_txI (n : Int) : tL (txI n) = if n < 0 then 45 :: numL n.natAbs else numL n.natAbs := by
  rcases Int.le_total 0 n with h | h
  · obtain ⟨m, rfl⟩ := Int.eq_ofNat_of_zero_le h
    rw [if_neg (by omega), tL_nat]
    rfl
  · by_cases z : n = 0
    · subst z
      rw [if_neg (by omega)]
      exact tL_nat 0
    · obtain ⟨m, rfl⟩ : ∃ m : Nat, n = -((m + 1 : Nat) : Int) := ⟨n.natAbs - 1, by omega⟩
      rw [if_pos (by omega), tL_neg, Int.natAbs_neg, Int.natAbs_natCast]
theorem txI_inj {m n : Int} (h : txI m = txI n) : m = n := by
  have h := congrArg tL h
  rw [tL_txI, tL_txI] at h
  have no : ∀ k, (45 :: numL m.natAbs) ≠ numL k := fun k e => by
    have := numL_free (n := k) (s := 45) (.inl (by decide))
    rw [← e] at this
    exact this (List.mem_cons_self ..)
  have no2 : ∀ k j, numL j ≠ 45 :: numL k := fun k j e => by
    have := numL_free (n := j) (s := 45) (.inl (by decide))
    rw [e] at this
    exact this (List.mem_cons_self ..)
  split at h <;> split at h
  · injection h with _ h
    have := numL_inj h
    omega
  · exact absurd h (no _)
  · exact absurd h (no2 _ _)
  · have := numL_inj h
    omega
/-- digits, no more than k -/
theorem numL_up {n : Nat} : n < 10 ^ (numL n).length := by
  induction n using Nat.strongRecOn with
  | _ n ih =>
    by_cases h : n < 10
    · rw [numL_lt h]
      simpa using h
    · have := ih (n / 10) (by omega)
      rw [numL_step (by omega), List.length_append, List.length_singleton, Nat.pow_succ]
      omega
end Rl

/-! # None in a list of data; parts of a text that is split -/
namespace Rl
open PySem PySem.Spec PyProof.Rows L2 TL
section
variable {K : PySem.W.Frag} {F : Hp} {G0 : Vw} {γ : List Sl}
theorem o_inN {α : Type} {g : Option α → AV} {gd : Option α → PyData} (hd : ∀ x, Isd (g x) (gd x)) (hc : ∀ x, (gd x).canLay0 = true) (hp : ∀ x, (gd x).depth ≤ 5) (he : ∀ x, PyData.eqv (gd x) .none = x.isNone) {xs : List (Option α)} {k : AV → List Sl → Prop} (q : k (aB (xs.any Option.isNone)) γ) : O2 K F G0 (rInA K false) aN (aLst (xs.map g)) γ k := o2_pure (fun H G x y Q s px py z => by
  have e : x = V.non := px
  subst e
  refine .inr (.inr (.inl ⟨.none, xs.map gd, .non, isd_lst (isds_map hd xs) K G H y s py, rfl, ?_, z _ ?_⟩))
  · have h1 := canAll_map (f := gd) hc xs
    have h2 := depthAll_map (f := gd) (n := 5) hp xs
    unfold SeqAt.shaped
    rw [PyData.canLay0, PyData.depth, h1]
    exact decide_eq_true (by omega)
  · show V.bl _ = V.bl _
    rw [List.any_map]
    congr 1
    exact congrArg xs.any (funext he)) q
end
theorem spl_le (S : List Nat) : ∀ (l : List Nat) (k : Nat) (acc p : List Nat), p ∈ TL.spl S k acc l → p.length ≤ acc.length + l.length
  | [], k, acc, p, h => by
    rw [TL.spl_nil, List.mem_singleton] at h
    rw [h]
    omega
  | c :: r, 0, acc, p, h => by
    rw [TL.spl] at h
    split at h
    · rcases List.mem_cons.mp h with rfl | h
      · omega
      · have := spl_le S r _ _ p h
        rw [List.length_nil] at this
        rw [List.length_cons]
        omega
    · have := spl_le S r 0 _ p h
      rw [List.length_append, List.length_singleton] at this
      rw [List.length_cons]
      omega
  | c :: r, k + 1, acc, p, h => by
    rw [TL.spl] at h
    have := spl_le S r k acc p h
    rw [List.length_cons]
    omega
theorem split_part {x y p : Str} (hy : tL y ≠ []) (hk : y.cps.all (· < 256) = true) (h : p ∈ Txt.split x y) : p.length ≤ x.length := by
  have e := TL.split_spl x y hy (TL.kind_ok hk)
  have hm : tL p ∈ (Txt.split x y).map TL.tl := List.mem_map.mpr ⟨p, h, rfl⟩
  rw [e] at hm
  have := spl_le _ _ _ _ _ hm
  rw [List.length_nil] at this
  rw [← tL_len, ← tL_len]
  show (tL p).length ≤ (TL.tl x).length
  omega
theorem split_few (x y : Str) : (Txt.split x y).length ≤ x.length + 2 := PyProof.Rows.split_le x y
end Rl

/-! # a new list that is handed to a def which tells it back -/
namespace Rl
open PySem PySem.Spec PyProof.Rows L2
/-- the list at l, and what stands in it -/
def aRef (l : Addr) (As : List AV) : AV := ⟨fun G v => v = .ref l ∧ (aLst As).p G v, fun le ⟨e, h⟩ => ⟨e, (aLst As).mono le h⟩⟩
section
variable {K : PySem.W.Frag} {F : Hp} {G0 : Vw} {γ : List Sl} {ks : KS}
theorem o_inNR {α : Type} {l : Addr} {g : Option α → AV} {gd : Option α → PyData} (hd : ∀ x, Isd (g x) (gd x)) (hc : ∀ x, (gd x).canLay0 = true) (hp : ∀ x, (gd x).depth ≤ 5) (he : ∀ x, PyData.eqv (gd x) .none = x.isNone) {xs : List (Option α)} {k : AV → List Sl → Prop} (q : k (aB (xs.any Option.isNone)) γ) : O2 K F G0 (rInA K false) aN (aRef l (xs.map g)) γ k := fun σ H G x y Q a px py z =>
  o_inN hd hc hp he q σ H G x y Q a px py.2 z
/-- what is behind the call: the list is not shown any more -/
def Vw.hide (G : Vw) (l : Addr) : Vw := ⟨G.t, fun b xs => G.l b xs ∧ b ≠ l, G.c, G.h, G.k⟩
theorem go_callER {C : Ce} {E : L2.St → XK} {te : TE} {k : Addr → List AV → List Sl → Prop} {kx : Str → List (Str × AV) → List Sl → Prop} (hX : SX K F G0 (fun cls d σ H => E σ cls d H) kx)
    (h : GO K F G0 te γ fun l As γ1 => C [aRef l As] (fun A => (∀ G v, A.p G v → v = .ref l) ∧ k l As γ1) (fun _ => False) (fun y Fs => kx y Fs γ1)) : GO K F G0 (tCallS (spE K C) E (tCons te tNil)) γ k := fun σ H G Q a z =>
  h σ H G _ a fun l As γ1 vs H1 G1 hc l1 a1 e1 f1 n1 p1 d1 => by
    have a2 := a1.addL e1 f1 d1
    show spE K C [V.ref l] H1 Q (E σ)
    refine ⟨[aRef l As], _, _, _, G1.addL l vs, hc, ⟨V.ref l, [], rfl, ⟨rfl, l, vs, rfl, .inr ⟨rfl, rfl⟩, p1.mono (G1.leL l vs)⟩, rfl⟩, a2.see, fun A v H' G' q le sm see hid pv => ?_, fun S v H' G' q => q.elim, fun y Fs d H' G' q le sm see hid xf => hX.go y Fs γ1 σ H' G' d q (a2.call le sm see hid) xf⟩
    obtain ⟨q1, q2⟩ := q
    have ev := q1 G' v pv
    subst ev
    have le3 : Vw.Le G1 (Vw.hide G' l) := ⟨fun b xs g => le.t b xs g, fun b xs g => ⟨le.l b xs (.inl g), fun eb => n1 xs (eb ▸ g)⟩, fun b xs g => le.c b xs g, fun b o g => le.h b o g, le.k⟩
    have see3 : See K (Vw.hide G' l) H' := ⟨see.t, fun b xs g => see.l b xs g.1, see.c, see.h, see.k⟩
    have a3 : At K F G0 γ1 σ H' (Vw.hide G' l) := a1.call le3 sm see3 fun b xs hb g => by
      rcases hid b xs hb g.1 with g2 | ⟨eb, _⟩
      · exact g2
      · exact absurd eb g.2
    exact z l As γ1 vs H' _ q2 (l1.trans le3) a3 (sm l _ e1) f1 (fun ys g => g.2 rfl) (p1.mono le3) d1
end
end Rl

/-! # comparisons in a handler -/
namespace Rl
open PySem PySem.Spec PyProof.Rows L2
theorem op_eqU {X : Cx} {K : PySem.W.Frag} (hu : X.A.units + 64 < cLine) (h : X.K = K := by rfl) : OpR X (compareOp .Eq) (rEqA K) := h ▸ (op_eq.or (op_eqD hu))
theorem op_neU {X : Cx} {K : PySem.W.Frag} (hu : X.A.units + 64 < cLine) (h : X.K = K := by rfl) : OpR X (compareOp .NotEq) (rNeA K) := h ▸ (op_ne.or (op_neD hu))
end Rl

/-! # None in a tuple of data -/
namespace Rl
open PySem PySem.Spec PyProof.Rows L2
def rInT (K : PySem.W.Frag) : R2 := fun x y H Q => ∃ d ds, Dp K H x d ∧ Dp K H y (.tuple ds) ∧ SeqAt.shaped d = true ∧ SeqAt.shaped (.tuple ds) = true ∧ Q (.bl (ds.any fun z => PyData.eqv z d)) H
theorem op_inT {X : Cx} (hu : X.A.units + 65 < cLine) : OpR X (compareOp .In) (rInT X.K) := by
  intro pins s σ H x y v u Q I rx ry h
  obtain ⟨d, ds, hd, he, sd, se, q⟩ := h
  obtain ⟨as, r1⟩ := Dp.reads I d x v hd rx
  obtain ⟨bs, r2⟩ := Dp.reads I (.tuple ds) y u he ry
  exact SeqAt.in_tuple_reads r2 r1 (SeqAt.canLay_of_shaped se) (SeqAt.canLay_of_shaped sd) (room_in_shaped sd hu) ⟨.bl _, H, I, rfl, q⟩
theorem op_inTK {X : Cx} {K : PySem.W.Frag} {n : Nat} (hr : Room n X.A) (h : X.K = K := by rfl) : OpR X (compareOp .In) (rInT K) := h ▸ op_inT (room65 hr)
section
variable {K : PySem.W.Frag} {F : Hp} {G0 : Vw} {γ : List Sl}
theorem o_inNT {As : List AV} {ds : List PyData} (hd : Isds As ds) (sl : SeqAt.shaped (.tuple ds) = true) {b : Bool} (hb : (ds.any fun z => PyData.eqv z .none) = b) {k : AV → List Sl → Prop} (q : k (aB b) γ) : O2 K F G0 (rInT K) aN (aTup As) γ k := o2_pure (fun H G x y Q s px py z => by
  have e : x = V.non := px
  subst e
  refine ⟨.none, ds, .non, isd_tup hd K G H y s py, rfl, sl, z _ ?_⟩
  rw [hb]
  rfl) q
end
end Rl

/-! # defs that call themselves and may refuse: the turn that is never come to -/
namespace Rl
open PySem PySem.Spec PyProof.Rows L2
variable {P : Program} {w : World} {K : PySem.W.Frag} {mg : Str → Option Value} {base : Heap}
theorem cal_noneE {x : Str} {st : Stmt} {ps : List Str} {n : Nat} {C : Ce} (D : Std K mg x st ps) (h : ∀ As R RN RE, ¬ C As R RN RE) : CalX P w K mg base n x ps (spE K C) := by
  obtain ⟨f, fd, F, hm, hbd⟩ := D.ex
  refine ⟨f, fd, ⟨fun vs H Q E h2 => ?_, fun A outer s H args us vs Q E hr e0 hb r h2 => ?_⟩, hm, F.kp, hbd⟩
  · obtain ⟨As, R, RN, RE, G, hc, _⟩ := h2
    exact (h _ _ _ _ hc).elim
  · obtain ⟨As, R, RN, RE, G, hc, _⟩ := h2
    exact (h _ _ _ _ hc).elim
end Rl

/-! # str of a whole number or of a text -/
namespace Rl
open PySem PySem.Spec PyProof.Rows L2
def rStrX : List V → Hp → VK → Prop := fun xs H Q => rStrI xs H Q ∨ ∃ a, xs = [.str a] ∧ Q (.str a) H
theorem call_strX {X : Cx} : CallR X (.type "str") rStrX := fun pins s σ H xs us Q I r h => h.elim (call_strI pins s σ H xs us Q I r) (SkE.call_str_str pins s σ H xs us Q I r)
section
variable {K : PySem.W.Frag} {F : Hp} {G0 : Vw} {γ : List Sl}
theorem n_strXI {i : Int} {k : AV → List Sl → Prop} (h : i.natAbs.log2 < 1920) (q : k (aS (txI i)) γ) : ON K F G0 rStrX [aInt i] γ k := on_pure (fun H G xs Q s p z => by
  obtain ⟨v, r, rfl, pv, rfl⟩ := p
  have ev : v = .int i := pv
  subst ev
  exact .inl ⟨i, rfl, h, z _ rfl⟩) q
theorem n_strXS {a : Str} {k : AV → List Sl → Prop} (q : k (aS a) γ) : ON K F G0 rStrX [aS a] γ k := on_pure (fun H G xs Q s p z => by
  obtain ⟨v, r, rfl, pv, rfl⟩ := p
  have ev : v = .str a := pv
  subst ev
  exact .inr ⟨a, rfl, z _ rfl⟩) q
end
end Rl

namespace Rl
open PySem PySem.Spec PyProof.Rows L2
section
variable {K : PySem.W.Frag} {F : Hp} {G0 : Vw} {γ : List Sl}
/-- a test by the truth it tells, own lists lent -/
theorem gt_lendV {t : TT} {kt : Bool → List Sl → Prop} (c : Bool) (h : ∀ F' G0', GT K F' G0' t (lend γ) fun b _ => b = c) (m : kt c γ) : GT K F G0 t γ kt :=
  gt_lend fun F' G0' => gt_mono (h F' G0') fun b _ e => by subst e; exact m
/-- {name: constant} -/
theorem ge_d1V {k : AV → List Sl → Prop} {i : Nat} {t : Str} {v : V} (h : γ[i]? = some (.sh (aS t))) (q : k (aDk [(.inr t, v)]) γ) : GE K F G0 (tDFz (tDisp [(tVar i, tC v)])) γ k := fun σ H G Q a z p np => by
  obtain ⟨x, e, px⟩ := a.shAt h
  have ex : x = V.str t := px
  subst ex
  refine ⟨_, e, upd_same, [(.inr t, v)], rfl, Nat.le_of_ble_eq_true rfl, p, [(.inr t, v)], rfl, upd_same, fun od => ?_⟩
  rw [upd_upd, upd_upd]
  exact fz_new a np q z od
/-- an index into a list of things alike -/
theorem o_ixP {k : AV → List Sl → Prop} {P : AV → Prop} {As : List AV} {r n : Int} (h : ∀ A, A ∈ As → P A) (h0 : 0 ≤ r) (h1 : r < n) (hn : (As.length : Int) = n) (q : ∀ A, P A → k A γ) : O2 K F G0 (rIx K) (aLst As) (aInt r) γ k := by
  obtain ⟨i, rfl⟩ := Int.eq_ofNat_of_zero_le h0
  have hi : i < As.length := by omega
  have e : atI As (i : Int) = some As[i] := atI_nat (List.getElem?_eq_getElem hi)
  exact o_ixL e (q _ (h _ (List.getElem_mem hi)))
end
theorem alp_nil {P : AV → Prop} : ∀ B, B ∈ ([] : List AV) → P B := nofun
theorem alp_cons {P : AV → Prop} {A : AV} {As : List AV} (h : P A) (t : ∀ B, B ∈ As → P B) : ∀ B, B ∈ A :: As → P B := fun B hB => by
  rcases List.mem_cons.mp hB with rfl | hB
  · exact h
  · exact t B hB
theorem alp_app {P : AV → Prop} {As Bs : List AV} (h : ∀ B, B ∈ As → P B) (t : ∀ B, B ∈ Bs → P B) : ∀ B, B ∈ As ++ Bs → P B := fun B hB => (List.mem_append.mp hB).elim (h B) (t B)
end Rl

namespace Rl
open PySem PySem.Spec PyProof.Rows L2
section
variable {K : PySem.W.Frag} {F : Hp} {G0 : Vw} {γ : List Sl} {ks : KS}
/-- return one if test else other: path by path -/
theorem gs_retIf {tt : TT} {ta tb : TE} (h : GT K F G0 tt γ fun b γ1 => (b = true → GS K F G0 (tRet ta) γ1 ks) ∧ (b = false → GS K F G0 (tRet tb) γ1 ks)) : GS K F G0 (tRet (tIf tt ta tb)) γ ks := fun D σ H G a s => h σ H G _ a fun b γ1 H1 G1 h1 l1 a1 => by
  cases b with
  | true =>
    rw [if_pos rfl]
    exact h1.1 rfl D σ H1 G1 a1 (s.up l1)
  | false =>
    rw [if_neg Bool.false_ne_true]
    exact h1.2 rfl D σ H1 G1 a1 (s.up l1)
theorem gs_par3 {i j l : Nat} {ta : TA} (h : GA K F G0 ta γ fun As γ1 => ∃ A B C, As = [A, B, C] ∧ ks.nx (((γ1.set i (.sh A)).set j (.sh B)).set l (.sh C))) : GS K F G0 (tPar3 i j l ta) γ ks := fun D σ H G a s =>
  h σ H G _ a fun As γ1 vs H1 G1 ⟨A, B, C, e, h1⟩ l1 a1 p1 => by
    subst e
    obtain ⟨v, r, rfl, pv, w, r', rfl, pw, x, r2, rfl, px, rfl⟩ := p1
    exact ⟨v, w, x, rfl, s.nx _ _ H1 G1 h1 l1 (((a1.sets pv).sets pw).sets px)⟩
end
end Rl

/-! # zip of three lists -/
namespace Rl
open PySem PySem.Spec PyProof.Rows L2
/-- the lists at a, b, c as they stand at each turn, the items in new triples -/
def Itz3 (K : PySem.W.Frag) (a b c : Addr) : It :=
  ⟨fun i H => ∃ (xs ys zs : List V) (x y z : V), SqL K H a xs ∧ SqL K H b ys ∧ SqL K H c zs ∧ xs[i]? = some x ∧ ys[i]? = some y ∧ zs[i]? = some z,
    fun i H v H' => ∃ T x y z, v = .ref T ∧ H T = none ∧ H' = upd H T (.tup [x, y, z]) ∧ (∀ xs, SqL K H a xs → xs[i]? = some x) ∧ (∀ ys, SqL K H b ys → ys[i]? = some y) ∧ ∀ zs, SqL K H c zs → zs[i]? = some z,
    fun i H => ∃ xs ys zs : List V, SqL K H a xs ∧ SqL K H b ys ∧ SqL K H c zs ∧ xs.length = i ∧ ys.length = i ∧ zs.length = i⟩
structure Zap (z TI TO i1 i2 i3 a b c : Addr) : Prop where
  S : ZipSep3 z TI TO i1 i2 i3 [i1, a] [i2, b] [i3, c]
  na : a ≠ i1
  nb : b ≠ i2
  nc : c ≠ i3
theorem turn_zip3 {P : Program} {w : World} {K : PySem.W.Frag} {elts : List Expr} {kk : Nat} {tpos : Pos} {a b c z TI TO i1 i2 i3 : Addr} (D : Zap z TI TO i1 i2 i3 a b c) :
    Turn P w K (.Tuple elts kk tpos) (Itz3 K a b c) [z, TI, TO, i1, i2, i3] z (fun i h => IsZip h z TI TO .none ∧ IsTupOf3 h TI (.ref i1) (.ref i2) (.ref i3) ∧ (∃ x y u, IsTupOf3 h TO x y u) ∧ h.IsListIter i1 a i ∧ h.IsListIter i2 b i ∧ h.IsListIter i3 c i) where
  mem := by simp
  obj := fun i h st c hc => by
    obtain ⟨hz, hTI, ⟨x, y, u, hTO⟩, ⟨o1, e1, _, d1⟩, ⟨o2, e2, _, d2⟩, ⟨o3, e3, _, d3⟩⟩ := st
    have e' : c = z ∨ c = TI ∨ c = TO ∨ c = i1 ∨ c = i2 ∨ c = i3 := by simpa using hc
    rcases e' with q | q | q | q | q | q
    · rw [q]; exact ⟨_, hz, fun v q => nomatch q⟩
    · rw [q]; exact ⟨_, hTI, fun v q => nomatch q⟩
    · rw [q]; exact ⟨_, hTO, fun v q => nomatch q⟩
    · rw [q]; exact ⟨o1, e1, fun v q => by rw [d1] at q; cases q⟩
    · rw [q]; exact ⟨o2, e2, fun v q => by rw [d2] at q; cases q⟩
    · rw [q]; exact ⟨o3, e3, fun v q => by rw [d3] at q; cases q⟩
  keep := fun i h h' st k => by
    obtain ⟨hz, hTI, ⟨x, y, u, hTO⟩, h1, h2, h3⟩ := st
    exact ⟨k z (by simp) _ hz, k TI (by simp) _ hTI, ⟨x, y, u, k TO (by simp) _ hTO⟩, h1.at fun o q => k i1 (by simp) o q, h2.at fun o q => k i2 (by simp) o q, h3.at fun o q => k i3 (by simp) o q⟩
  item := by
    intro X hP hw hK hc i pins s σ H E I hf st hg
    subst hP hw hK
    obtain ⟨hz, hTI, ⟨x0, y0, u0, hTO⟩, h1, h2, h3⟩ := st
    obtain ⟨xs, ys, zs, x, y, u, hqx, hqy, hqz, hx, hy, hu⟩ := hg
    obtain ⟨its, rv, p, _⟩ := I.list hqx
    obtain ⟨its2, rv2, p2, _⟩ := I.list hqy
    obtain ⟨its3, rv3, p3, _⟩ := I.list hqz
    obtain ⟨w1, hw1, rw1⟩ := rv.get hx
    obtain ⟨w2, hw2, rw2⟩ := rv2.get hy
    obtain ⟨w3, hw3, rw3⟩ := rv3.get hu
    have hzl : z < s.heap.objs.size := Heap.lt_size hz
    have hh : X.A.in1.handled = none := I.ok.hd hc
    have lt1 : i < its.toArray.size := by have := (List.getElem?_eq_some_iff.mp hw1).1; simpa using this
    have lt2 : i < its2.toArray.size := by have := (List.getElem?_eq_some_iff.mp hw2).1; simpa using this
    have lt3 : i < its3.toArray.size := by have := (List.getElem?_eq_some_iff.mp hw3).1; simpa using this
    refine wpAny_pyNext_zipD3_item D.S (Draws.list (prog := X.prog) (w := X.w) hh i1 a D.na its.toArray) (Draws.list hh i2 b D.nb its2.toArray) (Draws.list hh i3 c D.nc its3.toArray) hz hTI hTO ⟨h1, p.isList⟩ ⟨h2, p2.isList⟩ ⟨h3, p3.isList⟩ lt1 lt2 lt3 fun v1 v2 v3 h' tk q1 q2 q3 z' TO' j1 j2 j3 hT hsz hk => ?_
    obtain rfl : v1 = w1 := by
      have e := (by simpa using hw1 : its.toArray[i]? = some w1)
      rw [e] at q1
      injection q1 with q1
      exact q1.symm
    obtain rfl : v2 = w2 := by
      have e := (by simpa using hw2 : its2.toArray[i]? = some w2)
      rw [e] at q2
      injection q2 with q2
      exact q2.symm
    obtain rfl : v3 = w3 := by
      have e := (by simpa using hw3 : its3.toArray[i]? = some w3)
      rw [e] at q3
      injection q3 with q3
      exact q3.symm
    refine ⟨_, rfl, wpAny_letOwnedTupleGo_zip (s := { s with heap := h', toks := tk }) z' fun h'' z'' sb => ?_⟩
    have hT2 : h''.get? s.heap.objs.size = some { cls := .type "tuple", data := .seq #[v1, v2, v3] } := (sb.2 _ (Nat.ne_of_gt hzl)).trans hT
    have new : ObjOk X.prog X.w (upd H s.heap.objs.size (.tup [x, y, u])) h'' s.heap.objs.size (.tup [x, y, u]) :=
      ⟨by show 3 ≤ sizeLine; decide, [v1, v2, v3], .cons rw1 (.cons rw2 (.cons rw3 .nil)), ⟨_, hT2, rfl, _, rfl⟩⟩
    have I1 : Inv X pins σ (upd H s.heap.objs.size (.tup [x, y, u])) { s with heap := h'', toks := tk } :=
      I.turnedNew (t' := tk) (ch := [z, TI, TO, i1, i2, i3]) (fun c o hb q => (sb.2 c (fun q' => hb (by simp [q']))).trans (hk c o (fun q' => hb (by simp [q'])) (fun q' => hb (by simp [q'])) (fun q' => hb (by simp [q'])) (fun q' => hb (by simp [q'])) (fun q' => hb (by simp [q'])) q)) hf (Nat.le_refl _) new
    refine ⟨.ref s.heap.objs.size, _, I1, rfl, ⟨_, x, y, u, rfl, I.hok.fresh (Nat.le_refl _), rfl, fun l hl => by rw [I.list_inj hl hqx]; exact hx, fun l hl => by rw [I.list_inj hl hqy]; exact hy, fun l hl => by rw [I.list_inj hl hqz]; exact hu⟩, ⟨z'', ?_, ⟨v1, v2, v3, ?_⟩, ?_, ?_, ?_⟩, fun c hcm => ?_⟩
    · exact (sb.2 _ D.S.TIz).trans (hk _ _ D.S.TIz D.S.TITO D.S.TIi1 D.S.TIi2 D.S.TIi3 hTI)
    · exact (sb.2 _ D.S.TOz).trans TO'
    · exact j1.1.at fun o q => (sb.2 _ (Ne.symm D.S.zi1)).trans q
    · exact j2.1.at fun o q => (sb.2 _ (Ne.symm D.S.zi2)).trans q
    · exact j3.1.at fun o q => (sb.2 _ (Ne.symm D.S.zi3)).trans q
    · have hlt : c < s.heap.objs.size := by
        have e' : c = z ∨ c = TI ∨ c = TO ∨ c = i1 ∨ c = i2 ∨ c = i3 := by simpa using hcm
        rcases e' with q | q | q | q | q | q
        · rw [q]; exact hzl
        · rw [q]; exact Heap.lt_size hTI
        · rw [q]; exact Heap.lt_size hTO
        · rw [q]; obtain ⟨_, e1, _⟩ := h1; exact Heap.lt_size e1
        · rw [q]; obtain ⟨_, e2, _⟩ := h2; exact Heap.lt_size e2
        · rw [q]; obtain ⟨_, e3, _⟩ := h3; exact Heap.lt_size e3
      rw [upd_ne (Nat.ne_of_lt hlt)]
      exact (hf c hcm).1
  done := by
    intro X hP hw hK hc i pins s σ H E I hf st hg
    subst hP hw hK
    obtain ⟨hz, hTI, ⟨x0, y0, u0, hTO⟩, h1, h2, h3⟩ := st
    obtain ⟨xs, ys, zs, hqx, hqy, hqz, e1, e2, e3⟩ := hg
    obtain ⟨its, rv, p, _⟩ := I.list hqx
    obtain ⟨its2, rv2, p2, _⟩ := I.list hqy
    obtain ⟨its3, rv3, p3, _⟩ := I.list hqz
    have l1 := rv.length
    have l2 := rv2.length
    have l3 := rv3.length
    have hh : X.A.in1.handled = none := I.ok.hd hc
    have s1 : its.toArray.size = i := by simp; omega
    have s2 : its2.toArray.size = i := by simp; omega
    have s3 : its3.toArray.size = i := by simp; omega
    exact wpAny_pyNext_zipD3_end D.S (Draws.list (prog := X.prog) (w := X.w) hh i1 a D.na its.toArray) (Draws.list hh i2 b D.nb its2.toArray) (Draws.list hh i3 c D.nc its3.toArray) hz hTI hTO ⟨h1, p.isList⟩ ⟨h2, p2.isList⟩ ⟨h3, p3.isList⟩ (by omega) (by omega) (by omega) (by omega) fun h' tk hk => ⟨rfl, I.turnedL (t' := tk) (ch := [z, TI, TO, i1, i2, i3]) (fun c o hb q =>
      hk c o (fun q' => hb (by simp [q'])) (fun q' => hb (by simp [q'])) (fun q' => hb (by simp [q'])) (fun q' => hb (by simp [q'])) (fun q' => hb (by simp [q'])) q) hf⟩
  self := fun A i s Q E st h => wpAny_pyIter_zip st.1 h
def iZip3 (K : PySem.W.Frag) (ta : TA) : TI := fun σ H R => ta σ H fun vs H1 => ∃ a b c xs ys zs, vs = [.ref a, .ref b, .ref c] ∧ SqL K H1 a xs ∧ SqL K H1 b ys ∧ SqL K H1 c zs ∧ R (Itz3 K a b c) H1
theorem zap_new {n a b c : Addr} (ha : a < n) (hb : b < n) (hc : c < n) : Zap (n + 5) (n + 3) (n + 4) n (n + 1) (n + 2) a b c := by
  refine ⟨⟨?_, ?_, ?_, ?_, ?_, ?_, ?_, ?_, ?_, ?_, ?_, ?_, ?_, ?_, ?_, ?_, ?_, ?_, ?_, ?_, ?_⟩, ?_, ?_, ?_⟩ <;> first | (simp; done) | (simp; exact Nat.ne_of_gt (by assumption)) | (simp; exact Nat.ne_of_lt (by assumption)) | (simp; refine Nat.ne_of_gt (Nat.lt_of_lt_of_le (by assumption) (by simp))) | (simp; refine Nat.ne_of_lt (Nat.lt_of_lt_of_le (by assumption) (by simp)))
theorem pi_zip3 {X : Cx} {K : PySem.W.Frag} {e e2 e3 : Expr} {ta : TA} {p pos tpos : Pos} {elts : List Expr} {kk : Nat} (hg : Gl X "zip") (hm : X.mg "zip" = none) (ha : PA X [e, e2, e3] ta) (hK : X.K = K := by rfl)
    (hs : starEach [e, e2, e3] X.env = (false, eval e X.env) :: starEach [e2, e3] X.env := by rfl) (hpl : (backTo pos (starEach [e2, e3] X.env)).any (·.1) = false := by rfl) :
    PI X (.Tuple elts kk tpos) (.Call (.Name "zip" p) [e, e2, e3] [] pos) (iZip3 K ta) := by
  subst hK
  refine ⟨fun pins s σ H R I h => ?_⟩
  refine Call_ (ld_blt I hg hm PyProof.Rows.boot_zip (PyProof.Rows.callWith_type1 (thn (ha.run pos pins s σ H _ I h) fun us s1 ⟨vs, H1, I1, r1, q1⟩ => ?_) hs hpl))
  obtain ⟨a, b, c, xs, ys, zs, ex, hqx, hqy, hqz, q⟩ := q1
  subst ex
  cases r1 with
  | cons r rr =>
    cases rr with
    | cons r' rr =>
      cases rr with
      | cons r'' rr =>
        cases rr
        cases r
        cases r'
        cases r''
        obtain ⟨its, rv, p1, _⟩ := I1.list hqx
        obtain ⟨its2, rv2, p2, _⟩ := I1.list hqy
        obtain ⟨its3, rv3, p3, _⟩ := I1.list hqz
        have la : a < s1.heap.objs.size := p1.lt
        have lb : b < s1.heap.objs.size := p2.lt
        have lc : c < s1.heap.objs.size := p3.lt
        refine zip_begins3 (begins_list a its.toArray) (begins_list b its2.toArray) (begins_list c its3.toArray) p1.isList p2.isList p3.isList fun h' hz hTI hTO g1 g2 g3 hsz hk => wpAny_pyIter_zip hz ?_
        have I2 : Inv X pins σ H1 { s1 with heap := h' } := I1.kept (t' := s1.toks) hk
        refine ⟨s1.heap.objs.size + 5, [s1.heap.objs.size + 5, s1.heap.objs.size + 3, s1.heap.objs.size + 4, s1.heap.objs.size, s1.heap.objs.size + 1, s1.heap.objs.size + 2], _, _, H1, rfl, I2, turn_zip3 (zap_new la lb lc), ⟨hz, hTI, ⟨_, _, _, hTO⟩, ⟨_, g1, rfl, rfl⟩, ⟨_, g2, rfl, rfl⟩, ⟨_, g3, rfl, rfl⟩⟩, fun c hcm => ?_, q⟩
        have hle : s1.heap.objs.size ≤ c := by
          have e' : c = s1.heap.objs.size + 5 ∨ c = s1.heap.objs.size + 3 ∨ c = s1.heap.objs.size + 4 ∨ c = s1.heap.objs.size ∨ c = s1.heap.objs.size + 1 ∨ c = s1.heap.objs.size + 2 := by simpa using hcm
          rcases e' with z | z | z | z | z | z
          · rw [z]; exact Nat.le_add_right _ _
          · rw [z]; exact Nat.le_add_right _ _
          · rw [z]; exact Nat.le_add_right _ _
          · rw [z]; exact Nat.le_refl _
          · rw [z]; exact Nat.le_add_right _ _
          · rw [z]; exact Nat.le_add_right _ _
        exact I1.fpOk hle (I1.hok.fresh hle)
def zip3A : List AV → List AV → List AV → List AV
  | A :: As, B :: Bs, C :: Cs => aTup [A, B, C] :: zip3A As Bs Cs
  | _, _, _ => []
theorem zip3A_len : ∀ (As Bs Cs : List AV), As.length = Bs.length → As.length = Cs.length → (zip3A As Bs Cs).length = As.length
  | [], [], [], _, _ => rfl
  | A :: As, B :: Bs, C :: Cs, h1, h2 => by
    rw [zip3A, List.length_cons, List.length_cons, zip3A_len As Bs Cs (by simpa using h1) (by simpa using h2)]
  | [], _ :: _, _, h, _ => by cases h
  | [], _, _ :: _, _, h => by cases h
  | _ :: _, [], _, h, _ => by cases h
  | _ :: _, _, [], _, h => by cases h
theorem zip3A_get : ∀ (As Bs Cs : List AV) (i : Nat) (D : AV), (zip3A As Bs Cs)[i]? = some D → ∃ A B C, As[i]? = some A ∧ Bs[i]? = some B ∧ Cs[i]? = some C ∧ D = aTup [A, B, C]
  | A :: As, B :: Bs, C :: Cs, 0, D, h => by
    rw [zip3A] at h
    cases h
    exact ⟨A, B, C, rfl, rfl, rfl, rfl⟩
  | A :: As, B :: Bs, C :: Cs, i + 1, D, h => by
    rw [zip3A] at h
    exact zip3A_get As Bs Cs i D h
  | [], _, _, i, D, h => by rw [zip3A] at h; cases h; nofun
  | _ :: _, [], _, i, D, h => by rw [zip3A] at h; cases h; nofun
  | _ :: _, _ :: _, [], i, D, h => by rw [zip3A] at h; cases h; nofun
section
variable {K : PySem.W.Frag} {F : Hp} {G0 : Vw} {γ : List Sl} {k : List AV → List Sl → Prop}
theorem gi_zip3 {ta : TA} (h : GA K F G0 ta γ fun Ds γ1 => ∃ As Bs Cs, Ds = [aLst As, aLst Bs, aLst Cs] ∧ As.length = Bs.length ∧ As.length = Cs.length ∧ k (zip3A As Bs Cs) γ1) : GI K F G0 (iZip3 K ta) γ k := fun σ H G R a z =>
  h σ H G _ a fun Ds γ1 vs H1 G1 ⟨As, Bs, Cs, e, el, el3, h1⟩ l1 a1 p1 => by
    subst e
    obtain ⟨v, r, rfl, ⟨b, ws, rfl, hb, hv⟩, v2, r2, rfl, ⟨b2, ws2, rfl, hb2, hv2⟩, v3, r3, rfl, ⟨b3, ws3, rfl, hb3, hv3⟩, rfl⟩ := p1
    have hlen := zip3A_len As Bs Cs el el3
    refine ⟨b, b2, b3, ws, ws2, ws3, rfl, a1.see.seq (.inl hb), a1.see.seq (.inl hb2), a1.see.seq (.inl hb3), z _ γ1 H1 G1 _ h1 l1 a1 ⟨fun i H G le s hi => ?_, fun i H G B v H' le s hB y => ?_, fun H G le s => ?_⟩⟩
    · rw [hlen] at hi
      have hi' : i < ws.length := by rw [hv.length]; exact hi
      have hi2 : i < ws2.length := by rw [hv2.length, ← el]; exact hi
      have hi3 : i < ws3.length := by rw [hv3.length, ← el3]; exact hi
      exact ⟨ws, ws2, ws3, ws[i], ws2[i], ws3[i], s.seq (.inl (le.l b ws hb)), s.seq (.inl (le.l b2 ws2 hb2)), s.seq (.inl (le.l b3 ws3 hb3)), by simp [hi'], by simp [hi2], by simp [hi3]⟩
    · obtain ⟨T, x, x2, x3, rfl, nT, rfl, y, y2, y3⟩ := y
      obtain ⟨A, B2, C2, eA, eB, eC, rfl⟩ := zip3A_get As Bs Cs i B hB
      obtain ⟨w, e1, p⟩ := hv.get eA
      obtain ⟨w2, e12, p2⟩ := hv2.get eB
      obtain ⟨w3, e13, p3⟩ := hv3.get eC
      have e2 := y ws (s.seq (.inl (le.l b ws hb)))
      rw [e1] at e2
      cases e2
      have e3 := y2 ws2 (s.seq (.inl (le.l b2 ws2 hb2)))
      rw [e12] at e3
      cases e3
      have e4 := y3 ws3 (s.seq (.inl (le.l b3 ws3 hb3)))
      rw [e13] at e4
      cases e4
      exact ⟨same_upd nT, G.addT T _, G.leT T _, (s.same (same_upd nT)).addT (SqT.of upd_same), fun _ _ q => q, T, _, rfl, .inr ⟨rfl, rfl⟩, _, _, rfl, A.mono (le.trans (G.leT T _)) p, _, _, rfl, B2.mono (le.trans (G.leT T _)) p2, _, [], rfl, C2.mono (le.trans (G.leT T _)) p3, rfl⟩
    · rw [hlen]
      exact ⟨ws, ws2, ws3, s.seq (.inl (le.l b ws hb)), s.seq (.inl (le.l b2 ws2 hb2)), s.seq (.inl (le.l b3 ws3 hb3)), hv.length, by rw [hv2.length, el], by rw [hv3.length, el3]⟩
end
end Rl

/-! # xs[:0:-1] -/
namespace Rl
open PySem PySem.Spec PyProof.Rows L2
theorem rt_range (n : Nat) : sliceRange ((n : Int) - 1) 0 (-1) = ((List.range (n - 1)).map (1 + ·)).reverse := by
  unfold sliceRange
  have h1 : ¬ ((-1 : Int) > 0) := by decide
  by_cases h : (n : Int) - 1 > 0
  · have e : ((n : Int) - 1 - 0 - -1 - 1) / (- -1) = ((n - 1 : Nat) : Int) := by
      rw [show (- -1 : Int) = 1 by decide, Int.ediv_one]
      omega
    simp only [h1, if_false, h, if_true, e, Int.toNat_natCast]
    apply List.ext_getElem
    · simp
    · intro i h1 h2
      simp only [List.length_map, List.length_range] at h1
      simp only [List.getElem_map, List.getElem_range, List.getElem_reverse, List.length_map, List.length_range]
      omega
  · have e : n - 1 = 0 := by omega
    rw [e]
    have h' : ¬ (1 : Int) < n := by omega
    simp [h']
theorem rt_pick (items : Array Value) : slicePick items none (some 0) (some (-1)) = (items.toList.drop 1).reverse.toArray := by
  by_cases h0 : items.size = 0
  · obtain rfl : items = #[] := Array.eq_empty_of_size_eq_zero h0
    rfl
  unfold slicePick
  have hb : sliceBounds none (some 0) (some (-1)) items.size = ((items.size : Int) - 1, 0, -1) := by
    unfold sliceBounds
    simp
    omega
  rw [hb]
  show ((sliceRange ((items.size : Int) - 1) 0 (-1)).filterMap (items[·]?)).toArray = _
  rw [rt_range, List.filterMap_reverse]
  have h := pick_run items 1 (items.size - 1)
  rw [h]
  congr 2
  exact List.take_of_length_le (by rw [List.length_drop, Array.length_toList]; exact Nat.le_refl _)
/-- xs[:0:-1] -/
def tRevT (K : PySem.W.Frag) (te : TE) : TE := fun σ H Q => te σ H fun x H1 => ∃ a xs, x = .ref a ∧ SqL K H1 a xs ∧ ∀ p, H1 p = none → Q (.ref p) (upd H1 p (.lst (xs.drop 1).reverse))
theorem pe_revT {X : Cx} {K : PySem.W.Frag} {e : Expr} {te : TE} {p0 p2 p3 p4 pos : Pos} {i j : Nat} (he : PE X e te) (hK : X.K = K := by rfl) : PE X (.Subscript e (.Slice none (some (.Constant (.int 0) i p0)) (some (.UnaryOp .USub (.Constant (.int 1) j p3) p4)) p2) pos) (tRevT K te) := by
  subst hK
  refine ⟨fun pins s σ H Q I h => ?_⟩
  refine Subscript_ (thn (he.run pins s σ H _ I h) fun v s1 ⟨x, H1, I1, r1, q1⟩ => ?_)
  obtain ⟨a, xs, rfl, hx, q⟩ := q1
  cases r1
  refine wpAny_Slice ?_
  rw [evalPart_none]
  refine wpAny_pure ?_
  rw [evalPart_some]
  refine thn ((pe_int (X := X) (i := 0) (j := i) (pos := p0)).run pins s1 σ H1 (fun y H2 => H2 = H1 ∧ y = .int 0) I1 ⟨rfl, rfl⟩) fun v0 s0 ⟨y0, H0, I0, r0, e0, e1⟩ => ?_
  subst e0; subst e1
  obtain ⟨tk0, rfl⟩ := r0
  rw [evalPart_some]
  refine thn ((pe_un un_neg (pe_int (X := X) (i := 1) (j := j) (pos := p3)) (pos := p4)).run pins s0 σ H0 (fun y H2 => H2 = H0 ∧ y = .int (-1)) I0 ⟨1, rfl, rfl, rfl⟩) fun vk s2 ⟨y, H2, I2, r2, e2, e3⟩ => ?_
  subst e2; subst e3
  obtain ⟨tk, rfl⟩ := r2
  obtain ⟨its, r, ht, hz⟩ := I2.list hx
  have hlen := r.length
  have I4 : Inv X pins σ H2 { s2 with heap := s2.heap.push { cls := .type "slice", data := .fields #[.none, .int 0 tk0, .int (-1) tk] } } := I2.kept (t' := s2.toks) fun b ob q => Heap.get?_push_of_some _ q
  obtain ⟨its4, r4, ht4, hz4⟩ := I4.list hx
  refine tail_any (ops := [.ref a, .ref s2.heap.objs.size]) (ht4.isList.typeIs) slot_list_getitem.lookup ?_ (by with_unfolding_all rfl)
  refine wpAny_getItem_list_slice ht4.isList (Heap.IsSliceOf.new ..) .none (.int 0 tk0) (.int (-1) tk) (by simp) ?_ (by have := r4.length; rw [List.size_toArray]; omega)
  rw [rt_pick]
  refine ⟨.ref _, _, I4.laid (t' := s2.toks) (o := .lst (xs.drop 1).reverse) (fun b ob q => Heap.get?_push_of_some _ q) (Nat.le_refl _) ?_, rfl, q _ (I4.hok.fresh (Nat.le_refl _))⟩
  exact ⟨by rw [List.length_reverse, List.length_drop]; omega, _, 0, (r4.drop 1).reverse, Heap.get?_push_size _ rfl⟩
section
variable {K : PySem.W.Frag} {F : Hp} {G0 : Vw} {γ : List Sl}
theorem go_revT {te : TE} {k : Addr → List AV → List Sl → Prop} (h : GE K F G0 te γ fun A γ1 => ∃ As, A = aLst As ∧ AllA fun l => k l (As.drop 1).reverse γ1) : GO K F G0 (tRevT K te) γ k := fun σ H G Q a z =>
  h σ H G _ a fun A γ1 v H1 G1 ⟨As, e, h1⟩ l1 a1 p1 => by
    subst e
    obtain ⟨b, vs, rfl, ht, hv⟩ := p1
    exact ⟨b, vs, rfl, a1.see.seq (.inl ht), fun p np => go_new z a1 l1 np (h1 p) (hv.drop 1).reverse⟩
/-- x.upper() -/
def rUpS : V → List V → Hp → VK → Prop := fun x xs H Q => ∃ a, x = .str a ∧ xs = [] ∧ a.length ≤ 5592405 ∧ Q (.str (Txt.upper a)) H
def tUp (to : TE) : TE := tM0 rUpS to
theorem pe_up {X : Cx} {o : Expr} {to : TE} {apos pos : Pos} (ho : PE X o to) (hbase : attributeBase o "upper" X.env (eval o X.env) = eval o X.env := by rfl) (hline : (apos.endLine == pos.line) = true := by rfl) :
    PE X (.Call (.Attribute o "upper" apos) [] [] pos) (tUp to) := pe_upper ho hbase hline
theorem ge_up {to : TE} {k : AV → List Sl → Prop} (h : GE K F G0 to γ fun A γ1 => ∃ a : Str, A = aS a ∧ a.length ≤ 100000 ∧ k (aS (Txt.upper a)) γ1) : GE K F G0 (tUp to) γ k := fun σ H G Q a z =>
  h σ H G _ a fun A γ1 v H1 G1 ⟨x, eA, hl, q⟩ l1 a1 p1 => by
    subst eA
    have ev : v = .str x := p1
    subst ev
    exact ⟨⟨x, rfl⟩, x, rfl, rfl, by omega, z _ γ1 _ H1 G1 q l1 a1 rfl⟩
end
end Rl

/-! # x.count(y) -/
namespace Rl
open PySem PySem.Spec PyProof.Rows L2 PySem.Builtin PySem.Builtin.Str PySem.StrLaws
def rCnt : V → List V → Hp → VK → Prop := fun x xs H Q => ∃ a b, x = .str a ∧ xs = [.str b] ∧ Q (.int (Txt.count a b)) H
def tCnt (to te : TE) : TE := tM1 rCnt to te
theorem pe_cnt {X : Cx} {o e : Expr} {to te : TE} {apos pos : Pos} (ho : PE X o to) (he : PE X e te) (hs : starEach [e] X.env = [(false, eval e X.env)] := by rfl) (hbase : attributeBase o "count" X.env (eval o X.env) = eval o X.env := by rfl) (hline : (apos.endLine == pos.line) = true := by rfl) :
    PE X (.Call (.Attribute o "count" apos) [e] [] pos) (tCnt to te) := pe_m1 PySem.F.slot_str_count PySem.F.type_str_count mt_count ho he hs hbase hline
section
variable {K : PySem.W.Frag} {F : Hp} {G0 : Vw} {γ : List Sl}
theorem ge_cnt {to te : TE} {k : AV → List Sl → Prop} (h : GE K F G0 to γ fun A γ1 => ∃ a : Str, A = aS a ∧ GE K F G0 te γ1 fun B γ2 => ∃ b : Str, B = aS b ∧ k (aInt (Txt.count a b)) γ2) : GE K F G0 (tCnt to te) γ k := fun σ H G Q a z =>
  h σ H G _ a fun A γ1 v H1 G1 ⟨x, eA, h1⟩ l1 a1 p1 => by
    subst eA
    have ev : v = .str x := p1
    subst ev
    refine ⟨⟨x, rfl⟩, h1 σ H1 G1 _ a1 fun B γ2 w H2 G2 ⟨y, eB, q⟩ l2 a2 p2 => ?_⟩
    subst eB
    have ew : w = .str y := p2
    subst ew
    exact ⟨x, y, rfl, rfl, z _ γ2 _ H2 G2 q (l1.trans l2) a2 rfl⟩
end
theorem parts_count (x : Str) (w : Nat) : ∀ (cuts : List Nat) (a : Nat), (partsFrom x w a cuts).length = cuts.length + 1
  | [], _ => rfl
  | c :: r, a => by
    rw [partsFrom, List.length_cons, parts_count x w r, List.length_cons]
/-- a text has one part more than separators -/
theorem split_count (x y : Str) (hy : TL.tl y ≠ []) (hk : y.cps.all (· < 256) = true) : ((Txt.split x y).length : Int) = Txt.count x y + 1 := by
  obtain ⟨f, g, hn⟩ := occ_tight x y (TL.len1 hy)
  have key := TL.parts_spl hy _ 0 f (Nat.zero_le _) g hn
  rw [List.drop_zero, ← TL.split_spl x y hy (TL.kind_ok hk)] at key
  have h := congrArg List.length key
  rw [List.length_map, List.length_map, parts_count] at h
  show _ = (((occurrences x y 0 x.length (x.length + 1)).length : Nat) : Int) + 1
  omega
end Rl

/-! # defs that change an own list which stands between other arguments -/
namespace Rl
open PySem PySem.Spec PyProof.Rows L2
abbrev Cq := List AV → List AV → List AV → (AV → List AV → Prop) → (List AV → List AV → Prop) → Prop
def spQ (K : PySem.W.Frag) (C : Cq) : Sp := fun vs H Q _ => ∃ S As Bs R RO G l ws r u, C S As Bs R RO ∧ vs = r ++ .ref l :: u ∧ avs G As r ∧ avs G Bs u ∧ See K G H ∧ H l = some (.lst ws) ∧ avs G S ws ∧ (∀ ys, ¬ G.l l ys) ∧
  (∀ A S' v H' G' ws', R A S' → Vw.Le G G' → Same (hid1 H l) H' → See K G' H' → (∀ b xs, H b ≠ none → G'.l b xs → G.l b xs) → H' l = some (.lst ws') → avs G' S' ws' → A.p G' v → Q v H') ∧
  (∀ As' S' m vs' H' G' ws', RO As' S' → Vw.Le G G' → Same (hid1 H l) H' → See K G' H' → (∀ b xs, H b ≠ none → G'.l b xs → G.l b xs) → H' l = some (.lst ws') → avs G' S' ws' → H' m = some (.lst vs') → H m = none → (∀ ys, ¬ G'.l m ys) → avs G' As' vs' → Q (.ref m) H')
section
variable {K : PySem.W.Frag} {F : Hp} {G0 : Vw} {γ : List Sl} {ta te : TE} {k : AV → List Sl → Prop} {ks : KS}
/-- values, an own list, values -/
def GQ (K : PySem.W.Frag) (F : Hp) (G0 : Vw) (t : TA) (γ : List Sl) (k : List AV → List AV → Addr → List AV → Nat → List Sl → Prop) : Prop := ∀ σ H G Q, At K F G0 γ σ H G →
  (∀ As Bs l S i γ' vs us H' G', k As Bs l S i γ' → γ'[i]? = some (.own l S) → Vw.Le G G' → At K F G0 γ' σ H' G' → avs G' As vs → avs G' Bs us → Q (vs ++ .ref l :: us) H') → t σ H Q
theorem gq_mid {i : Nat} {t : TA} {k : List AV → List AV → Addr → List AV → Nat → List Sl → Prop} (h : ∃ l S, γ[i]? = some (.own l S) ∧ GA K F G0 t γ fun Bs γ1 => γ1[i]? = some (.own l S) ∧ k [] Bs l S i γ1) : GQ K F G0 (tCons (tVar i) t) γ k := fun σ H G Q a z => by
  obtain ⟨l, S, e, q⟩ := h
  obtain ⟨e1, _⟩ := a.ownAt e
  exact ⟨_, e1, q σ H G _ a fun Bs γ1 us H1 G1 ⟨e2, q2⟩ l1 a1 p1 => z [] Bs l S i γ1 [] us H1 G1 q2 e2 l1 a1 rfl p1⟩
theorem gq_cons {t : TA} {k : List AV → List AV → Addr → List AV → Nat → List Sl → Prop} (h : GE K F G0 ta γ fun A γ1 => GQ K F G0 t γ1 fun As Bs l S i γ2 => k (A :: As) Bs l S i γ2) : GQ K F G0 (tCons ta t) γ k := fun σ H G Q a z =>
  h σ H G _ a fun A γ1 v H1 G1 h1 l1 a1 p1 => h1 σ H1 G1 _ a1 fun As Bs l S i γ2 vs us H2 G2 q e l2 a2 p2 p3 => z (A :: As) Bs l S i γ2 (v :: vs) us H2 G2 q e (l1.trans l2) a2 ⟨v, vs, rfl, A.mono l2 p1, p2⟩ p3
theorem ge_callQ {C : Cq} {E : XK} {t : TA} (h : GQ K F G0 t γ fun As Bs l S i γ1 => C S As Bs (fun A S' => k A (γ1.set i (.own l S'))) (fun As' S' => k (aLst As') (γ1.set i (.own l S')))) : GE K F G0 (tCall (spQ K C) [] E t) γ k := fun σ H G Q a z =>
  h σ H G _ a fun As Bs l S i γ1 vs us H1 G1 h1 e2 l1 a1 p1 p3 => by
    obtain ⟨e4, ws, g1, g2, g3, g4⟩ := a1.ownAt e2
    show spQ K C ((vs ++ V.ref l :: us) ++ []) H1 Q E
    rw [List.append_nil]
    refine ⟨S, As, Bs, _, _, G1, l, ws, vs, us, h1, rfl, p1, p3, a1.see, g1, g4, g3, fun A S2 v H' G' ws' q le sm see hid e hv pv => z A _ v H' G' q (l1.trans le) (a1.callM e2 le sm see hid e hv) pv, fun As' S2 m vs' H' G' ws' q le sm see hid e hv e5 e6 e7 hv2 => ?_⟩
    have a2 := a1.callM e2 le sm see hid e hv
    refine z _ _ _ H' _ q (l1.trans (le.trans (G'.leL m vs'))) (a2.addL e5 (a1.noF e6) (free_set (a1.noOwn e6) fun hb => ?_)) ⟨m, vs', rfl, .inr ⟨rfl, rfl⟩, hv2.mono (G'.leL m vs')⟩
    rw [own_ad hb, g1] at e6
    cases e6
/-- two values, the own list, one value -/
theorem ge_callQ21 {C : Cq} {E : XK} {tb tc : TE} {i : Nat} (h : GE K F G0 ta γ fun A γ1 => GE K F G0 tb γ1 fun B γ2 => ∃ l S, γ2[i]? = some (.own l S) ∧ GE K F G0 tc γ2 fun D γ3 => γ3[i]? = some (.own l S) ∧ C S [A, B] [D] (fun A S' => k A (γ3.set i (.own l S'))) (fun As' S' => k (aLst As') (γ3.set i (.own l S')))) : GE K F G0 (tCall (spQ K C) [] E (tCons ta (tCons tb (tCons (tVar i) (tCons tc tNil))))) γ k :=
  ge_callQ (gq_cons fun σ H G Q a z => h σ H G Q a fun A γ1 v H1 G1 q l1 a1 p1 => z A γ1 v H1 G1 (gq_cons fun σ H G Q a z => q σ H G Q a fun A γ1 v H1 G1 q l1 a1 p1 => z A γ1 v H1 G1 (gq_mid (by
    obtain ⟨l, S, e, q⟩ := q
    exact ⟨l, S, e, ga_cons fun σ H G Q a z => q σ H G Q a fun A γ1 v H1 G1 q l1 a1 p1 => z A γ1 v H1 G1 (ga_nil q) l1 a1 p1⟩)) l1 a1 p1) l1 a1 p1)
end
section
variable {P : Program} {w : World} {K : PySem.W.Frag} {mg : Str → Option Value} {base : Heap}
theorem fn_okQ {x : Str} {st : Stmt} {p : Str} {ps qs N : List Str} {n : Nat} {C : Cq} (D : Std K mg x st (ps ++ p :: qs)) (S : FnScope N (ps ++ p :: qs) (defScope st)) (hl : ∀ S As Bs R RO, C S As Bs R RO → As.length = ps.length ∧ Bs.length = qs.length)
    (hb : ∀ (f : Addr) (cdv : Value) (A : Around) (outer : List Env) (s : Shared) (H : Hp), Room n (A.deeper (envOfC x (defScope st) s.heap.objs.size f cdv)) →
      ∃ t, PSs (cxN P w K mg base N x (defScope st) f cdv A outer s H) (defBody st) t ∧ ∀ F G0 l S As Bs R RO, C S As Bs R RO → NX K F G0 t (As.map Sl.sh ++ Sl.own l S :: (Bs.map Sl.sh ++ List.replicate (N.length - (ps.length + 1 + qs.length)) Sl.non))
        { nx := fun γ => ∃ S', γ[ps.length]? = some (.own l S') ∧ R aN S', rt := fun A γ => ∃ S', γ[ps.length]? = some (.own l S') ∧ R A S', ro := fun As γ => ∃ S', γ[ps.length]? = some (.own l S') ∧ RO As S' }) : Cal P w K mg base (n + 1) x (ps ++ p :: qs) (spQ K C) := by
  obtain ⟨f, fd, Fd, hm, hbd⟩ := D.ex
  refine ⟨f, fd, Fd.ok S (fun vs H Q E h => ?_) (fun cdv A outer s H vs Q E hr h => ?_), hm, Fd.kp, hbd⟩
  · obtain ⟨S', As, Bs, R, RO, G, l, ws, r, u, hc, e, hv, hu, _⟩ := h
    rw [e, List.length_append, List.length_append, List.length_cons, List.length_cons, hv.length, hu.length, (hl S' As Bs R RO hc).1, (hl S' As Bs R RO hc).2]
  · obtain ⟨t, ht, hg⟩ := hb f cdv A outer s H hr
    refine ⟨t, PSs.nox (X := cxOf CX0 P w K mg base N x (defScope st) f cdv A outer s H E) ht, ?_⟩
    obtain ⟨S', As, Bs, R, RO, G, l, ws, r, u, hc, e, hv, hu, see, hl1, hs, hn, q1, q2⟩ := h
    subst e
    obtain ⟨hAl, hBl⟩ := hl S' As Bs R RO hc
    have hrl : r.length = ps.length := by rw [hv.length, hAl]
    have hul : u.length = qs.length := by rw [hu.length, hBl]
    have e : L2.start N (r ++ V.ref l :: u) = r.map some ++ some (V.ref l) :: (u.map some ++ List.replicate (N.length - (ps.length + 1 + qs.length)) none) := by
      unfold L2.start
      rw [List.map_append, List.length_append, List.length_cons, hrl, hul, List.append_assoc, show ps.length + (qs.length + 1) = ps.length + 1 + qs.length by omega]
      rfl
    rw [e]
    have a : At K (hid1 H l) G (As.map Sl.sh ++ Sl.own l S' :: (Bs.map Sl.sh ++ List.replicate (N.length - (ps.length + 1 + qs.length)) Sl.non)) (r.map some ++ some (V.ref l) :: (u.map some ++ List.replicate (N.length - (ps.length + 1 + qs.length)) none)) H G := by
      have own_at : ∀ {i : Nat} {T : Sl}, (As.map Sl.sh ++ Sl.own l S' :: (Bs.map Sl.sh ++ List.replicate (N.length - (ps.length + 1 + qs.length)) Sl.non))[i]? = some T → (i < ps.length ∧ ∃ A, As[i]? = some A ∧ T = .sh A) ∨ (i = ps.length ∧ T = .own l S') ∨ (∃ j A, i = ps.length + 1 + j ∧ Bs[j]? = some A ∧ T = .sh A) ∨ T = .non := fun {i T} q => by
        rcases get_mid q with ⟨h1, h2⟩ | ⟨h1, h2⟩ | ⟨h1, h2⟩
        · rw [List.length_map, hAl] at h1
          rw [List.getElem?_map] at h2
          obtain ⟨A, e1, e2⟩ := Option.map_eq_some_iff.mp h2
          exact .inl ⟨h1, A, e1, e2.symm⟩
        · rw [List.length_map, hAl] at h1
          exact .inr (.inl ⟨h1, h2.symm⟩)
        · rw [List.length_map, hAl] at h1 h2
          by_cases hj : i - (ps.length + 1) < Bs.length
          · rw [List.getElem?_append_left (by rw [List.length_map]; exact hj), List.getElem?_map] at h2
            obtain ⟨A, e1, e2⟩ := Option.map_eq_some_iff.mp h2
            exact .inr (.inr (.inl ⟨i - (ps.length + 1), A, by omega, e1, e2.symm⟩))
          · rw [List.getElem?_append_right (by rw [List.length_map]; omega)] at h2
            exact .inr (.inr (.inr (List.eq_of_mem_replicate (List.mem_of_getElem? h2))))
      refine ⟨.refl G, fun b o q => ?_, see, fun _ _ _ q => q, by simp [hv.length, hu.length], fun i T q => ?_, fun i j S T b h1 h2 hb hc => ?_⟩
      · unfold hid1 at q
        by_cases hb : b = l
        · rw [if_pos hb] at q; cases q
        · rw [if_neg hb] at q; exact q
      · rcases own_at q with ⟨h1, A, e1, rfl⟩ | ⟨h1, rfl⟩ | ⟨j, A, h1, e1, rfl⟩ | rfl
        · obtain ⟨v, e2, pv⟩ := hv.get e1
          refine ⟨v, ?_, pv⟩
          rw [List.getElem?_append_left (by rw [List.length_map, hrl]; exact h1), List.getElem?_map, e2]
          rfl
        · refine ⟨?_, ws, hl1, by unfold hid1; rw [if_pos rfl], hn, hs⟩
          rw [h1, List.getElem?_append_right (by rw [List.length_map, hrl]; exact Nat.le_refl _), List.length_map, hrl, Nat.sub_self]
          rfl
        · obtain ⟨v, e2, pv⟩ := hu.get e1
          refine ⟨v, ?_, pv⟩
          have hjl : j < u.length := (List.getElem?_eq_some_iff.mp e2).1
          rw [h1, List.getElem?_append_right (by rw [List.length_map, hrl]; omega), List.length_map, hrl, show ps.length + 1 + j - ps.length = j + 1 by omega, List.getElem?_cons_succ, List.getElem?_append_left (by rw [List.length_map]; exact hjl), List.getElem?_map, e2]
          rfl
        · trivial
      · rcases own_at h1 with ⟨_, A, _, rfl⟩ | ⟨i1, rfl⟩ | ⟨_, A, _, _, rfl⟩ | rfl
        · exact (no_ads hb).elim
        · rcases own_at h2 with ⟨_, A, _, rfl⟩ | ⟨j1, rfl⟩ | ⟨_, A, _, _, rfl⟩ | rfl
          · exact (no_ads hc).elim
          · omega
          · exact (no_ads hc).elim
          · exact (no_adsN hc).elim
        · exact (no_ads hb).elim
        · exact (no_adsN hb).elim
    have hidd : ∀ {G' : Vw} {H' : Hp} {γ' : List Sl} {σ' : L2.St} {S2 : List AV}, At K (hid1 H l) G γ' σ' H' G' → γ'[ps.length]? = some (.own l S2) → ∀ b xs, H b ≠ none → G'.l b xs → G.l b xs := fun {G' H' γ' σ' S2} a' e0 b xs hb q => by
      by_cases hbl : b = l
      · subst hbl
        obtain ⟨_, _, _, _, g3, _⟩ := a'.ownAt e0
        exact absurd q (g3 xs)
      · exact a'.hid b xs (by unfold hid1; rw [if_neg hbl]; exact hb) q
    refine hg (hid1 H l) G l S' As Bs R RO hc _ _ H G a ⟨fun γ' σ' H' G' ⟨S2, e0, h⟩ le a' => ?_, fun A γ' σ' v H' G' ⟨S2, e0, h⟩ le a' pv => ?_, fun As' γ' σ' m vs' H' G' ⟨S2, e0, h⟩ le a' e1 e2 e3 hv' e4 => ?_, fun _ _ _ _ z => z.elim, fun _ _ _ _ z => z.elim, fun _ _ _ _ _ _ z => z.elim⟩
    · obtain ⟨_, ws', g1, _, _, g4⟩ := a'.ownAt e0
      exact q1 aN S2 .non H' G' ws' h le a'.same a'.see (hidd a' e0) g1 g4 rfl
    · obtain ⟨_, ws', g1, _, _, g4⟩ := a'.ownAt e0
      exact q1 A S2 v H' G' ws' h le a'.same a'.see (hidd a' e0) g1 g4 pv
    · obtain ⟨_, ws', g1, _, g3, g4⟩ := a'.ownAt e0
      refine q2 As' S2 m vs' H' G' ws' h le a'.same a'.see (hidd a' e0) g1 g4 e1 ?_ e3 hv'
      by_cases hm : m = l
      · exact absurd (hm ▸ own_ads m S2) (e4 ps.length _ e0)
      · unfold hid1 at e2
        rw [if_neg hm] at e2
        exact e2
end
end Rl

/-! # a known list against [], whatever lies in it -/
namespace Rl
open PySem PySem.Spec PyProof.Rows L2
section
variable {K : PySem.W.Frag} {F : Hp} {G0 : Vw} {γ : List Sl} {k : AV → List Sl → Prop}
theorem o_eqNilK {As : List AV} (q : k (aB As.isEmpty) γ) : O2 K F G0 (rEqNil K) (aLst As) (aLst []) γ k := fun σ H G x y Q a px py z => by
  obtain ⟨p, vs, rfl, hp, hv⟩ := px
  obtain ⟨r, ws, rfl, hr, hw⟩ := py
  have ew : ws = [] := List.length_eq_zero_iff.mp hw.length
  subst ew
  have e : vs.isEmpty = As.isEmpty := by
    have := hv.length
    cases vs <;> cases As <;> simp_all
  refine ⟨p, r, vs, rfl, rfl, a.see.seq (.inl hp), a.see.seq (.inl hr), z _ γ _ H G (show k (aB (vs.isEmpty)) γ from ?_) (.refl G) a rfl⟩
  rw [e]
  exact q
theorem o_neNilK {As : List AV} (q : k (aB (!As.isEmpty)) γ) : O2 K F G0 (rNeNil K) (aLst As) (aLst []) γ k := fun σ H G x y Q a px py z => by
  obtain ⟨p, vs, rfl, hp, hv⟩ := px
  obtain ⟨r, ws, rfl, hr, hw⟩ := py
  have ew : ws = [] := List.length_eq_zero_iff.mp hw.length
  subst ew
  have e : vs.isEmpty = As.isEmpty := by
    have := hv.length
    cases vs <;> cases As <;> simp_all
  refine ⟨p, r, vs, rfl, rfl, a.see.seq (.inl hp), a.see.seq (.inl hr), z _ γ _ H G (show k (aB (!vs.isEmpty)) γ from ?_) (.refl G) a rfl⟩
  rw [e]
  exact q
end
end Rl

/-! # new lists that come back in told things: they are none of those that the asker knew -/
namespace Rl
open PySem PySem.Spec PyProof.Rows L2
/-- a known list that is none of B's -/
def aNw (B : Addr → Prop) (As : List AV) : AV := ⟨fun G v => ∃ a vs, v = .ref a ∧ ¬ B a ∧ G.l a vs ∧ avs G As vs, fun le ⟨a, vs, e, n, h, q⟩ => ⟨a, vs, e, n, le.l a vs h, q.mono le⟩⟩
/-- A, told where all of B are known lists -/
def aTg (B : Addr → Prop) (A : AV) : AV := ⟨fun G v => A.p G v ∧ ∀ b, B b → ∃ xs, G.l b xs, fun le ⟨h, q⟩ => ⟨A.mono le h, fun b hb => by
  obtain ⟨xs, e⟩ := q b hb
  exact ⟨xs, le.l b xs e⟩⟩⟩
theorem nw_lst {B : Addr → Prop} {As : List AV} {G : Vw} {v : V} (h : (aNw B As).p G v) : (aLst As).p G v := by
  obtain ⟨a, vs, e, _, h1, h2⟩ := h
  exact ⟨a, vs, e, h1, h2⟩
section
variable {K : PySem.W.Frag} {F : Hp} {G0 : Vw} {γ : List Sl} {t te tb : TE} {k : AV → List Sl → Prop} {ks : KS} {B : Addr → Prop}
theorem set_self {α : Type} {xs : List α} {i : Nat} {x : α} (h : xs[i]? = some x) : xs.set i x = xs := by
  refine List.ext_getElem? fun j => ?_
  by_cases e : i = j
  · subst e
    rw [List.getElem?_set_self (List.getElem?_eq_some_iff.mp h).1, h]
  · rw [List.getElem?_set_ne e]
/-- a def that is handed a told thing: what it says of the asker's lists holds at its own beginning -/
theorem gs_untag {ts : TS} (i : Nat) {A : AV} (e : γ[i]? = some (.sh (aTg B A))) (h : ∀ G1 : Vw, (∀ b, B b → ∃ xs, G1.l b xs) → (∀ (W : WX) (kx : Str → List (Str × AV) → List Sl → Prop), SX K F G0 W kx → SX K F G1 W kx) → GS K F G1 ts (γ.set i (.sh A)) ks) : GS K F G0 ts γ ks := fun D σ H G a s => by
  obtain ⟨v, e1, p1, p2⟩ := a.shAt e
  have a2 := At.sets (i := i) a.base (show A.p G v from p1)
  rw [set_self e1] at a2
  exact h G p2 (fun W kx q => ⟨fun y Fs γ' σ' H' G' d hk a' xf => q.go y Fs γ' σ' H' G' d hk (a.unbase a') xf⟩) D σ H G a2 (Sat.base a s)
/-- a new list, shown to all, handed on -/
theorem ge_newTg (hB : ∀ b, B b → ∃ xs, G0.l b xs) (h : GO K F G0 t γ fun _ As γ1 => k (aTg B (aNw B As)) γ1) : GE K F G0 t γ k := fun σ H G Q a z =>
  h σ H G Q a fun l As γ1 vs H1 G1 h1 l1 a1 e1 f1 n1 p1 d1 => by
    have a2 := a1.addL e1 f1 d1
    refine z _ γ1 _ H1 _ h1 (l1.trans (G1.leL l vs)) a2 ⟨⟨l, vs, rfl, fun b => ?_, .inr ⟨rfl, rfl⟩, p1.mono (G1.leL l vs)⟩, fun b hb => ?_⟩
    · obtain ⟨xs, q⟩ := hB l b
      exact n1 xs (a1.le.l l xs q)
    · obtain ⟨xs, q⟩ := hB b hb
      exact ⟨xs, a2.le.l b xs q⟩
theorem ge_tg (hB : ∀ b, B b → ∃ xs, G0.l b xs) (h : GE K F G0 t γ fun A γ1 => k (aTg B A) γ1) : GE K F G0 t γ k := fun σ H G Q a z =>
  h σ H G Q a fun A γ1 v H1 G1 h1 l1 a1 p1 => z _ γ1 v H1 G1 h1 l1 a1 ⟨p1, fun b hb => by
    obtain ⟨xs, q⟩ := hB b hb
    exact ⟨xs, a1.le.l b xs q⟩⟩
/-- such a list, read -/
theorem ge_varN {i : Nat} {As : List AV} (h : γ[i]? = some (.sh (aNw B As))) (q : k (aLst As) γ) : GE K F G0 (tVar i) γ k := fun σ H G Q a z => by
  obtain ⟨v, e, p⟩ := a.shAt h
  exact ⟨v, e, z _ γ v H G q (.refl G) a (nw_lst p)⟩
theorem on_nw {r : List V → Hp → VK → Prop} {Xs As : List AV} (h : ON K F G0 r (aLst Xs :: As) γ k) : ON K F G0 r (aNw B Xs :: As) γ k := fun σ H G xs Q a p z => by
  obtain ⟨v, t, rfl, h1, h2⟩ := p
  exact h σ H G _ Q a ⟨v, t, rfl, nw_lst h1, h2⟩ z
theorem o2_nw {r : R2} {Xs : List AV} {C : AV} (h : O2 K F G0 r (aLst Xs) C γ k) : O2 K F G0 r (aNw B Xs) C γ k := fun σ H G x y Q a p1 p2 z => h σ H G x y Q a (nw_lst p1) p2 z
theorem avs_split {G : Vw} : ∀ {As Bs : List AV} {vs : List V}, avs G (As ++ Bs) vs → ∃ us ws, vs = us ++ ws ∧ avs G As us ∧ avs G Bs ws
  | [], _, vs, h => ⟨[], vs, rfl, rfl, h⟩
  | A :: As, Bs, _, ⟨v, r, rfl, h, t⟩ => by
    obtain ⟨us, ws, rfl, h1, h2⟩ := avs_split (As := As) t
    exact ⟨v :: us, ws, rfl, ⟨v, us, rfl, h, h1⟩, h2⟩
/-- a told tuple with one new list in it, own lists being lent: the list is one's own -/
theorem gn_unk {k : Sh → List Sl → Prop} (h : ∀ (F' : Hp) (G0' : Vw), GE K F' G0' te (lend γ) fun A _ => ∃ As Bs Cs, A = aTup (As ++ aNw (fun b => ∃ xs, G0'.l b xs) Bs :: Cs) ∧ Lfs As ∧ Lfs Bs ∧ Lfs Cs ∧ AllA fun l => k (.t (vsh As ++ .l l (vsh Bs) :: vsh Cs)) γ) : GN K F G0 te γ k := fun σ H G Q a z =>
  h H _ σ H _ _ a.lendAt fun A γ' u H' G' ⟨As, Bs, Cs, eA, hA, hB, hC, q⟩ _ a' p => by
    subst eA
    obtain ⟨t, vs, rfl, ht, hv⟩ := p
    obtain ⟨us, ws, rfl, h1, h2⟩ := avs_split hv
    obtain ⟨_, r, rfl, ⟨l, xs, rfl, hn, hl, hx⟩, h3⟩ := h2
    have nl : H l = none := by
      cases e : H l with
      | none => rfl
      | some o => exact absurd ⟨xs, a'.hid l xs (by rw [e]; intro z; cases z) hl⟩ hn
    obtain ⟨l1, _⟩ := a.unlend (lent_le γ H G) a' fun c ys h => h.imp id fun ⟨_, i, S, e, hb⟩ fr => fr i S e hb
    generalize hU : Vw.hide (unlent γ G') l = U
    have lU : Vw.Le G U := by
      subst hU
      refine ⟨l1.t, fun b xs g => ⟨l1.l b xs g, fun e => hn ⟨xs, ?_⟩⟩, l1.c, l1.h, l1.k⟩
      subst e
      exact (lent_le γ H G).l b xs g
    have see : See K U H' := by
      subst hU
      exact ⟨a'.see.t, fun b xs g => a'.see.l b xs g.1.1, a'.see.c, a'.see.h, a'.see.k⟩
    have a3 : At K F G0 γ σ H' U := a.call lU a'.same see fun b xs hb g => by
      subst hU
      rcases a'.hid b xs hb g.1.1 with w | ⟨_, i, S, e, hb⟩
      · exact w
      · exact absurd hb (g.1.2 i S e)
    have up : ∀ {Xs : List AV} {ys : List V}, Lfs Xs → avs G' Xs ys → avs U Xs ys := fun hX hy => by
      have hh := lf_avs hX hy
      subst hU
      exact avs.mono (G := ⟨G'.t, fun _ _ => False, fun _ _ => False, G'.h, G'.k⟩) (G' := Vw.hide (unlent γ G') l) ⟨fun _ _ h => h, fun _ _ h => False.elim h, fun _ _ h => False.elim h, fun _ _ h => h, rfl⟩ hh
    refine z _ γ (.ref t) H' U (q l) lU a3 ?_ ?_ ?_
    · rw [Sh.ok]
      refine ⟨t, us ++ .ref l :: r, rfl, by subst hU; exact ht, okL_append (okL_vs (up hA h1)) ?_⟩
      rw [Sh.okL]
      refine ⟨.ref l, r, rfl, ?_, okL_vs (up hC h3)⟩
      rw [Sh.ok]
      exact ⟨rfl, a.noF nl, fun ys g => by subst hU; exact g.2 rfl, xs, a'.see.l l xs hl, okL_vs (up hB hx)⟩
    · rw [Sh.ads, adsL_append, adsL_vs, Sh.adsL, Sh.ads, adsL_vs, adsL_vs]
      exact List.nodup_cons.mpr ⟨by simp, List.nodup_nil⟩
    · intro b hb
      rw [Sh.ads, adsL_append, adsL_vs, Sh.adsL, Sh.ads, adsL_vs, adsL_vs] at hb
      have : b = l := by simpa using hb
      rw [this]
      exact a.noOwn nl
end
end Rl

/-! # copies of data, their lists new ones -/
namespace Rl
open PySem PySem.Spec PyProof.Rows L2
section
variable {K : PySem.W.Frag} {F : Hp} {G0 : Vw} {γ : List Sl}
/-- tuple(..) of a new list of things: the list is let go -/
theorem gn_tupOf {t : TA} {k : Sh → List Sl → Prop} (h : GNA K F G0 t γ fun Ss γ1 => ∃ l Ts, Ss = [.l l Ts] ∧ k (.t Ts) γ1) : GN K F G0 (tCB (rTupOf K) t) γ k := fun σ H G Q a z =>
  h σ H G _ a fun Ss γ1 vs H1 G1 ⟨l, Ts, e, q⟩ l1 a1 ok nd fr => by
    subst e
    rw [Sh.okL] at ok
    obtain ⟨v, r, rfl, ok, e⟩ := ok
    rw [Sh.okL] at e
    subst e
    rw [Sh.ok] at ok
    obtain ⟨rfl, fn, nl, xs, hx, ok⟩ := ok
    have sub : ∀ b, b ∈ Sh.adsL Ts → b ∈ Sh.adsL [.l l Ts] := fun b hb => by
      rw [Sh.adsL, Sh.ads, Sh.adsL, List.append_nil]
      exact List.mem_cons_of_mem _ hb
    refine ⟨l, xs, rfl, .inl ⟨SqL.of hx, fun p np => ?_⟩⟩
    have s := same_upd (o := .tup xs) np
    have a2 := (a1.up s).addT (p := p) (vs := xs) (SqT.of upd_same)
    refine z _ γ1 _ _ _ q (l1.trans (G1.leT p xs)) a2 ?_ ?_ (fun b hb => fr b (sub b (by rw [Sh.ads] at hb; exact hb)))
    · rw [Sh.ok]
      exact ⟨p, xs, rfl, .inr ⟨rfl, rfl⟩, Sh.okL_move (G1.leT p xs) Ts xs (fun b _ o e => s b o e) (fun _ _ _ _ e => e) (fun _ _ e => e) ok⟩
    · rw [Sh.adsL, Sh.ads, Sh.adsL, List.append_nil] at nd
      rw [Sh.ads]
      exact (List.nodup_cons.mp nd).2
end
section
variable {P : Program} {w : World} {K : PySem.W.Frag} {mg : Str → Option Value} {base : Heap}
theorem cal_noneN {x : Str} {st : Stmt} {ps : List Str} {n : Nat} {C : Cn} (D : Std K mg x st ps) (h : ∀ As R RN, ¬ C As R RN) : Cal P w K mg base n x ps (spN K C) := by
  obtain ⟨f, fd, F, hm, hbd⟩ := D.ex
  refine ⟨f, fd, ⟨fun vs H Q E h2 => ?_, fun A outer s H args us vs Q E hr e0 hb r h2 => ?_⟩, hm, F.kp, hbd⟩
  · obtain ⟨As, R, RN, G, hc, _⟩ := h2
    exact (h _ _ _ hc).elim
  · obtain ⟨As, R, RN, G, hc, _⟩ := h2
    exact (h _ _ _ hc).elim
end
/-! no list in it -/
mutual
def flatD : Dt → Bool
  | .t ds => flatDs ds
  | .l _ => false
  | .i _ => true
  | .s _ => true
  | .b _ => true
  | .n => true
  | .k _ => true
def flatDs : List Dt → Bool
  | [] => true
  | d :: ds => flatD d && flatDs ds
end
theorem flatDs_mem : ∀ {ds : List Dt}, flatDs ds = true → ∀ d, d ∈ ds → flatD d = true
  | [], _, _, h => nomatch h
  | d :: ds, h, e, he => by
    rw [flatDs, Bool.and_eq_true] at h
    rcases List.mem_cons.mp he with rfl | he
    · exact h.1
    · exact flatDs_mem h.2 e he
theorem flatDs_of : ∀ {ds : List Dt}, (∀ d, d ∈ ds → flatD d = true) → flatDs ds = true
  | [], _ => by rw [flatDs]
  | d :: ds, h => by
    rw [flatDs, h d (List.mem_cons_self ..), flatDs_of fun e he => h e (List.mem_cons_of_mem _ he)]
    rfl
/-- a copy of data, its lists new ones -/
def Fr : Nat → Dt → Sh → Prop
  | 0, _, _ => False
  | n + 1, d, S => (flatD d = true ∧ S = .v (aD d)) ∨ (∃ ds Ss a, d = .l ds ∧ S = .l a Ss ∧ Pair2 (Fr n) ds Ss) ∨ (∃ ds Ss, d = .t ds ∧ flatD d = false ∧ S = .t Ss ∧ Pair2 (Fr n) ds Ss)
theorem fr_flat {n : Nat} {d : Dt} {S : Sh} (h : Fr n d S) (f : flatD d = true) : S = .v (aD d) := by
  cases n with
  | zero => exact h.elim
  | succ n =>
    rcases h with ⟨_, h⟩ | ⟨ds, Ss, a, rfl, _⟩ | ⟨ds, Ss, rfl, g, _⟩
    · exact h
    · rw [flatD] at f
      cases f
    · rw [g] at f
      cases f
theorem fr_flats {n : Nat} : ∀ {ds : List Dt} {Ss : List Sh}, Pair2 (Fr n) ds Ss → (∀ d, d ∈ ds → flatD d = true) → Ss = vsh (ds.map aD)
  | _, _, .nil, _ => rfl
  | _, _, .cons h t, f => by
    rw [fr_flat h (f _ (List.mem_cons_self ..)), fr_flats t fun d hd => f d (List.mem_cons_of_mem _ hd)]
    rfl
theorem fr_l {n : Nat} {ds : List Dt} {S : Sh} (h : Fr n (.l ds) S) (f : ∀ d, d ∈ ds → flatD d = true) : ∃ a, S = .l a (vsh (ds.map aD)) := by
  cases n with
  | zero => exact h.elim
  | succ n =>
    rcases h with ⟨h, _⟩ | ⟨es, Ss, a, e, rfl, p⟩ | ⟨_, _, e, _⟩
    · rw [flatD] at h
      cases h
    · cases e
      exact ⟨a, by rw [fr_flats p f]⟩
    · cases e
theorem fr_t {n : Nat} {ds : List Dt} {S : Sh} (h : Fr n (.t ds) S) (f : flatDs ds = false) : ∃ m Ss, S = .t Ss ∧ Pair2 (Fr m) ds Ss := by
  cases n with
  | zero => exact h.elim
  | succ n =>
    rcases h with ⟨h, _⟩ | ⟨_, _, _, e, _⟩ | ⟨es, Ss, e, _, rfl, p⟩
    · rw [flatD, f] at h
      cases h
    · cases e
    · cases e
      exact ⟨n, Ss, rfl, p⟩
end Rl

/-! # things that tell nothing of the asker's lists; names of lists that lie in a thing -/
namespace Rl
open PySem PySem.Spec PyProof.Rows L2
def Vw.less (G : Vw) (B : Addr → Prop) : Vw := ⟨G.t, fun b xs => G.l b xs ∧ ¬ B b, G.c, G.h, G.k⟩
/-- tells nothing of B's lists -/
def Cln (B : Addr → Prop) (A : AV) : Prop := ∀ (G : Vw) (v : V), A.p G v → A.p (G.less B) v
def Clns (B : Addr → Prop) (As : List AV) : Prop := ∀ A, A ∈ As → Cln B A
section
variable {B : Addr → Prop}
theorem cl_lf {A : AV} (h : Lf A) : Cln B A := fun G v p => A.mono (G := ⟨G.t, fun _ _ => False, fun _ _ => False, G.h, G.k⟩) ⟨fun _ _ h => h, fun _ _ h => False.elim h, fun _ _ h => False.elim h, fun _ _ h => h, rfl⟩ (h G v p)
theorem cls_nil : Clns B [] := fun _ h => nomatch h
theorem cls_cons {A : AV} {As : List AV} (h : Cln B A) (t : Clns B As) : Clns B (A :: As) := fun C hC => by
  rcases List.mem_cons.mp hC with rfl | hC
  · exact h
  · exact t C hC
theorem cls_lf {As : List AV} (h : Lfs As) : Clns B As := fun A hA => cl_lf (h A hA)
theorem cl_avs {G : Vw} : ∀ {As : List AV} {vs : List V}, Clns B As → avs G As vs → avs (G.less B) As vs
  | [], _, _, h => h
  | A :: As, _, h, ⟨v, r, e, p, q⟩ => ⟨v, r, e, h A (List.mem_cons_self ..) G v p, cl_avs (fun C hC => h C (List.mem_cons_of_mem _ hC)) q⟩
theorem cl_tup {As : List AV} (h : Clns B As) : Cln B (aTup As) := fun G v ⟨a, vs, e, ht, hv⟩ => ⟨a, vs, e, ht, cl_avs h hv⟩
theorem cl_nw {As : List AV} (h : Clns B As) : Cln B (aNw B As) := fun G v ⟨a, vs, e, n, ht, hv⟩ => ⟨a, vs, e, n, ⟨ht, n⟩, cl_avs h hv⟩
end
mutual
def ClnSh (B : Addr → Prop) : Sh → Prop
  | .v A => Cln B A
  | .t ss => ClnShs B ss
  | .l _ ss => ClnShs B ss
  | .q _ _ ss => ClnShs B ss
def ClnShs (B : Addr → Prop) : List Sh → Prop
  | [] => True
  | s :: ss => ClnSh B s ∧ ClnShs B ss
end
section
variable {K : PySem.W.Frag} {F H0 : Hp} {G0 : Vw} {γ : List Sl} {ks : KS} {B : Addr → Prop}
mutual
theorem ok_downB {H : Hp} {G : Vw} (hB : ∀ b xs, G.l b xs → ¬ B b → Free γ b) : ∀ (S : Sh) (v : V), ClnSh B S → S.ok H0 H G v → (∀ b, b ∈ S.ads → H0 b = none → F b = none) → S.ok F H (unlent γ G) v
  | .v A, v, hl, ok, _ => by
    rw [ClnSh] at hl
    rw [Sh.ok] at ok ⊢
    exact A.mono (G := G.less B) ⟨fun _ _ h => h, fun b xs h => ⟨h.1, hB b xs h.1 h.2⟩, fun _ _ h => h, fun _ _ h => h, rfl⟩ (hl G v ok)
  | .t ss, v, hl, ok, hf => by
    rw [ClnSh] at hl
    rw [Sh.ads] at hf
    rw [Sh.ok] at ok ⊢
    obtain ⟨a, xs, e, ht, h⟩ := ok
    exact ⟨a, xs, e, ht, okL_downB hB ss xs hl h hf⟩
  | .l a ss, v, hl, ok, hf => by
    rw [ClnSh] at hl
    rw [Sh.ads] at hf
    rw [Sh.ok] at ok ⊢
    obtain ⟨e, o1, o2, xs, hx, h⟩ := ok
    exact ⟨e, hf a (List.mem_cons_self ..) o1, fun ys q => o2 ys q.1, xs, hx, okL_downB hB ss xs hl h fun b hb => hf b (List.mem_cons_of_mem _ hb)⟩
  | .q a m ss, v, hl, ok, hf => by
    rw [ClnSh] at hl
    rw [Sh.ads] at hf
    rw [Sh.ok] at ok ⊢
    obtain ⟨e, o1, o2, xs, hx, h⟩ := ok
    refine ⟨e, hf a (List.mem_cons_self ..) o1, fun ys q => o2 ys q.1, xs, ?_, okL_downB hB ss xs hl h fun b hb => hf b (List.mem_cons_of_mem _ (List.mem_append_right _ hb))⟩
    cases m with
    | ins dx C ns =>
      obtain ⟨e1, e2, e3, e4, e5⟩ := hx
      exact ⟨e1, e2, e3, hf dx (List.mem_cons_of_mem _ (List.mem_append_left _ (List.mem_singleton.mpr rfl))) e4, fun ys q => e5 ys q.1⟩
    | dk ks => exact hx
    | dt ks => exact hx
theorem okL_downB {H : Hp} {G : Vw} (hB : ∀ b xs, G.l b xs → ¬ B b → Free γ b) : ∀ (ss : List Sh) (vs : List V), ClnShs B ss → Sh.okL H0 H G ss vs → (∀ b, b ∈ Sh.adsL ss → H0 b = none → F b = none) → Sh.okL F H (unlent γ G) ss vs
  | [], vs, _, ok, _ => by
    rw [Sh.okL] at ok ⊢
    exact ok
  | s :: ss, vs, hl, ok, hf => by
    rw [ClnShs] at hl
    rw [Sh.adsL] at hf
    rw [Sh.okL] at ok ⊢
    obtain ⟨x, r, e, p, q⟩ := ok
    exact ⟨x, r, e, ok_downB hB s x hl.1 p fun b hb => hf b (List.mem_append_left _ hb), okL_downB hB ss r hl.2 q fun b hb => hf b (List.mem_append_right _ hb)⟩
end
/-- a thing may be told as less -/
def Wk (S T : Sh) : Prop := T.ads = S.ads ∧ ∀ F H G v, S.ok F H G v → T.ok F H G v
theorem wk_self (S : Sh) : Wk S S := ⟨rfl, fun _ _ _ _ h => h⟩
/-- a new thing is made while own lists are lent, of which it tells nothing -/
theorem gn_lendB {te : TE} {k : Sh → List Sl → Prop} (h : ∀ (F' : Hp) (G0' : Vw), GN K F' G0' te (lend γ) fun S _ => ClnSh (fun b => ∃ xs, G0'.l b xs) S ∧ ∃ T, Wk S T ∧ k T γ) : GN K F G0 te γ k := fun σ H G Q a z =>
  h H _ σ H _ _ a.lendAt fun S γ' u H' G' ⟨hS, T, hT, q⟩ _ a' ok nd fr => by
    obtain ⟨l1, a1⟩ := a.unlend (lent_le γ H G) a' fun c ys h => h.imp id fun ⟨_, i, S, e, hb⟩ fr => fr i S e hb
    have fresh : ∀ b, b ∈ S.ads → H b = none := fun b hb => (Sh.ok_ad S u ok b hb).1
    have hB : ∀ b xs, G'.l b xs → ¬ (∃ xs, (lentV γ H G).l b xs) → Free γ b := fun b xs hl hn j T e hb => by
      obtain ⟨_, _, o, ho, _⟩ := (a.slot j T e).ad hb
      have h1 := a'.see.l b xs hl
      have h2 := a'.same b o ho
      rw [h1] at h2
      cases h2
      exact hn ⟨xs, .inr ⟨ho, j, T, e, hb⟩⟩
    exact z T γ u H' _ q l1 a1 (hT.2 _ _ _ _ (ok_downB hB S u hS ok fun b _ h => a.noF h)) (by rw [hT.1]; exact nd) (fun b hb => by rw [hT.1] at hb; exact a.noOwn (fresh b hb))
theorem ge_newNw {t : TE} {k : AV → List Sl → Prop} (hB : ∀ b, B b → ∃ xs, G0.l b xs) (h : GO K F G0 t γ fun _ As γ1 => k (aNw B As) γ1) : GE K F G0 t γ k := fun σ H G Q a z =>
  h σ H G Q a fun l As γ1 vs H1 G1 h1 l1 a1 e1 f1 n1 p1 d1 => z _ γ1 _ H1 _ h1 (l1.trans (G1.leL l vs)) (a1.addL e1 f1 d1) ⟨l, vs, rfl, fun b => by
    obtain ⟨xs, q⟩ := hB l b
    exact n1 xs (a1.le.l l xs q), .inr ⟨rfl, rfl⟩, p1.mono (G1.leL l vs)⟩
theorem ge_wkN {t : TE} {k : AV → List Sl → Prop} (h : GE K F G0 t γ fun A γ1 => ∃ B As, A = aNw B As ∧ k (aLst As) γ1) : GE K F G0 t γ k := fun σ H G Q a z =>
  h σ H G Q a fun A γ1 v H1 G1 ⟨B, As, e, q⟩ l1 a1 p1 => z (aLst As) γ1 v H1 G1 q l1 a1 (by subst e; exact nw_lst p1)
/-! ### a name of a list that lies in a thing -/
def aIs (l : Addr) : AV := ⟨fun _ v => v = .ref l, fun _ h => h⟩
theorem gb_alias {i j : Nat} {S : Sh} {p : List Nat} {l : Addr} {Ss : List Sh} {k : Sh → List Sl → Prop} (e : γ[i]? = some (.sh (aIs l))) (e2 : γ[j]? = some (.tr S)) (ep : S.at p = some (.l l Ss)) (q : k (.l l Ss) γ) : GB K F G0 (tVar i) γ k := fun σ H G Q a z => by
  obtain ⟨v, e1, p1⟩ := a.shAt e
  have p1 : v = .ref l := p1
  subst p1
  obtain ⟨xs, hx, ok, nb⟩ := a.atL e2 ep
  have hm : l ∈ S.ads := at_mem ep (by rw [Sh.ads]; exact List.mem_cons_self ..)
  obtain ⟨f1, f2, _⟩ := a.has e2 hm
  refine ⟨_, e1, z _ γ _ H G q (.refl G) a ?_⟩
  rw [Sh.ok]
  exact ⟨rfl, f1, f2, xs, hx, ok⟩
theorem gs_setAl {i : Nat} {te : TE} (h : GB K F G0 te γ fun S0 γ1 => ∃ l Ss, S0 = .l l Ss ∧ ks.nx (γ1.set i (.sh (aIs l)))) : GS K F G0 (tAsg te (gName i)) γ ks := fun D σ H G a s =>
  h σ H G _ a fun S0 γ1 v H1 G1 ⟨l, Ss, e, q⟩ l1 a1 ok => s.nx _ _ H1 G1 q l1 (a1.sets (A := aIs l) (by
    subst e
    rw [Sh.ok] at ok
    exact ok.1))
theorem At.lendA {σ : L2.St} {H : Hp} {G : Vw} {i j : Nat} {S : Sh} {p : List Nat} {l : Addr} {As : List AV} (a : At K F G0 γ σ H G) (e : γ[i]? = some (.sh (aIs l))) (e2 : γ[j]? = some (.tr S)) (ep : S.at p = some (.l l (vsh As))) : At K H (lentV γ H G) ((Rl.lend γ).set i (.sh (aLst As))) σ H (lentV γ H G) := by
  obtain ⟨v, e1, p1⟩ := a.shAt e
  have p1 : v = .ref l := p1
  subst p1
  obtain ⟨xs, hx, ok, nb⟩ := a.atL e2 ep
  have hm : l ∈ S.ads := at_mem ep (by rw [Sh.ads]; exact List.mem_cons_self ..)
  have b := At.sets (i := i) (A := aLst As) a.lendAt (v := .ref l) ⟨l, xs, rfl, .inr ⟨hx, j, _, e2, hm⟩, (vs_okL ok).mono (lent_le γ H G)⟩
  rw [set_self e1] at b
  exact b
theorem gt_lendA {t : TT} {kt : Bool → List Sl → Prop} {i j : Nat} {S : Sh} {p : List Nat} {l : Addr} {As : List AV} (e : γ[i]? = some (.sh (aIs l))) (e2 : γ[j]? = some (.tr S)) (ep : S.at p = some (.l l (vsh As))) (h : ∀ F' G0', GT K F' G0' t ((lend γ).set i (.sh (aLst As))) fun b _ => kt b γ) : GT K F G0 t γ kt := fun σ H G Q a z =>
  h H _ σ H _ _ (a.lendA e e2 ep) fun b γ' H' G' q _ a' => z b γ H' G q (.refl G) (a.up a'.same)
theorem gs_passA {t : TT} {ts us : TS} {i j : Nat} {S : Sh} {p : List Nat} {l : Addr} {As : List AV} (e : γ[i]? = some (.sh (aIs l))) (e2 : γ[j]? = some (.tr S)) (ep : S.at p = some (.l l (vsh As))) (h : ∀ F' G0', GT K F' G0' t ((lend γ).set i (.sh (aLst As))) fun b _ => b = false) (q : GS K F G0 us γ ks) : GS K F G0 (tSeq (tIfS t ts tNext) us) γ ks :=
  gs_seq (gs_if (gt_lendA e e2 ep fun F' G0' => (h F' G0').mono fun b _ e => ⟨fun z => Bool.noConfusion (z.symm.trans e), fun _ => gs_next q⟩))
end
end Rl

/-! # == and != of the same data, empty locked dicts within it too -/
namespace Rl
open PySem PySem.Spec PyProof.Rows L2 PySem.SeqAt
theorem list_nilP {es : Array DictEntry} (h : es.toList = []) : ∀ e, e ∈ es → False := fun e he => by
  have : e ∈ es.toList := Array.mem_toList_iff.mpr he
  rw [h] at this
  cases this
section
variable {X : Cx} {pins : List (Addr × Obj)} {σ : L2.St} {H : Hp} {s : Shared}
theorem d0_any (I : Inv X pins σ H s) {a : Addr} {o : Obj} (ha : H a = some (.frz o (.dK []))) : (a == sysModules) = false ∧ ∀ (prog : Program) (w : World), s.heap.DictOf (PySem.intKind prog w) a [] := by
  obtain ⟨_, hm, vs, rel, o2, es, ep, ho, hx, hd, _, hp, _⟩ := dk_rd I.hok (.inr ⟨o, ha⟩)
  cases rel
  have he : es.toList = [] := by
    generalize es.toList = l at hp
    cases hp
    rfl
  refine ⟨hm, fun prog w => ⟨o2, es, ep, ho, hx, hd, fun e hm => (list_nilP he e hm).elim, ?_, List.nodup_nil⟩⟩
  rw [he]
  exact .nil
theorem rcA {A : Around} {u x : Value} {b c : Bool} (h : EqAt A s u x b) (e : b = c) : EqAt A s u x c := e ▸ h
mutual
theorem Dq.eqAt (sd : SysD X.K) (I : Inv X pins σ H s) : ∀ (d : PyData) (v w : V) (u x : Value), Dq X.K H v d → Dq X.K H w d → RelV v u → RelV w x → ∀ A : Around, A.units + d.depth < cLine → EqAt A s u x true
  | .none, _, _, _, _, h, g, r, q, A, _ => by
    cases h; cases g; cases r; cases q
    exact EqAt.same _
  | .bool b, _, _, _, _, h, g, r, q, A, _ => by
    cases h; cases g; cases r; cases q
    exact EqAt.same _
  | .int i, _, _, _, _, h, g, r, q, A, _ => by
    cases h; cases g
    obtain ⟨t, rfl⟩ := r
    obtain ⟨y, rfl⟩ := q
    exact rcA (EqAt.int_int _ _ _ _) (by simp)
  | .str i, _, _, _, _, h, g, r, q, A, _ => by
    cases h; cases g
    obtain ⟨t, rfl⟩ := r
    obtain ⟨y, rfl⟩ := q
    exact rcA (EqAt.str_str _ _ _ _) (by simp)
  | .list es, _, _, _, _, h, g, r, q, A, hu => by
    cases h with
    | @seqL a vs _ hs ha =>
      cases g with
      | @seqL b ws _ hs2 hb =>
        cases r; cases q
        by_cases e : a = b
        · subst e
          exact EqAt.same _
        · obtain ⟨its, rv, hl, _⟩ := I.list hs
          obtain ⟨jts, rw', hl2, _⟩ := I.list hs2
          rw [PyData.depth] at hu
          obtain ⟨k1, k2⟩ := Dqs.eqAt sd I es vs ws its jts ha hb rv rw' A.in1 (by show A.units + 1 + _ < cLine; omega)
          refine rcA (EqAt.of_refs e (RcAt.lists (e := fun _ => true) hl.isList hl2.isList (by simpa using k1) (by omega) (fun j h1 h2 => ?_))) ?_
          · have := k2 j (by simpa using h1) (by simpa using h2)
            simpa using this
          · simp
  | .tuple es, _, _, _, _, h, g, r, q, A, hu => by
    cases h with
    | @seqT a vs _ hs ha =>
      cases g with
      | @seqT b ws _ hs2 hb =>
        cases r; cases q
        by_cases e : a = b
        · subst e
          exact EqAt.same _
        · obtain ⟨its, rv, hl, _⟩ := I.tuple hs
          obtain ⟨jts, rw', hl2, _⟩ := I.tuple hs2
          rw [PyData.depth] at hu
          obtain ⟨k1, k2⟩ := Dqs.eqAt sd I es vs ws its jts ha hb rv rw' A.in1 (by show A.units + 1 + _ < cLine; omega)
          refine rcA (EqAt.of_refs e (RcAt.tuples (e := fun _ => true) hl hl2 (by omega) (fun j h1 h2 => ?_))) ?_
          · have := k2 j (by simpa using h1) (by simpa using h2)
            simpa using this
          · simp [k1]
  | .dict kvs, _, _, _, _, h, g, r, q, A, hu => by
    cases h with
    | @d0 a o ha =>
      cases g with
      | @d0 b o2 hb =>
        cases r; cases q
        by_cases e : a = b
        · subst e
          exact EqAt.same _
        · obtain ⟨m1, d1⟩ := d0_any I ha
          obtain ⟨m2, d2⟩ := d0_any I hb
          exact EqAt.of_refs e fun prog w E Q hq => PySem.W.keq_eq m1 m2 (d1 prog w) (d2 prog w) (by omega) (fun _ => .nil) hq
theorem Dqs.eqAt (sd : SysD X.K) (I : Inv X pins σ H s) : ∀ (es : List PyData) (vs ws : List V) (us xs : List Value), Dqs X.K H vs es → Dqs X.K H ws es → Vals vs us → Vals ws xs → ∀ A : Around, A.units + PyData.depthAll es < cLine → us.length = xs.length ∧ ∀ j (h1 : j < us.length) (h2 : j < xs.length), EqAt A s us[j] xs[j] true
  | [], _, _, _, _, h, g, r, q, A, _ => by
    cases h; cases g; cases r; cases q
    exact ⟨rfl, fun j h1 => absurd h1 (by simp)⟩
  | e :: es, _, _, _, _, h, g, r, q, A, hu => by
    cases h with
    | cons h1 h2 =>
      cases g with
      | cons g1 g2 =>
        cases r with
        | cons r1 r2 =>
          cases q with
          | cons q1 q2 =>
            rw [PyData.depthAll] at hu
            obtain ⟨k1, k2⟩ := Dqs.eqAt sd I es _ _ _ _ h2 g2 r2 q2 A (by omega)
            have k0 := Dq.eqAt sd I e _ _ _ _ h1 g1 r1 q1 A (by omega)
            refine ⟨by simp [k1], fun j j1 j2 => ?_⟩
            cases j with
            | zero => simpa using k0
            | succ j => simpa using k2 j (by simpa using j1) (by simpa using j2)
end
theorem rcB {A : Around} {u x : Value} {b c : Bool} (h : RcAt A s u x b) (e : b = c) : RcAt A s u x c := e ▸ h
theorem rcN {A : Around} {u x : Value} {b c : Bool} (h : RcNeAt A s u x b) (e : b = c) : RcNeAt A s u x c := e ▸ h
theorem atom_sh {d : PyData} (h : d = .none ∨ (∃ b, d = .bool b) ∨ (∃ i, d = .int i)) : SeqAt.shaped d = true ∧ PyData.eqv d d = true := by
  rcases h with rfl | ⟨b, rfl⟩ | ⟨i, rfl⟩
  · exact ⟨rfl, by rw [PyData.eqv]⟩
  · exact ⟨rfl, by rw [PyData.eqv]; simp⟩
  · exact ⟨rfl, by rw [eqv_int]; simp⟩
def rEqS (K : PySem.W.Frag) : R2 := fun x y H Q => ∃ d, Dq K H x d ∧ Dq K H y d ∧ d.depth ≤ 60 ∧ Q (.bl true) H
def rNeS (K : PySem.W.Frag) : R2 := fun x y H Q => ∃ d, Dq K H x d ∧ Dq K H y d ∧ d.depth ≤ 60 ∧ Q (.bl false) H
/-- == of the same data -/
theorem op_eqS {X : Cx} (sd : SysD X.K) (hu : X.A.units + 64 < cLine) : OpR X (compareOp .Eq) (rEqS X.K) := by
  intro pins s σ H x y v u Q I rx ry h
  obtain ⟨d, hd, he, hp, q⟩ := h
  cases d with
  | none =>
    obtain ⟨a1, a2⟩ := atom_sh (d := .none) (.inl rfl)
    obtain ⟨as, r1, _⟩ := Dq.reads sd I _ _ _ hd rx
    obtain ⟨bs, r2, _⟩ := Dq.reads sd I _ _ _ he ry
    exact SeqAt.compareEq_shaped r1 r2 a1 a1 hu ⟨.bl _, H, I, rfl, by rw [a2]; exact q⟩
  | bool b =>
    obtain ⟨a1, a2⟩ := atom_sh (d := .bool b) (.inr (.inl ⟨b, rfl⟩))
    obtain ⟨as, r1, _⟩ := Dq.reads sd I _ _ _ hd rx
    obtain ⟨bs, r2, _⟩ := Dq.reads sd I _ _ _ he ry
    exact SeqAt.compareEq_shaped r1 r2 a1 a1 hu ⟨.bl _, H, I, rfl, by rw [a2]; exact q⟩
  | int b =>
    obtain ⟨a1, a2⟩ := atom_sh (d := .int b) (.inr (.inr ⟨b, rfl⟩))
    obtain ⟨as, r1, _⟩ := Dq.reads sd I _ _ _ hd rx
    obtain ⟨bs, r2, _⟩ := Dq.reads sd I _ _ _ he ry
    exact SeqAt.compareEq_shaped r1 r2 a1 a1 hu ⟨.bl _, H, I, rfl, by rw [a2]; exact q⟩
  | str b =>
    cases hd; cases he
    obtain ⟨t, rfl⟩ := rx
    obtain ⟨w, rfl⟩ := ry
    exact PySem.P.eq_str ⟨.bl _, H, I, rfl, by simpa using q⟩
  | list es =>
    cases hd with
    | @seqL a vs _ hs1 ha =>
      cases he with
      | @seqL b ws _ hs2 hb =>
        cases rx; cases ry
        obtain ⟨its, rv, hl, _⟩ := I.list hs1
        obtain ⟨jts, rw', hl2, _⟩ := I.list hs2
        rw [PyData.depth] at hp
        obtain ⟨k1, k2⟩ := Dqs.eqAt sd I es vs ws its jts ha hb rv rw' X.A.in1 (by show X.A.units + 1 + _ < cLine; omega)
        refine rcB (c := true) (RcAt.lists (e := fun _ => true) hl.isList hl2.isList (by simpa using k1) (by omega) (fun j h1 h2 => ?_)) ?_ _ _ _ _ ⟨.bl true, H, I, rfl, q⟩
        · have := k2 j (by simpa using h1) (by simpa using h2)
          simpa using this
        · simp
  | tuple es =>
    cases hd with
    | @seqT a vs _ hs1 ha =>
      cases he with
      | @seqT b ws _ hs2 hb =>
        cases rx; cases ry
        obtain ⟨its, rv, hl, _⟩ := I.tuple hs1
        obtain ⟨jts, rw', hl2, _⟩ := I.tuple hs2
        rw [PyData.depth] at hp
        obtain ⟨k1, k2⟩ := Dqs.eqAt sd I es vs ws its jts ha hb rv rw' X.A.in1 (by show X.A.units + 1 + _ < cLine; omega)
        refine rcB (c := true) (RcAt.tuples (e := fun _ => true) hl hl2 (by omega) (fun j h1 h2 => ?_)) ?_ _ _ _ _ ⟨.bl true, H, I, rfl, q⟩
        · have := k2 j (by simpa using h1) (by simpa using h2)
          simpa using this
        · simp [k1]
  | dict kvs =>
    cases hd with
    | @d0 a o ha =>
      cases he with
      | @d0 b o2 hb =>
        cases rx; cases ry
        obtain ⟨m1, d1⟩ := d0_any I ha
        obtain ⟨m2, d2⟩ := d0_any I hb
        exact PySem.W.keq_eq m1 m2 (d1 _ _) (d2 _ _) (by omega) (fun _ => .nil) ⟨.bl _, H, I, rfl, q⟩
/-- != of the same data -/
theorem op_neS {X : Cx} (sd : SysD X.K) (hu : X.A.units + 64 < cLine) : OpR X (compareOp .NotEq) (rNeS X.K) := by
  intro pins s σ H x y v u Q I rx ry h
  obtain ⟨d, hd, he, hp, q⟩ := h
  cases d with
  | none =>
    obtain ⟨a1, a2⟩ := atom_sh (d := .none) (.inl rfl)
    obtain ⟨as, r1, _⟩ := Dq.reads sd I _ _ _ hd rx
    obtain ⟨bs, r2, _⟩ := Dq.reads sd I _ _ _ he ry
    exact SeqAt.compareNe_shaped r1 r2 a1 a1 hu ⟨.bl _, H, I, rfl, by rw [a2]; exact q⟩
  | bool b =>
    obtain ⟨a1, a2⟩ := atom_sh (d := .bool b) (.inr (.inl ⟨b, rfl⟩))
    obtain ⟨as, r1, _⟩ := Dq.reads sd I _ _ _ hd rx
    obtain ⟨bs, r2, _⟩ := Dq.reads sd I _ _ _ he ry
    exact SeqAt.compareNe_shaped r1 r2 a1 a1 hu ⟨.bl _, H, I, rfl, by rw [a2]; exact q⟩
  | int b =>
    obtain ⟨a1, a2⟩ := atom_sh (d := .int b) (.inr (.inr ⟨b, rfl⟩))
    obtain ⟨as, r1, _⟩ := Dq.reads sd I _ _ _ hd rx
    obtain ⟨bs, r2, _⟩ := Dq.reads sd I _ _ _ he ry
    exact SeqAt.compareNe_shaped r1 r2 a1 a1 hu ⟨.bl _, H, I, rfl, by rw [a2]; exact q⟩
  | str b =>
    cases hd; cases he
    obtain ⟨t, rfl⟩ := rx
    obtain ⟨w, rfl⟩ := ry
    exact PySem.P.ne_str ⟨.bl _, H, I, rfl, by simpa using q⟩
  | list es =>
    cases hd with
    | @seqL a vs _ hs1 ha =>
      cases he with
      | @seqL b ws _ hs2 hb =>
        cases rx; cases ry
        obtain ⟨its, rv, hl, _⟩ := I.list hs1
        obtain ⟨jts, rw', hl2, _⟩ := I.list hs2
        rw [PyData.depth] at hp
        obtain ⟨k1, k2⟩ := Dqs.eqAt sd I es vs ws its jts ha hb rv rw' X.A.in1 (by show X.A.units + 1 + _ < cLine; omega)
        refine rcN (c := false) (RcNeAt.lists (e := fun _ => true) hl.isList hl2.isList (by simpa using k1) (by omega) (fun j h1 h2 => ?_)) ?_ _ _ _ _ ⟨.bl false, H, I, rfl, q⟩
        · have := k2 j (by simpa using h1) (by simpa using h2)
          simpa using this
        · simp
  | tuple es =>
    cases hd with
    | @seqT a vs _ hs1 ha =>
      cases he with
      | @seqT b ws _ hs2 hb =>
        cases rx; cases ry
        obtain ⟨its, rv, hl, _⟩ := I.tuple hs1
        obtain ⟨jts, rw', hl2, _⟩ := I.tuple hs2
        rw [PyData.depth] at hp
        obtain ⟨k1, k2⟩ := Dqs.eqAt sd I es vs ws its jts ha hb rv rw' X.A.in1 (by show X.A.units + 1 + _ < cLine; omega)
        refine rcN (c := false) (RcNeAt.tuples (e := fun _ => true) hl hl2 (by omega) (fun j h1 h2 => ?_)) ?_ _ _ _ _ ⟨.bl false, H, I, rfl, q⟩
        · have := k2 j (by simpa using h1) (by simpa using h2)
          simpa using this
        · simp [k1]
  | dict kvs =>
    cases hd with
    | @d0 a o ha =>
      cases he with
      | @d0 b o2 hb =>
        cases rx; cases ry
        obtain ⟨m1, d1⟩ := d0_any I ha
        obtain ⟨m2, d2⟩ := d0_any I hb
        exact PySem.W.keq_ne m1 m2 (d1 _ _) (d2 _ _) (by omega) (fun _ => .nil) ⟨.bl _, H, I, rfl, q⟩
end
/-! ### in the walk -/
def rEqX (K : PySem.W.Frag) : R2 := fun x y H Q => rEqA K x y H Q ∨ rEqS K x y H Q
def rNeX (K : PySem.W.Frag) : R2 := fun x y H Q => rNeA K x y H Q ∨ rNeS K x y H Q
theorem op_eqX {K : PySem.W.Frag} {X : Cx} {n : Nat} (sd : SysD K) (hr : Room n X.A) (h : X.K = K := by rfl) : OpR X (compareOp .Eq) (rEqX K) := by
  subst h
  exact (op_eqA hr).or (op_eqS sd hr.units)
theorem op_neX {K : PySem.W.Frag} {X : Cx} {n : Nat} (sd : SysD K) (hr : Room n X.A) (h : X.K = K := by rfl) : OpR X (compareOp .NotEq) (rNeX K) := by
  subst h
  exact (op_neA hr).or (op_neS sd hr.units)
section
variable {K : PySem.W.Frag} {F : Hp} {G0 : Vw} {γ : List Sl} {k : AV → List Sl → Prop}
theorem o_eqX {A B : AV} (h : O2 K F G0 (rEqA K) A B γ k) : O2 K F G0 (rEqX K) A B γ k := fun σ H G x y Q a px py z => .inl (h σ H G x y Q a px py z)
theorem o_neX {A B : AV} (h : O2 K F G0 (rNeA K) A B γ k) : O2 K F G0 (rNeX K) A B γ k := fun σ H G x y Q a px py z => .inl (h σ H G x y Q a px py z)
theorem o_eqSy {n W : Nat} {A B : AV} (h : Sy n W A) (hn : n ≤ 60) (e : A = B) (q : k (aB true) γ) : O2 K F G0 (rEqX K) A B γ k := by
  subst e
  obtain ⟨d, h1, h2, h4, _⟩ := h
  exact o2_pure (C := aB true) (fun H G x y Q s px py z => .inr ⟨d, h1 K G H x s px, h1 K G H y s py, Nat.le_trans h4 hn, z _ rfl⟩) q
theorem o_neSy {n W : Nat} {A B : AV} (h : Sy n W A) (hn : n ≤ 60) (e : A = B) (q : k (aB false) γ) : O2 K F G0 (rNeX K) A B γ k := by
  subst e
  obtain ⟨d, h1, h2, h4, _⟩ := h
  exact o2_pure (C := aB false) (fun H G x y Q s px py z => .inr ⟨d, h1 K G H x s px, h1 K G H y s py, Nat.le_trans h4 hn, z _ rfl⟩) q
theorem o_eqIq {A B : AV} {d : PyData} (h : Isq A d) (hn : d.depth ≤ 60) (e : A = B) (q : k (aB true) γ) : O2 K F G0 (rEqX K) A B γ k := by
  subst e
  exact o2_pure (C := aB true) (fun H G x y Q s px py z => .inr ⟨d, h K G H x s px, h K G H y s py, hn, z _ rfl⟩) q
theorem o_neIq {A B : AV} {d : PyData} (h : Isq A d) (hn : d.depth ≤ 60) (e : A = B) (q : k (aB false) γ) : O2 K F G0 (rNeX K) A B γ k := by
  subst e
  exact o2_pure (C := aB false) (fun H G x y Q s px py z => .inr ⟨d, h K G H x s px, h K G H y s py, hn, z _ rfl⟩) q
end
mutual
def Dt.k0 : Dt → Bool
  | .k kvs => kvs.isEmpty
  | .t ds => Dt.k0s ds
  | .l ds => Dt.k0s ds
  | .i _ => true
  | .s _ => true
  | .b _ => true
  | .n => true
def Dt.k0s : List Dt → Bool
  | [] => true
  | d :: ds => d.k0 && Dt.k0s ds
end
mutual
def Dt.pd : Dt → PyData
  | .i z => .int z
  | .s x => .str x
  | .b x => .bool x
  | .n => .none
  | .t ds => .tuple (Dt.pds ds)
  | .l ds => .list (Dt.pds ds)
  | .k _ => .dict []
def Dt.pds : List Dt → List PyData
  | [] => []
  | d :: ds => d.pd :: Dt.pds ds
end
mutual
theorem isq_D : ∀ d : Dt, d.k0 = true → Isq (aD d) d.pd
  | .i n, _ => by rw [aD_i, Dt.pd]; exact isq_of (isd_int n)
  | .s n, _ => by rw [aD_s, Dt.pd]; exact isq_of (isd_s n)
  | .b n, _ => by rw [aD_b, Dt.pd]; exact isq_of (isd_b n)
  | .n, _ => by rw [aD_n, Dt.pd]; exact isq_of isd_n
  | .t ds, h => by
    rw [Dt.k0] at h
    rw [aD_t, Dt.pd]
    exact isq_tup (isqs_D ds h)
  | .l ds, h => by
    rw [Dt.k0] at h
    rw [aD_l, Dt.pd]
    exact isq_lst (isqs_D ds h)
  | .k kvs, h => by
    rw [Dt.k0] at h
    have e : kvs = [] := List.isEmpty_iff.mp h
    subst e
    rw [aD_k, Dt.pd]
    exact isq_d0
theorem isqs_D : ∀ ds : List Dt, Dt.k0s ds = true → Isqs (ds.map aD) (Dt.pds ds)
  | [], _ => by
    rw [Dt.pds]
    rfl
  | d :: ds, h => by
    rw [Dt.k0s, Bool.and_eq_true] at h
    rw [List.map_cons, Dt.pds]
    exact ⟨_, _, rfl, isq_D d h.1, isqs_D ds h.2⟩
end
mutual
theorem pd_dep : ∀ d : Dt, d.pd.depth ≤ d.dp
  | .i n => by rw [Dt.pd, PyData.depth]; exact Nat.zero_le _
  | .s n => by rw [Dt.pd, PyData.depth]; exact Nat.zero_le _
  | .b n => by rw [Dt.pd, PyData.depth]; exact Nat.zero_le _
  | .n => by rw [Dt.pd, PyData.depth]; exact Nat.zero_le _
  | .t ds => by
    rw [Dt.pd, PyData.depth, Dt.dp]
    have := pds_dep ds
    omega
  | .l ds => by
    rw [Dt.pd, PyData.depth, Dt.dp]
    have := pds_dep ds
    omega
  | .k kvs => by
    rw [Dt.pd, Dt.dp]
    decide +kernel
theorem pds_dep : ∀ ds : List Dt, PyData.depthAll (Dt.pds ds) ≤ Dt.dps ds
  | [] => by rw [Dt.pds, PyData.depthAll]; exact Nat.zero_le _
  | d :: ds => by
    rw [Dt.pds, PyData.depthAll, Dt.dps]
    have := pd_dep d
    have := pds_dep ds
    omega
end
/-- small data of depth n at most, all dicts in it empty -/
def Sn (n : Nat) (A : AV) : Prop := ∃ d : Dt, d.sm ∧ d.dp ≤ n ∧ d.k0 = true ∧ A = aD d
def Sns (n : Nat) (As : List AV) : Prop := ∃ ds : List Dt, Dt.sms ds ∧ Dt.dps ds ≤ n ∧ Dt.k0s ds = true ∧ As = ds.map aD
section
variable {K : PySem.W.Frag} {F : Hp} {G0 : Vw} {γ : List Sl} {k : AV → List Sl → Prop}
theorem o_eqSn {n : Nat} {A B : AV} (h : Sn n A) (hn : n ≤ 60) (e : A = B) (q : k (aB true) γ) : O2 K F G0 (rEqX K) A B γ k := by
  obtain ⟨d, _, h2, h3, rfl⟩ := h
  exact o_eqIq (isq_D d h3) (Nat.le_trans (pd_dep d) (Nat.le_trans h2 hn)) e q
theorem o_neSn {n : Nat} {A B : AV} (h : Sn n A) (hn : n ≤ 60) (e : A = B) (q : k (aB false) γ) : O2 K F G0 (rNeX K) A B γ k := by
  obtain ⟨d, _, h2, h3, rfl⟩ := h
  exact o_neIq (isq_D d h3) (Nat.le_trans (pd_dep d) (Nat.le_trans h2 hn)) e q
end
theorem Sn.sm {n : Nat} {A : AV} (h : Sn n A) : Sm A := by
  obtain ⟨d, h1, _, _, e⟩ := h
  exact ⟨d, h1, e⟩
theorem Sn.mono {n m : Nat} {A : AV} (h : Sn n A) (hn : n ≤ m) : Sn m A := by
  obtain ⟨d, h1, h2, h3, e⟩ := h
  exact ⟨d, h1, Nat.le_trans h2 hn, h3, e⟩
theorem Sns.mono {n m : Nat} {As : List AV} (h : Sns n As) (hn : n ≤ m) : Sns m As := by
  obtain ⟨d, h1, h2, h3, e⟩ := h
  exact ⟨d, h1, Nat.le_trans h2 hn, h3, e⟩
theorem sn_i {n : Nat} {i : Int} (h : i.natAbs < 2 ^ 300) : Sn (n + 1) (aInt i) := ⟨.i i, by rw [Dt.sm]; exact h, by rw [Dt.dp]; omega, by rw [Dt.k0], (aD_i i).symm⟩
theorem sn_s {n : Nat} {x : Str} (h : x.length ≤ 1000) (g : PyData.strOk x = true) : Sn (n + 1) (aS x) := ⟨.s x, by rw [Dt.sm]; exact ⟨h, g⟩, by rw [Dt.dp]; omega, by rw [Dt.k0], (aD_s x).symm⟩
theorem sn_b {n : Nat} (x : Bool) : Sn (n + 1) (aB x) := ⟨.b x, by rw [Dt.sm]; trivial, by rw [Dt.dp]; omega, by rw [Dt.k0], (aD_b x).symm⟩
theorem sn_n {n : Nat} : Sn (n + 1) aN := ⟨.n, by rw [Dt.sm]; trivial, by rw [Dt.dp]; omega, by rw [Dt.k0], aD_n.symm⟩
theorem sn_k {n : Nat} : Sn (n + 1) (aDk []) := ⟨.k [], by rw [Dt.sm]; trivial, by rw [Dt.dp]; omega, by rw [Dt.k0]; rfl, (aD_k []).symm⟩
theorem sns_nil {n : Nat} : Sns n [] := ⟨[], by rw [Dt.sms]; trivial, by rw [Dt.dps]; exact Nat.zero_le _, by rw [Dt.k0s], rfl⟩
theorem sns_cons {n : Nat} {A : AV} {As : List AV} (h : Sn n A) (t : Sns n As) : Sns n (A :: As) := by
  obtain ⟨d, h1, h2, h3, rfl⟩ := h
  obtain ⟨ds, t1, t2, t3, rfl⟩ := t
  exact ⟨d :: ds, by rw [Dt.sms]; exact ⟨h1, t1⟩, by rw [Dt.dps]; exact Nat.max_le.mpr ⟨h2, t2⟩, by rw [Dt.k0s, h3, t3]; rfl, rfl⟩
theorem sns_all {n : Nat} : ∀ {As : List AV}, (∀ A, A ∈ As → Sn n A) → Sns n As
  | [], _ => sns_nil
  | A :: As, h => sns_cons (h A (List.mem_cons_self ..)) (sns_all fun B hB => h B (List.mem_cons_of_mem _ hB))
theorem sns_mem {n : Nat} {As : List AV} (h : Sns n As) {A : AV} (hA : A ∈ As) : Sn n A := by
  obtain ⟨ds, h1, h2, h3, rfl⟩ := h
  obtain ⟨d, hd, rfl⟩ := List.mem_map.mp hA
  refine ⟨d, sms_mem h1 hd, Nat.le_trans (dps_mem hd) h2, ?_, rfl⟩
  clear h1 h2 hA
  induction ds with
  | nil => cases hd
  | cons e es ih =>
    rw [Dt.k0s, Bool.and_eq_true] at h3
    rcases List.mem_cons.mp hd with rfl | hd
    · exact h3.1
    · exact ih h3.2 hd
theorem sns_map {α : Type} {n : Nat} {f : α → AV} {xs : List α} (h : ∀ x, x ∈ xs → Sn n (f x)) : Sns n (xs.map f) := sns_all fun A hA => by
  obtain ⟨x, hx, rfl⟩ := List.mem_map.mp hA
  exact h x hx
theorem sns_append {n : Nat} {As Bs : List AV} (h : Sns n As) (g : Sns n Bs) : Sns n (As ++ Bs) := sns_all fun A hA => by
  rcases List.mem_append.mp hA with hA | hA
  · exact sns_mem h hA
  · exact sns_mem g hA
theorem sns_sub {n : Nat} {As Bs : List AV} (h : Sns n As) (hs : ∀ A, A ∈ Bs → A ∈ As) : Sns n Bs := sns_all fun A hA => sns_mem h (hs A hA)
theorem sns_cut {n : Nat} {As : List AV} (h : Sns n As) (lo hi : Option Int) : Sns n (cutL As lo hi) := sns_sub h fun A hA => List.mem_of_mem_drop (List.mem_of_mem_take hA)
theorem sn_t {n : Nat} {As : List AV} (h : Sns n As) (hl : As.length ≤ 1000) : Sn (n + 1) (aTup As) := by
  obtain ⟨ds, h1, h2, h3, rfl⟩ := h
  exact ⟨.t ds, by rw [Dt.sm]; exact ⟨by rw [List.length_map] at hl; exact hl, h1⟩, by rw [Dt.dp]; omega, by rw [Dt.k0]; exact h3, (aD_t ds).symm⟩
theorem sn_l {n : Nat} {As : List AV} (h : Sns n As) (hl : As.length ≤ 1000) : Sn (n + 1) (aLst As) := by
  obtain ⟨ds, h1, h2, h3, rfl⟩ := h
  exact ⟨.l ds, by rw [Dt.sm]; exact ⟨by rw [List.length_map] at hl; exact hl, h1⟩, by rw [Dt.dp]; omega, by rw [Dt.k0]; exact h3, (aD_l ds).symm⟩
theorem sn_F {n : Nat} {q : Rat} (h : Sz 300 300 q) : Sn (n + 2) (aF q) := sn_t (sns_cons (sn_i h.num) (sns_cons (sn_i (by rw [Int.natAbs_natCast]; exact h.den)) sns_nil)) (Nat.le_of_ble_eq_true rfl)
/-- one of some, by its place -/
theorem o_ixAll {K : PySem.W.Frag} {F : Hp} {G0 : Vw} {γ : List Sl} {k : AV → List Sl → Prop} {P : AV → Prop} {As : List AV} {r n : Int} (h : ∀ A, A ∈ As → P A) (h0 : 0 ≤ r) (h1 : r < n) (hn : (As.length : Int) = n) (q : ∀ A, P A → k A γ) : O2 K F G0 (rIx K) (aLst As) (aInt r) γ k := by
  obtain ⟨i, rfl⟩ := Int.eq_ofNat_of_zero_le h0
  have hi : i < As.length := by omega
  have e : atI As (i : Int) = some As[i] := atI_nat (List.getElem?_eq_getElem hi)
  exact o_ixL e (q _ (h _ (List.getElem_mem hi)))
theorem o_ixSn {K : PySem.W.Frag} {F : Hp} {G0 : Vw} {γ : List Sl} {k : AV → List Sl → Prop} {m : Nat} {As : List AV} {r n : Int} (h : Sns m As) (h0 : 0 ≤ r) (h1 : r < n) (hn : (As.length : Int) = n) (q : ∀ A, Sn m A → k A γ) : O2 K F G0 (rIx K) (aLst As) (aInt r) γ k := o_ixAll (P := Sn m) (fun A hA => sns_mem h hA) h0 h1 hn q
end Rl

/-! # small data with bounded texts -/
namespace Rl
open PySem PySem.Spec PyProof.Rows L2
theorem len_cutL (As : List AV) (lo hi : Option Int) : (cutL As lo hi).length ≤ As.length := by
  unfold cutL
  rw [List.length_take, List.length_drop]
  omega
theorem mem_cutL {α : Type} {xs : List α} {lo hi : Option Int} {x : α} (h : x ∈ cutL xs lo hi) : x ∈ xs := List.mem_of_mem_drop (List.mem_of_mem_take h)
theorem ix_sn {m : Nat} {As : List AV} {r n : Int} (h : Sns m As) (h0 : 0 ≤ r) (h1 : r < n) (hn : (As.length : Int) = n) : ∃ A, atI As r = some A ∧ Sn m A := by
  obtain ⟨A, e1, e2⟩ := ixNat (xs := As) h0 (by omega)
  exact ⟨A, e1, sns_mem h (List.mem_of_getElem? e2)⟩
def Sq (n W : Nat) (A : AV) : Prop := Sn n A ∧ Sy n W A
def Sqs (n W : Nat) (As : List AV) : Prop := Sns n As ∧ Sys n W As
theorem Sq.mono {n m W V : Nat} {A : AV} (h : Sq n W A) (hn : n ≤ m) (hw : W ≤ V) : Sq m V A := ⟨h.1.mono hn, h.2.mono hn hw⟩
theorem Sqs.mono {n m W V : Nat} {As : List AV} (h : Sqs n W As) (hn : n ≤ m) (hw : W ≤ V) : Sqs m V As := ⟨h.1.mono hn, h.2.mono hn hw⟩
theorem sq_i {n : Nat} {i : Int} (h : i.natAbs < 2 ^ 300) : Sq (n + 1) 1921 (aInt i) := ⟨sn_i h, sy_of ((sx_int h (by decide) (by decide)).mono (Nat.zero_le _) (Nat.le_refl _))⟩
theorem sq_s {n L : Nat} {x : Str} (h : x.length ≤ L) (hL : L ≤ 1000) (g : PyData.strOk x = true) (hc : ∀ c, c ∈ x.cps.toList → c < 16 ^ 8) : Sq (n + 1) (10 * L + 8) (aS x) := ⟨sn_s (Nat.le_trans h hL) g, sy_of ((sx_s h hc).mono (Nat.zero_le _) (Nat.le_refl _))⟩
theorem sq_b {n : Nat} (x : Bool) : Sq (n + 1) 5 (aB x) := ⟨sn_b x, sy_of ((sx_b x).mono (Nat.zero_le _) (Nat.le_refl _))⟩
theorem sq_n {n : Nat} : Sq (n + 1) 4 aN := ⟨sn_n, sy_of (sx_n.mono (Nat.zero_le _) (Nat.le_refl _))⟩
theorem sq_k {n : Nat} : Sq (n + 1) 2 (aDk []) := ⟨sn_k, sy_d0.mono (by omega) (Nat.le_refl _)⟩
theorem sqs_nil {n : Nat} : Sqs n 0 [] := ⟨sns_nil, sys_nil⟩
theorem sqs_cons {n W V : Nat} {A : AV} {As : List AV} (h : Sq n W A) (t : Sqs n V As) : Sqs n (W + 2 + V) (A :: As) := ⟨sns_cons h.1 t.1, sys_cons h.2 t.2⟩
theorem sqs_append {n W V : Nat} {As Bs : List AV} (h : Sqs n W As) (t : Sqs n V Bs) : Sqs n (W + V) (As ++ Bs) := ⟨sns_append h.1 t.1, sys_append t.2 h.2⟩
theorem sqs_all {n W : Nat} {As : List AV} (h : ∀ A, A ∈ As → Sq n W A) : Sqs n (As.length * (W + 2)) As := ⟨sns_all fun A hA => (h A hA).1, sys_all fun A hA => (h A hA).2⟩
theorem sqs_upto {n W m : Nat} {As : List AV} (h : ∀ A, A ∈ As → Sq n W A) (hm : As.length ≤ m) : Sqs n (m * (W + 2)) As := (sqs_all h).mono (Nat.le_refl _) (Nat.mul_le_mul hm (Nat.le_refl _))
theorem sq_t {n W : Nat} {As : List AV} (h : Sqs n W As) (hl : As.length ≤ 1000) : Sq (n + 1) (W + 3) (aTup As) := ⟨sn_t h.1 hl, sy_tup h.2⟩
theorem sq_l {n W : Nat} {As : List AV} (h : Sqs n W As) (hl : As.length ≤ 1000) : Sq (n + 1) (W + 3) (aLst As) := ⟨sn_l h.1 hl, sy_lst h.2⟩
theorem sq_F {n : Nat} {q : Rat} (h : Sz 300 300 q) : Sq (n + 2) 3849 (aF q) := (sq_t (sqs_cons (sq_i h.num) (sqs_cons (sq_i (by rw [Int.natAbs_natCast]; exact h.den)) sqs_nil)) (Nat.le_of_ble_eq_true rfl)).mono (Nat.le_refl _) (Nat.le_refl _)
theorem sys_mem {n V : Nat} : ∀ {As : List AV}, Sys n V As → ∀ {A : AV}, A ∈ As → Sy n V A
  | [], _, _, hA => nomatch hA
  | B :: As, h, A, hA => by
    obtain ⟨_, ⟨d, ds, rfl, g1, g2⟩, h2, h4, h5⟩ := h
    rw [PyData.showableAll, Bool.and_eq_true] at h2
    rw [PyData.depthAll] at h4
    rw [PyData.shownAll, List.map_cons, List.sum_cons, List.length_cons] at h5
    rcases List.mem_cons.mp hA with rfl | hA
    · exact ⟨d, g1, h2.1, by omega, by omega⟩
    · exact sys_mem ⟨ds, g2, h2.2, by omega, by omega⟩ hA
theorem sqs_mem {n V : Nat} {As : List AV} (h : Sqs n V As) {A : AV} (hA : A ∈ As) : Sq n V A := ⟨sns_mem h.1 hA, sys_mem h.2 hA⟩
theorem ix_sq {m V : Nat} {As : List AV} {r n : Int} (h : Sqs m V As) (h0 : 0 ≤ r) (h1 : r < n) (hn : (As.length : Int) = n) : ∃ A, atI As r = some A ∧ Sq m V A := by
  obtain ⟨A, e1, e2⟩ := ixNat (xs := As) h0 (by omega)
  exact ⟨A, e1, sqs_mem h (List.mem_of_getElem? e2)⟩
theorem o_ixSq {K : PySem.W.Frag} {F : Hp} {G0 : Vw} {γ : List Sl} {k : AV → List Sl → Prop} {m V : Nat} {As : List AV} {r n : Int} (h : Sqs m V As) (h0 : 0 ≤ r) (h1 : r < n) (hn : (As.length : Int) = n) (q : ∀ A, Sq m V A → k A γ) : O2 K F G0 (rIx K) (aLst As) (aInt r) γ k := o_ixAll (P := Sq m V) (fun A hA => sqs_mem h hA) h0 h1 hn q
section
variable {K : PySem.W.Frag} {F : Hp} {G0 : Vw} {γ : List Sl} {k : AV → List Sl → Prop}
theorem o_rep {As : List AV} {n : Int} (h : -(2 ^ 63) ≤ n ∧ n < 2 ^ 63 ∧ As.length * n.toNat ≤ 100000) (q : k (aLst (List.replicate n.toNat As).flatten) γ) : O2 K F G0 rMul (aLst As) (aInt n) γ k := fun σ H G x y Q a px py z => by
  obtain ⟨b, vs, rfl, hb, hv⟩ := px
  have ey : y = .int n := py
  subst ey
  exact .inr ⟨b, n, vs, rfl, rfl, a.see.l b vs hb, h.1, h.2.1, size_ok (by rw [hv.length]; exact h.2.2), fun p np => z _ γ _ _ _ q (G.leL p _) ((a.up (same_upd np)).addL upd_same (a.noF np) (a.noOwn np)) ⟨p, _, rfl, .inr ⟨rfl, rfl⟩, (hv.repl n.toNat).mono (G.leL p _)⟩⟩
end
theorem mem_rep {As : List AV} {n : Nat} {A : AV} (h : A ∈ (List.replicate n As).flatten) : A ∈ As := by
  obtain ⟨l, hl, hA⟩ := List.mem_flatten.mp h
  rw [(List.mem_replicate.mp hl).2] at hA
  exact hA
theorem len_rep (As : List AV) (n : Nat) : (List.replicate n As).flatten.length = n * As.length := by
  rw [List.length_flatten, List.map_replicate, List.sum_replicate_nat]
/-- a told text of a literal -/
def lowB (x : Str) : Bool := x.cps.toList.all fun c => decide (c < 16 ^ 8)
theorem low_of {x : Str} (h : lowB x = true) : ∀ c, c ∈ x.cps.toList → c < 16 ^ 8 := fun c hc => of_decide_eq_true (List.all_eq_true.mp h c hc)
end Rl

namespace My
open PySem PySem.Spec PyProof.Rows L2 Rl
def topS (i : Nat) : Stmt := PySem.Challenge.pw_ringloads_k68_what_is_a_string.main.body.getD i (.Pass ⟨0, 0, 0, 0⟩)
abbrev s_is_whole : Stmt := topS 8
abbrev s_common : Stmt := topS 9
abbrev s_is_ratio : Stmt := topS 10
abbrev s_under : Stmt := topS 12
abbrev s_are_rooms : Stmt := topS 17
abbrev s_is_place : Stmt := topS 18
abbrev s_is_hung : Stmt := topS 19
abbrev s_look_at_string : Stmt := topS 20
abbrev s_law_begun : Stmt := topS 22
abbrev s_law_take : Stmt := topS 23
abbrev s_law_low : Stmt := topS 24
abbrev s_law_amount : Stmt := topS 25
abbrev s_law_place : Stmt := topS 26
abbrev s_law_string : Stmt := topS 27
abbrev s_law_whole : Stmt := topS 28
abbrev s_law_ratio : Stmt := topS 29
abbrev s_law_is_place : Stmt := topS 30
abbrev s_law_fault : Stmt := topS 31
abbrev s_law_told : Stmt := topS 32
abbrev s_law_odd : Stmt := topS 33
abbrev s_law_pairs_right : Stmt := topS 34
abbrev s_law : Stmt := topS 35
theorem sc_is_whole : FnScope ["thing"] ["thing"] (defScope s_is_whole) := ⟨rfl, rfl, rfl, by decide +kernel, rfl, by decide +kernel, by decide +kernel⟩
theorem sc_common : FnScope ["one", "other"] ["one", "other"] (defScope s_common) := ⟨rfl, rfl, rfl, by decide +kernel, rfl, by decide +kernel, by decide +kernel⟩
theorem sc_is_ratio : FnScope ["thing"] ["thing"] (defScope s_is_ratio) := ⟨rfl, rfl, rfl, by decide +kernel, rfl, by decide +kernel, by decide +kernel⟩
theorem sc_under : FnScope ["one", "other"] ["one", "other"] (defScope s_under) := ⟨rfl, rfl, rfl, by decide +kernel, rfl, by decide +kernel, by decide +kernel⟩
theorem sc_are_rooms : FnScope ["thing", "room"] ["thing"] (defScope s_are_rooms) := ⟨rfl, rfl, rfl, by decide +kernel, rfl, by decide +kernel, by decide +kernel⟩
theorem sc_is_place : FnScope ["string", "thing", "ring", "place"] ["string", "thing"] (defScope s_is_place) := ⟨rfl, rfl, rfl, by decide +kernel, rfl, by decide +kernel, by decide +kernel⟩
theorem sc_is_hung : FnScope ["ahead", "thing"] ["ahead", "thing"] (defScope s_is_hung) := ⟨rfl, rfl, rfl, by decide +kernel, rfl, by decide +kernel, by decide +kernel⟩
theorem sc_look_at_string : FnScope ["thing", "number", "ring"] ["thing"] (defScope s_look_at_string) := ⟨rfl, rfl, rfl, by decide +kernel, rfl, by decide +kernel, by decide +kernel⟩
theorem sc_law_begun : FnScope ["_law_script", "_law_k", "_law_cell"] ["_law_script", "_law_k"] (defScope s_law_begun) := ⟨rfl, rfl, rfl, by decide +kernel, rfl, by decide +kernel, by decide +kernel⟩
theorem sc_law_take : FnScope ["_law_state", "_law_many", "_law_digit", "_law_drawn", "_law_turn"] ["_law_state", "_law_many"] (defScope s_law_take) := ⟨rfl, rfl, rfl, by decide +kernel, rfl, by decide +kernel, by decide +kernel⟩
theorem sc_law_low : FnScope ["_law_top", "_law_bottom", "_law_one", "_law_share"] ["_law_top", "_law_bottom"] (defScope s_law_low) := ⟨rfl, rfl, rfl, by decide +kernel, rfl, by decide +kernel, by decide +kernel⟩
theorem sc_law_amount : FnScope ["_law_state", "_law_least", "_law_kind", "_law_bottom", "_law_top"] ["_law_state", "_law_least", "_law_kind"] (defScope s_law_amount) := ⟨rfl, rfl, rfl, by decide +kernel, rfl, by decide +kernel, by decide +kernel⟩
theorem sc_law_place : FnScope ["_law_state", "_law_string_here", "_law_ring"] ["_law_state", "_law_string_here"] (defScope s_law_place) := ⟨rfl, rfl, rfl, by decide +kernel, rfl, by decide +kernel, by decide +kernel⟩
theorem sc_law_string : FnScope ["_law_state", "_law_most", "_law_places", "_law_string_here", "_law_shape", "_law_k", "_law_kind", "_law_rooms", "_law_at", "_law_tie"] ["_law_state", "_law_most", "_law_places"] (defScope s_law_string) := ⟨rfl, rfl, rfl, by decide +kernel, rfl, by decide +kernel, by decide +kernel⟩
theorem sc_law_whole : FnScope ["_law_thing"] ["_law_thing"] (defScope s_law_whole) := ⟨rfl, rfl, rfl, by decide +kernel, rfl, by decide +kernel, by decide +kernel⟩
theorem sc_law_ratio : FnScope ["_law_thing"] ["_law_thing"] (defScope s_law_ratio) := ⟨rfl, rfl, rfl, by decide +kernel, rfl, by decide +kernel, by decide +kernel⟩
theorem sc_law_is_place : FnScope ["_law_string_here", "_law_thing"] ["_law_string_here", "_law_thing"] (defScope s_law_is_place) := ⟨rfl, rfl, rfl, by decide +kernel, rfl, by decide +kernel, by decide +kernel⟩
theorem sc_law_fault : FnScope ["_law_thing", "_law_k", "_law_one", "_law_room"] ["_law_thing"] (defScope s_law_fault) := ⟨rfl, rfl, rfl, by decide +kernel, rfl, by decide +kernel, by decide +kernel⟩
theorem sc_law_told : FnScope ["_law_thing", "_law_caught", "_law_told_here", "e"] ["_law_thing"] (defScope s_law_told) := ⟨rfl, rfl, rfl, by decide +kernel, rfl, by decide +kernel, by decide +kernel⟩
theorem sc_law_odd : FnScope ["_law_state", "_law_string_here", "_law_at", "_law_rooms", "_law_hung", "_law_way", "_law_some", "_law_odd_here", "_law_tie", "_law_ahead"] ["_law_state", "_law_string_here"] (defScope s_law_odd) := ⟨rfl, rfl, rfl, by decide +kernel, rfl, by decide +kernel, by decide +kernel⟩
theorem sc_law_pairs_right : FnScope ["_law_state", "_law_string_here", "_law_turn", "_law_ring", "_law_place_here", "_law_odd_here", "_law_thing", "_law_told_here"] ["_law_state", "_law_string_here"] (defScope s_law_pairs_right) := ⟨rfl, rfl, rfl, by decide +kernel, rfl, by decide +kernel, by decide +kernel⟩
theorem sc_law : FnScope ["_law_script", "_law_string_here", "_law_shown", "_law_k", "_law_thing", "_law_kept"] ["_law_script"] (defScope s_law) := ⟨rfl, rfl, rfl, by decide +kernel, rfl, by decide +kernel, by decide +kernel⟩
abbrev v_MOST_PLACES : V := .int 12
abbrev v_MOST_RINGS : V := .int 6
abbrev s_NoString_ini : Stmt := clsS (topS 3) 0
theorem sc_NoString_ini : FnScope ["self", "number"] ["self", "number"] (defScope s_NoString_ini) := ⟨rfl, rfl, rfl, by decide +kernel, rfl, by decide +kernel, by decide +kernel⟩
abbrev xnL : List Str := ["NoString", "TooMany", "NoRing", "NoPlace", "NoName", "LoadError"]
structure Defs (K : PySem.W.Frag) (mg : Str → Option Value) : Prop where
  d_is_whole : Std K mg "is_whole" s_is_whole ["thing"]
  d_common : Std K mg "common" s_common ["one", "other"]
  d_is_ratio : Std K mg "is_ratio" s_is_ratio ["thing"]
  d_under : Std K mg "under" s_under ["one", "other"]
  d_are_rooms : Std K mg "are_rooms" s_are_rooms ["thing"]
  d_is_place : Std K mg "is_place" s_is_place ["string", "thing"]
  d_is_hung : Std K mg "is_hung" s_is_hung ["ahead", "thing"]
  d_look_at_string : Std K mg "look_at_string" s_look_at_string ["thing"]
  d_law_begun : Std K mg "_law_begun" s_law_begun ["_law_script", "_law_k"]
  d_law_take : Std K mg "_law_take" s_law_take ["_law_state", "_law_many"]
  d_law_low : Std K mg "_law_low" s_law_low ["_law_top", "_law_bottom"]
  d_law_amount : Std K mg "_law_amount" s_law_amount ["_law_state", "_law_least", "_law_kind"]
  d_law_place : Std K mg "_law_place" s_law_place ["_law_state", "_law_string_here"]
  d_law_string : Std K mg "_law_string" s_law_string ["_law_state", "_law_most", "_law_places"]
  d_law_whole : Std K mg "_law_whole" s_law_whole ["_law_thing"]
  d_law_ratio : Std K mg "_law_ratio" s_law_ratio ["_law_thing"]
  d_law_is_place : Std K mg "_law_is_place" s_law_is_place ["_law_string_here", "_law_thing"]
  d_law_fault : Std K mg "_law_fault" s_law_fault ["_law_thing"]
  d_law_told : Std K mg "_law_told" s_law_told ["_law_thing"]
  d_law_odd : Std K mg "_law_odd" s_law_odd ["_law_state", "_law_string_here"]
  d_law_pairs_right : Std K mg "_law_pairs_right" s_law_pairs_right ["_law_state", "_law_string_here"]
  b_ValueError : mg "ValueError" = none
  b_abs : mg "abs" = none
  b_all : mg "all" = none
  b_bool : mg "bool" = none
  b_enumerate : mg "enumerate" = none
  b_int : mg "int" = none
  b_isinstance : mg "isinstance" = none
  b_len : mg "len" = none
  b_list : mg "list" = none
  b_max : mg "max" = none
  b_min : mg "min" = none
  b_range : mg "range" = none
  b_repr : mg "repr" = none
  b_tuple : mg "tuple" = none
  g_NOUGHT : ∃ p, mg "NOUGHT" = some (.ref p) ∧ ∀ H, SqT K H p [.int 0, .int 1]
  g_MOST_PLACES : ∃ u, mg "MOST_PLACES" = some u ∧ RelV v_MOST_PLACES u
  g_MOST_RINGS : ∃ u, mg "MOST_RINGS" = some u ∧ RelV v_MOST_RINGS u
  m_NoString : mg "NoString" = some (.ref (He.ga K "NoString"))
  m_TooMany : mg "TooMany" = some (.ref (He.ga K "TooMany"))
  m_NoRing : mg "NoRing" = some (.ref (He.ga K "NoRing"))
  m_NoPlace : mg "NoPlace" = some (.ref (He.ga K "NoPlace"))
  m_NoName : mg "NoName" = some (.ref (He.ga K "NoName"))
  m_LoadError : mg "LoadError" = some (.ref (He.ga K "LoadError"))
  i_NoString : StdI K "NoString" "NoString.__init__" s_NoString_ini ["self", "number"]
  f_NoString_number : PySem.W.findIn K (.ref (He.ga K "NoString")) "number" = some none
  le : LeK K "LoadError"
  xs : Xs K xnL
  sy : SysD K
/-! ### the head -/
def dd_is_whole : He.DefD := ⟨("is_whole", none), "is_whole", "is_whole", defArgs s_is_whole, defBody s_is_whole, defScope s_is_whole, [], []⟩
def dd_common : He.DefD := ⟨("common", none), "common", "common", defArgs s_common, defBody s_common, defScope s_common, [], []⟩
def dd_is_ratio : He.DefD := ⟨("is_ratio", none), "is_ratio", "is_ratio", defArgs s_is_ratio, defBody s_is_ratio, defScope s_is_ratio, [], []⟩
def dd_under : He.DefD := ⟨("under", none), "under", "under", defArgs s_under, defBody s_under, defScope s_under, [], []⟩
def dd_are_rooms : He.DefD := ⟨("are_rooms", none), "are_rooms", "are_rooms", defArgs s_are_rooms, defBody s_are_rooms, defScope s_are_rooms, [], []⟩
def dd_is_place : He.DefD := ⟨("is_place", none), "is_place", "is_place", defArgs s_is_place, defBody s_is_place, defScope s_is_place, [], []⟩
def dd_is_hung : He.DefD := ⟨("is_hung", none), "is_hung", "is_hung", defArgs s_is_hung, defBody s_is_hung, defScope s_is_hung, [], []⟩
def dd_look_at_string : He.DefD := ⟨("look_at_string", none), "look_at_string", "look_at_string", defArgs s_look_at_string, defBody s_look_at_string, defScope s_look_at_string, [], []⟩
def dd_law_begun : He.DefD := ⟨("_law_begun", none), "_law_begun", "_law_begun", defArgs s_law_begun, defBody s_law_begun, defScope s_law_begun, [], []⟩
def dd_law_take : He.DefD := ⟨("_law_take", none), "_law_take", "_law_take", defArgs s_law_take, defBody s_law_take, defScope s_law_take, [], []⟩
def dd_law_low : He.DefD := ⟨("_law_low", none), "_law_low", "_law_low", defArgs s_law_low, defBody s_law_low, defScope s_law_low, [], []⟩
def dd_law_amount : He.DefD := ⟨("_law_amount", none), "_law_amount", "_law_amount", defArgs s_law_amount, defBody s_law_amount, defScope s_law_amount, [], []⟩
def dd_law_place : He.DefD := ⟨("_law_place", none), "_law_place", "_law_place", defArgs s_law_place, defBody s_law_place, defScope s_law_place, [], []⟩
def dd_law_string : He.DefD := ⟨("_law_string", none), "_law_string", "_law_string", defArgs s_law_string, defBody s_law_string, defScope s_law_string, [], []⟩
def dd_law_whole : He.DefD := ⟨("_law_whole", none), "_law_whole", "_law_whole", defArgs s_law_whole, defBody s_law_whole, defScope s_law_whole, [], []⟩
def dd_law_ratio : He.DefD := ⟨("_law_ratio", none), "_law_ratio", "_law_ratio", defArgs s_law_ratio, defBody s_law_ratio, defScope s_law_ratio, [], []⟩
def dd_law_is_place : He.DefD := ⟨("_law_is_place", none), "_law_is_place", "_law_is_place", defArgs s_law_is_place, defBody s_law_is_place, defScope s_law_is_place, [], []⟩
def dd_law_fault : He.DefD := ⟨("_law_fault", none), "_law_fault", "_law_fault", defArgs s_law_fault, defBody s_law_fault, defScope s_law_fault, [], []⟩
def dd_law_told : He.DefD := ⟨("_law_told", none), "_law_told", "_law_told", defArgs s_law_told, defBody s_law_told, defScope s_law_told, [], []⟩
def dd_law_odd : He.DefD := ⟨("_law_odd", none), "_law_odd", "_law_odd", defArgs s_law_odd, defBody s_law_odd, defScope s_law_odd, [], []⟩
def dd_law_pairs_right : He.DefD := ⟨("_law_pairs_right", none), "_law_pairs_right", "_law_pairs_right", defArgs s_law_pairs_right, defBody s_law_pairs_right, defScope s_law_pairs_right, [], []⟩
def dd_law : He.DefD := ⟨("law", none), "law", "law", defArgs s_law, defBody s_law, defScope s_law, [], []⟩
def di_NoString : He.DefD := ⟨("NoString", some "__init__"), "__init__", "NoString.__init__", defArgs s_NoString_ini, defBody s_NoString_ini, defScope s_NoString_ini, [], []⟩
def fnL : List He.DefD := [dd_is_whole, dd_common, dd_is_ratio, dd_under, dd_are_rooms, dd_is_place, dd_is_hung, dd_look_at_string, dd_law_begun, dd_law_take, dd_law_low, dd_law_amount, dd_law_place, dd_law_string, dd_law_whole, dd_law_ratio, dd_law_is_place, dd_law_fault, dd_law_told, dd_law_odd, dd_law_pairs_right, dd_law, di_NoString]
def faL : List He.Fa := [.glo "is_whole", .glo "common", .glo "is_ratio", .glo "under", .glo "are_rooms", .glo "is_place", .glo "is_hung", .glo "look_at_string", .glo "_law_begun", .glo "_law_take", .glo "_law_low", .glo "_law_amount", .glo "_law_place", .glo "_law_string", .glo "_law_whole", .glo "_law_ratio", .glo "_law_is_place", .glo "_law_fault", .glo "_law_told", .glo "_law_odd", .glo "_law_pairs_right", .glo "law", .free "ValueError", .free "abs", .free "all", .free "bool", .free "enumerate", .free "int", .free "isinstance", .free "len", .free "list", .free "max", .free "min", .free "range", .free "repr", .free "tuple", .glo "NOUGHT", .int "MOST_PLACES" (12), .int "MOST_RINGS" (6), .glo "NoString", .glo "TooMany", .glo "NoRing", .glo "NoPlace", .glo "NoName", .glo "LoadError"]
def exL (K : PySem.W.Frag) : Bool := (He.tupB K "NOUGHT" [.int 0, .int 1]) && (iniB K "NoString") && (decide (PySem.W.findIn K (.ref (He.ga K "NoString")) "number" = some none)) && (leB K "LoadError") && (allB K xnL) && (syB K)
abbrev RW : PySem.W.OpenRow := PySem.W.OpenLaw.row PySem.Challenge.rw_ringloads_k68_what_is_a_string
abbrev hk : PySem.W.Hook := He.hookT 4 faL fnL exL
def ob (s : PySem.W.SharedT) : He.AlD × Bool := He.obsT 4 faL fnL exL (HandSHeadRun.getT s)
theorem ob_eq (s : PySem.W.SharedT) : ob s = hk.obs s.abs := He.obsT_eq (HandSHeadRun.getT_eq s)
def loose : List PySem.Str := ["LoadError", "NoRing", "NoString", "TooMany", "NoPlace", "NoName", "is_whole", "common", "is_ratio", "under", "NOUGHT", "MOST_RINGS", "MOST_PLACES", "are_rooms", "is_place", "is_hung", "look_at_string", "_law_begun", "_law_take", "_law_low", "_law_amount", "_law_place", "_law_string", "_law_whole", "_law_ratio", "_law_is_place", "_law_fault", "_law_told", "_law_odd", "_law_pairs_right"]
theorem run (w : World) : HandSHeadRun.RunEq RW (PySem.W.view RW.prog [35]) hk ob 6000 loose w := by
  intro os
  kernel_rfl
section
variable {P : Program} {w : World} {K : PySem.W.Frag} {mg : Str → Option Value} {base : Heap}
theorem ki_NoString (D : Defs K mg) : CalI P w K mg base "NoString" ["number"] ["self", "number"] := by
  refine ini_ok D.i_NoString sc_NoString_ini rfl (fun f cdv A outer s H => ⟨_, (pss_cons (ps_expr (pe_leinit (by rfl) D.m_LoadError D.le (pa_cons (pv 0) (pa_cons pe_str pa_nil)))) (pss_one (ps_ost (pv 0) (pv 1)))), fun vs H Q E h => read_i1 D.f_NoString_number h⟩)
set_option hygiene false in
local macro_rules | `(tactic| walk_at "fl") => `(tactic| first
  | fail)
set_option hygiene false in
local macro_rules | `(tactic| walk_at "fs") => `(tactic| first
  | fail)
set_option hygiene false in
local macro_rules | `(tactic| walk_at "fg") => `(tactic| first
  | fail)
local macro_rules | `(tactic| walk_at "sm") => `(tactic| repeat (first | exact sms_nil | refine sms_cons ?_ ?_ | exact sm_b _ | exact sm_n | exact sm_k _ | exact sm_i (by decide) | exact sm_s (by decide +kernel) (by decide +kernel) | (refine sm_t ?_ (by decide)) | (refine sm_l ?_ (by decide))))
/-! ### steps of a reading -/
local macro_rules | `(tactic| walk_at "sd") => `(tactic| first | assumption | exact mulW (a := 80) (b := 80) (by omega) (by omega) (by omega) | exact ⟨by decide, by decide, by decide⟩ | exact divC (by omega) (by omega) | decide | omega)
local macro_rules | `(tactic| walk_at "isi") => `(tactic| first
  | with_reducible refine' n_isi_int_int ?_
  | with_reducible refine' n_isi_int_bool ?_
  | with_reducible refine' n_isi_int_str ?_
  | with_reducible refine' n_isi_int_tuple ?_
  | with_reducible refine' n_isi_int_list ?_
  | with_reducible refine' n_isi_bool_int ?_
  | with_reducible refine' n_isi_bool_bool ?_
  | with_reducible refine' n_isi_bool_str ?_
  | with_reducible refine' n_isi_bool_tuple ?_
  | with_reducible refine' n_isi_bool_list ?_
  | with_reducible refine' n_isi_str_int ?_
  | with_reducible refine' n_isi_str_bool ?_
  | with_reducible refine' n_isi_str_str ?_
  | with_reducible refine' n_isi_str_tuple ?_
  | with_reducible refine' n_isi_str_list ?_
  | with_reducible refine' n_isi_NoneType_int ?_
  | with_reducible refine' n_isi_NoneType_bool ?_
  | with_reducible refine' n_isi_NoneType_str ?_
  | with_reducible refine' n_isi_NoneType_tuple ?_
  | with_reducible refine' n_isi_NoneType_list ?_
  | with_reducible refine' n_isi_tuple_int ?_
  | with_reducible refine' n_isi_tuple_bool ?_
  | with_reducible refine' n_isi_tuple_str ?_
  | with_reducible refine' n_isi_tuple_tuple ?_
  | with_reducible refine' n_isi_tuple_list ?_
  | with_reducible refine' n_isi_list_int ?_
  | with_reducible refine' n_isi_list_bool ?_
  | with_reducible refine' n_isi_list_str ?_
  | with_reducible refine' n_isi_list_tuple ?_
  | with_reducible refine' n_isi_list_list ?_
  | with_reducible refine' n_isi_dict_int ?_
  | with_reducible refine' n_isi_dict_bool ?_
  | with_reducible refine' n_isi_dict_str ?_
  | with_reducible refine' n_isi_dict_tuple ?_
  | with_reducible refine' n_isi_dict_list ?_)
local macro_rules | `(tactic| walk_at "isx") => `(tactic| first
  | ((with_reducible refine' n_isX (b := false) (by assumption) ?a ?b ?c ?_); (case a => decide +kernel); (case b => decide +kernel); (case c => decide +kernel))
  | ((with_reducible refine' n_isX (b := true) (by assumption) ?a ?b ?c ?_); (case a => decide +kernel); (case b => decide +kernel); (case c => decide +kernel))
  | ((with_reducible refine' n_isXv (by assumption) ?a ?_); (case a => decide +kernel))
  | ((with_reducible refine' n_isN (by assumption) ?a ?_); (case a => decide +kernel))
  | with_reducible refine' n_isNv ?_)
local macro_rules | `(tactic| walk_at "isxt") => `(tactic| first
  | with_reducible refine ⟨_, _, _, false, rfl, (.cons (.cons ClsL.nil)), by decide +kernel, by decide +kernel, by decide +kernel, by decide +kernel, ?_⟩
  | with_reducible refine ⟨_, _, _, true, rfl, (.cons (.cons ClsL.nil)), by decide +kernel, by decide +kernel, by decide +kernel, by decide +kernel, ?_⟩
  | with_reducible refine ⟨_, _, _, false, rfl, (.cons (.cons (.cons ClsL.nil))), by decide +kernel, by decide +kernel, by decide +kernel, by decide +kernel, ?_⟩
  | with_reducible refine ⟨_, _, _, true, rfl, (.cons (.cons (.cons ClsL.nil))), by decide +kernel, by decide +kernel, by decide +kernel, by decide +kernel, ?_⟩
  | with_reducible refine ⟨_, _, _, false, rfl, (.cons (.cons (.cons (.cons ClsL.nil)))), by decide +kernel, by decide +kernel, by decide +kernel, by decide +kernel, ?_⟩
  | with_reducible refine ⟨_, _, _, true, rfl, (.cons (.cons (.cons (.cons ClsL.nil)))), by decide +kernel, by decide +kernel, by decide +kernel, by decide +kernel, ?_⟩
  | with_reducible refine ⟨_, _, _, false, rfl, (.cons (.cons (.cons (.cons (.cons ClsL.nil))))), by decide +kernel, by decide +kernel, by decide +kernel, by decide +kernel, ?_⟩
  | with_reducible refine ⟨_, _, _, true, rfl, (.cons (.cons (.cons (.cons (.cons ClsL.nil))))), by decide +kernel, by decide +kernel, by decide +kernel, by decide +kernel, ?_⟩
  | with_reducible refine ⟨_, _, _, false, rfl, (.cons (.cons (.cons (.cons (.cons (.cons ClsL.nil)))))), by decide +kernel, by decide +kernel, by decide +kernel, by decide +kernel, ?_⟩
  | with_reducible refine ⟨_, _, _, true, rfl, (.cons (.cons (.cons (.cons (.cons (.cons ClsL.nil)))))), by decide +kernel, by decide +kernel, by decide +kernel, by decide +kernel, ?_⟩
  | with_reducible refine ⟨_, _, _, false, rfl, (.cons (.cons (.cons (.cons (.cons (.cons (.cons (.cons ClsL.nil)))))))), by decide +kernel, by decide +kernel, by decide +kernel, by decide +kernel, ?_⟩
  | with_reducible refine ⟨_, _, _, true, rfl, (.cons (.cons (.cons (.cons (.cons (.cons (.cons (.cons ClsL.nil)))))))), by decide +kernel, by decide +kernel, by decide +kernel, by decide +kernel, ?_⟩
  | with_reducible refine ⟨_, _, _, false, rfl, (.cons (.cons (.cons (.cons (.cons (.cons (.cons (.cons (.cons (.cons (.cons ClsL.nil))))))))))), by decide +kernel, by decide +kernel, by decide +kernel, by decide +kernel, ?_⟩
  | with_reducible refine ⟨_, _, _, true, rfl, (.cons (.cons (.cons (.cons (.cons (.cons (.cons (.cons (.cons (.cons (.cons ClsL.nil))))))))))), by decide +kernel, by decide +kernel, by decide +kernel, by decide +kernel, ?_⟩)
local macro_rules | `(tactic| walk_at "ge") => `(tactic| first
  | ((with_reducible refine' ge_var ?hv ?_); (case hv => exact rfl))
  | with_reducible refine' ge_c ?_
  | with_reducible refine' ge_d0 ?_
  | ((with_reducible refine' ge_d1 (key := .inl _) ?hv ?_); (case hv => exact rfl))
  | ((with_reducible refine' ge_d1 (key := .inr _) ?hv ?_); (case hv => exact rfl))
  | ((with_reducible refine' ge_d2 (k1 := .inr _) (k2 := .inr _) ?hv ?hw ?_); (case hv => exact rfl); (case hw => exact rfl))
  | with_reducible refine' ge_dgetO ⟨_, _, rfl⟩ ?_
  | with_reducible refine' ge_dget ?_
  | with_reducible refine' ge_din ?_
  | with_reducible refine' ge_dnin ?_
  | ((with_reducible refine' ge_dfzV ?hv ?_); (case hv => exact rfl))
  | ((with_reducible refine' ge_tK ?hv ?_); (case hv => assumption))
  | (with_reducible refine' ge_ixO ?_ ⟨_, _, rfl⟩)
  | ((with_reducible refine' ge_lenO ?hv ?_); (case hv => exact rfl))
  | ((with_reducible refine' ge_fz ?hv ?_); (case hv => exact rfl))
  | (with_reducible refine' ge_popAt ⟨_, _, rfl⟩ ?_)
  | with_reducible refine' ge_eqNilO ⟨_, _, rfl, ?_⟩
  | with_reducible refine' ge_neNilO ⟨_, _, rfl, ?_⟩
  | with_reducible refine' ge_op ?_
  | with_reducible refine' ge_un ?_
  | with_reducible refine' ge_tup ?_
  | with_reducible refine' ge_callM ⟨_, _, rfl⟩ ?_
  | with_reducible refine' ge_callMO (go_call ?_)
  | with_reducible refine' ge_call ?_
  | with_reducible refine' ge_callL1 ?_
  | with_reducible refine' ge_callL2 ?_
  | with_reducible refine' ge_callLT1 ?_
  | with_reducible refine' ge_callQ21 ?_
  | with_reducible refine' ge_callN ?_
  | with_reducible refine' ge_isiT ?_
  | with_reducible refine' ge_isXT (by assumption) ?_
  | with_reducible refine' ge_callE sx0 ?_
  | with_reducible refine' ge_gr (gr_self sx0 ⟨_, _, _, _, rfl, by decide +kernel⟩ ?_)
  | with_reducible refine' ge_gr (gr_self (by assumption) ⟨_, _, _, _, rfl, by decide +kernel⟩ ?_)
  | with_reducible refine' ge_gr (gr_callF ⟨_, _, rfl, rfl⟩ ?_)
  | with_reducible refine' ge_fldV ?_
  | with_reducible refine' ge_callE (by assumption) ?_
  | with_reducible refine' ge_fx (by assumption) ?_
  | with_reducible refine' ge_lenSet ?_
  | with_reducible refine' ge_cb ?_
  | with_reducible refine' ge_lst ?_
  | with_reducible refine' ge_of_go (go_listOf ?_)
  | with_reducible refine' ge_of_go (go_lrange ?_)
  | with_reducible refine' ge_of_go (go_spl ?_)
  | with_reducible refine' ge_of_go (go_lrange2 ?_)
  | with_reducible refine' ge_indexL ?_
  | with_reducible refine' ge_of_go (go_lrev ?_)
  | with_reducible refine' ge_sl ?_
  | with_reducible refine' ge_of_go (go_rev ?_)
  | with_reducible refine' ge_of_go (go_revT ?_)
  | with_reducible refine' ge_up ?_
  | with_reducible refine' ge_cnt ?_
  | with_reducible refine' ge_andV ?_
  | with_reducible refine' ge_orV ?_
  | with_reducible refine' ge_notV ?_
  | with_reducible refine' ge_chain ?_
  | with_reducible refine' ge_chain3 ?_
  | with_reducible refine' ge_if ?_
  | with_reducible refine' ge_join ?_)
local macro_rules | `(tactic| walk_at "ga") => `(tactic| first
  | with_reducible refine' ga_nil ?_
  | with_reducible refine' ga_cons ?_
  | with_reducible refine' gi_list ?_
  | with_reducible refine' gi_tup ?_
  | with_reducible refine' gi_rng1 ?_
  | with_reducible refine' gi_rng2 ?_
  | with_reducible refine' gi_rng3 ?_
  | with_reducible refine' gi_str ?_
  | with_reducible refine' gi_enum ?_
  | with_reducible refine' gi_enumT ?_
  | with_reducible refine' gi_keys ?_
  | with_reducible refine' gi_zip ?_
  | with_reducible refine' gi_zipA ?_
  | with_reducible refine' gi_zip3 ?_
  | with_reducible refine' gp_no ?_
  | with_reducible refine' gp_some ?_
  | with_reducible refine' slo_L ?_
  | with_reducible refine' slo_T ?_)
local macro_rules | `(tactic| walk_at "o2") => `(tactic| first
  | with_reducible refine' o_add ?_
  | with_reducible refine' o_sub ?_
  | with_reducible refine' o_neg ?_
  | with_reducible refine' o_lt ?_
  | with_reducible refine' o_leS ?_
  | with_reducible refine' o_le ?_
  | with_reducible refine' o_gt ?_
  | with_reducible refine' o_ge ?_
  | with_reducible refine' o_eqi ?_
  | with_reducible refine' o_nei ?_
  | with_reducible refine' o_eqs ?_
  | with_reducible refine' o_nes ?_
  | with_reducible refine' o_eqb ?_
  | with_reducible refine' o_neb ?_
  | ((with_reducible refine' o_mod ?c ?_); (case c => walk_at "sd"))
  | ((with_reducible refine' o_fdiv ?c ?_); (case c => walk_at "sd"))
  | ((with_reducible refine' o_mul ?c ?_); (case c => walk_at "sd"))
  | ((with_reducible refine' o_pow ?c ?_); (case c => walk_at "sd"))
  | with_reducible refine' o_in1 ?_
  | with_reducible refine' o_isN ?_
  | with_reducible refine' o_isBl ?_
  | with_reducible refine' o_ntBl ?_
  | with_reducible refine' o_notN ?_
  | with_reducible refine' o_isX ?_
  | with_reducible refine' o_notX ?_
  | with_reducible refine' o_isT ?_
  | with_reducible refine' o_notT ?_
  | with_reducible refine' o_isL ?_
  | with_reducible refine' o_notL ?_
  | with_reducible refine' o_isK ?_
  | with_reducible refine' o_notK ?_
  | ((with_reducible refine' o_cat ?c ?_); (case c => walk_at "sd"))
  | with_reducible refine' o_eqF ?_
  | with_reducible refine' o_neF ?_
  | with_reducible refine' o_eqFs ?_
  | with_reducible refine' o_neFs ?_
  | ((with_reducible refine' o_ixT ?hv ?_); (case hv => exact rfl))
  | with_reducible refine' o_ixT (atI_0 _ _) ?_
  | with_reducible refine' o_ixT (atI_1 _ _ _) ?_
  | with_reducible refine' o_ixT (atI_2 _ _ _ _) ?_)
local macro_rules | `(tactic| walk_at "on") => `(tactic| first
  | with_reducible refine' n_abs ?_
  | walk_at "isi"
  | walk_at "isx"
  | with_reducible refine' n_lenL ?_
  | with_reducible refine' n_lenC ?_
  | with_reducible refine' n_lenT ?_
  | with_reducible refine' n_tupOf ?_
  | with_reducible refine' n_listL ?_
  | with_reducible refine' n_listT ?_
  | with_reducible refine' n_min ?_
  | with_reducible refine' n_minT ?_
  | with_reducible refine' n_max ?_
  | with_reducible refine' n_intB ?_)
local macro_rules | `(tactic| walk_at "t1") => `(tactic| first
  | with_reducible refine' gt_test ?_
  | with_reducible refine' gt_tr ?_
  | with_reducible refine' gt_B ?_
  | with_reducible refine' gt_not ?_
  | with_reducible refine' gt_and ?_
  | with_reducible refine' gt_or ?_
  | with_reducible refine' gt_yes ?_)
local macro_rules | `(tactic| walk_at "nx") => `(tactic| ((with_reducible refine' nx_in ?n ?_); (case n => repeat (first | apply Nrm.cons rfl | exact Nrm.nil rfl))))
local macro_rules | `(tactic| walk_at "gg") => `(tactic| first
  | with_reducible refine' gg_name ?_
  | walk_at "fg"
  | with_reducible refine' gg_setD ?_ ⟨_, _, rfl⟩
  | with_reducible refine' gg_setO ⟨_, _, rfl⟩ ?_
  | ((with_reducible refine' gg_tup ?hv ?_); (case hv => exact rfl))
  | ((with_reducible refine' gg_lst ?hv ?_); (case hv => exact rfl))
  | with_reducible refine' ggs_cons ?_
  | with_reducible refine' ggs_nil ?_)
local macro_rules | `(tactic| walk_at "s1") => `(tactic| first
  | with_reducible refine' gs_seq ?_
  | with_reducible refine' gs_next ?_
  | with_reducible refine' gs_setLc ?_
  | with_reducible refine' gs_setDC ?_
  | with_reducible refine' gs_setD3s ?_
  | with_reducible refine' gs_setO (go_lst ?_)
  | with_reducible refine' gs_setO (go_slice ?_)
  | with_reducible refine' gs_setO (go_rev ?_)
  | with_reducible refine' gs_setO (go_listOf ?_)
  | with_reducible refine' gs_setO (go_lrange ?_)
  | with_reducible refine' gs_setO (go_rep (ta := tLst _) ?_)
  | with_reducible refine' gs_setO (go_lrev ?_)
  | with_reducible refine' gs_setO (go_spl ?_)
  | with_reducible refine' gs_setCall ?_
  | with_reducible refine' gs_setCallN ?_
  | with_reducible refine' gs_setCallE sx0 ?_
  | with_reducible refine' gs_setR (gr_self sx0 ⟨_, _, _, _, rfl, by decide +kernel⟩ ?_)
  | with_reducible refine' gs_setR (gr_self (by assumption) ⟨_, _, _, _, rfl, by decide +kernel⟩ ?_)
  | with_reducible refine' gs_setR (gr_callF ⟨_, _, rfl, rfl⟩ ?_)
  | with_reducible refine' gs_dropR (gr_self sx0 ⟨_, _, _, _, rfl, by decide +kernel⟩ ?_)
  | with_reducible refine' gs_dropR (gr_self (by assumption) ⟨_, _, _, _, rfl, by decide +kernel⟩ ?_)
  | with_reducible refine' gs_dropR (gr_callF ⟨_, _, rfl, rfl⟩ ?_)
  | with_reducible refine' gs_setR (gr_make sx0 ?_)
  | with_reducible refine' gs_setR (gr_make (by assumption) ?_)
  | walk_at "fs"
  | with_reducible refine' gs_setCallE (by assumption) ?_
  | with_reducible refine' gs_dropCallE sx0 ?_
  | with_reducible refine' gs_dropCallE (by assumption) ?_
  | with_reducible refine' gs_raise (by assumption) ?_
  | with_reducible refine' gs_raiseFX (by assumption) (by assumption) (by decide +kernel) ?_
  | with_reducible refine' gs_set ?_
  | ((with_reducible refine' gs_retV ?hv ?_); (case hv => exact rfl))
  | with_reducible refine' gs_retLc ?_
  | with_reducible refine' gs_retO (go_lst ?_)
  | with_reducible refine' gs_retO (go_listOf ?_)
  | with_reducible refine' gs_retCall ?_
  | with_reducible refine' gs_retCallN ?_
  | with_reducible refine' gs_retCallE sx0 ?_
  | with_reducible refine' gs_retR (gr_self sx0 ⟨_, _, _, _, rfl, by decide +kernel⟩ ?_)
  | with_reducible refine' gs_retR (gr_self (by assumption) ⟨_, _, _, _, rfl, by decide +kernel⟩ ?_)
  | with_reducible refine' gs_retR (gr_callF ⟨_, _, rfl, rfl⟩ ?_)
  | with_reducible refine' gs_retR (gr_make sx0 ?_)
  | with_reducible refine' gs_retR (gr_make (by assumption) ?_)
  | with_reducible refine' gs_retCallE (by assumption) ?_
  | with_reducible refine' gs_ret ?_
  | with_reducible refine' gs_retN ?_
  | with_reducible refine' gs_if ?_
  | with_reducible refine' gs_par ?_
  | with_reducible refine' gs_par3 ?_
  | with_reducible refine' gs_append ⟨_, _, rfl⟩ ?_
  | with_reducible refine' gs_clear ⟨_, _, rfl, ?_⟩
  | with_reducible refine' gs_reverse ⟨_, _, rfl, ?_⟩
  | with_reducible refine' gs_drop ?_
  | with_reducible refine' gs_asg ?_
  | with_reducible refine' gs_brk ?_
  | with_reducible refine' gs_cont ?_
  | ((with_reducible refine' gs_aug ?hv ?_); (case hv => exact rfl)))
local macro_rules | `(tactic| walk_at "s0") => `(tactic| first
  | with_reducible refine' gs_seqA ?_
  | with_reducible refine' gs_seqD ?_
  | with_reducible refine' gs_seqF ?_
  | with_reducible refine' gs_seqP ?_
  | with_reducible refine' gs_seqU ?_
  | with_reducible refine' gs_next ?_
  | with_reducible refine' gs_setLc ?_
  | with_reducible refine' gs_setDC ?_
  | with_reducible refine' gs_setD3s ?_
  | with_reducible refine' gs_setO (go_lst ?_)
  | with_reducible refine' gs_setO (go_slice ?_)
  | with_reducible refine' gs_setO (go_rev ?_)
  | with_reducible refine' gs_setO (go_listOf ?_)
  | with_reducible refine' gs_setO (go_lrange ?_)
  | with_reducible refine' gs_setO (go_rep (ta := tLst _) ?_)
  | with_reducible refine' gs_setO (go_lrev ?_)
  | with_reducible refine' gs_setO (go_spl ?_)
  | with_reducible refine' gs_setCall ?_
  | with_reducible refine' gs_setCallN ?_
  | with_reducible refine' gs_setCallE sx0 ?_
  | with_reducible refine' gs_setR (gr_self sx0 ⟨_, _, _, _, rfl, by decide +kernel⟩ ?_)
  | with_reducible refine' gs_setR (gr_self (by assumption) ⟨_, _, _, _, rfl, by decide +kernel⟩ ?_)
  | with_reducible refine' gs_setR (gr_callF ⟨_, _, rfl, rfl⟩ ?_)
  | with_reducible refine' gs_dropR (gr_self sx0 ⟨_, _, _, _, rfl, by decide +kernel⟩ ?_)
  | with_reducible refine' gs_dropR (gr_self (by assumption) ⟨_, _, _, _, rfl, by decide +kernel⟩ ?_)
  | with_reducible refine' gs_dropR (gr_callF ⟨_, _, rfl, rfl⟩ ?_)
  | with_reducible refine' gs_setR (gr_make sx0 ?_)
  | with_reducible refine' gs_setR (gr_make (by assumption) ?_)
  | walk_at "fs"
  | with_reducible refine' gs_setCallE (by assumption) ?_
  | with_reducible refine' gs_dropCallE sx0 ?_
  | with_reducible refine' gs_dropCallE (by assumption) ?_
  | with_reducible refine' gs_raise (by assumption) ?_
  | with_reducible refine' gs_raiseFX (by assumption) (by assumption) (by decide +kernel) ?_
  | with_reducible refine' gs_set ?_
  | ((with_reducible refine' gs_retV ?hv ?_); (case hv => exact rfl))
  | with_reducible refine' gs_retLc ?_
  | with_reducible refine' gs_retO (go_lst ?_)
  | with_reducible refine' gs_retO (go_listOf ?_)
  | with_reducible refine' gs_retCall ?_
  | with_reducible refine' gs_retCallN ?_
  | with_reducible refine' gs_retCallE sx0 ?_
  | with_reducible refine' gs_retR (gr_self sx0 ⟨_, _, _, _, rfl, by decide +kernel⟩ ?_)
  | with_reducible refine' gs_retR (gr_self (by assumption) ⟨_, _, _, _, rfl, by decide +kernel⟩ ?_)
  | with_reducible refine' gs_retR (gr_callF ⟨_, _, rfl, rfl⟩ ?_)
  | with_reducible refine' gs_retR (gr_make sx0 ?_)
  | with_reducible refine' gs_retR (gr_make (by assumption) ?_)
  | with_reducible refine' gs_retCallE (by assumption) ?_
  | with_reducible refine' gs_ret ?_
  | with_reducible refine' gs_retN ?_
  | with_reducible refine' gs_par ?_
  | with_reducible refine' gs_par3 ?_
  | with_reducible refine' gs_append ⟨_, _, rfl⟩ ?_
  | with_reducible refine' gs_clear ⟨_, _, rfl, ?_⟩
  | with_reducible refine' gs_reverse ⟨_, _, rfl, ?_⟩
  | with_reducible refine' gs_drop ?_
  | with_reducible refine' gs_asg ?_
  | with_reducible refine' gs_brk ?_
  | with_reducible refine' gs_cont ?_
  | ((with_reducible refine' gs_aug ?hv ?_); (case hv => exact rfl)))
local macro_rules | `(tactic| walk_at "s2") => `(tactic| first
  | with_reducible refine' gs_seqA ?_
  | with_reducible refine' gs_seqD ?_
  | with_reducible refine' gs_seqF ?_
  | with_reducible refine' gs_seqP ?_
  | with_reducible refine' gs_seqU ?_
  | with_reducible refine' gs_next ?_
  | with_reducible refine' gs_setLc ?_
  | with_reducible refine' gs_setDC ?_
  | with_reducible refine' gs_setD3s ?_
  | with_reducible refine' gs_setO (go_lst ?_)
  | with_reducible refine' gs_setO (go_slice ?_)
  | with_reducible refine' gs_setO (go_rev ?_)
  | with_reducible refine' gs_setO (go_listOf ?_)
  | with_reducible refine' gs_setO (go_lrange ?_)
  | with_reducible refine' gs_setO (go_rep (ta := tLst _) ?_)
  | with_reducible refine' gs_setO (go_lrev ?_)
  | with_reducible refine' gs_setO (go_spl ?_)
  | with_reducible refine' gs_setCall ?_
  | with_reducible refine' gs_setCallN ?_
  | with_reducible refine' gs_setCallE sx0 ?_
  | with_reducible refine' gs_setR (gr_self sx0 ⟨_, _, _, _, rfl, by decide +kernel⟩ ?_)
  | with_reducible refine' gs_setR (gr_self (by assumption) ⟨_, _, _, _, rfl, by decide +kernel⟩ ?_)
  | with_reducible refine' gs_setR (gr_callF ⟨_, _, rfl, rfl⟩ ?_)
  | with_reducible refine' gs_dropR (gr_self sx0 ⟨_, _, _, _, rfl, by decide +kernel⟩ ?_)
  | with_reducible refine' gs_dropR (gr_self (by assumption) ⟨_, _, _, _, rfl, by decide +kernel⟩ ?_)
  | with_reducible refine' gs_dropR (gr_callF ⟨_, _, rfl, rfl⟩ ?_)
  | with_reducible refine' gs_setR (gr_make sx0 ?_)
  | with_reducible refine' gs_setR (gr_make (by assumption) ?_)
  | walk_at "fs"
  | with_reducible refine' gs_setCallE (by assumption) ?_
  | with_reducible refine' gs_dropCallE sx0 ?_
  | with_reducible refine' gs_dropCallE (by assumption) ?_
  | with_reducible refine' gs_raise (by assumption) ?_
  | with_reducible refine' gs_raiseFX (by assumption) (by assumption) (by decide +kernel) ?_
  | with_reducible refine' gs_set ?_
  | with_reducible refine' gs_par ?_
  | with_reducible refine' gs_par3 ?_
  | with_reducible refine' gs_append ⟨_, _, rfl⟩ ?_
  | with_reducible refine' gs_clear ⟨_, _, rfl, ?_⟩
  | with_reducible refine' gs_reverse ⟨_, _, rfl, ?_⟩
  | with_reducible refine' gs_drop ?_
  | with_reducible refine' gs_asg ?_
  | with_reducible refine' gs_brk ?_
  | with_reducible refine' gs_cont ?_
  | ((with_reducible refine' gs_aug ?hv ?_); (case hv => exact rfl)))
local macro_rules | `(tactic| walk_at "br") => `(tactic| first
  | ((with_reducible refine' br_t ?hv ?_); (case hv => exact rfl))
  | ((with_reducible refine' br_f ?hv ?_); (case hv => exact rfl))
  | ((with_reducible refine' br_t' ?hv ?_); (case hv => exact rfl))
  | ((with_reducible refine' br_f' ?hv ?_); (case hv => exact rfl)))
local macro_rules | `(tactic| walk_at "gb") => `(tactic| first
  | ((with_reducible refine' gb_var ?hv ?_); (case hv => exact rfl))
  | walk_at "fl"
  | with_reducible refine' gb_ixC ?_
  | with_reducible refine' gb_ixV ?_)
local macro_rules | `(tactic| walk_at "r1") => `(tactic| first
  | ((with_reducible refine' self_at ?hv ?_); (case hv => exact rfl))
  | ((with_reducible refine' thing_at ?hv ?hw ?_); (case hv => exact rfl); (case hw => exact rfl))
  | refine ⟨_, _, _, _, _, rfl, by decide +kernel, rfl, ?_⟩
  | refine ⟨_, _, _, _, rfl, Nat.le_of_ble_eq_true rfl, .inl ⟨by decide +kernel, ?_⟩⟩
  | refine ⟨_, _, _, _, rfl, Nat.le_of_ble_eq_true rfl, .inr ⟨by decide +kernel, Nat.le_of_ble_eq_true rfl, ?_⟩⟩
  | with_reducible refine ⟨Nat.le_of_ble_eq_true rfl, ?_⟩
  | with_reducible refine ⟨_, rfl, ?_⟩
  | with_reducible refine ⟨rfl, ?_⟩
  | with_reducible refine ⟨_, .inl rfl, ?_⟩
  | with_reducible refine ⟨_, .inr rfl, ?_⟩
  | with_reducible refine ⟨_, _, _, _, rfl, rfl, rfl, ?_⟩
  | with_reducible refine ⟨_, _, rfl, rfl, ?_⟩
  | with_reducible refine ⟨_, _, rfl, ?_⟩
  | with_reducible refine ⟨_, tru_b _, ?_⟩
  | ((with_reducible refine' all_a ?_); intro))
local macro_rules | `(tactic| walk_at "go") => `(tactic| repeat (first
  | ((with_reducible refine' at_ge ?_); walk_at "ge")
  | ((with_reducible refine' at_gb ?_); walk_at "gb")
  | ((with_reducible refine' at_o2 ?_); walk_at "o2")
  | ((with_reducible refine' at_on ?_); walk_at "on")
  | ((with_reducible refine' at_gs ?_); walk_at "s1")
  | ((with_reducible refine' at_gt ?_); walk_at "t1")
  | ((with_reducible refine' at_gg ?_); walk_at "gg")
  | walk_at "nx"
  | walk_at "r1"
  | walk_at "br"
  | walk_at "isxt"
  | walk_at "ga"
  | walk_at "o2"
  | walk_at "gg"))
local macro_rules | `(tactic| walk_at "gq") => `(tactic| repeat (first
  | ((with_reducible refine' at_ge ?_); walk_at "ge")
  | ((with_reducible refine' at_gb ?_); walk_at "gb")
  | ((with_reducible refine' at_o2 ?_); walk_at "o2")
  | ((with_reducible refine' at_on ?_); walk_at "on")
  | ((with_reducible refine' at_gs ?_); walk_at "s0")
  | ((with_reducible refine' at_gt ?_); walk_at "t1")
  | ((with_reducible refine' at_gg ?_); walk_at "gg")
  | walk_at "nx"
  | walk_at "r1"
  | walk_at "br"
  | walk_at "isxt"
  | walk_at "ga"
  | walk_at "o2"
  | walk_at "gg"))
local macro_rules | `(tactic| walk_at "gp") => `(tactic| repeat (first
  | ((with_reducible refine' at_ge ?_); walk_at "ge")
  | ((with_reducible refine' at_gb ?_); walk_at "gb")
  | ((with_reducible refine' at_o2 ?_); walk_at "o2")
  | ((with_reducible refine' at_on ?_); walk_at "on")
  | ((with_reducible refine' at_gs ?_); walk_at "s2")
  | ((with_reducible refine' at_gt ?_); walk_at "t1")
  | ((with_reducible refine' at_gg ?_); walk_at "gg")
  | walk_at "nx"
  | walk_at "r1"
  | walk_at "br"
  | walk_at "isxt"
  | walk_at "ga"
  | walk_at "o2"
  | walk_at "gg"))

abbrev Pl := Nat × Nat
def aPl (q : Pl) : AV := aTup [aInt (q.1 : Nat), aInt (q.2 : Nat)]
/-- a ring of a string: its rooms, the place at which it hangs -/
structure SR where
  rooms : List Rat
  hang : Option Pl
def aAt : Option Pl → AV
  | none => aN
  | some q => aPl q
def aSR (x : SR) : AV := aTup [aL aF x.rooms, aAt x.hang]
abbrev aSg (S : List SR) : AV := aL aSR S
def nR (S : List SR) (r : Nat) : Nat := ((S[r]?).map fun x => x.rooms.length).getD 0
def fH (S : List SR) (r : Nat) : Pl := ((S[r]?).bind SR.hang).getD (0, 0)
def PlOk (S : List SR) (q : Pl) : Prop := q.1 < S.length ∧ q.2 < nR S q.1 ∧ (q.1 = 0 ∨ 0 < q.2)
structure SgOk (S : List SR) : Prop where
  pos : 0 < S.length
  most : S.length ≤ 6
  rooms : ∀ x, x ∈ S → 2 ≤ x.rooms.length ∧ x.rooms.length ≤ 12 ∧ ∀ q, q ∈ x.rooms → 0 < q ∧ Sz 41 4 q
  hang : ∀ r, 0 < r → ∀ h : r < S.length, ∃ q, S[r].hang = some q ∧ q.1 < r ∧ PlOk S q
  top : ∀ h : 0 < S.length, S[0].hang = none
theorem SgOk.f {S : List SR} (h : SgOk S) {r : Nat} (h0 : 0 < r) (h1 : r < S.length) : (fH S r).1 < r ∧ PlOk S (fH S r) ∧ S[r].hang = some (fH S r) := by
  obtain ⟨q, e, h2, h3⟩ := h.hang r h0 h1
  have : fH S r = q := by
    unfold fH
    rw [List.getElem?_eq_getElem h1, Option.bind_some, e]
    rfl
  rw [this]
  exact ⟨h2, h3, e⟩
theorem nR_at {S : List SR} {r : Nat} (h : r < S.length) : nR S r = S[r].rooms.length := by
  unfold nR
  rw [List.getElem?_eq_getElem h]
  rfl
/-- the places up to the first ring -/
def chS (S : List SR) : Nat → Pl → List Pl
  | 0, q => [q]
  | n + 1, q => if q.1 = 0 then [q] else q :: chS S n (fH S q.1)
theorem chS_same {S : List SR} (h : SgOk S) : ∀ (n m : Nat) (q : Pl), q.1 < S.length → q.1 ≤ n → q.1 ≤ m → chS S n q = chS S m q
  | 0, 0, q, _, _, _ => rfl
  | 0, m + 1, q, _, h1, _ => by
    rw [chS, chS, if_pos (by omega)]
  | n + 1, 0, q, _, _, h2 => by
    rw [chS, chS, if_pos (by omega)]
  | n + 1, m + 1, q, h0, h1, h2 => by
    rw [chS, chS]
    by_cases e : q.1 = 0
    · rw [if_pos e, if_pos e]
    · rw [if_neg e, if_neg e]
      obtain ⟨g1, g2, _⟩ := h.f (by omega) h0
      rw [chS_same h n m (fH S q.1) g2.1 (by omega) (by omega)]
def chain (S : List SR) (q : Pl) : List Pl := chS S q.1 q
theorem chain_step {S : List SR} (h : SgOk S) {q : Pl} (h0 : q.1 < S.length) (hn : q.1 ≠ 0) : chain S q = q :: chain S (fH S q.1) := by
  obtain ⟨g1, g2, _⟩ := h.f (by omega) h0
  unfold chain
  obtain ⟨n, e⟩ : ∃ n, q.1 = n + 1 := ⟨q.1 - 1, by omega⟩
  have : chS S q.1 q = q :: chS S n (fH S q.1) := by
    conv => lhs; rw [e, chS]
    rw [if_neg hn]
  rw [this, chS_same h n (fH S q.1).1 (fH S q.1) g2.1 (by omega) (Nat.le_refl _)]
theorem chain_end {S : List SR} {q : Pl} (h : q.1 = 0) : chain S q = [q] := by
  unfold chain
  rw [h, chS]
/-- reversed: each stands where the next one's ring hangs -/
def Seg (S : List SR) : List Pl → Prop
  | [] => False
  | [x] => PlOk S x
  | x :: y :: r => x = fH S y.1 ∧ 0 < y.1 ∧ PlOk S x ∧ Seg S (y :: r)
theorem Seg.ok {S : List SR} : ∀ {a : List Pl}, Seg S a → ∀ y, y ∈ a → PlOk S y
  | [x], h, y, hy => by
    rw [List.mem_singleton.mp hy]
    exact h
  | x :: z :: r, h, y, hy => by
    rcases List.mem_cons.mp hy with rfl | hy
    · exact h.2.2.1
    · exact Seg.ok h.2.2.2 y hy
theorem Seg.tail {S : List SR} {x y : Pl} {r : List Pl} (h : Seg S (x :: y :: r)) : Seg S (y :: r) := h.2.2.2
theorem Seg.snoc {S : List SR} : ∀ {a : List Pl} {x z : Pl}, Seg S (a ++ [x]) → x = fH S z.1 → 0 < z.1 → PlOk S z → Seg S (a ++ [x] ++ [z])
  | [], x, z, h, h1, h2, h3 => ⟨h1, h2, h, h3⟩
  | [y], x, z, h, h1, h2, h3 => ⟨h.1, h.2.1, h.2.2.1, Seg.snoc (a := []) h.2.2.2 h1 h2 h3⟩
  | y :: w :: a, x, z, h, h1, h2, h3 => ⟨h.1, h.2.1, h.2.2.1, Seg.snoc (a := w :: a) h.2.2.2 h1 h2 h3⟩
theorem chain_seg {S : List SR} (h : SgOk S) : ∀ (n : Nat) (q : Pl), q.1 ≤ n → PlOk S q → ∃ a, (chain S q).reverse = a ++ [q] ∧ Seg S (a ++ [q]) ∧ ∃ x r, a ++ [q] = x :: r ∧ x.1 = 0
  | 0, q, hn, hq => by
    rw [chain_end (by omega)]
    exact ⟨[], rfl, hq, q, [], rfl, by omega⟩
  | n + 1, q, hn, hq => by
    by_cases e : q.1 = 0
    · rw [chain_end e]
      exact ⟨[], rfl, hq, q, [], rfl, e⟩
    · obtain ⟨g1, g2, _⟩ := h.f (by omega) hq.1
      obtain ⟨a, e1, e2, x, r, e3, e4⟩ := chain_seg h n (fH S q.1) (by omega) g2
      rw [chain_step h hq.1 e, List.reverse_cons, e1]
      exact ⟨a ++ [fH S q.1], rfl, e2.snoc rfl (by omega) hq, x, r ++ [q], by rw [e3]; rfl, e4⟩
/-- both without what they share up to the first ring -/
def strip : List Pl → List Pl → List Pl × List Pl
  | x :: y :: r, x' :: y' :: r' => if y.1 = y'.1 then strip (y :: r) (y' :: r') else (x :: y :: r, x' :: y' :: r')
  | a, b => (a, b)
theorem strip_swap : ∀ (a b : List Pl), strip b a = ((strip a b).2, (strip a b).1)
  | x :: y :: r, x' :: y' :: r' => by
    rw [strip, strip]
    by_cases e : y.1 = y'.1
    · rw [if_pos e, if_pos e.symm]
      exact strip_swap (y :: r) (y' :: r')
    · rw [if_neg e, if_neg fun z => e z.symm]
  | [], [] => rfl
  | [], [_] => rfl
  | [], _ :: _ :: _ => rfl
  | [_], [] => rfl
  | [_], [_] => rfl
  | [_], _ :: _ :: _ => rfl
  | _ :: _ :: _, [] => rfl
  | _ :: _ :: _, [_] => rfl
/-- what holds of the stripped ones -/
structure Stp (S : List SR) (one other : Pl) (A B : List Pl) : Prop where
  sa : Seg S A
  sb : Seg S B
  la : A.getLast? = some one
  lb : B.getLast? = some other
  hd : (A.head?.map (·.1)) = (B.head?.map (·.1))
theorem Stp.step {S : List SR} {one other x y x' y' : Pl} {r r' : List Pl} (h : Stp S one other (x :: y :: r) (x' :: y' :: r')) (e : y.1 = y'.1) : Stp S one other (y :: r) (y' :: r') :=
  ⟨h.sa.tail, h.sb.tail, by have := h.la; rwa [List.getLast?_cons_cons] at this, by have := h.lb; rwa [List.getLast?_cons_cons] at this, congrArg some e⟩
theorem strip_stp {S : List SR} {one other : Pl} : ∀ {a b : List Pl}, Stp S one other a b → Stp S one other (strip a b).1 (strip a b).2
  | x :: y :: r, x' :: y' :: r', h => by
    rw [strip]
    by_cases e : y.1 = y'.1
    · rw [if_pos e]
      exact strip_stp (h.step e)
    · rw [if_neg e]
      exact h
  | [], [], h => h
  | [], [_], h => h
  | [], _ :: _ :: _, h => h
  | [_], [], h => h
  | [_], [_], h => h
  | [_], _ :: _ :: _, h => h
  | _ :: _ :: _, [], h => h
  | _ :: _ :: _, [_], h => h
/-- nothing is left to strip -/
def Apart : List Pl → List Pl → Prop
  | _ :: y :: _, _ :: y' :: _ => y.1 ≠ y'.1
  | _, _ => True
theorem strip_apart : ∀ (a b : List Pl), Apart (strip a b).1 (strip a b).2
  | x :: y :: r, x' :: y' :: r' => by
    rw [strip]
    by_cases e : y.1 = y'.1
    · rw [if_pos e]
      exact strip_apart (y :: r) (y' :: r')
    · rw [if_neg e]
      exact e
  | [], [] => trivial
  | [], [_] => trivial
  | [], _ :: _ :: _ => trivial
  | [_], [] => trivial
  | [_], [_] => trivial
  | [_], _ :: _ :: _ => trivial
  | _ :: _ :: _, [] => trivial
  | _ :: _ :: _, [_] => trivial
abbrev Stepp := Nat × Nat × Nat
def aStp (s : Stepp) : AV := aTup [aInt (s.1 : Nat), aInt (s.2.1 : Nat), aInt (s.2.2 : Nat)]
def upP (q : Pl) : Stepp := (q.1, q.2, 0)
def dnP (q : Pl) : Stepp := (q.1, 0, q.2)
def midP (x x' : Pl) : List Stepp := if x = x' then [] else [(x.1, x.2, x'.2)]
def passP : List Pl → List Pl → List Stepp
  | x :: r, x' :: r' => r.reverse.map upP ++ midP x x' ++ r'.map dnP
  | _, _ => []
def passL (S : List SR) (one other : Pl) : List Stepp := passP (strip (chain S one).reverse (chain S other).reverse).1 (strip (chain S one).reverse (chain S other).reverse).2
def backS (s : Stepp) : Stepp := (s.1, s.2.2, s.2.1)
theorem passP_back {a b : List Pl} (h : a.head?.map (·.1) = b.head?.map (·.1)) : passP b a = (passP a b).reverse.map backS := by
  cases a with
  | nil => cases b <;> rfl
  | cons x r =>
    cases b with
    | nil => rfl
    | cons x' r' =>
      have h : x.1 = x'.1 := Option.some.inj h
      show r'.reverse.map upP ++ midP x' x ++ r.map dnP = ((r.reverse.map upP ++ midP x x' ++ r'.map dnP).reverse).map backS
      rw [List.reverse_append, List.reverse_append, List.map_append, List.map_append, List.append_assoc]
      have e1 : r'.reverse.map upP = (r'.map dnP).reverse.map backS := by
        rw [← List.map_reverse, List.map_map]
        rfl
      have e2 : midP x' x = (midP x x').reverse.map backS := by
        unfold midP
        by_cases e : x = x'
        · rw [if_pos e, if_pos e.symm]
          rfl
        · rw [if_neg e, if_neg fun z => e z.symm]
          show [_] = [_]
          unfold backS
          rw [h]
      have e3 : r.map dnP = (r.reverse.map upP).reverse.map backS := by
        rw [← List.map_reverse, List.reverse_reverse, List.map_map]
        rfl
      rw [e1, e2, e3]
/-- where one stands, by ring and place -/
def realP (S : List SR) (r p : Nat) : Pl := if 0 < r ∧ p = 0 then fH S r else (r, p)
def Leads (S : List SR) : Pl → List Stepp → Pl → Prop
  | h, [], g => h = g
  | h, s :: r, g => s.1 < S.length ∧ s.2.1 ≠ s.2.2 ∧ realP S s.1 s.2.1 = h ∧ s.2.1 < nR S s.1 ∧ s.2.2 < nR S s.1 ∧ Leads S (realP S s.1 s.2.2) r g
theorem Leads.append {S : List SR} : ∀ {xs ys : List Stepp} {a b c : Pl}, Leads S a xs b → Leads S b ys c → Leads S a (xs ++ ys) c
  | [], ys, a, b, c, h1, h2 => by
    have h1 : a = b := h1
    rw [h1]
    exact h2
  | x :: xs, ys, a, b, c, h1, h2 => ⟨h1.1, h1.2.1, h1.2.2.1, h1.2.2.2.1, h1.2.2.2.2.1, Leads.append h1.2.2.2.2.2 h2⟩
theorem real_ok {S : List SR} {q : Pl} (h : PlOk S q) : realP S q.1 q.2 = q := by
  unfold realP
  rw [if_neg]
  rintro ⟨h1, h2⟩
  rcases h.2.2 with z | z <;> omega
theorem real_up {S : List SR} {r : Nat} (h : 0 < r) : realP S r 0 = fH S r := if_pos ⟨h, rfl⟩
theorem up_leads {S : List SR} : ∀ {r : List Pl} {x : Pl}, Seg S (x :: r) → ∀ l, (x :: r).getLast? = some l → Leads S l (r.reverse.map upP) x
  | [], x, h, l, hl => by
    cases hl
    exact rfl
  | y :: r, x, h, l, hl => by
    rw [List.getLast?_cons_cons] at hl
    have ih := up_leads h.tail l hl
    rw [List.reverse_cons, List.map_append]
    have hy := h.tail.ok y (List.mem_cons_self ..)
    have hp : 0 < y.2 := by rcases hy.2.2 with z | z; · have := h.2.1; omega
                            · exact z
    exact ih.append ⟨hy.1, by show y.2 ≠ 0; omega, real_ok hy, hy.2.1, by show 0 < nR S y.1; have := hy.2.1; omega, by
      show realP S y.1 0 = x
      rw [real_up h.2.1]
      exact h.1.symm⟩
theorem dn_leads {S : List SR} : ∀ {r : List Pl} {x : Pl}, Seg S (x :: r) → ∀ l, (x :: r).getLast? = some l → Leads S x (r.map dnP) l
  | [], x, h, l, hl => by
    cases hl
    exact rfl
  | y :: r, x, h, l, hl => by
    rw [List.getLast?_cons_cons] at hl
    have ih := dn_leads h.tail l hl
    have hy := h.tail.ok y (List.mem_cons_self ..)
    have hp : 0 < y.2 := by rcases hy.2.2 with z | z; · have := h.2.1; omega
                            · exact z
    refine ⟨hy.1, by show 0 ≠ y.2; omega, ?_, by show 0 < nR S y.1; have := hy.2.1; omega, hy.2.1, ?_⟩
    · show realP S y.1 0 = x
      rw [real_up h.2.1]
      exact h.1.symm
    · show Leads S (realP S y.1 y.2) (r.map dnP) l
      rw [real_ok hy]
      exact ih
theorem pass_leads {S : List SR} {one other : Pl} {A B : List Pl} (h : Stp S one other A B) : Leads S one (passP A B) other := by
  cases A with
  | nil => exact h.sa.elim
  | cons x r =>
    cases B with
    | nil => exact h.sb.elim
    | cons x' r' =>
      have hx := h.sa.ok x (List.mem_cons_self ..)
      have hx' := h.sb.ok x' (List.mem_cons_self ..)
      have hd : x.1 = x'.1 := Option.some.inj h.hd
      refine ((up_leads h.sa one h.la).append ?_).append (dn_leads h.sb other h.lb)
      unfold midP
      by_cases e : x = x'
      · rw [if_pos e]
        exact e
      · rw [if_neg e]
        refine ⟨hx.1, fun z => e (Prod.ext hd z), real_ok hx, hx.2.1, by show x'.2 < nR S x.1; rw [hd]; exact hx'.2.1, ?_⟩
        show realP S x.1 x'.2 = x'
        rw [hd]
        exact real_ok hx'
theorem seg_low {S : List SR} (hS : SgOk S) : ∀ {r : List Pl} {x : Pl}, Seg S (x :: r) → ∀ y, y ∈ r → x.1 < y.1
  | z :: r, x, h, y, hy => by
    have hz := h.tail.ok z (List.mem_cons_self ..)
    have hlt : x.1 < z.1 := by
      rw [h.1]
      exact (hS.f h.2.1 hz.1).1
    rcases List.mem_cons.mp hy with rfl | hy
    · exact hlt
    · exact Nat.lt_trans hlt (seg_low hS h.tail y hy)
theorem seg_pair {S : List SR} (hS : SgOk S) : ∀ {r : List Pl} {x : Pl}, Seg S (x :: r) → (r.map (·.1)).Nodup
  | [], x, h => List.nodup_nil
  | z :: r, x, h => by
    rw [List.map_cons, List.nodup_cons]
    refine ⟨fun hm => ?_, seg_pair hS h.tail⟩
    obtain ⟨y, hy, e⟩ := List.mem_map.mp hm
    have := seg_low hS h.tail y hy
    omega
theorem seg_pred {S : List SR} : ∀ {r : List Pl} {x : Pl}, Seg S (x :: r) → ∀ y, y ∈ r → (fH S y.1 = x ∧ r.head? = some y) ∨ fH S y.1 ∈ r
  | z :: r, x, h, y, hy => by
    rcases List.mem_cons.mp hy with rfl | hy
    · exact .inl ⟨h.1.symm, rfl⟩
    · rcases seg_pred h.tail y hy with ⟨e, _⟩ | e
      · exact .inr (by rw [e]; exact List.mem_cons_self ..)
      · exact .inr (List.mem_cons_of_mem _ e)
theorem seg_apart {S : List SR} (hS : SgOk S) {x x' : Pl} {r r' : List Pl} (ha : Seg S (x :: r)) (hb : Seg S (x' :: r')) (hd : x.1 = x'.1) (hp : Apart (x :: r) (x' :: r')) : ∀ (n : Nat) (y y' : Pl), y.1 ≤ n → y ∈ r → y' ∈ r' → y.1 ≠ y'.1 := by
  intro n
  induction n with
  | zero =>
    intro y y' hn hy hy' e
    have := seg_low hS ha y hy
    omega
  | succ n ih =>
    intro y y' hn hy hy' e
    have l1 := seg_low hS ha y hy
    have okY := ha.ok y (List.mem_cons_of_mem _ hy)
    have lf := (hS.f (by omega) okY.1).1
    rcases seg_pred ha y hy with ⟨e1, h1⟩ | h1
    · rcases seg_pred hb y' hy' with ⟨e2, h2⟩ | h2
      · cases r with
        | nil => cases hy
        | cons z r =>
          cases r' with
          | nil => cases hy'
          | cons z' r' =>
            cases h1
            cases h2
            exact hp e
      · have l2 := seg_low hS hb _ h2
        rw [← e, e1] at l2
        omega
    · rcases seg_pred hb y' hy' with ⟨e2, h2⟩ | h2
      · have l2 := seg_low hS ha _ h1
        rw [e, e2] at l2
        omega
      · exact ih _ _ (by omega) h1 h2 (by rw [e])
theorem pass_nodup {S : List SR} (hS : SgOk S) {one other : Pl} {A B : List Pl} (h : Stp S one other A B) (hp : Apart A B) : ((passP A B).map (·.1)).Nodup := by
  cases A with
  | nil => exact h.sa.elim
  | cons x r =>
    cases B with
    | nil => exact h.sb.elim
    | cons x' r' =>
      have hd : x.1 = x'.1 := Option.some.inj h.hd
      have n1 := seg_pair hS h.sa
      have n2 := seg_pair hS h.sb
      have l1 := seg_low hS h.sa
      have l2 := seg_low hS h.sb
      have ap := seg_apart hS h.sa h.sb hd hp
      unfold passP
      rw [List.map_append, List.map_append, List.map_map, List.map_map, List.nodup_append, List.nodup_append]
      have e1 : (r.reverse.map ((·.1) ∘ upP)) = (r.map (·.1)).reverse := by rw [← List.map_reverse]; rfl
      have e2 : (r'.map ((·.1) ∘ dnP)) = r'.map (·.1) := rfl
      have em : ∀ k, k ∈ (midP x x').map (·.1) → k = x.1 := fun k hk => by
        unfold midP at hk
        split at hk
        · cases hk
        · exact List.mem_singleton.mp hk
      rw [e1, e2]
      refine ⟨⟨List.pairwise_reverse.mpr (List.Pairwise.imp (fun h => Ne.symm h) n1), ?_, fun k hk m hm e => ?_⟩, n2, fun k hk m hm e => ?_⟩
      · unfold midP
        split
        · exact List.nodup_nil
        · exact List.pairwise_singleton ..
      · obtain ⟨y, hy, rfl⟩ := List.mem_map.mp (List.mem_reverse.mp hk)
        have := l1 y hy
        have := em m hm
        omega
      · obtain ⟨y', hy', rfl⟩ := List.mem_map.mp hm
        have hl := l2 y' hy'
        rcases List.mem_append.mp hk with hk | hk
        · obtain ⟨y, hy, rfl⟩ := List.mem_map.mp (List.mem_reverse.mp hk)
          exact ap y.1 y y' (Nat.le_refl _) hy hy' e
        · have := em k hk
          omega
theorem chain_stp {S : List SR} (hS : SgOk S) {one other : Pl} (h1 : PlOk S one) (h2 : PlOk S other) : Stp S one other (chain S one).reverse (chain S other).reverse := by
  obtain ⟨a, e1, s1, x, r, g1, z1⟩ := chain_seg hS one.1 one (Nat.le_refl _) h1
  obtain ⟨b, e2, s2, x', r', g2, z2⟩ := chain_seg hS other.1 other (Nat.le_refl _) h2
  rw [e1, e2]
  exact ⟨s1, s2, by simp, by simp, by rw [g1, g2]; show some x.1 = some x'.1; rw [z1, z2]⟩
theorem passL_leads {S : List SR} (hS : SgOk S) {one other : Pl} (h1 : PlOk S one) (h2 : PlOk S other) : Leads S one (passL S one other) other := pass_leads (strip_stp (chain_stp hS h1 h2))
theorem passL_nodup {S : List SR} (hS : SgOk S) {one other : Pl} (h1 : PlOk S one) (h2 : PlOk S other) : ((passL S one other).map (·.1)).Nodup := pass_nodup hS (strip_stp (chain_stp hS h1 h2)) (strip_apart _ _)
theorem passL_back {S : List SR} (hS : SgOk S) {one other : Pl} (h1 : PlOk S one) (h2 : PlOk S other) : passL S other one = (passL S one other).reverse.map backS := by
  unfold passL
  rw [strip_swap (chain S one).reverse]
  exact passP_back (strip_stp (chain_stp hS h1 h2)).hd
theorem strip_self : ∀ (a : List Pl), ∃ x, strip a a = ([x], [x]) ∨ a = []
  | [] => ⟨(0, 0), .inr rfl⟩
  | [x] => ⟨x, .inl rfl⟩
  | x :: y :: r => by
    obtain ⟨z, h⟩ := strip_self (y :: r)
    rcases h with h | h
    · exact ⟨z, .inl (by rw [strip, if_pos rfl]; exact h)⟩
    · cases h
theorem passL_self {S : List SR} (hS : SgOk S) {one : Pl} (h1 : PlOk S one) : passL S one one = [] := by
  unfold passL
  obtain ⟨x, h⟩ := strip_self (chain S one).reverse
  rcases h with h | h
  · rw [h]
    show [].reverse.map upP ++ midP x x ++ [].map dnP = []
    unfold midP
    rw [if_pos rfl]
    rfl
  · have := (chain_stp hS h1 h1).la
    rw [h] at this
    cases this
theorem atI_negS {α : Type} {xs : List α} {j n : Nat} {v : α} (hn : 0 < n) (h1 : n ≤ xs.length) (h : xs[xs.length - n]? = some v) : atI xs (-(n : Int)) = some v := by
  have e : ixN xs.length (-(n : Int)) = some (xs.length - n) := by
    unfold ixN
    rw [if_neg (by omega), if_pos (by omega)]
    congr 1
    omega
  unfold atI
  rw [e]
  exact h
theorem atI_m1 {As : List AV} {x : AV} : atI (As ++ [x]) (-1) = some x :=
  atI_negS (j := 0) (n := 1) (by decide) (by rw [List.length_append, List.length_singleton]; omega) (by simp)
theorem atI_m2 {As : List AV} {x y : AV} : atI (As ++ [x] ++ [y]) (-2) = some x :=
  atI_negS (j := 0) (n := 2) (by decide) (by rw [List.length_append, List.length_append, List.length_singleton, List.length_singleton]; omega) (by simp)
theorem aSR_at {S : List SR} (hS : SgOk S) {r : Nat} (h0 : 0 < r) (h1 : r < S.length) : aSR S[r] = aTup [aL aF S[r].rooms, aPl (fH S r)] := by
  obtain ⟨_, _, e⟩ := hS.f h0 h1
  unfold aSR
  rw [e]
  rfl
theorem aSR_rooms {x : SR} : aSR x = aTup [aL aF x.rooms, aAt x.hang] := rfl
def canS : List Pl → List Pl → Bool
  | _ :: y :: _, _ :: y' :: _ => decide (y.1 = y'.1)
  | _, _ => false
theorem canS_no {a b : List Pl} (h : canS a b = false) : strip a b = (a, b) := by
  match a, b, h with
  | x :: y :: r, x' :: y' :: r', h => exact (if_neg (of_decide_eq_false h))
  | [], [], _ => rfl
  | [], [_], _ => rfl
  | [], _ :: _ :: _, _ => rfl
  | [_], [], _ => rfl
  | [_], [_], _ => rfl
  | [_], _ :: _ :: _, _ => rfl
  | _ :: _ :: _, [], _ => rfl
  | _ :: _ :: _, [_], _ => rfl
theorem canS_yes {a b : List Pl} (h : canS a b = true) : ∃ x y r x' y' r', a = x :: y :: r ∧ b = x' :: y' :: r' ∧ y.1 = y'.1 := by
  match a, b, h with
  | x :: y :: r, x' :: y' :: r', h => exact ⟨x, y, r, x', y', r', rfl, rfl, of_decide_eq_true h⟩
theorem rev2 {x y : Pl} {r : List Pl} : ((x :: y :: r).reverse.map aPl) = r.reverse.map aPl ++ [aPl y] ++ [aPl x] := by
  rw [List.reverse_cons, List.reverse_cons, List.map_append, List.map_append]
  rfl
theorem rev1 {x : Pl} {r : List Pl} : ((x :: r).reverse.map aPl) = r.reverse.map aPl ++ [aPl x] := by
  rw [List.reverse_cons, List.map_append]
  rfl
theorem seg_len {S : List SR} (hS : SgOk S) : ∀ {r : List Pl} {x : Pl}, Seg S (x :: r) → x.1 + r.length < S.length
  | [], x, h => h.1
  | y :: r, x, h => by
    have ih := seg_len hS h.tail
    have := seg_low hS h y (List.mem_cons_self ..)
    rw [List.length_cons]
    omega
theorem Stp.lenA {S : List SR} (hS : SgOk S) {one other x : Pl} {r B : List Pl} (h : Stp S one other (x :: r) B) : r.length ≤ 6 := by
  have := seg_len hS h.sa
  have := hS.most
  omega
theorem Stp.lenB {S : List SR} (hS : SgOk S) {one other x : Pl} {r A : List Pl} (h : Stp S one other A (x :: r)) : r.length ≤ 6 := by
  have := seg_len hS h.sb
  have := hS.most
  omega
theorem isd_pl (q : Pl) : Isd (aPl q) (.tuple [.int (q.1 : Nat), .int (q.2 : Nat)]) := isd_tup (isds_cons (isd_int _) (isds_cons (isd_int _) isds_nil))
theorem shaped_pl (q : Pl) : SeqAt.shaped (.tuple [.int (q.1 : Nat), .int (q.2 : Nat)]) = true := by
  unfold SeqAt.shaped
  simp [PyData.canLay0, PyData.canLayAll0, PyData.depth, PyData.depthAll]
theorem eqv_pl (x y : Pl) : PyData.eqv (.tuple [.int (x.1 : Nat), .int (x.2 : Nat)]) (.tuple [.int (y.1 : Nat), .int (y.2 : Nat)]) = decide (x = y) := by
  rw [PyData.eqv, PyData.eqvAll, PyData.eqvAll, eqv_int, eqv_int, eqvAll_nil, Bool.eq_iff_iff]
  obtain ⟨a, b⟩ := x
  obtain ⟨c, d⟩ := y
  simp
  omega
theorem o_nePl {K : PySem.W.Frag} {F : Hp} {G0 : Vw} {γ : List Sl} {k : AV → List Sl → Prop} {x y : Pl} (q : k (aB (!decide (x = y))) γ) : O2 K F G0 (rNeA K) (aPl x) (aPl y) γ k := o_ned (isd_pl x) (isd_pl y) (shaped_pl x) (shaped_pl y) (eqv_pl x y) q
theorem o_eqPl {K : PySem.W.Frag} {F : Hp} {G0 : Vw} {γ : List Sl} {k : AV → List Sl → Prop} {x y : Pl} (q : k (aB (decide (x = y))) γ) : O2 K F G0 (rEqA K) (aPl x) (aPl y) γ k := o_eqd (isd_pl x) (isd_pl y) (shaped_pl x) (shaped_pl y) (eqv_pl x y) q
theorem passL_len {S : List SR} (hS : SgOk S) {one other : Pl} (h1 : PlOk S one) (h2 : PlOk S other) : (passL S one other).length ≤ 20 := by
  have h := strip_stp (chain_stp hS h1 h2)
  unfold passL
  generalize (strip (chain S one).reverse (chain S other).reverse).1 = A at *
  generalize (strip (chain S one).reverse (chain S other).reverse).2 = B at *
  cases A with
  | nil => exact h.sa.elim
  | cons x r =>
    cases B with
    | nil => exact h.sb.elim
    | cons x' r' =>
      have l1 := h.lenA hS
      have l2 := h.lenB hS
      have lm : (midP x x').length ≤ 1 := by
        unfold midP
        split <;> simp
      show (r.reverse.map upP ++ midP x x' ++ r'.map dnP).length ≤ 20
      simp only [List.length_append, List.length_map, List.length_reverse]
      omega
theorem go_revO {K : PySem.W.Frag} {F : Hp} {G0 : Vw} {γ : List Sl} {i : Nat} {l0 : Addr} {As : List AV} {k : Addr → List AV → List Sl → Prop} (e : γ[i]? = some (.own l0 As)) (h : AllA fun l => k l As.reverse γ) : GO K F G0 (tRev K (tVar i)) γ k := fun σ H G Q a z => by
  obtain ⟨e1, vs, h1, _, _, hv⟩ := a.ownAt e
  exact ⟨_, e1, l0, vs, rfl, SqL.of h1, fun p np => go_new z a (.refl G) np (h p) hv.reverse⟩
theorem dat_stp {n : Nat} (s : Stepp) : Dat (n + 1) (aStp s) := dat_tup (dats_cons (dat_int _) (dats_cons (dat_int _) (dats_cons (dat_int _) dats_nil)))
theorem nR_app {S : List SR} {x : SR} {r : Nat} (h : r < S.length) : nR (S ++ [x]) r = nR S r := by
  unfold nR
  rw [List.getElem?_append_left h]
theorem PlOk.app {S : List SR} {q : Pl} (h : PlOk S q) (x : SR) : PlOk (S ++ [x]) q := ⟨by rw [List.length_append]; have := h.1; omega, by rw [nR_app h.1]; exact h.2.1, h.2.2⟩
theorem SgOk.snoc {S : List SR} {rooms : List Rat} {o : Option Pl} (hr : 2 ≤ rooms.length ∧ rooms.length ≤ 12 ∧ ∀ q, q ∈ rooms → 0 < q ∧ Sz 41 4 q) (hl : S.length ≤ 5) (h : (S = [] ∧ o = none) ∨ (SgOk S ∧ ∃ q, o = some q ∧ PlOk S q)) : SgOk (S ++ [⟨rooms, o⟩]) := by
  have len : (S ++ [(⟨rooms, o⟩ : SR)]).length = S.length + 1 := by rw [List.length_append, List.length_singleton]
  refine ⟨by omega, by omega, fun x hx => ?_, fun r h0 h1 => ?_, fun h0 => ?_⟩
  · rcases List.mem_append.mp hx with hx | hx
    · rcases h with h | h
      · rw [h.1] at hx
        cases hx
      · exact h.1.rooms x hx
    · rw [List.mem_singleton.mp hx]
      exact hr
  · rcases h with ⟨h, _⟩ | ⟨hS, q, e, hq⟩
    · subst h
      have : r < 1 := h1
      omega
    · by_cases hlt : r < S.length
      · obtain ⟨q', e', l', p'⟩ := hS.hang r h0 hlt
        refine ⟨q', ?_, l', p'.app _⟩
        rw [List.getElem_append_left hlt]
        exact e'
      · have er : r = S.length := by omega
        subst er
        refine ⟨q, ?_, hq.1, hq.app _⟩
        rw [List.getElem_append_right (Nat.le_refl _)]
        simpa using e
  · rcases h with ⟨h, ho⟩ | ⟨hS, q, e, hq⟩
    · subst h
      exact ho
    · rw [List.getElem_append_left hS.pos]
      exact hS.top hS.pos
def wholeD : Dt → Bool
  | .i _ => true
  | _ => false
theorem whole_i {d : Dt} (h : wholeD d = true) : ∃ n, d = .i n := by
  cases d with
  | i n => exact ⟨n, rfl⟩
  | _ => cases h
def ct_is_whole : Ct := fun As R _ => ∃ d : Dt, As = [aD d] ∧ R (aB (wholeD d))
theorem k_is_whole (D : Defs K mg) : Cal P w K mg base 1 "is_whole" ["thing"] (spOf K ct_is_whole) := by
  have xs := D.xs
  refine fn_ok D.d_is_whole sc_is_whole (fun As R RO h => ?ln) (fun f cdv A outer s H hr => ?bd)
  case ln =>
    unfold ct_is_whole at h
    first | (obtain ⟨_, rfl, _⟩ := h; rfl) | (obtain ⟨_, _, rfl, _⟩ := h; rfl) | (obtain ⟨_, _, _, rfl, _⟩ := h; rfl) | (obtain ⟨_, _, _, _, rfl, _⟩ := h; rfl) | (obtain ⟨_, _, _, _, _, rfl, _⟩ := h; rfl) | (obtain ⟨_, _, _, _, _, _, rfl, _⟩ := h; rfl) | (obtain ⟨_, _, _, _, _, _, _, rfl, _⟩ := h; rfl)
  case bd =>
    refine ⟨_, (pss_one (ps_ret (pe_and (pe_callB (call_isiK' (K := K)) (by rfl) D.b_isinstance (by decide +kernel) (pa_cons (pv 0) (pa_cons (pe_bltn (v := .ty "int") (by rfl) D.b_int (by decide +kernel) rfl) pa_nil))) (pe_one (pe_not (pe_callB (call_isiK' (K := K)) (by rfl) D.b_isinstance (by decide +kernel) (pa_cons (pv 0) (pa_cons (pe_bltn (v := .ty "bool") (by rfl) D.b_bool (by decide +kernel) rfl) pa_nil)))))))), fun F G0 As R RO h => ?_⟩
    obtain ⟨d, rfl, hR⟩ := h
    cases d with
    | i n =>
      rw [aD_i]
      walk_at "go"
      exact hR
    | s n =>
      rw [aD_s]
      walk_at "go"
      exact hR
    | b n =>
      rw [aD_b]
      walk_at "go"
      exact hR
    | n =>
      rw [aD_n]
      walk_at "go"
      exact hR
    | t ds =>
      rw [aD_t]
      walk_at "go"
      exact hR
    | k kvs =>
      rw [aD_k]
      walk_at "go"
      exact hR
    | l ds =>
      rw [aD_l]
      walk_at "go"
      exact hR
def ct_common : Ct := fun As R _ => ∃ a b : Int, As = [aInt a, aInt b] ∧ R (aInt (Int.gcd a b : Nat))
theorem k_common (D : Defs K mg) : Cal P w K mg base 1 "common" ["one", "other"] (spOf K ct_common) := by
  have xs := D.xs
  refine fn_ok D.d_common sc_common (fun As R RO h => ?ln) (fun f cdv A outer s H hr => ?bd)
  case ln =>
    unfold ct_common at h
    first | (obtain ⟨_, rfl, _⟩ := h; rfl) | (obtain ⟨_, _, rfl, _⟩ := h; rfl) | (obtain ⟨_, _, _, rfl, _⟩ := h; rfl) | (obtain ⟨_, _, _, _, rfl, _⟩ := h; rfl) | (obtain ⟨_, _, _, _, _, rfl, _⟩ := h; rfl) | (obtain ⟨_, _, _, _, _, _, rfl, _⟩ := h; rfl) | (obtain ⟨_, _, _, _, _, _, _, rfl, _⟩ := h; rfl)
  case bd =>
    refine ⟨_, (pss_cons (ps_while PassesOwn.never (pt_cmpR (op_neK (K := K) hr) (pv 1) pe_int (nomark _)) (pss_one (ps_par (i := 0) (j := 1) (by rfl) sc_common.nd rfl rfl (by decide) rfl rfl (pa_cons (pv 1) (pa_cons (pe_op op_modN (pv 0) (pv 1)) pa_nil)) (by rfl))))
    (pss_one (ps_ret (pe_callB call_absA (by rfl) D.b_abs (by decide +kernel) (pa_cons (pv 0) pa_nil))))), fun F G0 As R RO h => ?_⟩
    obtain ⟨a, b, rfl, hR⟩ := h
    refine gs_seq (gs_while (fun m γ => ∃ x y : Int, γ = [.sh (aInt x), .sh (aInt y)] ∧ Int.gcd x y = Int.gcd a b ∧ m = y.natAbs) _ ⟨a, b, rfl, rfl, rfl⟩ ?_)
    rintro _ _ ⟨x, y, rfl, hp, rfl⟩
    walk_at "go"
    refine ⟨fun hb => ?_, fun hb => ?_⟩
    · have h0 : y ≠ 0 := by simpa using hb
      walk_at "go"
      exact ⟨_, (gcd_step h0).2, _, _, rfl, (gcd_step h0).1.trans hp, rfl⟩
    · have h0 : y = 0 := by simpa using hb
      walk_at "go"
      show R (aInt (if x < 0 then -x else x))
      rw [abs_if, ← Int.gcd_zero_right, ← h0, hp]
      exact hR
def ratioD : Dt → Bool
  | .t [.i a, .i b] => decide (1 ≤ b) && decide (((Int.gcd a b : Nat) : Int) = 1)
  | _ => false
theorem aD_p (a b : Int) : aD (.t [.i a, .i b]) = aTup [aInt a, aInt b] := by
  rw [aD_t]
  simp only [List.map_cons, List.map_nil, aD_i]
theorem ratioD_F (q : Rat) : ratioD (.t [.i q.num, .i (q.den : Nat)]) = true := by
  have h1 : (1 : Int) ≤ (q.den : Nat) := by have := q.den_pos; omega
  have h2 : Int.gcd q.num ((q.den : Nat) : Int) = 1 := by
    have := q.reduced
    unfold Nat.Coprime at this
    show Nat.gcd q.num.natAbs _ = 1
    exact this
  show (decide _ && decide _) = true
  rw [h2, decide_eq_true h1]
  rfl
def ct_is_ratio : Ct := fun As R _ => ∃ d : Dt, As = [aD d] ∧ R (aB (ratioD d))
theorem ratio_F {q : Rat} {R : AV → Prop} {RO : List AV → Prop} (h : R (aB true)) : ct_is_ratio [aF q] R RO := ⟨.t [.i q.num, .i (q.den : Nat)], by rw [aD_p], by rw [ratioD_F]; exact h⟩
theorem k_is_ratio (D : Defs K mg) (c_common : Cal P w K mg base 1 "common" ["one", "other"] (spOf K ct_common)) (c_is_whole : Cal P w K mg base 1 "is_whole" ["thing"] (spOf K ct_is_whole)) : Cal P w K mg base 2 "is_ratio" ["thing"] (spOf K ct_is_ratio) := by
  have xs := D.xs
  refine fn_ok D.d_is_ratio sc_is_ratio (fun As R RO h => ?ln) (fun f cdv A outer s H hr => ?bd)
  case ln =>
    unfold ct_is_ratio at h
    first | (obtain ⟨_, rfl, _⟩ := h; rfl) | (obtain ⟨_, _, rfl, _⟩ := h; rfl) | (obtain ⟨_, _, _, rfl, _⟩ := h; rfl) | (obtain ⟨_, _, _, _, rfl, _⟩ := h; rfl) | (obtain ⟨_, _, _, _, _, rfl, _⟩ := h; rfl) | (obtain ⟨_, _, _, _, _, _, rfl, _⟩ := h; rfl) | (obtain ⟨_, _, _, _, _, _, _, rfl, _⟩ := h; rfl)
  case bd =>
    refine ⟨_, (pss_cons (ps_if (PW.pt (pw_or (pt_not (pt_trK (K := K) (pe_callB (call_isiK' (K := K)) (by rfl) D.b_isinstance (by decide +kernel) (pa_cons (pv 0) (pa_cons (pe_bltn (v := .ty "tuple") (by rfl) D.b_tuple (by decide +kernel) rfl) pa_nil))))) (pw_or1 (pt_cmpR (op_neK (K := K) hr) (pe_callB (call_lenK (K := K)) (by rfl) D.b_len (by decide +kernel) (pa_cons (pv 0) pa_nil)) pe_int (nomark _))))) (pss_one (ps_ret pe_bl)) pss_nil)
    (pss_cons (ps_if (PW.pt (pw_or (pt_not (pt_trK (K := K) (pe_cal c_is_whole hr (by rfl) (pa_cons (pe_ix (ix_seqK (K := K)) (pv 0) pe_int (fun _ _ => rfl)) pa_nil)))) (pw_or1 (pt_not (pt_trK (K := K) (pe_cal c_is_whole hr (by rfl) (pa_cons (pe_ix (ix_seqK (K := K)) (pv 0) pe_int (fun _ _ => rfl)) pa_nil))))))) (pss_one (ps_ret pe_bl)) pss_nil)
    (pss_one (ps_ret (pe_and (pe_cmpR op_ge (pe_ix (ix_seqK (K := K)) (pv 0) pe_int (fun _ _ => rfl)) pe_int (nomark _)) (pe_one (pe_cmpR (op_eqK (K := K) hr) (pe_cal c_common hr (by rfl) (pa_cons (pe_ix (ix_seqK (K := K)) (pv 0) pe_int (fun _ _ => rfl)) (pa_cons (pe_ix (ix_seqK (K := K)) (pv 0) pe_int (fun _ _ => rfl)) pa_nil))) pe_int (nomark _)))))))), fun F G0 As R RO h => ?_⟩
    obtain ⟨d, rfl, hR⟩ := h
    cases d with
    | i n =>
      rw [aD_i]
      walk_at "go"
      exact hR
    | s n =>
      rw [aD_s]
      walk_at "go"
      exact hR
    | b n =>
      rw [aD_b]
      walk_at "go"
      exact hR
    | n =>
      rw [aD_n]
      walk_at "go"
      exact hR
    | k kvs =>
      rw [aD_k]
      walk_at "go"
      exact hR
    | l ds =>
      rw [aD_l]
      walk_at "go"
      exact hR
    | t ds =>
      rw [aD_t]
      match ds, hR with
      | [], hR =>
        walk_at "go"
        exact hR
      | [x], hR =>
        have e : ratioD (.t [x]) = false := by cases x <;> rfl
        rw [e] at hR
        walk_at "go"
        exact hR
      | x :: y :: z :: r, hR =>
        have e : ratioD (.t (x :: y :: z :: r)) = false := by cases x <;> cases y <;> rfl
        rw [e] at hR
        walk_at "go"
        exact hR
      | [x, y], hR =>
        walk_at "go"
        refine ⟨x, rfl, ?_⟩
        by_cases hx : wholeD x = true
        · obtain ⟨a, rfl⟩ := whole_i hx
          walk_at "go"
          refine ⟨y, rfl, ?_⟩
          by_cases hy : wholeD y = true
          · obtain ⟨b, rfl⟩ := whole_i hy
            have e : ratioD (.t [.i a, .i b]) = (decide (1 ≤ b) && decide (((Int.gcd a b : Nat) : Int) = 1)) := rfl
            rw [e] at hR
            walk_at "go"
            simp only [List.map_cons, List.map_nil, aD_i]
            walk_at "go"
            refine ⟨fun h1 => ?_, fun h1 => ?_⟩
            · walk_at "go"
              refine ⟨a, b, rfl, ?_⟩
              walk_at "go"
              rw [h1, Bool.true_and] at hR
              exact hR
            · rw [h1] at hR
              exact hR
          · have hy : wholeD y = false := by simpa using hy
            have e : ratioD (.t [.i a, y]) = false := by cases y <;> first | rfl | cases hy
            rw [e] at hR
            rw [hy]
            walk_at "go"
            exact hR
        · have hx : wholeD x = false := by simpa using hx
          have e : ratioD (.t [x, y]) = false := by cases x <;> first | rfl | cases hx
          rw [e] at hR
          rw [hx]
          walk_at "go"
          exact hR
/-! strings as small things -/
theorem sq_pl {n : Nat} {q : Pl} (h1 : q.1 < 1000) (h2 : q.2 < 1000) : Sq (n + 2) 3849 (aPl q) := (sq_t (sqs_cons (sq_i (by rw [Int.natAbs_natCast]; exact Nat.lt_of_lt_of_le h1 (by decide))) (sqs_cons (sq_i (by rw [Int.natAbs_natCast]; exact Nat.lt_of_lt_of_le h2 (by decide))) sqs_nil)) (Nat.le_of_ble_eq_true rfl)).mono (Nat.le_refl _) (Nat.le_refl _)
theorem sq_at {n : Nat} {o : Option Pl} (h : ∀ q, o = some q → q.1 < 1000 ∧ q.2 < 1000) : Sq (n + 2) 3849 (aAt o) := by
  cases o with
  | none => exact sq_n.mono (Nat.le_refl _) (by decide)
  | some q =>
    obtain ⟨h1, h2⟩ := h q rfl
    exact sq_pl h1 h2
theorem nR_le {S : List SR} (h : SgOk S) (r : Nat) : nR S r ≤ 12 := by
  by_cases hr : r < S.length
  · rw [nR_at hr]
    exact (h.rooms _ (List.getElem_mem hr)).2.1
  · unfold nR
    rw [List.getElem?_eq_none (by omega)]
    exact Nat.zero_le _
theorem SgOk.at {S : List SR} (h : SgOk S) {x : SR} (hx : x ∈ S) : ∀ q, x.hang = some q → q.1 < 1000 ∧ q.2 < 1000 := by
  obtain ⟨i, hi, rfl⟩ := List.getElem_of_mem hx
  intro q hq
  rcases Nat.eq_zero_or_pos i with rfl | h0
  · rw [h.top hi] at hq
    cases hq
  · obtain ⟨q', e, h1, h2⟩ := h.hang i h0 hi
    rw [e] at hq
    cases hq
    have := nR_le h q.1
    have := h.most
    obtain ⟨h3, h4, _⟩ := h2
    exact ⟨by omega, by omega⟩
theorem sqs_rooms {n : Nat} {rooms : List Rat} (h : ∀ q, q ∈ rooms → 0 < q ∧ Sz 41 4 q) (hl : rooms.length ≤ 12) : Sqs (n + 2) 46212 (rooms.map aF) := (sqs_upto (m := 12) (fun A hA => by
  obtain ⟨q, hq, rfl⟩ := List.mem_map.mp hA
  exact sq_F ((h q hq).2.mono (by decide) (by decide))) (by rw [List.length_map]; exact hl)).mono (Nat.le_refl _) (Nat.le_of_ble_eq_true rfl)
theorem sq_ring {n : Nat} {S : List SR} (h : SgOk S) {x : SR} (hx : x ∈ S) : Sq (n + 4) 50100 (aSR x) := (sq_t (sqs_cons (sq_l (sqs_rooms (h.rooms x hx).2.2 (h.rooms x hx).2.1) (by rw [List.length_map]; have := (h.rooms x hx).2.1; omega)) (sqs_cons (sq_at (h.at hx)) sqs_nil)) (Nat.le_of_ble_eq_true rfl)).mono (Nat.le_refl _) (by decide)
theorem sqs_string {n : Nat} {S : List SR} (h : SgOk S) : Sqs (n + 4) 300612 (S.map aSR) := (sqs_upto (m := 6) (fun A hA => by
  obtain ⟨x, hx, rfl⟩ := List.mem_map.mp hA
  exact sq_ring h hx) (by rw [List.length_map]; exact h.most)).mono (Nat.le_refl _) (Nat.le_of_ble_eq_true rfl)
/-! good strings are let by -/
def dAt : Option Pl → Dt
  | none => .n
  | some q => .t [.i (q.1 : Nat), .i (q.2 : Nat)]
def dSR (x : SR) : Dt := .t [.l (x.rooms.map dF), dAt x.hang]
theorem aD_at (o : Option Pl) : aD (dAt o) = aAt o := by
  cases o with
  | none => exact aD_n
  | some q => exact aD_p _ _
theorem aD_sr (x : SR) : aD (dSR x) = aSR x := by
  unfold dSR
  rw [aD_t]
  simp only [List.map_cons, List.map_nil, aD_l, List.map_map, aD_at]
  rw [show (aD ∘ dF) = aF from funext aD_F]
  rfl
theorem aD_sg (S : List SR) : aD (.l (S.map dSR)) = aSg S := by
  rw [aD_l, List.map_map, show (aD ∘ dSR) = aSR from funext aD_sr]
def topD : Dt → Int
  | .t (.i a :: _) => a
  | _ => 0
def roomD (d : Dt) : Bool := ratioD d && decide (0 < topD d)
theorem ratio_at {d : Dt} (h : ratioD d = true) : ∃ a b, d = .t [.i a, .i b] := by
  cases d with
  | t ds =>
    match ds, h with
    | [], h => cases h
    | [x], h => cases x <;> cases h
    | [x, y], h =>
      cases x <;> first | cases h | (cases y <;> first | cases h | exact ⟨_, _, rfl⟩)
    | x :: y :: z :: r, h => cases x <;> cases y <;> cases h
  | _ => cases h
def roomsAt : Dt → Option (Option Nat)
  | .l ds => if 2 ≤ ds.length ∧ ds.length ≤ 12 then (firstNot (fun _ d => roomD d) ds 0).map some else some none
  | _ => some none
theorem firstNot_drop {α : Type} {p : Nat → α → Bool} : ∀ {xs : List α} {i k : Nat}, (∀ j (h : j < xs.length), j < k → p (i + j) xs[j] = true) → k ≤ xs.length → firstNot p xs i = firstNot p (xs.drop k) (i + k)
  | xs, i, 0, _, _ => by rw [List.drop_zero, Nat.add_zero]
  | [], i, k + 1, _, h => by exact absurd h (Nat.not_succ_le_zero _)
  | x :: xs, i, k + 1, hp, hk => by
    have h0 := hp 0 (Nat.zero_lt_succ _) (Nat.zero_lt_succ _)
    rw [Nat.add_zero] at h0
    have h0 : p i x = true := h0
    rw [firstNot, if_pos h0, List.drop_succ_cons, firstNot_drop (k := k) (fun j h hj => ?_) (by simpa using hk), show i + 1 + k = i + (k + 1) by omega]
    have := hp (j + 1) (by rw [List.length_cons]; omega) (by omega)
    rw [show i + 1 + j = i + (j + 1) by omega]
    exact this
theorem firstNot_at {α : Type} {p : Nat → α → Bool} {xs : List α} {k : Nat} (hk : k < xs.length) (h : ∀ j (h : j < xs.length), j < k → p j xs[j] = true) (hn : p k xs[k] = false) : firstNot p xs 0 = some k := by
  rw [firstNot_drop (k := k) (fun j h1 h2 => by rw [Nat.zero_add]; exact h j h1 h2) (by omega), List.drop_eq_getElem_cons hk, firstNot, Nat.zero_add, if_neg (by rw [hn]; decide)]
theorem firstNot_none {α : Type} {p : Nat → α → Bool} {xs : List α} (h : ∀ j (h : j < xs.length), p j xs[j] = true) : firstNot p xs 0 = none := by
  rw [firstNot_drop (k := xs.length) (fun j h1 h2 => by rw [Nat.zero_add]; exact h j h1) (Nat.le_refl _), List.drop_length]
  rfl
theorem ratio_dF {d : Dt} (h : ratioD d = true) : ∃ q : Rat, d = dF q := by
  obtain ⟨a, b, rfl⟩ : ∃ a b, d = .t [.i a, .i b] := by
    unfold ratioD at h
    split at h
    · exact ⟨_, _, rfl⟩
    · cases h
  have h : (decide (1 ≤ b) && decide (((Int.gcd a b : Nat) : Int) = 1)) = true := h
  rw [Bool.and_eq_true, decide_eq_true_iff, decide_eq_true_iff] at h
  obtain ⟨h1, h2⟩ := h
  obtain ⟨n, rfl⟩ := Int.eq_ofNat_of_zero_le (show 0 ≤ b by omega)
  refine ⟨⟨a, n, by omega, ?_⟩, rfl⟩
  unfold Nat.Coprime
  have h2 : Int.gcd a ((n : Nat) : Int) = 1 := by omega
  exact h2
theorem ratio_of_dF (q : Rat) : ratioD (dF q) = true := ratioD_F q
def topOf : Dt → Rat
  | .t [.i a, .i b] => Rat.divInt a b
  | _ => 0
theorem topOf_dF (q : Rat) : topOf (dF q) = q := Rat.num_divInt_den q
theorem all_dF {ds : List Dt} (h : ds.all ratioD = true) : ds = (ds.map topOf).map dF := by
  induction ds with
  | nil => rfl
  | cons d ds ih =>
    rw [List.all_cons, Bool.and_eq_true] at h
    obtain ⟨q, rfl⟩ := ratio_dF h.1
    rw [List.map_cons, List.map_cons, topOf_dF, ← ih h.2]
theorem all_of_dF (xs : List Rat) : (xs.map dF).all ratioD = true := List.all_eq_true.mpr fun d hd => by
  obtain ⟨q, _, rfl⟩ := List.mem_map.mp hd
  exact ratio_of_dF q
theorem map_topOf (xs : List Rat) : (xs.map dF).map topOf = xs := by
  rw [List.map_map]
  conv => rhs; rw [← List.map_id xs]
  exact List.map_congr_left fun q _ => topOf_dF q
def ct_under : Ct := fun As R _ => ∃ (x y : Rat) (a b c d : Nat), As = [aF x, aF y] ∧ Sz a c x ∧ Sz b d y ∧ a ≤ 100000 ∧ b ≤ 100000 ∧ c ≤ 100000 ∧ d ≤ 100000 ∧ R (aB (decide (x < y)))
theorem k_under (D : Defs K mg) : Cal P w K mg base 1 "under" ["one", "other"] (spOf K ct_under) := by
  have xs := D.xs
  refine fn_ok D.d_under sc_under (fun As R RO h => ?ln) (fun f cdv A outer s H hr => ?bd)
  case ln =>
    obtain ⟨_, _, _, _, _, _, rfl, _⟩ := h; rfl
  case bd =>
    refine ⟨_, (pss_one (ps_ret (pe_cmpR op_lt (pe_op op_mulA (pe_ix (ix_seqK (K := K)) (pv 0) pe_int (fun _ _ => rfl)) (pe_ix (ix_seqK (K := K)) (pv 1) pe_int (fun _ _ => rfl))) (pe_op op_mulA (pe_ix (ix_seqK (K := K)) (pv 1) pe_int (fun _ _ => rfl)) (pe_ix (ix_seqK (K := K)) (pv 0) pe_int (fun _ _ => rfl))) (nomark _)))), fun F G0 As R RO h => ?_⟩
    obtain ⟨x, y, a, b, c, d, rfl, hx, hy, ha, hb, hc, hd, hR⟩ := h
    have m1 := mulW hx.num hy.den' (by omega)
    have m2 := mulW hy.num hx.den' (by omega)
    walk_at "go"
    rw [show decide (x.num * ((y.den : Nat) : Int) < y.num * ((x.den : Nat) : Int)) = decide (x < y) from decide_eq_decide.mpr (Rat.lt_iff x y).symm]
    exact hR
def roomsD : Dt → Bool
  | .l ds => decide (2 ≤ ds.length) && decide (ds.length ≤ 12) && ds.all roomD
  | _ => false
theorem num_pos (q : Rat) : decide (0 < q.num) = decide (0 < q) := decide_eq_decide.mpr (by
  have := Rat.lt_iff 0 q
  simp at this
  exact this.symm)
theorem roomD_F (q : Rat) : roomD (dF q) = decide (0 < q) := by
  have e : roomD (dF q) = (ratioD (dF q) && decide (0 < q.num)) := rfl
  rw [e, ratio_of_dF, Bool.true_and, num_pos]
theorem dF_sz {q : Rat} (h : (dF q).sm) : Sz 300 300 q := by
  unfold dF at h
  rw [Dt.sm, Dt.sms, Dt.sms, Dt.sm, Dt.sm] at h
  exact ⟨h.2.1, by have := h.2.2.1; rw [Int.natAbs_natCast] at this; exact this⟩
def ct_are_rooms : Ct := fun As R _ => ∃ d : Dt, As = [aD d] ∧ d.sm ∧ R (aB (roomsD d))
theorem k_are_rooms (D : Defs K mg) (c_under : Cal P w K mg base 1 "under" ["one", "other"] (spOf K ct_under)) (c_is_ratio : Cal P w K mg base 2 "is_ratio" ["thing"] (spOf K ct_is_ratio)) : Cal P w K mg base 3 "are_rooms" ["thing"] (spOf K ct_are_rooms) := by
  obtain ⟨p_NOUGHT, g_NOUGHT, h_NOUGHT⟩ := D.g_NOUGHT
  have i_NOUGHT : IsK K p_NOUGHT [aV (.int 0), aV (.int 1)] := ⟨_, h_NOUGHT, fun G => ⟨_, _, rfl, rfl, ⟨_, _, rfl, rfl, rfl⟩⟩⟩
  obtain ⟨u_MOST_PLACES, g_MOST_PLACES, r_MOST_PLACES⟩ := D.g_MOST_PLACES
  have xs := D.xs
  refine fn_ok D.d_are_rooms sc_are_rooms (fun As R RO h => ?ln) (fun f cdv A outer s H hr => ?bd)
  case ln =>
    unfold ct_are_rooms at h
    first | (obtain ⟨_, rfl, _⟩ := h; rfl) | (obtain ⟨_, _, rfl, _⟩ := h; rfl) | (obtain ⟨_, _, _, rfl, _⟩ := h; rfl) | (obtain ⟨_, _, _, _, rfl, _⟩ := h; rfl) | (obtain ⟨_, _, _, _, _, rfl, _⟩ := h; rfl) | (obtain ⟨_, _, _, _, _, _, rfl, _⟩ := h; rfl) | (obtain ⟨_, _, _, _, _, _, _, rfl, _⟩ := h; rfl)
  case bd =>
    refine ⟨_, (pss_cons (ps_if (PW.pt (pw_or (pt_not (pt_trK (K := K) (pe_callB (call_isiK' (K := K)) (by rfl) D.b_isinstance (by decide +kernel) (pa_cons (pv 0) (pa_cons (pe_bltn (v := .ty "list") (by rfl) D.b_list (by decide +kernel) rfl) pa_nil))))) (pw_or1 (pt_not (pt_chain op_le op_le pe_int (pe_callB (call_lenK (K := K)) (by rfl) D.b_len (by decide +kernel) (pa_cons (pv 0) pa_nil)) (pe_glob (v := v_MOST_PLACES) (by rfl) g_MOST_PLACES r_MOST_PLACES)))))) (pss_one (ps_ret pe_bl)) pss_nil)
    (pss_one (ps_ret (pe_callB (cr_all rfl) (by rfl) D.b_all (by decide +kernel) (pa_cons (pe_lc (own := [("room", 1)]) rfl sc_are_rooms.nd (pi_listK (K := K) (pv 0)) (blkOk_by (own := [("room", 1)]) (N := ["thing", "room"]) (sc := defScope s_are_rooms) (by decide +kernel)) (fun _ _ _ _ _ => (pg_name (i := 1) sc_are_rooms.nd rfl (Or.inl rfl))) (fun _ _ _ _ _ => pts_nil) (fun _ _ _ _ _ => (pe_and (pe_cal c_is_ratio hr (by rfl) (pa_cons (pv 1) pa_nil)) (pe_one (pe_cal c_under hr (by rfl) (pa_cons (pe_globT (by rfl) g_NOUGHT) (pa_cons (pv 1) pa_nil))))))) pa_nil))))), fun F G0 As R RO h => ?_⟩
    obtain ⟨d, rfl, hsm, hR⟩ := h
    cases d with
    | i x =>
      rw [aD_i]
      walk_at "go"
      exact hR
    | s x =>
      rw [aD_s]
      walk_at "go"
      exact hR
    | b x =>
      rw [aD_b]
      walk_at "go"
      exact hR
    | n =>
      rw [aD_n]
      walk_at "go"
      exact hR
    | k x =>
      rw [aD_k]
      walk_at "go"
      exact hR
    | t x =>
      rw [aD_t]
      walk_at "go"
      exact hR
    | l ds =>
      rw [aD_l]
      rw [Dt.sm] at hsm
      have ln : (ds.map aD).length = ds.length := List.length_map ..
      have e : roomsD (.l ds) = (decide (2 ≤ ds.length) && decide (ds.length ≤ 12) && ds.all roomD) := rfl
      rw [e] at hR
      refine gs_seq (gs_if ?_)
      walk_at "gq"
      rw [ln, show decide ((2 : Int) ≤ ((ds.length : Nat) : Int)) = decide (2 ≤ ds.length) from decide_eq_decide.mpr (by omega)]
      cases h2 : decide (2 ≤ ds.length) with
      | false =>
        rw [h2] at hR
        walk_at "gq"
        exact hR
      | true =>
      rw [h2, Bool.true_and] at hR
      walk_at "gq"
      rw [show decide (((ds.length : Nat) : Int) ≤ 12) = decide (ds.length ≤ 12) from decide_eq_decide.mpr (by omega)]
      cases h3 : decide (ds.length ≤ 12) with
      | false =>
        rw [h3] at hR
        walk_at "gq"
        exact hR
      | true =>
      have h4 := of_decide_eq_true h3
      rw [h3, Bool.true_and] at hR
      walk_at "gq"
      refine ge_of_go (go_map1 aD ds (fun x => aB (roomD x)) (tg_name (by decide)) ?_)
      walk_at "gq"
      refine ⟨by omega, rfl, fun F' G0' x hx => ?_, ?_⟩
      · walk_at "gq"
        refine ⟨x, rfl, ?_⟩
        cases hr : ratioD x with
        | false =>
          have e : roomD x = false := by
            unfold roomD
            rw [hr]
            rfl
          rw [e]
          walk_at "gq"
          first | exact ⟨rfl, rfl⟩ | rfl
        | true =>
        obtain ⟨q, rfl⟩ := ratio_dF hr
        rw [aD_F, roomD_F]
        walk_at "gq"
        refine ⟨0, q, 1, 300, 1, 300, rfl, ⟨by decide, by decide⟩, dF_sz (sms_mem hsm.2 hx), by decide, by decide, by decide, by decide, ?_⟩
        first | exact ⟨rfl, rfl⟩ | rfl
      refine all_a fun _ => ?_
      walk_at "gq"
      refine n_all ?_
      exact hR
/-- a ring of a string, by its rooms and what else is told of it -/
def aRg (x : List AV × AV) : AV := aTup [aLst x.1, x.2]
def plcD (lens : List Nat) : Dt → Bool
  | .t [.i r, .i p] => decide (0 ≤ r) && decide (r < (lens.length : Nat)) && (decide (0 ≤ p) && decide (p < (lens.getD r.toNat 0 : Nat))) && (decide (r = 0) || decide (0 < p))
  | _ => false
def ct_is_place : Ct := fun As R _ => ∃ (rs : List (List AV × AV)) (d : Dt), As = [aLst (rs.map aRg), aD d] ∧ R (aB (plcD (rs.map fun x => x.1.length) d))
theorem k_is_place (D : Defs K mg) (c_is_whole : Cal P w K mg base 1 "is_whole" ["thing"] (spOf K ct_is_whole)) : Cal P w K mg base 2 "is_place" ["string", "thing"] (spOf K ct_is_place) := by
  have xs := D.xs
  refine fn_ok D.d_is_place sc_is_place (fun As R RO h => ?ln) (fun f cdv A outer s H hr => ?bd)
  case ln =>
    unfold ct_is_place at h
    first | (obtain ⟨_, rfl, _⟩ := h; rfl) | (obtain ⟨_, _, rfl, _⟩ := h; rfl) | (obtain ⟨_, _, _, rfl, _⟩ := h; rfl) | (obtain ⟨_, _, _, _, rfl, _⟩ := h; rfl) | (obtain ⟨_, _, _, _, _, rfl, _⟩ := h; rfl) | (obtain ⟨_, _, _, _, _, _, rfl, _⟩ := h; rfl) | (obtain ⟨_, _, _, _, _, _, _, rfl, _⟩ := h; rfl)
  case bd =>
    refine ⟨_, (pss_cons (ps_if (PW.pt (pw_or (pt_not (pt_trK (K := K) (pe_callB (call_isiK' (K := K)) (by rfl) D.b_isinstance (by decide +kernel) (pa_cons (pv 1) (pa_cons (pe_bltn (v := .ty "tuple") (by rfl) D.b_tuple (by decide +kernel) rfl) pa_nil))))) (pw_or (pt_cmpR (op_neK (K := K) hr) (pe_callB (call_lenK (K := K)) (by rfl) D.b_len (by decide +kernel) (pa_cons (pv 1) pa_nil)) pe_int (nomark _)) (pw_or (pt_not (pt_trK (K := K) (pe_cal c_is_whole hr (by rfl) (pa_cons (pe_ix (ix_seqK (K := K)) (pv 1) pe_int (fun _ _ => rfl)) pa_nil)))) (pw_or1 (pt_not (pt_trK (K := K) (pe_cal c_is_whole hr (by rfl) (pa_cons (pe_ix (ix_seqK (K := K)) (pv 1) pe_int (fun _ _ => rfl)) pa_nil))))))))) (pss_one (ps_ret pe_bl)) pss_nil)
    (pss_cons (ps_asg (pv 1) (pg_tupK (K := K) (m := 2) rfl (pgs_cons (pg_name (i := 2) sc_is_place.nd rfl (Or.inl rfl)) (pgs_cons (pg_name (i := 3) sc_is_place.nd rfl (Or.inl rfl)) pgs_nil))))
    (pss_cons (ps_if (PW.pt (pw_or (pt_not (pt_chain op_le op_lt pe_int (pv 2) (pe_callB (call_lenK (K := K)) (by rfl) D.b_len (by decide +kernel) (pa_cons (pv 0) pa_nil)))) (pw_or1 (pt_not (pt_chain op_le op_lt pe_int (pv 3) (pe_callB (call_lenK (K := K)) (by rfl) D.b_len (by decide +kernel) (pa_cons (pe_ix (ix_seqK (K := K)) (pe_ix (ix_seqK (K := K)) (pv 0) (pv 2) (fun _ _ => rfl)) pe_int (fun _ _ => rfl)) pa_nil))))))) (pss_one (ps_ret pe_bl)) pss_nil)
    (pss_one (ps_ret (pe_or (pe_cmpR (op_eqK (K := K) hr) (pv 2) pe_int (nomark _)) (pe_one (pe_cmpR op_gt (pv 3) pe_int (nomark _))))))))), fun F G0 As R RO h => ?_⟩
    obtain ⟨rs, d, rfl, hR⟩ := h
    cases d with
    | i x =>
      rw [aD_i]
      walk_at "go"
      exact hR
    | s x =>
      rw [aD_s]
      walk_at "go"
      exact hR
    | b x =>
      rw [aD_b]
      walk_at "go"
      exact hR
    | n =>
      rw [aD_n]
      walk_at "go"
      exact hR
    | k x =>
      rw [aD_k]
      walk_at "go"
      exact hR
    | l x =>
      rw [aD_l]
      walk_at "go"
      exact hR
    | t ds =>
      rw [aD_t]
      match ds, hR with
      | [], hR =>
        walk_at "go"
        exact hR
      | [x], hR =>
        have e : plcD (rs.map fun x => x.1.length) (.t [x]) = false := by cases x <;> rfl
        rw [e] at hR
        walk_at "go"
        exact hR
      | x :: y :: z :: r, hR =>
        have e : plcD (rs.map fun x => x.1.length) (.t (x :: y :: z :: r)) = false := by cases x <;> cases y <;> rfl
        rw [e] at hR
        walk_at "go"
        exact hR
      | [x, y], hR =>
        simp only [List.map_cons, List.map_nil]
        refine gs_seq (gs_if ?_)
        walk_at "gq"
        refine ⟨x, rfl, ?_⟩
        by_cases hx : wholeD x = true
        · obtain ⟨a, rfl⟩ := whole_i hx
          walk_at "gq"
          refine ⟨y, rfl, ?_⟩
          by_cases hy : wholeD y = true
          · obtain ⟨b, rfl⟩ := whole_i hy
            have e : plcD (rs.map fun x => x.1.length) (.t [.i a, .i b]) = (decide (0 ≤ a) && decide (a < (((rs.map fun x => x.1.length).length : Nat) : Int)) && (decide (0 ≤ b) && decide (b < ((rs.map fun x => x.1.length).getD a.toNat 0 : Nat))) && (decide (a = 0) || decide (0 < b))) := rfl
            rw [e, List.length_map] at hR
            rw [aD_i, aD_i]
            walk_at "gq"
            refine gs_seq (gs_if ?_)
            walk_at "gq"
            cases ha : decide (0 ≤ a) with
            | false =>
              rw [ha] at hR
              walk_at "gq"
              exact hR
            | true =>
            rw [ha, Bool.true_and] at hR
            walk_at "gq"
            rw [List.length_map]
            cases ha2 : decide (a < ((rs.length : Nat) : Int)) with
            | false =>
              rw [ha2] at hR
              walk_at "gq"
              exact hR
            | true =>
            rw [ha2, Bool.true_and] at hR
            have ha := of_decide_eq_true ha
            have ha2 := of_decide_eq_true ha2
            obtain ⟨n, rfl⟩ := Int.eq_ofNat_of_zero_le ha
            have hn : n < rs.length := by omega
            rw [Int.toNat_natCast, List.getD_eq_getElem?_getD, List.getElem?_map, List.getElem?_eq_getElem hn] at hR
            have hR : R (aB (decide (0 ≤ b) && decide (b < ((rs[n].1.length : Nat) : Int)) && (decide ((n : Int) = 0) || decide (0 < b)))) := hR
            walk_at "gq"
            cases hb : decide (0 ≤ b) with
            | false =>
              rw [hb] at hR
              walk_at "gq"
              exact hR
            | true =>
            rw [hb, Bool.true_and] at hR
            walk_at "gq"
            refine o_ixL (get_map hn) ?_
            unfold aRg
            walk_at "gq"
            cases hb2 : decide (b < ((rs[n].1.length : Nat) : Int)) with
            | false =>
              rw [hb2] at hR
              walk_at "gq"
              exact hR
            | true =>
            rw [hb2, Bool.true_and] at hR
            walk_at "gq"
            refine ⟨fun h => ?_, fun h => ?_⟩
            · rw [h, Bool.false_or] at hR
              walk_at "gq"
              exact hR
            · rw [h] at hR
              exact hR
          · have hy : wholeD y = false := by simpa using hy
            have e : plcD (rs.map fun x => x.1.length) (.t [.i a, y]) = false := by cases y <;> first | rfl | cases hy
            rw [e] at hR
            rw [hy]
            walk_at "go"
            exact hR
        · have hx : wholeD x = false := by simpa using hx
          have e : plcD (rs.map fun x => x.1.length) (.t [x, y]) = false := by cases x <;> first | rfl | cases hx
          rw [e] at hR
          rw [hx]
          walk_at "go"
          exact hR
def isN : Dt → Bool
  | .n => true
  | _ => false
def hungD (lens : List Nat) : Dt → Bool
  | .t [a, b] => roomsD a && if lens.isEmpty then isN b else plcD lens b
  | _ => false
def ct_is_hung : Ct := fun As R _ => ∃ (rs : List (List AV × AV)) (d : Dt), As = [aLst (rs.map aRg), aD d] ∧ d.sm ∧ R (aB (hungD (rs.map fun x => x.1.length) d))
theorem k_is_hung (D : Defs K mg) (c_is_place : Cal P w K mg base 2 "is_place" ["string", "thing"] (spOf K ct_is_place)) (c_are_rooms : Cal P w K mg base 3 "are_rooms" ["thing"] (spOf K ct_are_rooms)) : Cal P w K mg base 4 "is_hung" ["ahead", "thing"] (spOf K ct_is_hung) := by
  have xs := D.xs
  refine fn_ok D.d_is_hung sc_is_hung (fun As R RO h => ?ln) (fun f cdv A outer s H hr => ?bd)
  case ln =>
    unfold ct_is_hung at h
    first | (obtain ⟨_, rfl, _⟩ := h; rfl) | (obtain ⟨_, _, rfl, _⟩ := h; rfl) | (obtain ⟨_, _, _, rfl, _⟩ := h; rfl) | (obtain ⟨_, _, _, _, rfl, _⟩ := h; rfl) | (obtain ⟨_, _, _, _, _, rfl, _⟩ := h; rfl) | (obtain ⟨_, _, _, _, _, _, rfl, _⟩ := h; rfl) | (obtain ⟨_, _, _, _, _, _, _, rfl, _⟩ := h; rfl)
  case bd =>
    refine ⟨_, (pss_cons (ps_if (PW.pt (pw_or (pt_not (pt_trK (K := K) (pe_callB (call_isiK' (K := K)) (by rfl) D.b_isinstance (by decide +kernel) (pa_cons (pv 1) (pa_cons (pe_bltn (v := .ty "tuple") (by rfl) D.b_tuple (by decide +kernel) rfl) pa_nil))))) (pw_or (pt_cmpR (op_neK (K := K) hr) (pe_callB (call_lenK (K := K)) (by rfl) D.b_len (by decide +kernel) (pa_cons (pv 1) pa_nil)) pe_int (nomark _)) (pw_or1 (pt_not (pt_trK (K := K) (pe_cal c_are_rooms hr (by rfl) (pa_cons (pe_ix (ix_seqK (K := K)) (pv 1) pe_int (fun _ _ => rfl)) pa_nil)))))))) (pss_one (ps_ret pe_bl)) pss_nil)
    (pss_cons (ps_if (pt_cmpR (op_eqNilK (K := K) hr) (pv 0) (pe_lst pa_nil) (nomark _)) (pss_one (ps_ret (pe_cmpR op_isN (pe_ix (ix_seqK (K := K)) (pv 1) pe_int (fun _ _ => rfl)) pe_non (nomark _)))) pss_nil)
    (pss_one (ps_ret (pe_cal c_is_place hr (by rfl) (pa_cons (pv 0) (pa_cons (pe_ix (ix_seqK (K := K)) (pv 1) pe_int (fun _ _ => rfl)) pa_nil))))))), fun F G0 As R RO h => ?_⟩
    obtain ⟨rs, d, rfl, hsm, hR⟩ := h
    cases d with
    | i x =>
      rw [aD_i]
      walk_at "go"
      exact hR
    | s x =>
      rw [aD_s]
      walk_at "go"
      exact hR
    | b x =>
      rw [aD_b]
      walk_at "go"
      exact hR
    | n =>
      rw [aD_n]
      walk_at "go"
      exact hR
    | k x =>
      rw [aD_k]
      walk_at "go"
      exact hR
    | l x =>
      rw [aD_l]
      walk_at "go"
      exact hR
    | t ds =>
      rw [aD_t]
      rw [Dt.sm] at hsm
      match ds, hR, hsm with
      | [], hR, _ =>
        walk_at "go"
        exact hR
      | [x], hR, _ =>
        walk_at "go"
        exact hR
      | x :: y :: z :: r, hR, _ =>
        walk_at "go"
        exact hR
      | [x, y], hR, hsm =>
        have e : hungD (rs.map fun x => x.1.length) (.t [x, y]) = (roomsD x && if (rs.map fun x => x.1.length).isEmpty then isN y else plcD (rs.map fun x => x.1.length) y) := rfl
        rw [e] at hR
        have hx := sms_mem hsm.2 (show x ∈ [x, y] from List.mem_cons_self ..)
        simp only [List.map_cons, List.map_nil]
        refine gs_seq (gs_if ?_)
        walk_at "gq"
        refine ⟨x, rfl, hx, ?_⟩
        cases hr : roomsD x with
        | false =>
          rw [hr] at hR
          walk_at "gq"
          exact hR
        | true =>
        rw [hr, Bool.true_and] at hR
        walk_at "gq"
        refine gs_seq (gs_if ?_)
        walk_at "gq"
        refine o_eqNilK ?_
        cases rs with
        | nil =>
          have hR : R (aB (isN y)) := hR
          walk_at "gq"
          cases y with
          | n => rw [aD_n]; walk_at "gq"; exact hR
          | i v => rw [aD_i]; walk_at "gq"; exact hR
          | b v => rw [aD_b]; walk_at "gq"; exact hR
          | t v => rw [aD_t]; walk_at "gq"; exact hR
          | l v => rw [aD_l]; walk_at "gq"; exact hR
          | k v => rw [aD_k]; walk_at "gq"; exact hR
          | s v => rw [aD_s]; walk_at "gq"; exact hR
        | cons r0 rs =>
          have hR : R (aB (plcD ((r0 :: rs).map fun x => x.1.length) y)) := hR
          walk_at "gq"
          exact ⟨r0 :: rs, y, rfl, hR⟩
def lenD : Dt → Nat
  | .t [.l rs, _] => rs.length
  | _ => 0
/-- what is said of a string: none, or the ring that can't hang -/
def hungs (ds : List Dt) : Nat → Dt → Bool := fun i d => hungD ((ds.take i).map lenD) d
def strD : Dt → Option (Option Nat)
  | .l ds => if 1 ≤ ds.length ∧ ds.length ≤ 6 then (firstNot (hungs ds) ds 0).map some else some none
  | _ => some none
theorem roomsD_l {d : Dt} (h : roomsD d = true) : ∃ rs, d = .l rs := by
  cases d with
  | l rs => exact ⟨rs, rfl⟩
  | _ => cases h
theorem hungD_t {lens : List Nat} {d : Dt} (h : hungD lens d = true) : ∃ rs b, d = .t [.l rs, b] := by
  cases d with
  | t ds =>
    match ds, h with
    | [], h => cases h
    | [x], h => cases h
    | x :: y :: z :: r, h => cases h
    | [x, y], h =>
      have h : (roomsD x && if lens.isEmpty then isN y else plcD lens y) = true := h
      rw [Bool.and_eq_true] at h
      obtain ⟨rs, rfl⟩ := roomsD_l h.1
      exact ⟨rs, y, rfl⟩
  | _ => cases h
/-- rings ahead, as told -/
def rgD : Dt → List AV × AV
  | .t [.l rs, b] => (rs.map aD, aD b)
  | _ => ([], aN)
theorem rgD_at {ds : List Dt} (h : ∀ d, d ∈ ds → ∃ rs b, d = .t [.l rs, b]) : ds.map aD = (ds.map rgD).map aRg ∧ (ds.map rgD).map (fun x => x.1.length) = ds.map lenD := by
  induction ds with
  | nil => exact ⟨rfl, rfl⟩
  | cons d ds ih =>
    obtain ⟨rs, b, rfl⟩ := h d (List.mem_cons_self ..)
    obtain ⟨i1, i2⟩ := ih fun e he => h e (List.mem_cons_of_mem _ he)
    constructor
    · rw [List.map_cons, List.map_cons, List.map_cons, i1, aD_t]
      simp only [List.map_cons, List.map_nil, aD_l]
      rfl
    · rw [List.map_cons, List.map_cons, List.map_cons, i2]
      show (rs.map aD).length :: _ = _
      rw [List.length_map]
      rfl
/-- bounded, as far as it is looked at -/
def smL : Dt → Prop
  | .l ds => Dt.sms ds
  | _ => True
theorem smL_of {d : Dt} (h : d.sm) : smL d := by
  cases d with
  | l ds =>
    rw [Dt.sm] at h
    exact h.2
  | _ => trivial
def strA : Option (Option Nat) → List AV
  | none => []
  | some o => [aO o]
def ct_look_at_string : Ce := fun As R _ RE => ∃ d : Dt, As = [aD d] ∧ smL d ∧ (strD d = none → R aN) ∧ (∀ o, strD d = some o → RE "NoString" [("number", aO o)])
theorem k_look_at_string (D : Defs K mg) (i_NoString : CalI P w K mg base "NoString" ["number"] ["self", "number"]) (c_is_hung : Cal P w K mg base 4 "is_hung" ["ahead", "thing"] (spOf K ct_is_hung)) : CalX P w K mg base 5 "look_at_string" ["thing"] (spE K ct_look_at_string) := by
  obtain ⟨u_MOST_RINGS, g_MOST_RINGS, r_MOST_RINGS⟩ := D.g_MOST_RINGS
  have xs := D.xs
  refine fn_okE D.d_look_at_string sc_look_at_string (fun As R RN RE h => ?ln) (fun f cdv A outer s H E hr => ?bd)
  case ln =>
    obtain ⟨_, rfl, _⟩ := h; rfl
  case bd =>
    refine ⟨_, (pss_cons (ps_if (PW.pt (pw_or (pt_not (pt_trK (K := K) (pe_callB (call_isiK' (K := K)) (by rfl) D.b_isinstance (by decide +kernel) (pa_cons (pv 0) (pa_cons (pe_bltn (v := .ty "list") (by rfl) D.b_list (by decide +kernel) rfl) pa_nil))))) (pw_or1 (pt_not (pt_chain op_le op_le pe_int (pe_callB (call_lenK (K := K)) (by rfl) D.b_len (by decide +kernel) (pa_cons (pv 0) pa_nil)) (pe_glob (v := v_MOST_RINGS) (by rfl) g_MOST_RINGS r_MOST_RINGS)))))) (pss_one (ps_raiseK rfl (takes_of rfl rfl rfl rfl) (pmk_F (K := K) (D.xs.c _ (by decide +kernel)) i_NoString hr (by omega) D.m_NoString (by rfl) (pa_cons pe_non pa_nil)))) pss_nil)
    (pss_one (ps_for (passes_of rfl) rfl (pi_enumK (K := K) (by rfl) D.b_enumerate (pa_cons (pv 0) pa_nil)) (pg_tupK (K := K) (m := 2) rfl (pgs_cons (pg_name (i := 1) sc_look_at_string.nd rfl (Or.inl rfl)) (pgs_cons (pg_name (i := 2) sc_look_at_string.nd rfl (Or.inl rfl)) pgs_nil))) (pss_one (ps_if (pt_not (pt_trK (K := K) (pe_cal c_is_hung hr (by rfl) (pa_cons (pe_slice (sl_anyK (K := K)) (pv 0) po_none (po_some (pv 1))) (pa_cons (pv 2) pa_nil))))) (pss_one (ps_raiseK rfl (takes_of rfl rfl rfl rfl) (pmk_F (K := K) (D.xs.c _ (by decide +kernel)) i_NoString hr (by omega) D.m_NoString (by rfl) (pa_cons (pv 1) pa_nil)))) pss_nil))))), fun F G0 As R RN RE h hX => ?_⟩
    obtain ⟨d, rfl, hsm, hR, hE⟩ := h
    cases d with
    | i x =>
      rw [aD_i]
      walk_at "go"
      exact hE none rfl
    | s x =>
      rw [aD_s]
      walk_at "go"
      exact hE none rfl
    | b x =>
      rw [aD_b]
      walk_at "go"
      exact hE none rfl
    | n =>
      rw [aD_n]
      walk_at "go"
      exact hE none rfl
    | k x =>
      rw [aD_k]
      walk_at "go"
      exact hE none rfl
    | t x =>
      rw [aD_t]
      walk_at "go"
      exact hE none rfl
    | l ds =>
      rw [aD_l]
      have hsm : Dt.sms ds := hsm
      have ln : (ds.map aD).length = ds.length := List.length_map ..
      refine gs_seq (gs_if ?_)
      walk_at "go"
      rw [ln]
      have bad : ¬ (1 ≤ ds.length ∧ ds.length ≤ 6) → strD (.l ds) = some none := fun h => by
        show (if _ then _ else _) = _
        rw [if_neg h]
      refine ⟨fun h1 => ?_, fun h1 => ?_⟩
      · have h1 : 1 ≤ ds.length := by have := of_decide_eq_true h1; omega
        walk_at "go"
        refine ⟨fun h2 => ?_, fun h2 => ?_⟩
        · have h2 : ¬ (ds.length : Int) ≤ 6 := by simpa using h2
          walk_at "go"
          exact hE none (bad (by omega))
        have h2 : (ds.length : Int) ≤ 6 := by simpa using h2
        have good : strD (.l ds) = (firstNot (hungs ds) ds 0).map some := by
          show (if _ then _ else _) = _
          rw [if_pos ⟨h1, by omega⟩]
        walk_at "gq"
        refine gs_for (fun k γ => ∃ (S1 S2 : Sl), γ = [.sh (aLst (ds.map aD)), S1, S2] ∧ ∀ j (h : j < ds.length), j < k → hungs ds j ds[j] = true) ?_
        walk_at "gq"
        refine ⟨⟨_, _, rfl, fun j _ z => absurd z (Nat.not_lt_zero _)⟩, ?_, ?_⟩
        · rintro k B γ2 hB ⟨S1, S2, rfl, hall⟩
          obtain ⟨A, hA, rfl⟩ := enumA_get 0 _ k B hB
          obtain ⟨x, hx, rfl⟩ := map_get hA
          obtain ⟨hk, rfl⟩ := List.getElem?_eq_some_iff.mp hx
          rw [Nat.zero_add]
          walk_at "gq"
          refine gs_if ?_
          walk_at "go"
          obtain ⟨g1, g2⟩ := rgD_at (ds := ds.take k) fun d hd => by
            obtain ⟨j, hj⟩ := List.getElem?_of_mem hd
            rw [List.getElem?_take] at hj
            split at hj
            · rename_i hjk
              obtain ⟨hj1, rfl⟩ := List.getElem?_eq_some_iff.mp hj
              exact hungD_t (hall j hj1 hjk)
            · cases hj
          rw [cutL_to, ← List.map_take, g1]
          refine ⟨(ds.take k).map rgD, ds[k], rfl, sms_mem hsm (List.getElem_mem hk), ?_⟩
          rw [g2]
          cases hr : hungs ds k ds[k] with
          | true =>
            have hr2 : hungD ((ds.take k).map lenD) ds[k] = true := hr
            rw [hr2]
            walk_at "go"
            intro j h hj
            by_cases e : j = k
            · subst e
              exact hr
            · exact hall j h (by omega)
          | false =>
            have hr2 : hungD ((ds.take k).map lenD) ds[k] = false := hr
            rw [hr2]
            walk_at "go"
            refine hE (some k) ?_
            rw [good, firstNot_at hk hall hr]
            rfl
        · rintro γ ⟨S1, S2, rfl, hall⟩
          rw [enumA_len, ln] at hall
          refine hR ?_
          rw [good, firstNot_none fun j h => hall j h h]
          rfl
      · walk_at "go"
        exact hE none (bad fun h => absurd h1 (by rw [decide_eq_true (by omega)]; decide))
theorem roomsD_F {rooms : List Rat} (h1 : 2 ≤ rooms.length) (h2 : rooms.length ≤ 12) (h : ∀ q, q ∈ rooms → 0 < q) : roomsD (.l (rooms.map dF)) = true := by
  show (decide (2 ≤ (rooms.map dF).length) && decide ((rooms.map dF).length ≤ 12) && (rooms.map dF).all roomD) = true
  rw [List.length_map, decide_eq_true h1, decide_eq_true h2, Bool.true_and, Bool.true_and, List.all_map, List.all_eq_true]
  intro q hq
  show roomD (dF q) = true
  rw [roomD_F]
  exact decide_eq_true (h q hq)
theorem lens_take (S : List SR) (k : Nat) : (((S.map dSR).take k).map lenD) = (S.take k).map fun x => x.rooms.length := by
  rw [← List.map_take, List.map_map]
  refine List.map_congr_left fun x _ => ?_
  show (x.rooms.map dF).length = _
  rw [List.length_map]
theorem hung_ok {S : List SR} (hS : SgOk S) {k : Nat} (hk : k < (S.map dSR).length) : hungs (S.map dSR) k (S.map dSR)[k] = true := by
  have hk' : k < S.length := by rw [List.length_map] at hk; exact hk
  show hungD (((S.map dSR).take k).map lenD) (S.map dSR)[k] = true
  rw [lens_take, List.getElem_map]
  obtain ⟨g1, g2, g3⟩ := hS.rooms _ (List.getElem_mem hk')
  show (roomsD (.l (S[k].rooms.map dF)) && if ((S.take k).map fun x => x.rooms.length).isEmpty then isN (dAt S[k].hang) else plcD ((S.take k).map fun x => x.rooms.length) (dAt S[k].hang)) = true
  rw [roomsD_F g1 g2 fun q hq => (g3 q hq).1, Bool.true_and]
  rcases Nat.eq_zero_or_pos k with rfl | h0
  · rw [hS.top hk']
    rfl
  · have hp := hS.pos
    rw [if_neg (by
      rw [List.isEmpty_iff]
      intro z
      have := congrArg List.length z
      rw [List.length_map, List.length_take, List.length_nil] at this
      omega)]
    obtain ⟨q, e, h1, h2, h3, h4⟩ := hS.hang k h0 hk'
    rw [e]
    show (decide ((0 : Int) ≤ (q.1 : Nat)) && decide (((q.1 : Nat) : Int) < ((((S.take k).map fun x => x.rooms.length).length : Nat) : Int)) && (decide ((0 : Int) ≤ (q.2 : Nat)) && decide (((q.2 : Nat) : Int) < ((((S.take k).map fun x => x.rooms.length).getD (((q.1 : Nat) : Int)).toNat 0 : Nat) : Int))) && (decide (((q.1 : Nat) : Int) = 0) || decide ((0 : Int) < (q.2 : Nat)))) = true
    rw [List.length_map, List.length_take, Int.toNat_natCast, List.getD_eq_getElem?_getD, List.getElem?_map, List.getElem?_take, if_pos h1, List.getElem?_eq_getElem h2]
    rw [nR_at h2] at h3
    have e3 : decide (((q.2 : Nat) : Int) < (((Option.map (fun x : SR => x.rooms.length) (some S[q.1])).getD 0 : Nat) : Int)) = true := decide_eq_true (by show ((q.2 : Nat) : Int) < ((S[q.1].rooms.length : Nat) : Int); omega)
    rw [e3, decide_eq_true (show (0 : Int) ≤ (q.1 : Nat) by omega), decide_eq_true (show ((q.1 : Nat) : Int) < ((min k S.length : Nat) : Int) by omega), decide_eq_true (show (0 : Int) ≤ (q.2 : Nat) by omega)]
    rcases h4 with z | z
    · rw [decide_eq_true (show ((q.1 : Nat) : Int) = 0 by omega)]
      rfl
    · rw [decide_eq_true (show (0 : Int) < ((q.2 : Nat) : Int) by omega), Bool.or_true]
      rfl
theorem str_good {S : List SR} (hS : SgOk S) : strD (.l (S.map dSR)) = none := by
  have hp := hS.pos
  have hm := hS.most
  show (if 1 ≤ (S.map dSR).length ∧ (S.map dSR).length ≤ 6 then (firstNot (hungs (S.map dSR)) (S.map dSR) 0).map some else some none) = none
  rw [if_pos (by rw [List.length_map]; exact ⟨hp, hm⟩), firstNot_none fun j h => hung_ok hS h]
  rfl
theorem sm_at {o : Option Pl} (h : ∀ q, o = some q → q.1 < 1000 ∧ q.2 < 1000) : (dAt o).sm := by
  cases o with
  | none => show Dt.sm .n; rw [Dt.sm]; trivial
  | some q =>
    obtain ⟨h1, h2⟩ := h q rfl
    show Dt.sm (.t [.i _, .i _])
    rw [Dt.sm, Dt.sms, Dt.sms, Dt.sms, Dt.sm, Dt.sm, Int.natAbs_natCast, Int.natAbs_natCast]
    exact ⟨Nat.le_of_ble_eq_true rfl, Nat.lt_of_lt_of_le h1 (by decide), Nat.lt_of_lt_of_le h2 (by decide), trivial⟩
theorem sms_map' {α : Type} {f : α → Dt} : ∀ {xs : List α}, (∀ x, x ∈ xs → (f x).sm) → Dt.sms (xs.map f)
  | [], _ => by rw [List.map_nil, Dt.sms]; trivial
  | x :: xs, h => by
    rw [List.map_cons, Dt.sms]
    exact ⟨h x (List.mem_cons_self ..), sms_map' fun y hy => h y (List.mem_cons_of_mem _ hy)⟩
theorem sm_dF {q : Rat} (h : Sz 300 300 q) : (dF q).sm := by
  unfold dF
  rw [Dt.sm, Dt.sms, Dt.sms, Dt.sms, Dt.sm, Dt.sm, Int.natAbs_natCast]
  exact ⟨Nat.le_of_ble_eq_true rfl, h.num, h.den, trivial⟩
theorem sm_sr {S : List SR} (hS : SgOk S) {x : SR} (hx : x ∈ S) : (dSR x).sm := by
  obtain ⟨g1, g2, g3⟩ := hS.rooms x hx
  unfold dSR
  rw [Dt.sm, Dt.sms, Dt.sms, Dt.sms, Dt.sm, List.length_map]
  exact ⟨Nat.le_of_ble_eq_true rfl, ⟨by omega, sms_map' fun q hq => sm_dF ((g3 q hq).2.mono (by decide) (by decide))⟩, sm_at (hS.at hx), trivial⟩
theorem sm_sg {S : List SR} (hS : SgOk S) : (Dt.l (S.map dSR)).sm := by
  have := hS.most
  rw [Dt.sm, List.length_map]
  exact ⟨by omega, sms_map' fun x hx => sm_sr hS hx⟩
def ct_law_told : Ct := fun As R RO => ∃ d : Dt, As = [aD d] ∧ smL d ∧ (strD d = none → R (aLst [])) ∧ (∀ o, strD d = some o → RO [aO o])
theorem k_law_told (D : Defs K mg) (c_look_at_string : CalX P w K mg base 5 "look_at_string" ["thing"] (spE K ct_look_at_string)) : Cal P w K mg base 6 "_law_told" ["_law_thing"] (spOf K ct_law_told) := by
  have xs := D.xs
  refine fn_ok D.d_law_told sc_law_told (fun As R RO h => ?ln) (fun f cdv A outer s H hr => ?bd)
  case ln =>
    unfold ct_law_told at h
    first | (obtain ⟨_, rfl, _⟩ := h; rfl) | (obtain ⟨_, _, rfl, _⟩ := h; rfl) | (obtain ⟨_, _, _, rfl, _⟩ := h; rfl) | (obtain ⟨_, _, _, _, rfl, _⟩ := h; rfl) | (obtain ⟨_, _, _, _, _, rfl, _⟩ := h; rfl) | (obtain ⟨_, _, _, _, _, _, rfl, _⟩ := h; rfl) | (obtain ⟨_, _, _, _, _, _, _, rfl, _⟩ := h; rfl)
  case bd =>
    refine ⟨_, (pss_cons (ps_set (i := 1) sc_law_told.nd rfl (Or.inl rfl) pe_non)
    (pss_cons (ps_set (i := 2) sc_law_told.nd rfl (Or.inl rfl) pe_non)
    (pss_cons (ps_tryKK (K := K) (i := 3) rfl rfl rfl rfl sc_law_told.nd rfl rfl (by rfl) D.m_LoadError takes00 (fun W1 pn1 xe1 tk1 po1 => (pss_one (ps_set (i := 2) sc_law_told.nd rfl (Or.inl rfl) (pe_calX c_look_at_string (fun σ => passAt tk1 σ) hr (by rfl) (pa_cons (pv 0) pa_nil))))) (fun _ _ => (pss_one (ps_set (i := 1) sc_law_told.nd rfl (Or.inl rfl) (pv 3)))))
    (pss_cons (ps_if (pt_cmpR op_isN (pv 1) pe_non (nomark _)) (pss_one (ps_ret (pe_ix (ix_seqK (K := K)) (pe_lst (pa_cons (pe_lst pa_nil) (pa_cons (pe_lst (pa_cons pe_str pa_nil)) pa_nil))) (pe_callTy call_intA (by rfl) D.b_int (by decide +kernel) (pa_cons (pe_cmpR op_notN (pv 2) pe_non (nomark _)) pa_nil)) (fun _ _ => rfl)))) pss_nil)
    (pss_cons (ps_if (PW.pt (pw_or (pt_not (pt_trK (K := K) (pe_callB (call_isZ (K := K)) (by rfl) D.b_isinstance (by decide +kernel) (pa_cons (pv 1) (pa_cons (pe_glob (v := .ref (He.ga K "NoString")) (by rfl) D.m_NoString rfl) pa_nil))))) (pw_or1 (pt_not (pt_trK (K := K) (pe_callB (call_isZ (K := K)) (by rfl) D.b_isinstance (by decide +kernel) (pa_cons (pv 1) (pa_cons (pe_bltn (v := .ty "ValueError") (by rfl) D.b_ValueError (by decide +kernel) rfl) pa_nil)))))))) (pss_one (ps_ret (pe_lst (pa_cons pe_str pa_nil)))) pss_nil)
    (pss_cons (ps_if (PW.pt (pw_or (pt_trK (K := K) (pe_callB (call_isZ (K := K)) (by rfl) D.b_isinstance (by decide +kernel) (pa_cons (pv 1) (pa_cons (pe_tup (pa_cons (pe_glob (v := .ref (He.ga K "NoName")) (by rfl) D.m_NoName rfl) (pa_cons (pe_glob (v := .ref (He.ga K "NoPlace")) (by rfl) D.m_NoPlace rfl) (pa_cons (pe_glob (v := .ref (He.ga K "NoRing")) (by rfl) D.m_NoRing rfl) (pa_cons (pe_glob (v := .ref (He.ga K "TooMany")) (by rfl) D.m_TooMany rfl) pa_nil))))) pa_nil)))) (pw_or1 (pt_trK (K := K) (pe_callB (call_isiK' (K := K)) (by rfl) D.b_isinstance (by decide +kernel) (pa_cons (pe_fx (K := K) (pv 1)) (pa_cons (pe_bltn (v := .ty "bool") (by rfl) D.b_bool (by decide +kernel) rfl) pa_nil))))))) (pss_one (ps_ret (pe_lst (pa_cons pe_str pa_nil)))) pss_nil)
    (pss_one (ps_ret (pe_lst (pa_cons (pe_fx (K := K) (pv 1)) pa_nil)))))))))), fun F G0 As R RO h => ?_⟩
    obtain ⟨d, rfl, hsm, hR1, hR2⟩ := h
    walk_at "gq"
    cases hs : strD d with
    | none =>
      have hR := hR1 hs
      refine gs_join (fun γ => γ = [.sh (aD d), .sh aN, .sh aN, .non]) (gs_tryK sx00 D.xs.s (x := "LoadError") (by decide +kernel) rfl (kx := fun _ _ _ => False) (fun W G0' hX => ?_) (fun y Fs γ' hk => hk.elim)) ?_
      · walk_at "gq"
        refine ⟨d, rfl, hsm, fun _ => rfl, fun o h' => absurd (hs.symm.trans h') nofun⟩
      · rintro _ rfl
        walk_at "gq"
        refine gs_seq (gs_if ?_)
        walk_at "gq"
        refine o_ixL rfl ?_
        exact hR
    | some o =>
      have hR := hR2 o hs
      have ev : ∃ v : V, aO o = aV v ∧ (v = .non ∨ ∃ i, v = .int i) := by
        cases o with
        | none => exact ⟨.non, rfl, .inl rfl⟩
        | some n => exact ⟨.int (n : Nat), rfl, .inr ⟨_, rfl⟩⟩
      refine gs_seq (gs_tryK sx00 D.xs.s (x := "LoadError") (by decide +kernel) rfl (kx := fun y Fs γ => y = "NoString" ∧ Fs = [(("number" : Str), aO o)] ∧ γ = [.sh (aD d), .sh aN, .sh aN, .non]) (fun W G0' hX => ?_) (fun y Fs γ' hk => ?_))
      · walk_at "gq"
        refine ⟨d, rfl, hsm, fun h' => absurd (hs.symm.trans h') nofun, fun o' h' => ?_⟩
        obtain rfl : o = o' := by
          have := hs.symm.trans h'
          injection this
        exact ⟨rfl, rfl, rfl⟩
      · obtain ⟨rfl, rfl, rfl⟩ := hk
        refine ⟨by decide +kernel, fun _ => ?_, fun h => absurd h (by decide +kernel)⟩
        walk_at "go"
        refine ⟨_, _, _, rfl, by decide +kernel, D.f_NoString_number, rfl, ?_⟩
        obtain ⟨v, ev, hv⟩ := ev
        rw [ev] at hR ⊢
        rcases hv with rfl | ⟨i, rfl⟩
        · walk_at "go"
          refine ⟨_, _, _, rfl, by decide +kernel, D.f_NoString_number, rfl, ?_⟩
          walk_at "go"
          exact hR
        · walk_at "go"
          refine ⟨_, _, _, rfl, by decide +kernel, D.f_NoString_number, rfl, ?_⟩
          walk_at "go"
          exact hR
def ct_law_whole : Ct := fun As R _ => ∃ d : Dt, As = [aD d] ∧ R (aB (wholeD d))
theorem k_law_whole (D : Defs K mg) : Cal P w K mg base 1 "_law_whole" ["_law_thing"] (spOf K ct_law_whole) := by
  have xs := D.xs
  refine fn_ok D.d_law_whole sc_law_whole (fun As R RO h => ?ln) (fun f cdv A outer s H hr => ?bd)
  case ln =>
    unfold ct_law_whole at h
    first | (obtain ⟨_, rfl, _⟩ := h; rfl) | (obtain ⟨_, _, rfl, _⟩ := h; rfl) | (obtain ⟨_, _, _, rfl, _⟩ := h; rfl) | (obtain ⟨_, _, _, _, rfl, _⟩ := h; rfl) | (obtain ⟨_, _, _, _, _, rfl, _⟩ := h; rfl) | (obtain ⟨_, _, _, _, _, _, rfl, _⟩ := h; rfl) | (obtain ⟨_, _, _, _, _, _, _, rfl, _⟩ := h; rfl)
  case bd =>
    refine ⟨_, (pss_one (ps_ret (pe_and (pe_callB (call_isiK' (K := K)) (by rfl) D.b_isinstance (by decide +kernel) (pa_cons (pv 0) (pa_cons (pe_bltn (v := .ty "int") (by rfl) D.b_int (by decide +kernel) rfl) pa_nil))) (pe_one (pe_not (pe_callB (call_isiK' (K := K)) (by rfl) D.b_isinstance (by decide +kernel) (pa_cons (pv 0) (pa_cons (pe_bltn (v := .ty "bool") (by rfl) D.b_bool (by decide +kernel) rfl) pa_nil)))))))), fun F G0 As R RO h => ?_⟩
    obtain ⟨d, rfl, hR⟩ := h
    cases d with
    | i n =>
      rw [aD_i]
      walk_at "go"
      exact hR
    | s n =>
      rw [aD_s]
      walk_at "go"
      exact hR
    | b n =>
      rw [aD_b]
      walk_at "go"
      exact hR
    | n =>
      rw [aD_n]
      walk_at "go"
      exact hR
    | t ds =>
      rw [aD_t]
      walk_at "go"
      exact hR
    | k kvs =>
      rw [aD_k]
      walk_at "go"
      exact hR
    | l ds =>
      rw [aD_l]
      walk_at "go"
      exact hR
def ct_law_is_place : Ct := fun As R _ => ∃ (rs : List (List AV × AV)) (d : Dt), As = [aLst (rs.map aRg), aD d] ∧ R (aB (plcD (rs.map fun x => x.1.length) d))
theorem k_law_is_place (D : Defs K mg) (c_law_whole : Cal P w K mg base 1 "_law_whole" ["_law_thing"] (spOf K ct_law_whole)) : Cal P w K mg base 2 "_law_is_place" ["_law_string_here", "_law_thing"] (spOf K ct_law_is_place) := by
  have xs := D.xs
  refine fn_ok D.d_law_is_place sc_law_is_place (fun As R RO h => ?ln) (fun f cdv A outer s H hr => ?bd)
  case ln =>
    unfold ct_law_is_place at h
    first | (obtain ⟨_, rfl, _⟩ := h; rfl) | (obtain ⟨_, _, rfl, _⟩ := h; rfl) | (obtain ⟨_, _, _, rfl, _⟩ := h; rfl) | (obtain ⟨_, _, _, _, rfl, _⟩ := h; rfl) | (obtain ⟨_, _, _, _, _, rfl, _⟩ := h; rfl) | (obtain ⟨_, _, _, _, _, _, rfl, _⟩ := h; rfl) | (obtain ⟨_, _, _, _, _, _, _, rfl, _⟩ := h; rfl)
  case bd =>
    refine ⟨_, (pss_cons (ps_if (PW.pt (pw_or (pt_not (pt_trK (K := K) (pe_callB (call_isiK' (K := K)) (by rfl) D.b_isinstance (by decide +kernel) (pa_cons (pv 1) (pa_cons (pe_bltn (v := .ty "tuple") (by rfl) D.b_tuple (by decide +kernel) rfl) pa_nil))))) (pw_or (pt_cmpR (op_neK (K := K) hr) (pe_callB (call_lenK (K := K)) (by rfl) D.b_len (by decide +kernel) (pa_cons (pv 1) pa_nil)) pe_int (nomark _)) (pw_or (pt_not (pt_trK (K := K) (pe_cal c_law_whole hr (by rfl) (pa_cons (pe_ix (ix_seqK (K := K)) (pv 1) pe_int (fun _ _ => rfl)) pa_nil)))) (pw_or1 (pt_not (pt_trK (K := K) (pe_cal c_law_whole hr (by rfl) (pa_cons (pe_ix (ix_seqK (K := K)) (pv 1) pe_int (fun _ _ => rfl)) pa_nil))))))))) (pss_one (ps_ret pe_bl)) pss_nil)
    (pss_cons (ps_if (PW.pt (pw_or (pt_not (pt_chain op_le op_lt pe_int (pe_ix (ix_seqK (K := K)) (pv 1) pe_int (fun _ _ => rfl)) (pe_callB (call_lenK (K := K)) (by rfl) D.b_len (by decide +kernel) (pa_cons (pv 0) pa_nil)))) (pw_or1 (pt_not (pt_chain op_le op_lt pe_int (pe_ix (ix_seqK (K := K)) (pv 1) pe_int (fun _ _ => rfl)) (pe_callB (call_lenK (K := K)) (by rfl) D.b_len (by decide +kernel) (pa_cons (pe_ix (ix_seqK (K := K)) (pe_ix (ix_seqK (K := K)) (pv 0) (pe_ix (ix_seqK (K := K)) (pv 1) pe_int (fun _ _ => rfl)) (fun _ _ => rfl)) pe_int (fun _ _ => rfl)) pa_nil))))))) (pss_one (ps_ret pe_bl)) pss_nil)
    (pss_one (ps_ret (pe_or (pe_cmpR (op_eqK (K := K) hr) (pe_ix (ix_seqK (K := K)) (pv 1) pe_int (fun _ _ => rfl)) pe_int (nomark _)) (pe_one (pe_cmpR op_gt (pe_ix (ix_seqK (K := K)) (pv 1) pe_int (fun _ _ => rfl)) pe_int (nomark _)))))))), fun F G0 As R RO h => ?_⟩
    obtain ⟨rs, d, rfl, hR⟩ := h
    cases d with
    | i x =>
      rw [aD_i]
      walk_at "go"
      exact hR
    | s x =>
      rw [aD_s]
      walk_at "go"
      exact hR
    | b x =>
      rw [aD_b]
      walk_at "go"
      exact hR
    | n =>
      rw [aD_n]
      walk_at "go"
      exact hR
    | k x =>
      rw [aD_k]
      walk_at "go"
      exact hR
    | l x =>
      rw [aD_l]
      walk_at "go"
      exact hR
    | t ds =>
      rw [aD_t]
      match ds, hR with
      | [], hR =>
        walk_at "go"
        exact hR
      | [x], hR =>
        have e : plcD (rs.map fun x => x.1.length) (.t [x]) = false := by cases x <;> rfl
        rw [e] at hR
        walk_at "go"
        exact hR
      | x :: y :: z :: r, hR =>
        have e : plcD (rs.map fun x => x.1.length) (.t (x :: y :: z :: r)) = false := by cases x <;> cases y <;> rfl
        rw [e] at hR
        walk_at "go"
        exact hR
      | [x, y], hR =>
        simp only [List.map_cons, List.map_nil]
        refine gs_seq (gs_if ?_)
        walk_at "gq"
        refine ⟨x, rfl, ?_⟩
        by_cases hx : wholeD x = true
        · obtain ⟨a, rfl⟩ := whole_i hx
          walk_at "gq"
          refine ⟨y, rfl, ?_⟩
          by_cases hy : wholeD y = true
          · obtain ⟨b, rfl⟩ := whole_i hy
            have e : plcD (rs.map fun x => x.1.length) (.t [.i a, .i b]) = (decide (0 ≤ a) && decide (a < (((rs.map fun x => x.1.length).length : Nat) : Int)) && (decide (0 ≤ b) && decide (b < ((rs.map fun x => x.1.length).getD a.toNat 0 : Nat))) && (decide (a = 0) || decide (0 < b))) := rfl
            rw [e, List.length_map] at hR
            rw [aD_i, aD_i]
            walk_at "gq"
            refine gs_seq (gs_if ?_)
            walk_at "gq"
            cases ha : decide (0 ≤ a) with
            | false =>
              rw [ha] at hR
              walk_at "gq"
              exact hR
            | true =>
            rw [ha, Bool.true_and] at hR
            walk_at "gq"
            rw [List.length_map]
            cases ha2 : decide (a < ((rs.length : Nat) : Int)) with
            | false =>
              rw [ha2] at hR
              walk_at "gq"
              exact hR
            | true =>
            rw [ha2, Bool.true_and] at hR
            have ha := of_decide_eq_true ha
            have ha2 := of_decide_eq_true ha2
            obtain ⟨n, rfl⟩ := Int.eq_ofNat_of_zero_le ha
            have hn : n < rs.length := by omega
            rw [Int.toNat_natCast, List.getD_eq_getElem?_getD, List.getElem?_map, List.getElem?_eq_getElem hn] at hR
            have hR : R (aB (decide (0 ≤ b) && decide (b < ((rs[n].1.length : Nat) : Int)) && (decide ((n : Int) = 0) || decide (0 < b)))) := hR
            walk_at "gq"
            cases hb : decide (0 ≤ b) with
            | false =>
              rw [hb] at hR
              walk_at "gq"
              exact hR
            | true =>
            rw [hb, Bool.true_and] at hR
            walk_at "gq"
            refine o_ixL (get_map hn) ?_
            unfold aRg
            walk_at "gq"
            cases hb2 : decide (b < ((rs[n].1.length : Nat) : Int)) with
            | false =>
              rw [hb2] at hR
              walk_at "gq"
              exact hR
            | true =>
            rw [hb2, Bool.true_and] at hR
            walk_at "gq"
            refine ⟨fun h => ?_, fun h => ?_⟩
            · rw [h, Bool.false_or] at hR
              walk_at "gq"
              exact hR
            · rw [h] at hR
              exact hR
          · have hy : wholeD y = false := by simpa using hy
            have e : plcD (rs.map fun x => x.1.length) (.t [.i a, y]) = false := by cases y <;> first | rfl | cases hy
            rw [e] at hR
            rw [hy]
            walk_at "go"
            exact hR
        · have hx : wholeD x = false := by simpa using hx
          have e : plcD (rs.map fun x => x.1.length) (.t [x, y]) = false := by cases x <;> first | rfl | cases hx
          rw [e] at hR
          rw [hx]
          walk_at "go"
          exact hR
def ct_law_low : Ct := fun As R _ => ∃ t b : Int, As = [aInt t, aInt b] ∧ b ≠ 0 ∧ b.natAbs.log2 < 9000 ∧ R (aF (Rat.divInt t b))
theorem k_law_low (D : Defs K mg) : Cal P w K mg base 1 "_law_low" ["_law_top", "_law_bottom"] (spOf K ct_law_low) := by
  have xs := D.xs
  refine fn_ok D.d_law_low sc_law_low (fun As R RO h => ?ln) (fun f cdv A outer s H hr => ?bd)
  case ln =>
    unfold ct_law_low at h
    first | (obtain ⟨_, rfl, _⟩ := h; rfl) | (obtain ⟨_, _, rfl, _⟩ := h; rfl) | (obtain ⟨_, _, _, rfl, _⟩ := h; rfl) | (obtain ⟨_, _, _, _, rfl, _⟩ := h; rfl) | (obtain ⟨_, _, _, _, _, rfl, _⟩ := h; rfl) | (obtain ⟨_, _, _, _, _, _, rfl, _⟩ := h; rfl) | (obtain ⟨_, _, _, _, _, _, _, rfl, _⟩ := h; rfl)
  case bd =>
    refine ⟨_, (pss_cons (ps_set (i := 2) sc_law_low.nd rfl (Or.inl rfl) (pe_callB call_absA (by rfl) D.b_abs (by decide +kernel) (pa_cons (pv 0) pa_nil)))
    (pss_cons (ps_set (i := 3) sc_law_low.nd rfl (Or.inl rfl) (pe_callB call_absA (by rfl) D.b_abs (by decide +kernel) (pa_cons (pv 1) pa_nil)))
    (pss_cons (ps_while PassesOwn.never (pt_cmpR (op_neK (K := K) hr) (pv 2) pe_int (nomark _)) (pss_one (ps_par (i := 2) (j := 3) (by rfl) sc_law_low.nd rfl rfl (by decide) rfl rfl (pa_cons (pe_op op_modN (pv 3) (pv 2)) (pa_cons (pv 2) pa_nil)) (by rfl))))
    (pss_cons (ps_if (pt_cmpR op_lt (pv 1) pe_int (nomark _)) (pss_one (ps_set (i := 3) sc_law_low.nd rfl (Or.inl rfl) (pe_op op_sub pe_int (pv 3)))) pss_nil)
    (pss_one (ps_ret (pe_tup (pa_cons (pe_op op_fdivA (pv 0) (pv 3)) (pa_cons (pe_op op_fdivA (pv 1) (pv 3)) pa_nil))))))))), fun F G0 As R RO h => ?_⟩
    obtain ⟨t, b, rfl, hb, hs, hR⟩ := h
    obtain ⟨g0, g1⟩ := gcd_div (t := t) hb hs
    walk_at "go"
    refine gs_while (fun m γ => ∃ x y : Int, γ = [.sh (aInt t), .sh (aInt b), .sh (aInt x), .sh (aInt y)] ∧ 0 ≤ x ∧ 0 ≤ y ∧ Int.gcd y x = Int.gcd t b ∧ m = x.natAbs) _ ⟨_, _, rfl, by split <;> omega, by split <;> omega, ?_, rfl⟩ ?_
    · rw [abs_if, abs_if, Int.gcd_comm t b]
      show Nat.gcd _ _ = Nat.gcd _ _
      simp
    rintro _ _ ⟨x, y, rfl, hx, hy, hp, rfl⟩
    walk_at "go"
    refine ⟨fun hb => ?_, fun hb => ?_⟩
    · have h0 : x ≠ 0 := by simpa using hb
      have e0 := Int.fmod_nonneg_of_pos y (show 0 < x by omega)
      walk_at "go"
      refine ⟨_, (gcd_step (a := y) h0).2, _, _, rfl, e0, hx, ?_, rfl⟩
      exact (gcd_step h0).1.trans hp
    · have h0 : x = 0 := by simpa using hb
      have hy' : y = (Int.gcd t b : Nat) := by
        rw [← hp, h0, Int.gcd_zero_right]
        omega
      walk_at "go"
      refine ⟨fun hb => ?_, fun hb => ?_⟩
      · have h0 : b < 0 := by simpa using hb
        have hc : ∀ x, CDivA x (0 - y) := fun x => ⟨by omega, by
          rw [show (0 - y).natAbs = Int.gcd t b by omega]
          exact g1⟩
        walk_at "go"
        refine o_fdiv (hc _) ?_
        walk_at "go"
        refine o_fdiv (hc _) ?_
        walk_at "go"
        rw [hy', (low_neg h0).1, (low_neg h0).2]
        exact hR
      · have h0 : 0 < b := by
          have : ¬ b < 0 := by simpa using hb
          omega
        have hc : ∀ x, CDivA x y := fun x => ⟨by omega, by
          rw [hy', Int.natAbs_natCast]
          exact g1⟩
        walk_at "go"
        refine o_fdiv (hc _) ?_
        walk_at "go"
        refine o_fdiv (hc _) ?_
        walk_at "go"
        rw [hy', (low_pos h0).1, (low_pos h0).2]
        exact hR
theorem low_same {a b : Int} (hb : 0 < b) : (decide ((Rat.divInt a b).num = a) && (decide ((((Rat.divInt a b).den : Nat) : Int) = b))) = decide (((Int.gcd a b : Nat) : Int) = 1) := by
  obtain ⟨h1, h2⟩ := low_pos (t := a) hb
  rw [← h1, ← h2, Bool.eq_iff_iff, Bool.and_eq_true, decide_eq_true_iff, decide_eq_true_iff, decide_eq_true_iff]
  constructor
  · rintro ⟨_, h⟩
    have g0 : Int.gcd a b ∣ b.natAbs := Int.gcd_dvd_natAbs_right a b
    have gp : 0 < Int.gcd a b := Nat.pos_of_ne_zero fun z => by
      rw [z] at g0
      have := Nat.eq_zero_of_zero_dvd g0
      omega
    obtain ⟨k, hk⟩ := g0
    have hbk : b = ((Int.gcd a b : Nat) : Int) * k := by omega
    generalize Int.gcd a b = g at *
    have h3 : b.fdiv ((g : Nat) : Int) = k := by
      rw [hbk, Int.mul_fdiv_cancel_left _ (by omega)]
    rw [h3] at h
    have : (k : Int) = (g : Int) * k := by omega
    have hk0 : 0 < (k : Int) := by
      rw [h]
      exact hb
    have e1 : (g : Int) * k = 1 * k := by omega
    have := Int.eq_of_mul_eq_mul_right (by omega) e1
    omega
  · intro h
    rw [h]
    exact ⟨Int.fdiv_one _, Int.fdiv_one _⟩
def ct_law_ratio : Ct := fun As R _ => ∃ d : Dt, As = [aD d] ∧ d.sm ∧ R (aB (ratioD d))
theorem k_law_ratio (D : Defs K mg) (c_law_low : Cal P w K mg base 1 "_law_low" ["_law_top", "_law_bottom"] (spOf K ct_law_low)) (c_law_whole : Cal P w K mg base 1 "_law_whole" ["_law_thing"] (spOf K ct_law_whole)) : Cal P w K mg base 2 "_law_ratio" ["_law_thing"] (spOf K ct_law_ratio) := by
  have xs := D.xs
  refine fn_ok D.d_law_ratio sc_law_ratio (fun As R RO h => ?ln) (fun f cdv A outer s H hr => ?bd)
  case ln =>
    unfold ct_law_ratio at h
    first | (obtain ⟨_, rfl, _⟩ := h; rfl) | (obtain ⟨_, _, rfl, _⟩ := h; rfl) | (obtain ⟨_, _, _, rfl, _⟩ := h; rfl) | (obtain ⟨_, _, _, _, rfl, _⟩ := h; rfl) | (obtain ⟨_, _, _, _, _, rfl, _⟩ := h; rfl) | (obtain ⟨_, _, _, _, _, _, rfl, _⟩ := h; rfl) | (obtain ⟨_, _, _, _, _, _, _, rfl, _⟩ := h; rfl)
  case bd =>
    refine ⟨_, (pss_cons (ps_if (PW.pt (pw_or (pt_not (pt_trK (K := K) (pe_callB (call_isiK' (K := K)) (by rfl) D.b_isinstance (by decide +kernel) (pa_cons (pv 0) (pa_cons (pe_bltn (v := .ty "tuple") (by rfl) D.b_tuple (by decide +kernel) rfl) pa_nil))))) (pw_or (pt_cmpR (op_neK (K := K) hr) (pe_callB (call_lenK (K := K)) (by rfl) D.b_len (by decide +kernel) (pa_cons (pv 0) pa_nil)) pe_int (nomark _)) (pw_or (pt_not (pt_trK (K := K) (pe_cal c_law_whole hr (by rfl) (pa_cons (pe_ix (ix_seqK (K := K)) (pv 0) pe_int (fun _ _ => rfl)) pa_nil)))) (pw_or1 (pt_not (pt_trK (K := K) (pe_cal c_law_whole hr (by rfl) (pa_cons (pe_ix (ix_seqK (K := K)) (pv 0) pe_int (fun _ _ => rfl)) pa_nil))))))))) (pss_one (ps_ret pe_bl)) pss_nil)
    (pss_one (ps_ret (pe_and (pe_cmpR op_gt (pe_ix (ix_seqK (K := K)) (pv 0) pe_int (fun _ _ => rfl)) pe_int (nomark _)) (pe_one (pe_cmpR (op_eqK (K := K) hr) (pe_cal c_law_low hr (by rfl) (pa_cons (pe_ix (ix_seqK (K := K)) (pv 0) pe_int (fun _ _ => rfl)) (pa_cons (pe_ix (ix_seqK (K := K)) (pv 0) pe_int (fun _ _ => rfl)) pa_nil))) (pv 0) (nomark _))))))), fun F G0 As R RO h => ?_⟩
    obtain ⟨d, rfl, hsm, hR⟩ := h
    cases d with
    | i n =>
      rw [aD_i]
      walk_at "go"
      exact hR
    | s n =>
      rw [aD_s]
      walk_at "go"
      exact hR
    | b n =>
      rw [aD_b]
      walk_at "go"
      exact hR
    | n =>
      rw [aD_n]
      walk_at "go"
      exact hR
    | l ds =>
      rw [aD_l]
      walk_at "go"
      exact hR
    | k kvs =>
      rw [aD_k]
      walk_at "go"
      exact hR
    | t ds =>
      rw [aD_t]
      rw [Dt.sm] at hsm
      match ds, hR, hsm with
      | [], hR, _ =>
        walk_at "go"
        exact hR
      | [x], hR, _ =>
        have e : ratioD (.t [x]) = false := by cases x <;> rfl
        rw [e] at hR
        walk_at "go"
        exact hR
      | x :: y :: z :: r, hR, _ =>
        have e : ratioD (.t (x :: y :: z :: r)) = false := by cases x <;> cases y <;> rfl
        rw [e] at hR
        walk_at "go"
        exact hR
      | [x, y], hR, hsm =>
        walk_at "go"
        refine ⟨x, rfl, ?_⟩
        by_cases hx : wholeD x = true
        · obtain ⟨a, rfl⟩ := whole_i hx
          walk_at "go"
          refine ⟨y, rfl, ?_⟩
          by_cases hy : wholeD y = true
          · obtain ⟨b, rfl⟩ := whole_i hy
            have e : ratioD (.t [.i a, .i b]) = (decide (1 ≤ b) && decide (((Int.gcd a b : Nat) : Int) = 1)) := rfl
            rw [e] at hR
            have sa := sms_mem hsm.2 (show Dt.i a ∈ [Dt.i a, Dt.i b] from List.mem_cons_self ..)
            have sb := sms_mem hsm.2 (show Dt.i b ∈ [Dt.i a, Dt.i b] from List.mem_cons_of_mem _ (List.mem_singleton.mpr rfl))
            rw [Dt.sm] at sa sb
            walk_at "go"
            simp only [List.map_cons, List.map_nil, aD_i]
            walk_at "go"
            refine ⟨fun h1 => ?_, fun h1 => ?_⟩
            · have h0 : 0 < b := by simpa using h1
              walk_at "go"
              refine ⟨a, b, rfl, by omega, ?_, ?_⟩
              · have := log2_lt_pow sb (by decide)
                omega
              walk_at "go"
              have ev : PyData.eqv (fD (Rat.divInt a b)) (dCut (a, b)) = (decide (1 ≤ b) && decide (((Int.gcd a b : Nat) : Int) = 1)) := by
                rw [decide_eq_true (show 1 ≤ b by omega), Bool.true_and, ← low_same h0]
                show PyData.eqv (.tuple [.int _, .int _]) (.tuple [.int a, .int b]) = _
                rw [PyData.eqv, eqvAll_cons, eqvAll_cons, eqvAll_nil, eqv_int, eqv_int, Bool.and_true]
              refine o_eqd (isd_F _) (isd_cut (a, b)) (shaped_F _) (shaped_cut (a, b)) ev ?_
              exact hR
            · have h0 : ¬ (1 ≤ b) := by
                have : ¬ 0 < b := by simpa using h1
                omega
              rw [decide_eq_false h0] at hR
              exact hR
          · have hy : wholeD y = false := by simpa using hy
            have e : ratioD (.t [.i a, y]) = false := by cases y <;> first | rfl | cases hy
            rw [e] at hR
            rw [hy]
            walk_at "go"
            exact hR
        · have hx : wholeD x = false := by simpa using hx
          have e : ratioD (.t [x, y]) = false := by cases x <;> first | rfl | cases hx
          rw [e] at hR
          rw [hx]
          walk_at "go"
          exact hR
theorem not_filter {p : Dt → Bool} : ∀ rs : List Dt, ((rs.filter fun x => !p x).map aD).isEmpty = rs.all p
  | [] => rfl
  | x :: xs => by
    rw [List.filter_cons, List.all_cons]
    cases p x with
    | true => exact not_filter xs
    | false => rfl
def ct_law_fault : Ct := fun As R RO => ∃ d : Dt, As = [aD d] ∧ smL d ∧ RO (strA (strD d))
theorem k_law_fault (D : Defs K mg) (c_law_is_place : Cal P w K mg base 2 "_law_is_place" ["_law_string_here", "_law_thing"] (spOf K ct_law_is_place)) (c_law_ratio : Cal P w K mg base 2 "_law_ratio" ["_law_thing"] (spOf K ct_law_ratio)) : Cal P w K mg base 3 "_law_fault" ["_law_thing"] (spOf K ct_law_fault) := by
  have xs := D.xs
  refine fn_ok D.d_law_fault sc_law_fault (fun As R RO h => ?ln) (fun f cdv A outer s H hr => ?bd)
  case ln =>
    unfold ct_law_fault at h
    first | (obtain ⟨_, rfl, _⟩ := h; rfl) | (obtain ⟨_, _, rfl, _⟩ := h; rfl) | (obtain ⟨_, _, _, rfl, _⟩ := h; rfl) | (obtain ⟨_, _, _, _, rfl, _⟩ := h; rfl) | (obtain ⟨_, _, _, _, _, rfl, _⟩ := h; rfl) | (obtain ⟨_, _, _, _, _, _, rfl, _⟩ := h; rfl) | (obtain ⟨_, _, _, _, _, _, _, rfl, _⟩ := h; rfl)
  case bd =>
    refine ⟨_, (pss_cons (ps_if (PW.pt (pw_or (pt_not (pt_trK (K := K) (pe_callB (call_isiK' (K := K)) (by rfl) D.b_isinstance (by decide +kernel) (pa_cons (pv 0) (pa_cons (pe_bltn (v := .ty "list") (by rfl) D.b_list (by decide +kernel) rfl) pa_nil))))) (pw_or1 (pt_not (pt_chain op_le op_le pe_int (pe_callB (call_lenK (K := K)) (by rfl) D.b_len (by decide +kernel) (pa_cons (pv 0) pa_nil)) pe_int))))) (pss_one (ps_ret (pe_lst (pa_cons pe_non pa_nil)))) pss_nil)
    (pss_cons (ps_for PassesOwn.never rfl (pi_range1 (by rfl) D.b_range (pa_cons (pe_callB (call_lenK (K := K)) (by rfl) D.b_len (by decide +kernel) (pa_cons (pv 0) pa_nil)) pa_nil)) (pg_name (i := 1) sc_law_fault.nd rfl (Or.inl rfl)) (pss_cons (ps_set (i := 2) sc_law_fault.nd rfl (Or.inl rfl) (pe_ix (ix_seqK (K := K)) (pv 0) (pv 1) (fun _ _ => rfl)))
    (pss_cons (ps_if (PW.pt (pw_or (pt_not (pt_trK (K := K) (pe_callB (call_isiK' (K := K)) (by rfl) D.b_isinstance (by decide +kernel) (pa_cons (pv 2) (pa_cons (pe_bltn (v := .ty "tuple") (by rfl) D.b_tuple (by decide +kernel) rfl) pa_nil))))) (pw_or (pt_cmpR (op_neK (K := K) hr) (pe_callB (call_lenK (K := K)) (by rfl) D.b_len (by decide +kernel) (pa_cons (pv 2) pa_nil)) pe_int (nomark _)) (pw_or (pt_not (pt_trK (K := K) (pe_callB (call_isiK' (K := K)) (by rfl) D.b_isinstance (by decide +kernel) (pa_cons (pe_ix (ix_seqK (K := K)) (pv 2) pe_int (fun _ _ => rfl)) (pa_cons (pe_bltn (v := .ty "list") (by rfl) D.b_list (by decide +kernel) rfl) pa_nil))))) (pw_or1 (pt_not (pt_chain op_le op_le pe_int (pe_callB (call_lenK (K := K)) (by rfl) D.b_len (by decide +kernel) (pa_cons (pe_ix (ix_seqK (K := K)) (pv 2) pe_int (fun _ _ => rfl)) pa_nil)) pe_int))))))) (pss_one (ps_ret (pe_lst (pa_cons (pv 1) pa_nil)))) pss_nil)
    (pss_cons (ps_if (pt_cmpR (op_neNilK (K := K) hr) (pe_lc (own := [("_law_room", 3)]) rfl sc_law_fault.nd (pi_listK (K := K) (pe_ix (ix_seqK (K := K)) (pv 2) pe_int (fun _ _ => rfl))) (blkOk_by (own := [("_law_room", 3)]) (N := ["_law_thing", "_law_k", "_law_one", "_law_room"]) (sc := defScope s_law_fault) (by decide +kernel)) (fun _ _ _ _ _ => (pg_name (i := 3) sc_law_fault.nd rfl (Or.inl rfl))) (fun _ _ _ _ _ => (pts_one (PW.pt (pw_or (pt_not (pt_trK (K := K) (pe_cal c_law_ratio hr (by rfl) (pa_cons (pv 3) pa_nil)))) (pw_or1 (pt_cmpR op_lt (pe_ix (ix_seqK (K := K)) (pv 3) pe_int (fun _ _ => rfl)) pe_int (nomark _))))))) (fun _ _ _ _ _ => (pv 3))) (pe_lst pa_nil) (nomark _)) (pss_one (ps_ret (pe_lst (pa_cons (pv 1) pa_nil)))) pss_nil)
    (pss_one (ps_if (PW.pt (pw_or (PW.pt (pw_and (pt_cmpR (op_eqK (K := K) hr) (pv 1) pe_int (nomark _)) (pw_and1 (pt_cmpR op_notN (pe_ix (ix_seqK (K := K)) (pv 2) pe_int (fun _ _ => rfl)) pe_non (nomark _))))) (pw_or1 (PW.pt (pw_and (pt_cmpR op_gt (pv 1) pe_int (nomark _)) (pw_and1 (pt_not (pt_trK (K := K) (pe_cal c_law_is_place hr (by rfl) (pa_cons (pe_slice (sl_anyK (K := K)) (pv 0) po_none (po_some (pv 1))) (pa_cons (pe_ix (ix_seqK (K := K)) (pv 2) pe_int (fun _ _ => rfl)) pa_nil))))))))))) (pss_one (ps_ret (pe_lst (pa_cons (pv 1) pa_nil)))) pss_nil))))))
    (pss_one (ps_ret (pe_lst pa_nil))))), fun F G0 As R RO h => ?_⟩
    obtain ⟨d, rfl, hsm, hR⟩ := h
    cases d with
    | i x =>
      rw [aD_i]
      walk_at "go"
      exact hR
    | s x =>
      rw [aD_s]
      walk_at "go"
      exact hR
    | b x =>
      rw [aD_b]
      walk_at "go"
      exact hR
    | n =>
      rw [aD_n]
      walk_at "go"
      exact hR
    | k x =>
      rw [aD_k]
      walk_at "go"
      exact hR
    | t x =>
      rw [aD_t]
      walk_at "go"
      exact hR
    | l ds =>
      rw [aD_l]
      have hsm : Dt.sms ds := hsm
      have ln : (ds.map aD).length = ds.length := List.length_map ..
      refine gs_seq (gs_if ?_)
      walk_at "go"
      rw [ln]
      have bad : ¬ (1 ≤ ds.length ∧ ds.length ≤ 6) → strD (.l ds) = some none := fun h => by
        show (if _ then _ else _) = _
        rw [if_neg h]
      refine ⟨fun h1 => ?_, fun h1 => ?_⟩
      · have h1 : 1 ≤ ds.length := by have := of_decide_eq_true h1; omega
        walk_at "go"
        refine ⟨fun h2 => ?_, fun h2 => ?_⟩
        · have h2 : ¬ (ds.length : Int) ≤ 6 := by simpa using h2
          walk_at "go"
          rw [bad (by omega)] at hR
          exact hR
        have h2 : (ds.length : Int) ≤ 6 := by simpa using h2
        have good : strD (.l ds) = (firstNot (hungs ds) ds 0).map some := by
          show (if _ then _ else _) = _
          rw [if_pos ⟨h1, by omega⟩]
        walk_at "gq"
        refine gs_join (fun γ => ∃ (S1 S2 S3 : Sl), γ = [.sh (aLst (ds.map aD)), S1, S2, S3] ∧ ∀ j (h : j < ds.length), hungs ds j ds[j] = true) (gs_for (fun k γ => ∃ (S1 S2 S3 : Sl), γ = [.sh (aLst (ds.map aD)), S1, S2, S3] ∧ ∀ j (h : j < ds.length), j < k → hungs ds j ds[j] = true) ?_) ?_
        · walk_at "gq"
          rw [ln]
          refine ⟨by omega, by omega, ⟨_, _, _, rfl, fun j _ z => absurd z (Nat.not_lt_zero _)⟩, ?_, ?_⟩
          · rintro k B γ2 hB ⟨S1, S2, S3, rfl, hall⟩
            obtain ⟨y, hy, rfl⟩ := map_get hB
            obtain ⟨ey, hk⟩ := upFrom_get hy
            have hk : k < ds.length := by omega
            rw [Int.zero_add] at ey
            subst ey
            walk_at "gq"
            refine o_ixL (get_map hk) ?_
            have fin : hungs ds k ds[k] = false → RO [aInt (k : Nat)] := fun hr => by
              rw [good, firstNot_at hk hall hr] at hR
              exact hR
            have step : hungs ds k ds[k] = true → ∀ j (h : j < ds.length), j < k + 1 → hungs ds j ds[j] = true := fun hr j h hj => by
              by_cases e : j = k
              · subst e
                exact hr
              · exact hall j h (by omega)
            obtain ⟨g1, g2⟩ := rgD_at (ds := ds.take k) fun d hd => by
              obtain ⟨j, hj⟩ := List.getElem?_of_mem hd
              rw [List.getElem?_take] at hj
              split at hj
              · rename_i hjk
                obtain ⟨hj1, rfl⟩ := List.getElem?_eq_some_iff.mp hj
                exact hungD_t (hall j hj1 hjk)
              · cases hj
            have he : ∀ d, hungs ds k d = hungD ((ds.take k).map lenD) d := fun _ => rfl
            have l0 : ((ds.take k).map lenD).isEmpty = decide (k = 0) := by
              rw [Bool.eq_iff_iff, decide_eq_true_iff, List.isEmpty_iff]
              constructor
              · intro z
                have := congrArg List.length z
                rw [List.length_map, List.length_take, List.length_nil] at this
                omega
              · rintro rfl
                rfl
            have hsk := sms_mem hsm (List.getElem_mem hk)
            generalize ds[k] = x at *
            walk_at "gq"
            refine gs_seq (gs_if ?_)
            cases x with
            | n => rw [aD_n]; walk_at "go"; exact fin rfl
            | i v => rw [aD_i]; walk_at "go"; exact fin rfl
            | b v => rw [aD_b]; walk_at "go"; exact fin rfl
            | l v => rw [aD_l]; walk_at "go"; exact fin rfl
            | k v => rw [aD_k]; walk_at "go"; exact fin rfl
            | s v => rw [aD_s]; walk_at "go"; exact fin rfl
            | t xs =>
              rw [aD_t]
              match xs, fin, step, hsk with
              | [], fin, _, _ => walk_at "go"; exact fin rfl
              | [a], fin, _, _ => walk_at "go"; exact fin rfl
              | a :: b :: c :: r, fin, _, _ => walk_at "go"; exact fin rfl
              | [a, b], fin, step, hsk =>
                rw [he] at fin step
                have e2 : hungD ((ds.take k).map lenD) (.t [a, b]) = (roomsD a && if ((ds.take k).map lenD).isEmpty then isN b else plcD ((ds.take k).map lenD) b) := rfl
                rw [e2, l0] at fin step
                simp only [List.map_cons, List.map_nil]
                rw [Dt.sm, Dt.sms] at hsk
                have hsa := hsk.2.1
                have no : roomsD a = false → RO [aInt (k : Nat)] := fun h => fin (by rw [h, Bool.false_and])
                cases a with
                | n => rw [aD_n]; walk_at "go"; exact no rfl
                | i v => rw [aD_i]; walk_at "go"; exact no rfl
                | b v => rw [aD_b]; walk_at "go"; exact no rfl
                | t v => rw [aD_t]; walk_at "go"; exact no rfl
                | k v => rw [aD_k]; walk_at "go"; exact no rfl
                | s v => rw [aD_s]; walk_at "go"; exact no rfl
                | l rs =>
                  have lr : (rs.map aD).length = rs.length := List.length_map ..
                  have er : roomsD (.l rs) = (decide (2 ≤ rs.length) && decide (rs.length ≤ 12) && rs.all roomD) := rfl
                  rw [Dt.sm] at hsa
                  rw [aD_l]
                  walk_at "gq"
                  rw [lr, show decide ((2 : Int) ≤ ((rs.length : Nat) : Int)) = decide (2 ≤ rs.length) from decide_eq_decide.mpr (by omega)]
                  cases h2 : decide (2 ≤ rs.length) with
                  | false =>
                    walk_at "gq"
                    exact no (by rw [er, h2]; rfl)
                  | true =>
                  walk_at "gq"
                  rw [show decide (((rs.length : Nat) : Int) ≤ 12) = decide (rs.length ≤ 12) from decide_eq_decide.mpr (by omega)]
                  cases h3 : decide (rs.length ≤ 12) with
                  | false =>
                    walk_at "gq"
                    exact no (by rw [er, h2, h3]; rfl)
                  | true =>
                  have h4 := of_decide_eq_true h3
                  walk_at "gq"
                  refine gs_seq (gs_if ?_)
                  walk_at "gq"
                  refine ge_of_go (go_map aD rs (fun x => !roomD x) aD (tg_name (by decide)) ?_)
                  walk_at "gq"
                  refine ⟨by omega, rfl, fun F' G0' x hx => ?_, ?_⟩
                  · walk_at "gq"
                    refine ⟨x, rfl, sms_mem hsa.2 hx, ?_⟩
                    cases hr : ratioD x with
                    | false =>
                      have e : roomD x = false := by
                        unfold roomD
                        rw [hr]
                        rfl
                      rw [e]
                      walk_at "gq"
                      rfl
                    | true =>
                    obtain ⟨q, rfl⟩ := ratio_dF hr
                    rw [aD_F, roomD_F]
                    walk_at "gq"
                    refine ⟨?_, fun _ => ?_, fun _ => rfl⟩
                    · rw [← num_pos, Bool.eq_iff_iff, decide_eq_true_iff, Bool.not_eq_true', decide_eq_false_iff_not]
                      omega
                    · walk_at "gq"
                      first | exact ⟨rfl, rfl⟩ | rfl
                  refine all_a fun _ => ?_
                  walk_at "gq"
                  refine o_neNilK ?_
                  rw [not_filter]
                  cases ha : rs.all roomD with
                  | false =>
                    walk_at "gq"
                    exact no (by rw [er, ha, Bool.and_false])
                  | true =>
                  have eR : roomsD (.l rs) = true := by rw [er, h2, h3, ha]; rfl
                  rw [eR, Bool.true_and] at fin step
                  walk_at "gq"
                  refine gs_if ?_
                  walk_at "gq"
                  by_cases h0 : k = 0
                  · subst h0
                    rw [if_pos (decide_eq_true rfl)] at fin step
                    rw [decide_eq_true (show (((0 : Nat) : Int)) = 0 from rfl)]
                    cases b with
                    | n =>
                      rw [aD_n]
                      walk_at "gq"
                      exact ⟨_, _, _, rfl, step rfl⟩
                    | i v => rw [aD_i]; walk_at "gq"; exact fin rfl
                    | b v => rw [aD_b]; walk_at "gq"; exact fin rfl
                    | l v => rw [aD_l]; walk_at "gq"; exact fin rfl
                    | t v => rw [aD_t]; walk_at "gq"; exact fin rfl
                    | k v => rw [aD_k]; walk_at "gq"; exact fin rfl
                    | s v => rw [aD_s]; walk_at "gq"; exact fin rfl
                  · rw [if_neg (by rw [decide_eq_false h0]; decide)] at fin step
                    rw [decide_eq_false (show ¬ ((k : Nat) : Int) = 0 by omega)]
                    walk_at "gq"
                    rw [decide_eq_true (show (0 : Int) < ((k : Nat) : Int) by omega)]
                    walk_at "gq"
                    rw [cutL_to, ← List.map_take, g1]
                    refine ⟨(ds.take k).map rgD, b, rfl, ?_⟩
                    rw [g2]
                    cases hp : plcD ((ds.take k).map lenD) b with
                    | false =>
                      walk_at "gq"
                      exact fin hp
                    | true =>
                      walk_at "gq"
                      exact ⟨_, _, _, rfl, step hp⟩
          · rintro γ ⟨S1, S2, S3, rfl, hall⟩
            rw [List.length_map, upFrom_len] at hall
            exact ⟨_, _, _, rfl, fun j h => hall j h (by omega)⟩
        rintro _ ⟨S1, S2, S3, rfl, hall⟩
        walk_at "gq"
        rw [good, firstNot_none hall] at hR
        exact hR
      · walk_at "go"
        rw [bad (fun h => absurd h1 (by rw [decide_eq_true (by omega)]; decide))] at hR
        exact hR
theorem take_step {d s : Int} {i : Nat} (hd : d.natAbs < 2 ^ (32 * i)) (h0 : 0 ≤ s) (h1 : s < 2147483647) : (d * 2147483629 + (s * s).fmod 2147483629).natAbs < 2 ^ (32 * (i + 1)) := by
  have h2 := Int.fmod_nonneg_of_pos (s * s) (show (0 : Int) < 2147483629 by decide)
  have h3 := Int.fmod_lt_of_pos (s * s) (show (0 : Int) < 2147483629 by decide)
  rw [show 32 * (i + 1) = 32 * i + 32 by omega, Nat.pow_add]
  generalize (s * s).fmod 2147483629 = r at *
  generalize 2 ^ (32 * i) = p at *
  omega
def ct_law_take : Cm := fun S As R _ => ∃ (c s : Int) (b : Bool) (n : Int), S = [aInt c, aInt s, aB b] ∧ As = [aInt n] ∧ 0 < n ∧ n.natAbs < 2 ^ 255 ∧ 0 ≤ s ∧ s < 2147483647 ∧
  ∀ r c' s' b', 0 ≤ r → r < n → 0 ≤ s' → s' < 2147483647 → R (aInt r) [aInt c', aInt s', aB b']
theorem k_law_take (D : Defs K mg) : Cal P w K mg base 1 "_law_take" ["_law_state", "_law_many"] (spM K ct_law_take) := by
  have xs := D.xs
  refine fn_okM D.d_law_take sc_law_take (fun S As R RO h => ?ln) (fun f cdv A outer s H hr => ?bd)
  case ln =>
    obtain ⟨_, _, _, _, rfl, rfl, _⟩ := h; rfl
  case bd =>
    refine ⟨_, (pss_cons (ps_if (pt_trK (K := K) (pe_ix (ix_seqK (K := K)) (pv 0) pe_int (fun _ _ => rfl))) (pss_cons (ps_set (i := 2) sc_law_take.nd rfl (Or.inl rfl) (pe_op op_modN (pe_ix (ix_seqK (K := K)) (pv 0) pe_int (fun _ _ => rfl)) (pv 1)))
    (pss_cons (ps_asg (pe_op op_fdivA (pe_ix (ix_seqK (K := K)) (pv 0) pe_int (fun _ _ => rfl)) (pv 1)) (pg_sub (pv 0) pe_int set_list))
    (pss_cons (ps_asg (pe_cmpR op_gt (pe_ix (ix_seqK (K := K)) (pv 0) pe_int (fun _ _ => rfl)) pe_int (nomark _)) (pg_sub (pv 0) pe_int set_list))
    (pss_one (ps_ret (pv 2)))))) pss_nil)
    (pss_cons (ps_set (i := 3) sc_law_take.nd rfl (Or.inl rfl) pe_int)
    (pss_cons (ps_for PassesOwn.never rfl (pi_range1 (by rfl) D.b_range (pa_cons (pe_op (op_addK (K := K)) pe_int (pe_op op_mulA pe_int (pe_callTy call_intA (by rfl) D.b_int (by decide +kernel) (pa_cons (pe_cmpR op_gt (pv 1) (pe_op op_pow pe_int pe_int) (nomark _)) pa_nil)))) pa_nil)) (pg_name (i := 4) sc_law_take.nd rfl (Or.inl rfl)) (pss_cons (ps_asg (pe_op op_modN (pe_op (op_addK (K := K)) (pe_op op_mulA (pe_ix (ix_seqK (K := K)) (pv 0) pe_int (fun _ _ => rfl)) pe_int) pe_int) pe_int) (pg_sub (pv 0) pe_int set_list))
    (pss_one (ps_set (i := 3) sc_law_take.nd rfl (Or.inl rfl) (pe_op (op_addK (K := K)) (pe_op op_mulA (pv 3) pe_int) (pe_op op_modN (pe_op op_mulA (pe_ix (ix_seqK (K := K)) (pv 0) pe_int (fun _ _ => rfl)) (pe_ix (ix_seqK (K := K)) (pv 0) pe_int (fun _ _ => rfl))) pe_int))))))
    (pss_one (ps_ret (pe_op op_modN (pe_op op_fdivA (pv 3) pe_int) (pv 1))))))), fun F G0 l S As R RO h => ?_⟩
    obtain ⟨c, s1, b, n, rfl, rfl, hn, hz, h0, h1, hR⟩ := h
    have hn0 : n ≠ 0 := by omega
    have hdiv : ∀ x, CDivA x n := fun x => ⟨hn0, by have := log2_lt_pow hz (by decide); omega⟩
    have mod0 : ∀ x : Int, 0 ≤ x.fmod n := fun x => Int.fmod_nonneg_of_pos x hn
    have mod1 : ∀ x : Int, x.fmod n < n := fun x => Int.fmod_lt_of_pos x hn
    walk_at "go"
    refine ⟨fun hb => ?_, fun hb => ?_⟩
    · walk_at "go"
      refine o_fdiv (hdiv _) ?_
      walk_at "go"
      exact hR _ _ _ _ (mod0 _) (mod1 _) h0 h1
    · walk_at "go"
      refine gs_for (fun i γ => ∃ s' d S2 S4, γ = [.own l [aInt c, aInt s', aB b], .sh (aInt n), S2, .sh (aInt d), S4] ∧ 0 ≤ s' ∧ s' < 2147483647 ∧ d.natAbs < 2 ^ (32 * i)) (gi_rng1 ?_)
      walk_at "go"
      refine ⟨by split <;> omega, by split <;> omega, ⟨_, _, _, _, rfl, h0, h1, by decide⟩, ?_, ?_⟩
      · rintro i B γ2 hB ⟨s', d, S2, S4, rfl, q0, q1, q2⟩
        have hi : i < 9 := by
          obtain ⟨x, hx, _⟩ := map_get hB
          have := (upFrom_get hx).2
          split at this <;> omega
        have hd : d.natAbs < 2 ^ 300 := Nat.lt_of_lt_of_le q2 (two_mono (by omega))
        have e0 := Int.fmod_nonneg_of_pos (s' * 39373 + 17) (show (0 : Int) < 2147483647 by decide)
        have e1 := Int.fmod_lt_of_pos (s' * 39373 + 17) (show (0 : Int) < 2147483647 by decide)
        walk_at "go"
        refine o_mul (mulW (a := 300) (b := 80) hd (by decide) (by decide)) ?_
        walk_at "go"
        exact ⟨_, _, _, _, rfl, e0, e1, take_step q2 e0 e1⟩
      · rintro γ2 ⟨s', d, S2, S4, rfl, q0, q1, q2⟩
        walk_at "go"
        exact hR _ _ _ _ (mod0 _) (mod1 _) q0 q1
def ct_law_odd : Cm := fun S0 As R _ => ∃ (c s : Int) (b : Bool) (S : List SR), S0 = [aInt c, aInt s, aB b] ∧ As = [aSg S] ∧ SgOk S ∧ 0 ≤ s ∧ s < 2147483647 ∧
  ∀ (A : AV) c' s' b', Sq 7 3000000 A → 0 ≤ s' → s' < 2147483647 → R A [aInt c', aInt s', aB b']
theorem k_law_odd (D : Defs K mg) (c_law_take : Cal P w K mg base 1 "_law_take" ["_law_state", "_law_many"] (spM K ct_law_take)) : Cal P w K mg base 2 "_law_odd" ["_law_state", "_law_string_here"] (spM K ct_law_odd) := by
  have xs := D.xs
  refine fn_okM D.d_law_odd sc_law_odd (fun S As R RO h => ?ln) (fun f cdv A outer s H hr => ?bd)
  case ln =>
    unfold ct_law_odd at h
    first | (obtain ⟨_, rfl, _⟩ := h; rfl) | (obtain ⟨_, _, rfl, _⟩ := h; rfl) | (obtain ⟨_, _, _, rfl, _⟩ := h; rfl) | (obtain ⟨_, _, _, _, rfl, _⟩ := h; rfl) | (obtain ⟨_, _, _, _, _, rfl, _⟩ := h; rfl) | (obtain ⟨_, _, _, _, _, _, rfl, _⟩ := h; rfl) | (obtain ⟨_, _, _, _, _, _, _, rfl, _⟩ := h; rfl)
  case bd =>
    refine ⟨_, (pss_cons (ps_set (i := 2) sc_law_odd.nd rfl (Or.inl rfl) (pe_cal c_law_take hr (by rfl) (pa_cons (pv 0) (pa_cons (pe_callB (call_lenK (K := K)) (by rfl) D.b_len (by decide +kernel) (pa_cons (pv 1) pa_nil)) pa_nil))))
    (pss_cons (ps_asg (pe_ix (ix_seqK (K := K)) (pv 1) (pv 2) (fun _ _ => rfl)) (pg_tupK (K := K) (m := 2) rfl (pgs_cons (pg_name (i := 3) sc_law_odd.nd rfl (Or.inl rfl)) (pgs_cons (pg_name (i := 4) sc_law_odd.nd rfl (Or.inl rfl)) pgs_nil))))
    (pss_cons (ps_set (i := 5) sc_law_odd.nd rfl (Or.inl rfl) (pe_cal c_law_take hr (by rfl) (pa_cons (pv 0) (pa_cons pe_int pa_nil))))
    (pss_cons (ps_if (pt_cmpR (op_eqK (K := K) hr) (pv 5) pe_int (nomark _)) (pss_one (ps_ret (pe_ix (ix_seqK (K := K)) (pe_lst (pa_cons pe_non (pa_cons (pe_tup pa_nil) (pa_cons (pe_dfz pe_dnewK) (pa_cons pe_str (pa_cons (pe_lst pa_nil) (pa_cons (pe_callTy (call_tupK (K := K)) (by rfl) D.b_tuple (by decide +kernel) (pa_cons (pv 1) pa_nil)) (pa_cons (pe_ix (ix_seqK (K := K)) (pv 1) pe_int (fun _ _ => rfl)) pa_nil)))))))) (pe_cal c_law_take hr (by rfl) (pa_cons (pv 0) (pa_cons pe_int pa_nil))) (fun _ _ => rfl)))) pss_nil)
    (pss_cons (ps_if (pt_cmpR (op_eqK (K := K) hr) (pv 5) pe_int (nomark _)) (pss_cons (ps_set (i := 6) sc_law_odd.nd rfl (Or.inl rfl) (pe_lst (pa_cons pe_non (pa_cons (pe_lst (pa_cons (pv 3) (pa_cons (pv 4) pa_nil))) (pa_cons (pe_tup (pa_cons (pv 3) pa_nil)) (pa_cons (pe_tup (pa_cons (pv 3) (pa_cons (pv 4) (pa_cons (pv 4) pa_nil)))) (pa_cons (pe_tup (pa_cons (pv 4) (pa_cons (pv 3) pa_nil))) pa_nil)))))))
    (pss_one (ps_ret (pe_op (op_addK (K := K)) (pe_op (op_addK (K := K)) (pe_slice (sl_anyK (K := K)) (pv 1) po_none (po_some (pv 2))) (pe_lst (pa_cons (pe_ix (ix_seqK (K := K)) (pv 6) (pe_cal c_law_take hr (by rfl) (pa_cons (pv 0) (pa_cons pe_int pa_nil))) (fun _ _ => rfl)) pa_nil))) (pe_slice (sl_anyK (K := K)) (pv 1) (po_some (pe_op (op_addK (K := K)) (pv 2) pe_int)) po_none))))) pss_nil)
    (pss_cons (ps_if (pt_cmpR (op_eqK (K := K) hr) (pv 5) pe_int (nomark _)) (pss_one (ps_ret (pe_op (op_addK (K := K)) (pe_slice (sl_anyK (K := K)) (pv 1) po_none (po_some (pv 2))) (pe_slice (sl_anyK (K := K)) (pv 1) (po_some (pe_op (op_addK (K := K)) (pv 2) pe_int)) po_none)))) pss_nil)
    (pss_cons (ps_if (pt_cmpR (op_eqK (K := K) hr) (pv 5) pe_int (nomark _)) (pss_one (ps_ret (pe_op (op_addK (K := K)) (pv 1) (pe_op op_mulA (pe_lst (pa_cons (pe_tup (pa_cons (pe_lst (pa_cons (pe_tup (pa_cons pe_int (pa_cons pe_int pa_nil))) (pa_cons (pe_tup (pa_cons pe_int (pa_cons pe_int pa_nil))) pa_nil))) (pa_cons (pe_tup (pa_cons pe_int (pa_cons pe_int pa_nil))) pa_nil))) pa_nil)) (pe_op (op_addK (K := K)) pe_int (pe_cal c_law_take hr (by rfl) (pa_cons (pv 0) (pa_cons pe_int pa_nil)))))))) pss_nil)
    (pss_cons (ps_if (pt_cmpR (op_eqK (K := K) hr) (pv 5) pe_int (nomark _)) (pss_cons (ps_set (i := 7) sc_law_odd.nd rfl (Or.inl rfl) (pe_ix (ix_seqK (K := K)) (pe_lst (pa_cons (pe_tup (pa_cons pe_int (pa_cons pe_int pa_nil))) (pa_cons (pe_tup (pa_cons (pe_un un_neg pe_int) (pa_cons pe_int pa_nil))) (pa_cons (pe_tup (pa_cons pe_int (pa_cons pe_int pa_nil))) (pa_cons pe_int (pa_cons pe_non (pa_cons (pe_lst (pa_cons pe_int (pa_cons pe_int pa_nil))) (pa_cons (pe_tup (pa_cons pe_int (pa_cons pe_int pa_nil))) (pa_cons (pe_tup (pa_cons pe_bl (pa_cons pe_int pa_nil))) pa_nil))))))))) (pe_cal c_law_take hr (by rfl) (pa_cons (pv 0) (pa_cons pe_int pa_nil))) (fun _ _ => rfl)))
    (pss_cons (ps_set (i := 8) sc_law_odd.nd rfl (Or.inl rfl) (pe_cal c_law_take hr (by rfl) (pa_cons (pv 0) (pa_cons (pe_callB (call_lenK (K := K)) (by rfl) D.b_len (by decide +kernel) (pa_cons (pv 3) pa_nil)) pa_nil))))
    (pss_one (ps_set (i := 3) sc_law_odd.nd rfl (Or.inl rfl) (pe_op (op_addK (K := K)) (pe_op (op_addK (K := K)) (pe_slice (sl_anyK (K := K)) (pv 3) po_none (po_some (pv 8))) (pe_lst (pa_cons (pv 7) pa_nil))) (pe_slice (sl_anyK (K := K)) (pv 3) (po_some (pe_op (op_addK (K := K)) (pv 8) pe_int)) po_none)))))) pss_nil)
    (pss_cons (ps_if (pt_cmpR (op_eqK (K := K) hr) (pv 5) pe_int (nomark _)) (pss_one (ps_set (i := 3) sc_law_odd.nd rfl (Or.inl rfl) (pe_ix (ix_seqK (K := K)) (pe_lst (pa_cons (pe_slice (sl_anyK (K := K)) (pv 3) po_none (po_some pe_int)) (pa_cons (pe_slice (sl_anyK (K := K)) (pe_op op_mulA (pv 3) pe_int) po_none (po_some pe_int)) (pa_cons (pe_callTy (call_tupK (K := K)) (by rfl) D.b_tuple (by decide +kernel) (pa_cons (pv 3) pa_nil)) (pa_cons pe_non (pa_cons (pe_lst pa_nil) pa_nil)))))) (pe_cal c_law_take hr (by rfl) (pa_cons (pv 0) (pa_cons pe_int pa_nil))) (fun _ _ => rfl)))) pss_nil)
    (pss_cons (ps_if (pt_cmpR op_gt (pv 5) pe_int (nomark _)) (pss_cons (ps_set (i := 6) sc_law_odd.nd rfl (Or.inl rfl) (pe_lst (pa_cons pe_non (pa_cons (pe_tup (pa_cons (pv 2) (pa_cons pe_int pa_nil))) (pa_cons (pe_tup (pa_cons pe_int (pa_cons pe_int pa_nil))) (pa_cons (pe_tup (pa_cons pe_int (pa_cons (pe_callB (call_lenK (K := K)) (by rfl) D.b_len (by decide +kernel) (pa_cons (pe_ix (ix_seqK (K := K)) (pe_ix (ix_seqK (K := K)) (pv 1) pe_int (fun _ _ => rfl)) pe_int (fun _ _ => rfl)) pa_nil)) pa_nil))) (pa_cons (pe_tup (pa_cons pe_int (pa_cons pe_int pa_nil))) (pa_cons (pe_lst (pa_cons pe_int (pa_cons pe_int pa_nil))) (pa_cons (pe_tup (pa_cons pe_int (pa_cons pe_bl pa_nil))) (pa_cons (pe_tup (pa_cons (pe_un un_neg pe_int) (pa_cons pe_int pa_nil))) (pa_cons (pe_tup (pa_cons pe_int (pa_cons pe_int pa_nil))) pa_nil)))))))))))
    (pss_cons (ps_set (i := 9) sc_law_odd.nd rfl (Or.inl rfl) (pe_cal c_law_take hr (by rfl) (pa_cons (pv 0) (pa_cons (pe_callB (call_lenK (K := K)) (by rfl) D.b_len (by decide +kernel) (pa_cons (pv 1) pa_nil)) pa_nil))))
    (pss_cons (ps_set (i := 6) sc_law_odd.nd rfl (Or.inl rfl) (pe_op (op_addK (K := K)) (pv 6) (pe_lst (pa_cons (pe_tup (pa_cons (pv 9) (pa_cons (pe_op (op_addK (K := K)) (pe_callB (call_lenK (K := K)) (by rfl) D.b_len (by decide +kernel) (pa_cons (pe_ix (ix_seqK (K := K)) (pe_ix (ix_seqK (K := K)) (pv 1) (pv 9) (fun _ _ => rfl)) pe_int (fun _ _ => rfl)) pa_nil)) (pe_cal c_law_take hr (by rfl) (pa_cons (pv 0) (pa_cons pe_int pa_nil)))) pa_nil))) (pa_cons (pe_tup (pa_cons pe_int (pa_cons (pe_op op_sub pe_int pe_int) pa_nil))) pa_nil)))))
    (pss_cons (ps_set (i := 6) sc_law_odd.nd rfl (Or.inl rfl) (pe_op (op_addK (K := K)) (pv 6) (pe_lst (pa_cons (pe_tup (pa_cons pe_int (pa_cons pe_int (pa_cons pe_int pa_nil)))) (pa_cons (pe_tup (pa_cons (pe_op op_sub pe_int pe_int) (pa_cons pe_int pa_nil))) (pa_cons (pe_tup (pa_cons (pe_op op_sub (pe_op op_sub pe_int (pv 9)) pe_int) (pa_cons pe_int pa_nil))) (pa_cons (pe_tup pa_nil) (pa_cons pe_int (pa_cons pe_bl (pa_cons (pe_lst pa_nil) pa_nil))))))))))
    (pss_one (ps_set (i := 4) sc_law_odd.nd rfl (Or.inl rfl) (pe_ix (ix_seqK (K := K)) (pv 6) (pe_cal c_law_take hr (by rfl) (pa_cons (pv 0) (pa_cons pe_int pa_nil))) (fun _ _ => rfl)))))))) pss_nil)
    (pss_one (ps_ret (pe_op (op_addK (K := K)) (pe_op (op_addK (K := K)) (pe_slice (sl_anyK (K := K)) (pv 1) po_none (po_some (pv 2))) (pe_lst (pa_cons (pe_tup (pa_cons (pv 3) (pa_cons (pv 4) pa_nil))) pa_nil))) (pe_slice (sl_anyK (K := K)) (pv 1) (po_some (pe_op (op_addK (K := K)) (pv 2) pe_int)) po_none)))))))))))))), fun F G0 l S As R RO h => ?_⟩
    obtain ⟨c, s, b, S, rfl, rfl, hS, h0, h1, hR⟩ := h
    have p0 := hS.pos
    have p6 := hS.most
    have sS : ∀ {n : Nat}, Sqs (n + 4) 300612 (S.map aSR) := sqs_string hS
    have lS : (S.map aSR).length = S.length := List.length_map ..
    have sRing : ∀ {n : Nat} {x : SR}, x ∈ S → Sq (n + 4) 50100 (aSR x) := fun hx => sq_ring hS hx
    walk_at "gq"
    rw [lS]
    refine ⟨_, _, _, _, rfl, rfl, by omega, Nat.lt_of_le_of_lt (show _ ≤ 1000 by omega) (by decide), h0, h1, ?_⟩
    intro at_ c1 s1 b1 a0 a1 h0 h1
    obtain ⟨n, rfl⟩ := Int.eq_ofNat_of_zero_le a0
    have hn : n < S.length := by omega
    obtain ⟨x, hx, ex⟩ : ∃ x, x ∈ S ∧ S[n] = x := ⟨_, List.getElem_mem hn, rfl⟩
    walk_at "gq"
    refine o_ixL (Rl.get_map hn) ?_
    rw [ex, aSR_rooms]
    obtain ⟨g1, g2, g3⟩ := hS.rooms x hx
    have sR : ∀ {n : Nat}, Sqs (n + 2) 46212 (x.rooms.map aF) := sqs_rooms g3 g2
    have sH : ∀ {n : Nat}, Sq (n + 2) 3849 (aAt x.hang) := sq_at (hS.at hx)
    have lR : (x.rooms.map aF).length = x.rooms.length := List.length_map ..
    walk_at "gq"
    refine ⟨_, _, _, _, rfl, rfl, by decide, by decide, h0, h1, ?_⟩
    intro way c1 s1 b1 w0 w1 h0 h1
    walk_at "gq"
    have fin0 : ∀ (E : AV) (c s : Int) (b : Bool), Sq 6 2000000 E → 0 ≤ s → s < 2147483647 → R (aLst (cutL (S.map aSR) none (some (n : Int)) ++ [E] ++ cutL (S.map aSR) (some ((n : Int) + 1)) none)) [aInt c, aInt s, aB b] := fun E c s b hE k0 k1 => by
      refine hR _ _ _ _ ?_ k0 k1
      have e1 := len_cutL (S.map aSR) none (some (n : Int))
      have e2 := len_cutL (S.map aSR) (some ((n : Int) + 1)) none
      have q1 : Sqs 6 2900000 (cutL (S.map aSR) none (some (n : Int)) ++ [E] ++ cutL (S.map aSR) (some ((n : Int) + 1)) none) := by
        refine (sqs_append (sqs_append (sqs_upto (W := 50100) (m := 6) (fun D hD => ?_) (by omega)) (sqs_cons hE sqs_nil)) (sqs_upto (W := 50100) (m := 6) (fun D hD => ?_) (by omega))).mono (Nat.le_refl _) (by decide)
        · obtain ⟨y, hy, rfl⟩ := List.mem_map.mp (mem_cutL hD)
          exact sRing hy
        · obtain ⟨y, hy, rfl⟩ := List.mem_map.mp (mem_cutL hD)
          exact sRing hy
      refine (sq_l q1 ?_).mono (by decide) (by decide)
      simp only [List.length_append, List.length_singleton]
      omega
    have fin : ∀ (A B : AV) (c s : Int) (b : Bool), Sq 4 200000 A → Sq 4 200000 B → 0 ≤ s → s < 2147483647 → R (aLst (cutL (S.map aSR) none (some (n : Int)) ++ [aTup [A, B]] ++ cutL (S.map aSR) (some ((n : Int) + 1)) none)) [aInt c, aInt s, aB b] := fun A B c s b hA hB k0 k1 => fin0 _ _ _ _ ((sq_t (sqs_cons hA (sqs_cons hB sqs_nil)) (Nat.le_of_ble_eq_true rfl)).mono (by decide) (by decide)) k0 k1
    have e1 := len_cutL (S.map aSR) none (some (n : Int))
    have e2 := len_cutL (S.map aSR) (some ((n : Int) + 1)) none
    refine gs_seq (gs_if ?_)
    walk_at "gq"
    refine ⟨fun hw => ?_, fun hw => ?_⟩
    · walk_at "gq"
      refine o_ixL (A := aSR S[0]) (Rl.get_map p0) ?_
      walk_at "gq"
      refine ⟨_, _, _, _, rfl, rfl, by decide, by decide, h0, h1, ?_⟩
      intro r c2 s2 b2 r0 r1 h0 h1
      walk_at "gq"
      refine o_ixSq (m := 6) (V := 2500000) ?_ r0 r1 rfl fun A hA => ?_
      · apply Sqs.mono (n := 6)
        case h =>
          repeat' (first | exact sqs_nil | exact sR | exact sH | exact sS | exact sRing (List.getElem_mem _) | exact sRing hx | exact sq_t sS (by omega) | exact sq_l sS (by omega) | exact sq_l sR (by omega) | exact sq_t sR (by omega) | apply sqs_cons | exact sq_b _ | exact sq_n | exact sq_k | exact sq_i (by decide) | exact sq_i (by omega) | exact sq_s (L := 10) (by decide +kernel) (by decide) (by decide +kernel) (low_of (by decide +kernel)) | apply sq_t _ (Nat.le_of_ble_eq_true rfl) | apply sq_l _ (Nat.le_of_ble_eq_true rfl))
        case hn => exact Nat.le_refl _
        case hw => decide
      exact ⟨_, rfl, hR A _ _ _ (hA.mono (by decide) (by decide)) h0 h1⟩
    walk_at "gq"
    refine gs_seq (gs_if ?_)
    walk_at "gq"
    refine ⟨fun hw => ?_, fun hw => ?_⟩
    · walk_at "gq"
      refine ⟨_, _, _, _, rfl, rfl, by decide, by decide, h0, h1, ?_⟩
      intro r c2 s2 b2 r0 r1 h0 h1
      have hs : Sqs 6 1900000 [aN, aLst [aL aF x.rooms, aAt x.hang], aTup [aL aF x.rooms], aTup [aL aF x.rooms, aAt x.hang, aAt x.hang], aTup [aAt x.hang, aL aF x.rooms]] := by
        apply Sqs.mono (n := 6)
        case h =>
          repeat' (first | exact sqs_nil | exact sR | exact sH | exact sS | exact sRing (List.getElem_mem _) | exact sRing hx | exact sq_t sS (by omega) | exact sq_l sS (by omega) | exact sq_l sR (by omega) | exact sq_t sR (by omega) | apply sqs_cons | exact sq_b _ | exact sq_n | exact sq_k | exact sq_i (by decide) | exact sq_i (by omega) | exact sq_s (L := 10) (by decide +kernel) (by decide) (by decide +kernel) (low_of (by decide +kernel)) | apply sq_t _ (Nat.le_of_ble_eq_true rfl) | apply sq_l _ (Nat.le_of_ble_eq_true rfl))
        case hn => exact Nat.le_refl _
        case hw => decide
      obtain ⟨A, eA, hA⟩ := ix_sq hs r0 r1 rfl
      refine ⟨_, _, r, A, rfl, rfl, eA, ?_⟩
      walk_at "gq"
      refine o_cat ?_ ?_
      · rw [List.length_singleton]; omega
      walk_at "gq"
      refine o_cat ?_ ?_
      · rw [List.length_append, List.length_singleton]; omega
      exact ⟨_, rfl, fin0 A _ _ _ (hA.mono (by decide) (by decide)) h0 h1⟩
    walk_at "gq"
    refine gs_seq (gs_if ?_)
    walk_at "gq"
    refine ⟨fun hw => ?_, fun hw => ?_⟩
    · walk_at "gq"
      refine hR _ _ _ _ ?_ h0 h1
      refine Sq.mono (sq_l (sqs_append (sqs_upto (n := 4) (W := 50100) (m := 6) (fun D hD => ?_) (by omega)) (sqs_upto (W := 50100) (m := 6) (fun D hD => ?_) (by omega))) ?_) (by decide) (by decide)
      · obtain ⟨y, hy, rfl⟩ := List.mem_map.mp (mem_cutL hD)
        exact sRing hy
      · obtain ⟨y, hy, rfl⟩ := List.mem_map.mp (mem_cutL hD)
        exact sRing hy
      · rw [List.length_append]; omega
    walk_at "gq"
    refine gs_seq (gs_if ?_)
    walk_at "gq"
    refine ⟨fun hw => ?_, fun hw => ?_⟩
    · walk_at "gq"
      refine ⟨_, _, _, _, rfl, rfl, by decide, by decide, h0, h1, ?_⟩
      intro r c2 s2 b2 r0 r1 h0 h1
      walk_at "gq"
      refine o_rep ⟨by omega, by omega, by show 1 * _ ≤ _; omega⟩ ?_
      walk_at "gq"
      refine o_cat ?_ ?_
      · rw [len_rep, List.length_singleton]; omega
      refine ⟨_, rfl, hR _ _ _ _ ?_ h0 h1⟩
      refine Sq.mono (sq_l (sqs_append (n := 5) (sqs_upto (W := 50100) (m := 6) (fun D hD => ?_) (by omega)) (sqs_upto (W := 50100) (m := 6) (fun D hD => ?_) (by rw [len_rep, List.length_singleton]; omega))) ?_) (by decide) (by decide)
      · obtain ⟨y, hy, rfl⟩ := List.mem_map.mp hD
        exact sRing hy
      · rw [List.mem_singleton.mp (mem_rep hD)]
        apply Sq.mono (n := 5)
        case h =>
          repeat' (first | exact sqs_nil | apply sqs_cons | exact sq_b _ | exact sq_n | exact sq_k | exact sq_i (by decide) | exact sq_i (by omega) | exact sq_s (L := 10) (by decide +kernel) (by decide) (by decide +kernel) (low_of (by decide +kernel)) | apply sq_t _ (Nat.le_of_ble_eq_true rfl) | apply sq_l _ (Nat.le_of_ble_eq_true rfl))
        case hn => exact Nat.le_refl _
        case hw => decide
      · rw [List.length_append, len_rep, List.length_singleton]; omega
    walk_at "gq"
    refine gs_seq (gs_if ?_)
    walk_at "gq"
    refine ⟨fun hw => ?_, fun hw => ?_⟩
    · have hw4 : way = 4 := of_decide_eq_true hw
      walk_at "gq"
      refine ⟨_, _, _, _, rfl, rfl, by decide, by decide, h0, h1, ?_⟩
      intro r c2 s2 b2 r0 r1 h0 h1
      walk_at "gq"
      refine o_ixSq (m := 3) (V := 50000) ?_ r0 r1 rfl fun A hA => ?_
      · apply Sqs.mono (n := 3)
        case h =>
          repeat' (first | exact sqs_nil | exact sR | exact sH | exact sS | exact sRing (List.getElem_mem _) | exact sRing hx | exact sq_t sS (by omega) | exact sq_l sS (by omega) | exact sq_l sR (by omega) | exact sq_t sR (by omega) | apply sqs_cons | exact sq_b _ | exact sq_n | exact sq_k | exact sq_i (by decide) | exact sq_i (by omega) | exact sq_s (L := 10) (by decide +kernel) (by decide) (by decide +kernel) (low_of (by decide +kernel)) | apply sq_t _ (Nat.le_of_ble_eq_true rfl) | apply sq_l _ (Nat.le_of_ble_eq_true rfl))
        case hn => exact Nat.le_refl _
        case hw => decide
      walk_at "gq"
      rw [lR]
      refine ⟨_, _, _, _, rfl, rfl, by omega, Nat.lt_of_le_of_lt (show _ ≤ 1000 by omega) (by decide), h0, h1, ?_⟩
      intro t c3 s3 b3 t0 t1 h0 h1
      walk_at "gq"
      have z1 := len_cutL (x.rooms.map aF) none (some t)
      have z2 := len_cutL (x.rooms.map aF) (some (t + 1)) none
      refine o_cat ?_ ?_
      · rw [List.length_singleton]; omega
      walk_at "gq"
      refine o_cat ?_ ?_
      · rw [List.length_append, List.length_singleton]; omega
      walk_at "gq"
      have hA4 : Sq 4 200000 (aLst (cutL (x.rooms.map aF) none (some t) ++ [A] ++ cutL (x.rooms.map aF) (some (t + 1)) none)) := by
        refine Sq.mono (sq_l (sqs_append (n := 3) (sqs_append (sqs_upto (W := 3849) (m := 12) (fun D hD => ?_) (by omega)) (sqs_cons hA sqs_nil)) (sqs_upto (W := 3849) (m := 12) (fun D hD => ?_) (by omega))) ?_) (by decide) (by decide)
        · obtain ⟨y, hy, rfl⟩ := List.mem_map.mp (mem_cutL hD)
          exact sq_F ((g3 y hy).2.mono (by decide) (by decide))
        · obtain ⟨y, hy, rfl⟩ := List.mem_map.mp (mem_cutL hD)
          exact sq_F ((g3 y hy).2.mono (by decide) (by decide))
        · rw [List.length_append, List.length_append, List.length_singleton]; omega
      refine gs_seq (gs_if ?_)
      walk_at "gq"
      rw [decide_eq_false (show ¬ way = 5 by omega)]
      walk_at "gq"
      refine gs_seq (gs_if ?_)
      walk_at "gq"
      rw [decide_eq_false (show ¬ 5 < way by omega)]
      walk_at "gq"
      refine o_cat ?_ ?_
      · rw [List.length_singleton]; omega
      walk_at "gq"
      refine o_cat ?_ ?_
      · rw [List.length_append, List.length_singleton]; omega
      exact ⟨_, rfl, fin _ _ _ _ _ hA4 ((sH (n := 0)).mono (by decide) (by decide)) h0 h1⟩
    walk_at "gq"
    refine gs_seq (gs_if ?_)
    walk_at "gq"
    refine ⟨fun hw => ?_, fun hw => ?_⟩
    · have hw5 : way = 5 := of_decide_eq_true hw
      walk_at "gq"
      refine o_rep ⟨by decide, by decide, by rw [lR]; show _ * 12 ≤ _; omega⟩ ?_
      walk_at "gq"
      refine ⟨_, _, _, _, rfl, rfl, by decide, by decide, h0, h1, ?_⟩
      intro r c2 s2 b2 r0 r1 h0 h1
      walk_at "gq"
      have z1 := len_cutL (x.rooms.map aF) none (some 1)
      have sCut : ∀ {n : Nat}, Sq (n + 3) 46300 (aLst (cutL (x.rooms.map aF) none (some 1))) := (sq_l (sqs_upto (W := 3849) (m := 12) (fun D hD => by
        obtain ⟨y, hy, rfl⟩ := List.mem_map.mp (mem_cutL hD)
        exact sq_F ((g3 y hy).2.mono (by decide) (by decide))) (by omega)) (by omega)).mono (Nat.le_refl _) (by decide)
      have sRep : ∀ {n : Nat}, Sq (n + 3) 60000 (aLst (cutL (List.replicate (12 : Int).toNat (x.rooms.map aF)).flatten none (some 13))) := by
        intro n
        rw [show (some (13 : Int)) = some ((13 : Nat) : Int) from rfl, cutL_to]
        have hl : ((List.replicate (12 : Int).toNat (x.rooms.map aF)).flatten.take 13).length ≤ 13 := by rw [List.length_take]; omega
        refine (sq_l (sqs_upto (W := 3849) (m := 13) (fun D hD => ?_) hl) (by omega)).mono (Nat.le_refl _) (by decide)
        obtain ⟨y, hy, rfl⟩ := List.mem_map.mp (mem_rep (List.mem_of_mem_take hD))
        exact sq_F ((g3 y hy).2.mono (by decide) (by decide))
      refine o_ixSq (m := 3) (V := 190000) ?_ r0 r1 rfl fun A hA => ?_
      · apply Sqs.mono (n := 3)
        case h =>
          repeat' (first | exact sqs_nil | exact sCut | exact sRep | exact sR | exact sH | exact sS | exact sq_t sS (by omega) | exact sq_l sS (by omega) | exact sq_l sR (by omega) | exact sq_t sR (by omega) | apply sqs_cons | exact sq_b _ | exact sq_n | exact sq_k | exact sq_i (by decide) | exact sq_i (by omega) | exact sq_s (L := 10) (by decide +kernel) (by decide) (by decide +kernel) (low_of (by decide +kernel)) | apply sq_t _ (Nat.le_of_ble_eq_true rfl) | apply sq_l _ (Nat.le_of_ble_eq_true rfl))
        case hn => exact Nat.le_refl _
        case hw => decide
      walk_at "gq"
      refine gs_seq (gs_if ?_)
      walk_at "gq"
      rw [decide_eq_false (show ¬ 5 < way by omega)]
      walk_at "gq"
      refine o_cat ?_ ?_
      · rw [List.length_singleton]; omega
      walk_at "gq"
      refine o_cat ?_ ?_
      · rw [List.length_append, List.length_singleton]; omega
      exact ⟨_, rfl, fin _ _ _ _ _ (hA.mono (by decide) (by decide)) ((sH (n := 0)).mono (by decide) (by decide)) h0 h1⟩
    have hn4 : ¬ way = 5 := of_decide_eq_false hw
    walk_at "gq"
    refine gs_seq (gs_if ?_)
    walk_at "gq"
    refine ⟨fun hw => ?_, fun hw => ?_⟩
    · walk_at "gq"
      refine o_ixL (A := aSR S[0]) (Rl.get_map p0) ?_
      rw [aSR_rooms]
      walk_at "gq"
      rw [lS]
      refine ⟨_, _, _, _, rfl, rfl, by omega, Nat.lt_of_le_of_lt (show _ ≤ 1000 by omega) (by decide), h0, h1, ?_⟩
      intro ah c3 s3 b3 d0 d1 h0 h1
      obtain ⟨m, rfl⟩ := Int.eq_ofNat_of_zero_le d0
      have hm : m < S.length := by omega
      walk_at "gq"
      refine o_ixL (Rl.get_map hm) ?_
      rw [aSR_rooms]
      walk_at "gq"
      refine ⟨_, _, _, _, rfl, rfl, by decide, by decide, h0, h1, ?_⟩
      intro u c4 s4 b4 u0 u1 h0 h1
      have f1 : (S[0].rooms.map aF).length ≤ 12 := by rw [List.length_map]; exact (hS.rooms _ (List.getElem_mem p0)).2.1
      have f2 : (S[m].rooms.map aF).length ≤ 12 := by rw [List.length_map]; exact (hS.rooms _ (List.getElem_mem hm)).2.1
      walk_at "gq"
      refine o_cat (by exact Nat.le_of_ble_eq_true rfl) ?_
      walk_at "gq"
      refine o_cat (by exact Nat.le_of_ble_eq_true rfl) ?_
      walk_at "gq"
      refine ⟨_, _, _, _, rfl, rfl, by decide, by decide, h0, h1, ?_⟩
      intro r c2 s2 b2 r0 r1 h0 h1
      walk_at "gq"
      refine o_ixSq (m := 3) (V := 70000) ?_ r0 r1 rfl fun A hA => ?_
      · apply Sqs.mono (n := 3)
        case h =>
          repeat' (first | exact sqs_nil | apply sqs_cons | exact sq_b _ | exact sq_n | exact sq_k | exact sq_i (by decide) | exact sq_i (by omega) | exact sq_s (L := 10) (by decide +kernel) (by decide) (by decide +kernel) (low_of (by decide +kernel)) | apply sq_t _ (Nat.le_of_ble_eq_true rfl) | apply sq_l _ (Nat.le_of_ble_eq_true rfl))
        case hn => exact Nat.le_refl _
        case hw => decide
      walk_at "gq"
      refine o_cat ?_ ?_
      · rw [List.length_singleton]; omega
      walk_at "gq"
      refine o_cat ?_ ?_
      · rw [List.length_append, List.length_singleton]; omega
      exact ⟨_, rfl, fin _ _ _ _ _ ((sq_l (sR (n := 0)) (by omega)).mono (by decide) (by decide)) (hA.mono (by decide) (by decide)) h0 h1⟩
    walk_at "gq"
    refine o_cat ?_ ?_
    · rw [List.length_singleton]; omega
    walk_at "gq"
    refine o_cat ?_ ?_
    · rw [List.length_append, List.length_singleton]; omega
    exact ⟨_, rfl, fin _ _ _ _ _ ((sq_l (sR (n := 0)) (by omega)).mono (by decide) (by decide)) ((sH (n := 0)).mono (by decide) (by decide)) h0 h1⟩
def ct_law_begun : Ct := fun As _ RO => ∃ (ns : List Int) (k : Int), As = [aScr ns, aInt k] ∧ 0 ≤ k ∧ k ≤ 1000 ∧ ∀ c s b, 0 ≤ s → s < 2147483647 → RO [aInt c, aInt s, aB b]
theorem k_law_begun (D : Defs K mg) : Cal P w K mg base 1 "_law_begun" ["_law_script", "_law_k"] (spOf K ct_law_begun) := by
  have xs := D.xs
  refine fn_ok D.d_law_begun sc_law_begun (fun As R RO h => ?ln) (fun f cdv A outer s H hr => ?bd)
  case ln =>
    unfold ct_law_begun at h
    first | (obtain ⟨_, rfl, _⟩ := h; rfl) | (obtain ⟨_, _, rfl, _⟩ := h; rfl) | (obtain ⟨_, _, _, rfl, _⟩ := h; rfl) | (obtain ⟨_, _, _, _, rfl, _⟩ := h; rfl) | (obtain ⟨_, _, _, _, _, rfl, _⟩ := h; rfl) | (obtain ⟨_, _, _, _, _, _, rfl, _⟩ := h; rfl) | (obtain ⟨_, _, _, _, _, _, _, rfl, _⟩ := h; rfl)
  case bd =>
    refine ⟨_, (pss_cons (ps_set (i := 2) sc_law_begun.nd rfl (Or.inl rfl) pe_int)
    (pss_cons (ps_if (pt_cmpR op_lt (pv 1) (pe_callB (call_lenK (K := K)) (by rfl) D.b_len (by decide +kernel) (pa_cons (pv 0) pa_nil)) (nomark _)) (pss_one (ps_set (i := 2) sc_law_begun.nd rfl (Or.inl rfl) (pe_ix (ix_seqK (K := K)) (pv 0) (pv 1) (fun _ _ => rfl)))) pss_nil)
    (pss_one (ps_ret (pe_lst (pa_cons (pv 2) (pa_cons (pe_op op_modN (pe_op (op_addK (K := K)) (pe_op (op_addK (K := K)) (pe_op op_modN (pv 2) pe_int) (pe_op op_mulA (pe_op op_mulA pe_int (pv 1)) (pv 1))) pe_int) pe_int) (pa_cons (pe_cmpR op_ge (pv 2) (pe_op op_pow pe_int pe_int) (nomark _)) pa_nil)))))))), fun F G0 As R RO h => ?_⟩
    obtain ⟨ns, k, rfl, h0, h1, hR⟩ := h
    have fin : ∀ (c x : Int) (b : Bool), RO [aInt c, aInt (x.fmod 2147483587), aB b] := fun c x b =>
      hR _ _ _ (Int.fmod_nonneg_of_pos _ (by decide)) (by have := Int.fmod_lt_of_pos x (show (0 : Int) < 2147483587 by decide); omega)
    walk_at "go"
    refine ⟨fun hb => ?_, fun hb => ?_⟩
    · have hk : k < ns.length := by simpa using hb
      walk_at "go"
      refine o_ixC h0 hk ?_
      walk_at "go"
      exact fin _ _ _
    · walk_at "go"
      exact fin _ _ _
def ct_law_pairs_right : Cm := fun S0 As R _ => ∃ (c s : Int) (b : Bool) (S : List SR), S0 = [aInt c, aInt s, aB b] ∧ As = [aSg S] ∧ SgOk S ∧ 0 ≤ s ∧ s < 2147483647 ∧
  ∀ c' s' b', R (aB true) [aInt c', aInt s', aB b']
theorem k_law_pairs_right (D : Defs K mg) (c_law_is_place : Cal P w K mg base 2 "_law_is_place" ["_law_string_here", "_law_thing"] (spOf K ct_law_is_place)) (c_is_place : Cal P w K mg base 2 "is_place" ["string", "thing"] (spOf K ct_is_place)) (c_law_take : Cal P w K mg base 1 "_law_take" ["_law_state", "_law_many"] (spM K ct_law_take)) : Cal P w K mg base 3 "_law_pairs_right" ["_law_state", "_law_string_here"] (spM K ct_law_pairs_right) := by
  have xs := D.xs
  refine fn_okM D.d_law_pairs_right sc_law_pairs_right (fun S As R RO h => ?ln) (fun f cdv A outer s H hr => ?bd)
  case ln =>
    unfold ct_law_pairs_right at h
    first | (obtain ⟨_, rfl, _⟩ := h; rfl) | (obtain ⟨_, _, rfl, _⟩ := h; rfl) | (obtain ⟨_, _, _, rfl, _⟩ := h; rfl) | (obtain ⟨_, _, _, _, rfl, _⟩ := h; rfl) | (obtain ⟨_, _, _, _, _, rfl, _⟩ := h; rfl) | (obtain ⟨_, _, _, _, _, _, rfl, _⟩ := h; rfl) | (obtain ⟨_, _, _, _, _, _, _, rfl, _⟩ := h; rfl)
  case bd =>
    refine ⟨_, (pss_cons (ps_for PassesOwn.never rfl (pi_range1 (by rfl) D.b_range (pa_cons pe_int pa_nil)) (pg_name (i := 2) sc_law_pairs_right.nd rfl (Or.inl rfl)) (pss_cons (ps_set (i := 3) sc_law_pairs_right.nd rfl (Or.inl rfl) (pe_op op_sub (pe_cal c_law_take hr (by rfl) (pa_cons (pv 0) (pa_cons pe_int pa_nil))) pe_int))
    (pss_cons (ps_set (i := 4) sc_law_pairs_right.nd rfl (Or.inl rfl) (pe_op op_sub (pe_cal c_law_take hr (by rfl) (pa_cons (pv 0) (pa_cons pe_int pa_nil))) pe_int))
    (pss_cons (ps_set (i := 5) sc_law_pairs_right.nd rfl (Or.inl rfl) (pe_ix (ix_seqK (K := K)) (pe_lst (pa_cons (pe_lst (pa_cons (pv 3) (pa_cons (pv 4) pa_nil))) (pa_cons (pe_tup (pa_cons (pv 3) pa_nil)) (pa_cons (pe_tup (pa_cons (pv 3) (pa_cons (pv 4) (pa_cons pe_int pa_nil)))) (pa_cons pe_non (pa_cons (pe_tup (pa_cons pe_bl (pa_cons pe_int pa_nil))) (pa_cons (pe_tup (pa_cons (pv 3) (pa_cons pe_str pa_nil))) pa_nil))))))) (pe_cal c_law_take hr (by rfl) (pa_cons (pv 0) (pa_cons pe_int pa_nil))) (fun _ _ => rfl)))
    (pss_one (ps_for PassesOwn.never rfl (pi_listK (K := K) (pe_lst (pa_cons (pe_tup (pa_cons (pv 3) (pa_cons (pv 4) pa_nil))) (pa_cons (pe_tup (pa_cons pe_int (pa_cons pe_int pa_nil))) (pa_cons (pv 5) pa_nil))))) (pg_name (i := 6) sc_law_pairs_right.nd rfl (Or.inl rfl)) (pss_cons (ps_set (i := 7) sc_law_pairs_right.nd rfl (Or.inl rfl) (pe_cal c_is_place hr (by rfl) (pa_cons (pv 1) (pa_cons (pv 6) pa_nil))))
    (pss_one (ps_if (PW.pt (pw_or (pt_not (pt_trK (K := K) (pe_callB (call_isiK' (K := K)) (by rfl) D.b_isinstance (by decide +kernel) (pa_cons (pv 7) (pa_cons (pe_bltn (v := .ty "bool") (by rfl) D.b_bool (by decide +kernel) rfl) pa_nil))))) (pw_or1 (pt_cmpR (op_neK (K := K) hr) (pv 7) (pe_cal c_law_is_place hr (by rfl) (pa_cons (pv 1) (pa_cons (pv 6) pa_nil))) (nomark _))))) (pss_one (ps_ret pe_bl)) pss_nil)))))))))
    (pss_one (ps_ret pe_bl))), fun F G0 l S As R RO h => ?_⟩
    obtain ⟨c, s, b, S, rfl, rfl, hS, h0, h1, hR⟩ := h
    have rg : aSg S = aLst ((S.map fun x => (x.rooms.map aF, aAt x.hang)).map aRg) := by
      rw [List.map_map]
      rfl
    refine gs_join (fun γ => ∃ (c s : Int) (b : Bool) (S2 S3 S4 S5 S6 S7 : Sl), γ = [.own l [aInt c, aInt s, aB b], .sh (aSg S), S2, S3, S4, S5, S6, S7]) (gs_for (fun i γ => ∃ (c s : Int) (b : Bool) (S2 S3 S4 S5 S6 S7 : Sl), γ = [.own l [aInt c, aInt s, aB b], .sh (aSg S), S2, S3, S4, S5, S6, S7] ∧ 0 ≤ s ∧ s < 2147483647) ?_) ?_
    · walk_at "gq"
      refine ⟨by decide, by decide, ⟨_, _, _, _, _, _, _, _, _, rfl, h0, h1⟩, ?_, ?_⟩
      · rintro i B0 γ2 hB0 ⟨c, s, b, S2, S3, S4, S5, S6, S7, rfl, h0, h1⟩
        walk_at "gq"
        refine ⟨_, _, _, _, rfl, rfl, by decide, by decide, h0, h1, ?_⟩
        intro u c1 s1 b1 u0 u1 h0 h1
        walk_at "gq"
        refine ⟨_, _, _, _, rfl, rfl, by decide, by decide, h0, h1, ?_⟩
        intro v c1 s1 b1 v0 v1 h0 h1
        walk_at "gq"
        refine ⟨_, _, _, _, rfl, rfl, by decide, by decide, h0, h1, ?_⟩
        intro r c2 s2 b2 r0 r1 h0 h1
        walk_at "gq"
        refine o_ixSn (m := 3) ?_ r0 r1 rfl fun A hA => ?_
        · repeat' (first | exact sns_nil | apply sns_cons | exact sn_b _ | exact sn_n | exact sn_i (by decide) | exact sn_i (by omega) | exact sn_s (by decide +kernel) (by decide +kernel) | apply sn_t _ (Nat.le_of_ble_eq_true rfl) | apply sn_l _ (Nat.le_of_ble_eq_true rfl))
        walk_at "gq"
        have hs : Sns 3 [aTup [aInt (u - 1), aInt (v - 1)], aTup [aInt 0, aInt 0], A] := by
          repeat' (first | exact sns_nil | apply sns_cons | exact hA | exact sn_b _ | exact sn_n | exact sn_i (by decide) | exact sn_i (by omega) | exact sn_s (by decide +kernel) (by decide +kernel) | apply sn_t _ (Nat.le_of_ble_eq_true rfl) | apply sn_l _ (Nat.le_of_ble_eq_true rfl))
        refine gs_for (fun j γ => ∃ (S6 S7 : Sl), γ = [.own l [aInt c2, aInt s2, aB b2], .sh (aSg S), .sh B0, .sh (aInt (u - 1)), .sh (aInt (v - 1)), .sh A, S6, S7]) ?_
        walk_at "gq"
        refine ⟨⟨_, _, rfl⟩, ?_, ?_⟩
        · rintro j B γ2 hB ⟨S6, S7, rfl⟩
          obtain ⟨d, _, _, _, rfl⟩ := sns_mem hs (List.mem_of_getElem? hB)
          walk_at "gq"
          rw [rg]
          refine ⟨_, d, rfl, ?_⟩
          walk_at "gq"
          refine gs_if ?_
          walk_at "gq"
          refine ⟨_, d, rfl, ?_⟩
          walk_at "gq"
          rw [decide_eq_true rfl]
          walk_at "gq"
          exact ⟨_, _, rfl⟩
        · rintro γ ⟨S6, S7, rfl⟩
          exact ⟨_, _, _, _, _, _, _, _, _, rfl, h0, h1⟩
      · rintro γ ⟨c, s, b, S2, S3, S4, S5, S6, S7, rfl, h0, h1⟩
        exact ⟨_, _, _, _, _, _, _, _, _, rfl⟩
    rintro _ ⟨c, s, b, S2, S3, S4, S5, S6, S7, rfl⟩
    walk_at "gq"
    exact hR _ _ _
def ct_law_amount : Cm := fun S As R _ => ∃ (c s : Int) (b : Bool) (l kd : Int), S = [aInt c, aInt s, aB b] ∧ As = [aInt l, aInt kd] ∧ (l = 0 ∨ l = 1) ∧ 0 ≤ kd ∧ kd < 5 ∧ 0 ≤ s ∧ s < 2147483647 ∧
  ∀ q c' s' b', 0 ≤ q → (l = 1 → 0 < q) → Sz 41 4 q → 0 ≤ s' → s' < 2147483647 → R (aF q) [aInt c', aInt s', aB b']
theorem k_law_amount (D : Defs K mg) (c_law_low : Cal P w K mg base 1 "_law_low" ["_law_top", "_law_bottom"] (spOf K ct_law_low)) (c_law_take : Cal P w K mg base 1 "_law_take" ["_law_state", "_law_many"] (spM K ct_law_take)) : Cal P w K mg base 2 "_law_amount" ["_law_state", "_law_least", "_law_kind"] (spM K ct_law_amount) := by
  have xs := D.xs
  refine fn_okM D.d_law_amount sc_law_amount (fun S As R RO h => ?ln) (fun f cdv A outer s H hr => ?bd)
  case ln =>
    obtain ⟨_, _, _, _, _, rfl, rfl, _⟩ := h; rfl
  case bd =>
    refine ⟨_, (pss_cons (ps_set (i := 3) sc_law_amount.nd rfl (Or.inl rfl) (pe_op (op_addK (K := K)) pe_int (pe_cal c_law_take hr (by rfl) (pa_cons (pv 0) (pa_cons (pe_ix (ix_seqK (K := K)) (pe_lst (pa_cons pe_int (pa_cons pe_int (pa_cons pe_int (pa_cons pe_int (pa_cons pe_int pa_nil)))))) (pv 2) (fun _ _ => rfl)) pa_nil)))))
    (pss_cons (ps_set (i := 4) sc_law_amount.nd rfl (Or.inl rfl) (pe_op (op_addK (K := K)) (pv 1) (pe_cal c_law_take hr (by rfl) (pa_cons (pv 0) (pa_cons (pe_ix (ix_seqK (K := K)) (pe_lst (pa_cons pe_int (pa_cons pe_int (pa_cons pe_int (pa_cons pe_int (pa_cons (pe_op op_pow pe_int pe_int) pa_nil)))))) (pv 2) (fun _ _ => rfl)) pa_nil)))))
    (pss_one (ps_ret (pe_cal c_law_low hr (by rfl) (pa_cons (pv 4) (pa_cons (pv 3) pa_nil))))))), fun F G0 l S As R RO h => ?_⟩
    obtain ⟨c, s1, b, l1, kd, rfl, rfl, hl, k0, k1, h0, h1, hR⟩ := h
    have hk : kd = 0 ∨ kd = 1 ∨ kd = 2 ∨ kd = 3 ∨ kd = 4 := by omega
    have e1 : ∃ m : Int, atI [aInt 1, aInt 1, aInt 4, aInt 12, aInt 12] kd = some (aInt m) ∧ 0 < m ∧ m ≤ 12 := by
      rcases hk with rfl | rfl | rfl | rfl | rfl <;> exact ⟨_, rfl, by decide, by decide⟩
    have e2 : ∃ m : Int, atI [aInt 3, aInt 10, aInt 10, aInt 40, aInt (10 ^ (12 : Int).toNat)] kd = some (aInt m) ∧ 0 < m ∧ m ≤ 1000000000000 := by
      rcases hk with rfl | rfl | rfl | rfl | rfl <;> exact ⟨_, rfl, by decide, by decide⟩
    obtain ⟨m1, e1, m10, m11⟩ := e1
    obtain ⟨m2, e2, m20, m21⟩ := e2
    walk_at "go"
    refine o_ixL e1 ?_
    walk_at "go"
    refine ⟨_, _, _, _, rfl, rfl, m10, Nat.lt_of_le_of_lt (show m1.natAbs ≤ 1000000000000 by omega) (by decide), h0, h1, ?_⟩
    intro r c1 s2 b1 r0 r1 h2 h3
    walk_at "go"
    refine o_ixL e2 ?_
    walk_at "go"
    refine ⟨_, _, _, _, rfl, rfl, m20, Nat.lt_of_le_of_lt (show m2.natAbs ≤ 1000000000000 by omega) (by decide), h2, h3, ?_⟩
    intro u c2 s3 b2 u0 u1 h4 h5
    walk_at "go"
    refine ⟨_, _, rfl, by omega, ?_, ?_⟩
    · have := log2_lt_pow (show (1 + r).natAbs < 2 ^ 11 by omega) (by omega)
      omega
    · walk_at "go"
      exact hR _ _ _ _ (div_nonneg (by omega) (by omega)) (fun e => div_pos (by omega) (by omega)) (sz_divInt (by omega) (by omega) (by omega)) h4 h5
def ct_law_place : Cm := fun S0 As R _ => ∃ (c s : Int) (b : Bool) (S : List SR), S0 = [aInt c, aInt s, aB b] ∧ As = [aSg S] ∧ SgOk S ∧ 0 ≤ s ∧ s < 2147483647 ∧
  ∀ (q : Pl) c' s' b', PlOk S q → 0 ≤ s' → s' < 2147483647 → R (aPl q) [aInt c', aInt s', aB b']
theorem k_law_place (D : Defs K mg) (c_law_take : Cal P w K mg base 1 "_law_take" ["_law_state", "_law_many"] (spM K ct_law_take)) : Cal P w K mg base 2 "_law_place" ["_law_state", "_law_string_here"] (spM K ct_law_place) := by
  have xs := D.xs
  refine fn_okM D.d_law_place sc_law_place (fun S As R RO h => ?ln) (fun f cdv A outer s H hr => ?bd)
  case ln =>
    obtain ⟨_, _, _, _, rfl, rfl, _⟩ := h; rfl
  case bd =>
    refine ⟨_, (pss_cons (ps_set (i := 2) sc_law_place.nd rfl (Or.inl rfl) (pe_cal c_law_take hr (by rfl) (pa_cons (pv 0) (pa_cons (pe_callB (call_lenK (K := K)) (by rfl) D.b_len (by decide +kernel) (pa_cons (pv 1) pa_nil)) pa_nil))))
    (pss_cons (ps_if (pt_cmpR (op_eqK (K := K) hr) (pv 2) pe_int (nomark _)) (pss_one (ps_ret (pe_tup (pa_cons pe_int (pa_cons (pe_cal c_law_take hr (by rfl) (pa_cons (pv 0) (pa_cons (pe_callB (call_lenK (K := K)) (by rfl) D.b_len (by decide +kernel) (pa_cons (pe_ix (ix_seqK (K := K)) (pe_ix (ix_seqK (K := K)) (pv 1) pe_int (fun _ _ => rfl)) pe_int (fun _ _ => rfl)) pa_nil)) pa_nil))) pa_nil))))) pss_nil)
    (pss_one (ps_ret (pe_tup (pa_cons (pv 2) (pa_cons (pe_op (op_addK (K := K)) pe_int (pe_cal c_law_take hr (by rfl) (pa_cons (pv 0) (pa_cons (pe_op op_sub (pe_callB (call_lenK (K := K)) (by rfl) D.b_len (by decide +kernel) (pa_cons (pe_ix (ix_seqK (K := K)) (pe_ix (ix_seqK (K := K)) (pv 1) (pv 2) (fun _ _ => rfl)) pe_int (fun _ _ => rfl)) pa_nil)) pe_int) pa_nil)))) pa_nil))))))), fun F G0 l S As R RO h => ?_⟩
    obtain ⟨c, s1, b, S, rfl, rfl, hS, h0, h1, hR⟩ := h
    have s0 := hS.pos
    have s6 := hS.most
    have ls : (S.map aSR).length = S.length := List.length_map ..
    walk_at "gq"
    refine ⟨_, _, _, _, rfl, rfl, by rw [ls]; omega, Nat.lt_of_le_of_lt (show _ ≤ 1000 by rw [ls]; omega) (by decide), h0, h1, ?_⟩
    rw [ls]
    intro r c1 s1 b1 r0 r1 h2 h3
    obtain ⟨r, rfl⟩ := Int.eq_ofNat_of_zero_le r0
    have hr : r < S.length := by omega
    obtain ⟨g1, g2, _⟩ := hS.rooms _ (List.getElem_mem hr)
    obtain ⟨f1, f2, _⟩ := hS.rooms _ (List.getElem_mem s0)
    walk_at "gq"
    refine gs_seq (gs_if ?_)
    walk_at "gq"
    refine ⟨fun hb => ?_, fun hb => ?_⟩
    · have hr0 : r = 0 := by have := of_decide_eq_true hb; omega
      walk_at "gq"
      refine o_ixL (get_map s0) ?_
      rw [aSR_rooms]
      walk_at "gq"
      rw [List.length_map]
      refine ⟨_, _, _, _, rfl, rfl, by omega, Nat.lt_of_le_of_lt (show _ ≤ 1000 by omega) (by decide), h2, h3, ?_⟩
      intro p c2 s2 b2 p0 p1 h4 h5
      obtain ⟨p, rfl⟩ := Int.eq_ofNat_of_zero_le p0
      walk_at "gq"
      exact hR (0, p) _ _ _ ⟨s0, by rw [nR_at s0]; show p < _; omega, .inl rfl⟩ h4 h5
    · have hr0 : r ≠ 0 := by have := of_decide_eq_false hb; omega
      walk_at "gq"
      refine o_ixL (get_map hr) ?_
      rw [aSR_rooms]
      walk_at "gq"
      rw [List.length_map]
      refine ⟨_, _, _, _, rfl, rfl, by omega, Nat.lt_of_le_of_lt (show _ ≤ 1000 by omega) (by decide), h2, h3, ?_⟩
      intro p c2 s2 b2 p0 p1 h4 h5
      obtain ⟨p, rfl⟩ := Int.eq_ofNat_of_zero_le p0
      walk_at "gq"
      have fin := hR (r, 1 + p) c2 s2 b2 ⟨hr, by rw [nR_at hr]; show 1 + p < _; omega, .inr (show 0 < 1 + p by omega)⟩ h4 h5
      rw [show aPl (r, 1 + p) = aTup [aInt (r : Nat), aInt (1 + (p : Int))] by unfold aPl; rw [show (((r, 1 + p) : Pl).2 : Int) = 1 + (p : Int) from by show ((1 + p : Nat) : Int) = _; omega]] at fin
      exact fin
def ct_law_string : Cm := fun S0 As _ RO => ∃ (c s : Int) (b : Bool) (n m : Int), S0 = [aInt c, aInt s, aB b] ∧ As = [aInt n, aInt m] ∧ 1 ≤ n ∧ n ≤ 6 ∧ 2 ≤ m ∧ m ≤ 12 ∧ 0 ≤ s ∧ s < 2147483647 ∧
  ∀ (S : List SR) c' s' b', SgOk S → (S.length : Int) ≤ n → 0 ≤ s' → s' < 2147483647 → RO (S.map aSR) [aInt c', aInt s', aB b']
theorem k_law_string (D : Defs K mg) (c_law_take : Cal P w K mg base 1 "_law_take" ["_law_state", "_law_many"] (spM K ct_law_take)) (c_law_place : Cal P w K mg base 2 "_law_place" ["_law_state", "_law_string_here"] (spM K ct_law_place)) (c_law_amount : Cal P w K mg base 2 "_law_amount" ["_law_state", "_law_least", "_law_kind"] (spM K ct_law_amount)) : Cal P w K mg base 3 "_law_string" ["_law_state", "_law_most", "_law_places"] (spM K ct_law_string) := by
  have xs := D.xs
  refine fn_okM D.d_law_string sc_law_string (fun S As R RO h => ?ln) (fun f cdv A outer s H hr => ?bd)
  case ln =>
    obtain ⟨_, _, _, _, _, rfl, rfl, _⟩ := h; rfl
  case bd =>
    refine ⟨_, (pss_cons (ps_set (i := 3) sc_law_string.nd rfl (Or.inl rfl) (pe_lst pa_nil))
    (pss_cons (ps_set (i := 4) sc_law_string.nd rfl (Or.inl rfl) (pe_cal c_law_take hr (by rfl) (pa_cons (pv 0) (pa_cons pe_int pa_nil))))
    (pss_cons (ps_for PassesOwn.never rfl (pi_range1 (by rfl) D.b_range (pa_cons (pe_op (op_addK (K := K)) pe_int (pe_cal c_law_take hr (by rfl) (pa_cons (pv 0) (pa_cons (pv 1) pa_nil)))) pa_nil)) (pg_name (i := 5) sc_law_string.nd rfl (Or.inl rfl)) (pss_cons (ps_set (i := 6) sc_law_string.nd rfl (Or.inr rfl) (pe_cal c_law_take hr (by rfl) (pa_cons (pv 0) (pa_cons pe_int pa_nil))))
    (pss_cons (ps_setLc (i := 7) (own := [("_law_tie", 9)]) rfl sc_law_string.nd rfl rfl (sw_true rfl rfl rfl (by decide +kernel)) (pi_range1 (by rfl) D.b_range (pa_cons (pe_op (op_addK (K := K)) pe_int (pe_cal c_law_take hr (by rfl) (pa_cons (pv 0) (pa_cons (pe_op op_sub (pv 2) pe_int) pa_nil)))) pa_nil)) (blkOk_by (own := [("_law_tie", 9)]) (N := ["_law_state", "_law_most", "_law_places", "_law_string_here", "_law_shape", "_law_k", "_law_kind", "_law_rooms", "_law_at", "_law_tie"]) (sc := defScope s_law_string) (by decide +kernel)) (fun _ _ _ _ _ => (pg_name (i := 9) sc_law_string.nd rfl (Or.inl rfl))) (fun _ _ _ _ _ => pts_nil) (fun _ _ _ _ _ => (pe_cal c_law_amount hr (by rfl) (pa_cons (pv 0) (pa_cons pe_int (pa_cons (pv 6) pa_nil))))))
    (pss_cons (ps_set (i := 8) sc_law_string.nd rfl (Or.inl rfl) pe_non)
    (pss_cons (ps_if (PW.pt (pw_and (pt_cmpR op_gt (pv 5) pe_int (nomark _)) (pw_and1 (pt_cmpR (op_eqK (K := K) hr) (pv 4) pe_int (nomark _))))) (pss_one (ps_set (i := 7) sc_law_string.nd rfl (Or.inl rfl) (pe_callTy (call_listK (K := K)) (by rfl) D.b_list (by decide +kernel) (pa_cons (pe_ix (ix_seqK (K := K)) (pe_ix (ix_seqK (K := K)) (pv 3) pe_int (fun _ _ => rfl)) pe_int (fun _ _ => rfl)) pa_nil)))) pss_nil)
    (pss_cons (ps_if (pt_cmpR op_gt (pv 5) pe_int (nomark _)) (pss_cons (ps_set (i := 8) sc_law_string.nd rfl (Or.inl rfl) (pe_cal c_law_place hr (by rfl) (pa_cons (pv 0) (pa_cons (pv 3) pa_nil))))
    (pss_one (ps_if (pt_cmpR (op_eqK (K := K) hr) (pv 4) pe_int (nomark _)) (pss_one (ps_set (i := 8) sc_law_string.nd rfl (Or.inl rfl) (pe_tup (pa_cons (pe_op op_sub (pv 5) pe_int) (pa_cons (pe_op op_sub (pe_callB (call_lenK (K := K)) (by rfl) D.b_len (by decide +kernel) (pa_cons (pe_ix (ix_seqK (K := K)) (pe_ix (ix_seqK (K := K)) (pv 3) (pe_op op_sub (pv 5) pe_int) (fun _ _ => rfl)) pe_int (fun _ _ => rfl)) pa_nil)) pe_int) pa_nil))))) pss_nil))) pss_nil)
    (pss_one (ps_expr (pe_bmK (K := K) PySem.F.plainAttrs_list PySem.F.slot_list_append PySem.F.type_list_append mt_append (pv 3) (pa_cons (pe_tup (pa_cons (pv 7) (pa_cons (pv 8) pa_nil))) pa_nil))))))))))
    (pss_one (ps_ret (pv 3)))))), fun F G0 l S As R RO h => ?_⟩
    obtain ⟨c, s1, b, n, m, rfl, rfl, n1, n6, m2, m12, h0, h1, hR⟩ := h
    walk_at "gq"
    rename_i l3
    refine ⟨_, _, _, _, rfl, rfl, by decide, by decide, h0, h1, ?_⟩
    intro shp c1 s1 b1 sh0 sh1 h0 h1
    walk_at "gq"
    refine gs_join (fun γ => ∃ (S : List SR) (c s : Int) (b : Bool) (S4 S5 S6 S7 S8 S9 : Sl), γ = [.own l [aInt c, aInt s, aB b], .sh (aInt n), .sh (aInt m), .own l3 (S.map aSR), S4, S5, S6, S7, S8, S9] ∧ SgOk S ∧ (S.length : Int) ≤ n ∧ 0 ≤ s ∧ s < 2147483647) (gs_for (fun k γ => ∃ (S : List SR) (c s : Int) (b : Bool) (S5 S6 S7 S8 S9 : Sl), γ = [.own l [aInt c, aInt s, aB b], .sh (aInt n), .sh (aInt m), .own l3 (S.map aSR), .sh (aInt shp), S5, S6, S7, S8, S9] ∧ S.length = k ∧ (S = [] ∨ SgOk S) ∧ 0 ≤ s ∧ s < 2147483647) ?_) ?_
    · walk_at "gq"
      refine ⟨_, _, _, _, rfl, rfl, by omega, Nat.lt_of_le_of_lt (show _ ≤ 1000 by omega) (by decide), h0, h1, ?_⟩
      intro u c2 s2 b2 u0 u1 h2 h3
      walk_at "gq"
      refine ⟨by omega, by omega, ⟨[], _, _, _, _, _, _, _, _, rfl, rfl, .inl rfl, h2, h3⟩, ?_, ?_⟩
      · rintro i C γ2 hC ⟨S, c3, s3, b3, S5, S6, S7, S8, S9, rfl, hl, hS, h4, h5⟩
        obtain ⟨hi, rfl⟩ := rng_get hC
        walk_at "gq"
        refine ⟨_, _, _, _, rfl, rfl, by decide, by decide, h4, h5, ?_⟩
        intro kd c4 s4 b4 k0 k1 h4 h5
        walk_at "gq"
        refine go_comp (tg_name (by decide)) ?_
        walk_at "gq"
        refine ⟨_, _, _, _, rfl, rfl, by omega, Nat.lt_of_le_of_lt (show _ ≤ 1000 by omega) (by decide), h4, h5, ?_⟩
        intro v c5 s5 b5 v0 v1 h4 h5
        walk_at "gq"
        refine ⟨by omega, by omega, fun j acc γ => ∃ (rooms : List Rat) (c s : Int) (b : Bool), acc = rooms.map aF ∧ rooms.length = j ∧ (∀ q, q ∈ rooms → 0 < q ∧ Sz 41 4 q) ∧ γ = [.own l [aInt c, aInt s, aB b], .sh (aInt n), .sh (aInt m), .own l3 (S.map aSR), .sh (aInt shp), .sh (aInt (i : Nat)), .sh (aInt kd), S7, S8, .non] ∧ 0 ≤ s ∧ s < 2147483647, ⟨[], _, _, _, rfl, rfl, fun q hq => (by cases hq), rfl, h4, h5⟩, by rw [List.length_map, upFrom_len]; omega, ?_, ?_, ?_⟩
        · rintro j acc γ2 ⟨rooms, _, _, _, rfl, e, _⟩
          rw [List.length_map]
          omega
        · rintro F' G0' j B acc γ2 hB ⟨rooms, c6, s6, b6, rfl, e, hr, rfl, h6, h7⟩
          walk_at "gq"
          refine ⟨_, _, _, _, _, rfl, rfl, .inr rfl, k0, by omega, h6, h7, ?_⟩
          intro q c7 s7 b7 _ q0 q2 h8 h9
          have q0 := q0 rfl
          refine ⟨rooms ++ [q], c7, s7, b7, by rw [List.map_append]; rfl, by rw [List.length_append, e]; rfl, fun x hx => ?_, rfl, h8, h9⟩
          rcases List.mem_append.mp hx with hx | hx
          · exact hr x hx
          · rw [List.mem_singleton.mp hx]
            exact ⟨q0, q2⟩
        rintro l7 acc γ2 ⟨rooms, c6, s6, b6, rfl, hrl, hr, rfl, h4, h5⟩
        rw [List.length_map, upFrom_len] at hrl
        have rok : 2 ≤ rooms.length ∧ rooms.length ≤ 12 ∧ ∀ q, q ∈ rooms → 0 < q ∧ Sz 41 4 q := ⟨by omega, by omega, hr⟩
        have hSi : 0 < i → SgOk S := fun h => by
          rcases hS with z | z
          · rw [z] at hl
            have : (0 : Nat) = i := hl
            omega
          · exact z
        walk_at "nx"
        refine gs_freeze 7 rfl ?_
        walk_at "gq"
        refine gs_join (fun γ => ∃ (rooms : List Rat), γ = [.own l [aInt c6, aInt s6, aB b6], .sh (aInt n), .sh (aInt m), .own l3 (S.map aSR), .sh (aInt shp), .sh (aInt (i : Nat)), .sh (aInt kd), .sh (aL aF rooms), .sh aN, .non] ∧ 2 ≤ rooms.length ∧ rooms.length ≤ 12 ∧ ∀ q, q ∈ rooms → 0 < q ∧ Sz 41 4 q) (gs_if (gt_val (decide (0 < i) && decide (shp = 2)) ?_ ⟨fun hm => ?_, fun hm => ?_⟩)) ?_
        · walk_at "gq"
          refine ⟨fun hi0 => ?_, fun hi0 => ?_⟩
          · walk_at "gq"
            rw [decide_eq_true (show 0 < i by have := of_decide_eq_true hi0; omega), Bool.true_and]
            exact ⟨rfl, rfl⟩
          · rw [decide_eq_false (show ¬ 0 < i by have := of_decide_eq_false hi0; omega), Bool.false_and]
            exact ⟨rfl, rfl⟩
        · have hSg := hSi (by rw [Bool.and_eq_true] at hm; exact of_decide_eq_true hm.1)
          have s0 := hSg.pos
          refine gs_set (ge_of_go (go_listOf ?_))
          walk_at "gq"
          refine ⟨_, _, _, _, rfl, rfl, Rl.get_map s0, ?_⟩
          rw [aSR_rooms]
          walk_at "gq"
          exact hSg.rooms _ (List.getElem_mem s0)
        · walk_at "gq"
          exact rok
        rintro _ ⟨rooms, rfl, rok⟩
        refine gs_join (fun γ => ∃ (c s : Int) (b : Bool) (o : Option Pl), γ = [.own l [aInt c, aInt s, aB b], .sh (aInt n), .sh (aInt m), .own l3 (S.map aSR), .sh (aInt shp), .sh (aInt (i : Nat)), .sh (aInt kd), .sh (aL aF rooms), .sh (aAt o), .non] ∧ ((S = [] ∧ o = none) ∨ (SgOk S ∧ ∃ q, o = some q ∧ PlOk S q)) ∧ 0 ≤ s ∧ s < 2147483647) (gs_if ?_) ?_
        · walk_at "gq"
          refine ⟨fun hi0 => ?_, fun hi0 => ?_⟩
          · have hSg := hSi (by have := of_decide_eq_true hi0; omega)
            refine gs_seq (gs_set (ge_callML ⟨_, _, rfl⟩ fun F' G0' => ?_))
            simp only [List.set_cons_succ, List.set_cons_zero, Rl.lend, lend1, List.map_cons, List.map_nil]
            walk_at "gq"
            refine ⟨_, _, _, S, rfl, rfl, hSg, h4, h5, fun q c8 s8 b8 hq h8 h9 => ⟨lf_tup (lfs_cons (lf_v _) (lfs_cons (lf_v _) lfs_nil)), lfs_cons (lf_v _) (lfs_cons (lf_v _) (lfs_cons (lf_v _) lfs_nil)), ?_⟩⟩
            refine gs_if ?_
            walk_at "gq"
            refine ⟨fun hsh => ?_, fun _ => ?_⟩
            · have i0 : 0 < i := by have := of_decide_eq_true hi0; omega
              have hj : i - 1 < S.length := by omega
              have g1 := (hSg.rooms _ (List.getElem_mem hj)).1
              walk_at "gq"
              refine ⟨_, _, _, _, rfl, rfl, (show atI _ ((i : Int) - 1) = _ by rw [show (i : Int) - 1 = ((i - 1 : Nat) : Int) by omega]; exact Rl.get_map hj), ?_⟩
              rw [aSR_rooms]
              walk_at "gq"
              rw [List.length_map]
              have eat : aTup [aInt ((i : Int) - 1), aInt ((S[i - 1].rooms.length : Int) - 1)] = aAt (some (i - 1, S[i - 1].rooms.length - 1)) := by
                unfold aAt aPl
                dsimp only
                rw [show ((i - 1 : Nat) : Int) = (i : Int) - 1 by omega, show ((S[i - 1].rooms.length - 1 : Nat) : Int) = (S[i - 1].rooms.length : Int) - 1 by omega]
              rw [eat]
              exact ⟨_, _, _, some (i - 1, S[i - 1].rooms.length - 1), rfl, .inr ⟨hSg, _, rfl, hj, by rw [nR_at hj]; show S[i - 1].rooms.length - 1 < _; omega, .inr (show 0 < S[i - 1].rooms.length - 1 by omega)⟩, h8, h9⟩
            · walk_at "gq"
              exact ⟨_, _, _, some q, rfl, .inr ⟨hSg, q, rfl, hq⟩, h8, h9⟩
          · have he : S = [] := by
              have := of_decide_eq_false hi0
              exact List.length_eq_zero_iff.mp (by omega)
            walk_at "gq"
            exact ⟨_, _, _, none, rfl, .inl ⟨he, rfl⟩, h4, h5⟩
        rintro _ ⟨c8, s8, b8, o, rfl, ho, h8, h9⟩
        walk_at "gq"
        have es : S.map aSR ++ [aTup [aL aF rooms, aAt o]] = (S ++ [(⟨rooms, o⟩ : SR)]).map aSR := by
          rw [List.map_append]
          rfl
        rw [es]
        exact ⟨by rw [List.length_map]; omega, S ++ [⟨rooms, o⟩], _, _, _, _, _, _, _, _, rfl, by rw [List.length_append, List.length_singleton, hl], .inr (SgOk.snoc rok (by omega) ho), h8, h9⟩
      · rintro γ2 ⟨S, c3, s3, b3, S5, S6, S7, S8, S9, rfl, hl, hS, h4, h5⟩
        rw [List.length_map, upFrom_len] at hl
        have hS : SgOk S := by
          rcases hS with z | z
          · rw [z] at hl
            have : (0 : Nat) = (1 + u).toNat := hl
            omega
          · exact z
        exact ⟨S, _, _, _, _, _, _, _, _, _, rfl, hS, by omega, h4, h5⟩
    rintro _ ⟨S, c3, s3, b3, S4, S5, S6, S7, S8, S9, rfl, hS, hl, h4, h5⟩
    walk_at "gq"
    exact hR S _ _ _ hS hl h4 h5
theorem sms_snocN : ∀ {ds : List Dt}, Dt.sms ds → Dt.sms (ds ++ [Dt.n])
  | [], _ => by show Dt.sms [Dt.n]; rw [Dt.sms, Dt.sms, Dt.sm]; trivial
  | d :: ds, h => by
    rw [Dt.sms] at h
    show Dt.sms (d :: (ds ++ [Dt.n]))
    rw [Dt.sms]
    exact ⟨h.1, sms_snocN h.2⟩
theorem k_law {f : Addr} {fd : FuncData} (F : FunD K "law" "law" (defArgs s_law) (defBody s_law) (defScope s_law) [] [] f fd) (bnd : ∀ (s : Shared) (u : Value), BindsTo s fd ⟨[u], []⟩ [("_law_script", u)]) (D : Defs K mg) (c_law_told : Cal P w K mg base 6 "_law_told" ["_law_thing"] (spOf K ct_law_told)) (c_law_fault : Cal P w K mg base 3 "_law_fault" ["_law_thing"] (spOf K ct_law_fault)) (c_law_odd : Cal P w K mg base 2 "_law_odd" ["_law_state", "_law_string_here"] (spM K ct_law_odd)) (c_law_begun : Cal P w K mg base 1 "_law_begun" ["_law_script", "_law_k"] (spOf K ct_law_begun)) (c_law_pairs_right : Cal P w K mg base 3 "_law_pairs_right" ["_law_state", "_law_string_here"] (spM K ct_law_pairs_right)) (c_law_string : Cal P w K mg base 3 "_law_string" ["_law_state", "_law_most", "_law_places"] (spM K ct_law_string)) : AtLaw P w K mg base f (spOf K ct_law) := by
  have xs := D.xs
  refine at_law (n := 6) F sc_law ct_law_len ⟨rfl, by decide, by decide⟩ bnd (fun cdv s H hr hg => ?bd)
  case bd =>
    refine ⟨_, (pss_cons (ps_set (i := 1) sc_law.nd rfl (Or.inl rfl) (pe_cal c_law_string hr (by rfl) (pa_cons (pe_cal c_law_begun hr (by rfl) (pa_cons (pv 0) (pa_cons pe_int pa_nil))) (pa_cons pe_int (pa_cons pe_int pa_nil)))))
    (pss_cons (ps_set (i := 2) sc_law.nd rfl (Or.inl rfl) (pe_callB (call_reprXK (K := K) D.sy hg hr) (by rfl) D.b_repr (by decide +kernel) (pa_cons (pv 1) pa_nil)))
    (pss_cons (ps_if (PW.pt (pw_or (pt_cmpR (op_neK (K := K) hr) (pe_cal c_law_told hr (by rfl) (pa_cons (pv 1) pa_nil)) (pe_lst pa_nil) (nomark _)) (pw_or1 (pt_not (pt_trK (K := K) (pe_cal c_law_pairs_right hr (by rfl) (pa_cons (pe_cal c_law_begun hr (by rfl) (pa_cons (pv 0) (pa_cons pe_int pa_nil))) (pa_cons (pv 1) pa_nil)))))))) (pss_one (ps_ret pe_bl)) pss_nil)
    (pss_cons (ps_for PassesOwn.never rfl (pi_range2 (by rfl) D.b_range (pa_cons pe_int (pa_cons (pe_callB (call_maxA rfl) (by rfl) D.b_max (by decide +kernel) (pa_cons pe_int (pa_cons (pe_callB (call_minA rfl) (by rfl) D.b_min (by decide +kernel) (pa_cons (pe_callB (call_lenK (K := K)) (by rfl) D.b_len (by decide +kernel) (pa_cons (pv 0) pa_nil)) (pa_cons pe_int pa_nil))) pa_nil))) pa_nil))) (pg_name (i := 3) sc_law.nd rfl (Or.inl rfl)) (pss_cons (ps_set (i := 4) sc_law.nd rfl (Or.inl rfl) (pe_cal c_law_odd hr (by rfl) (pa_cons (pe_cal c_law_begun hr (by rfl) (pa_cons (pv 0) (pa_cons (pv 3) pa_nil))) (pa_cons (pv 1) pa_nil))))
    (pss_cons (ps_set (i := 5) sc_law.nd rfl (Or.inl rfl) (pe_callB (call_reprXK (K := K) D.sy hg hr) (by rfl) D.b_repr (by decide +kernel) (pa_cons (pv 4) pa_nil)))
    (pss_cons (ps_if (PW.pt (pw_or (pt_cmpR (op_neK (K := K) hr) (pe_cal c_law_told hr (by rfl) (pa_cons (pv 4) pa_nil)) (pe_cal c_law_fault hr (by rfl) (pa_cons (pv 4) pa_nil)) (nomark _)) (pw_or1 (pt_cmpR (op_neK (K := K) hr) (pe_callB (call_reprXK (K := K) D.sy hg hr) (by rfl) D.b_repr (by decide +kernel) (pa_cons (pv 4) pa_nil)) (pv 5) (nomark _))))) (pss_one (ps_ret pe_bl)) pss_nil)
    (pss_one (ps_if (PW.pt (pw_and (pt_trK (K := K) (pe_callB (call_isiK' (K := K)) (by rfl) D.b_isinstance (by decide +kernel) (pa_cons (pv 4) (pa_cons (pe_bltn (v := .ty "list") (by rfl) D.b_list (by decide +kernel) rfl) pa_nil)))) (pw_and1 (pt_cmpR (op_neK (K := K) hr) (pe_cal c_law_told hr (by rfl) (pa_cons (pe_op (op_addK (K := K)) (pv 4) (pe_lst (pa_cons pe_non pa_nil))) pa_nil)) (pe_cal c_law_fault hr (by rfl) (pa_cons (pe_op (op_addK (K := K)) (pv 4) (pe_lst (pa_cons pe_non pa_nil))) pa_nil)) (nomark _))))) (pss_one (ps_ret pe_bl)) pss_nil))))))
    (pss_one (ps_ret (pe_cmpR (op_eqK (K := K) hr) (pe_callB (call_reprXK (K := K) D.sy hg hr) (by rfl) D.b_repr (by decide +kernel) (pa_cons (pv 1) pa_nil)) (pv 2) (nomark _)))))))), fun F G0 As R RO h => ?_⟩
    obtain ⟨ns, rfl, hns, hR⟩ := h
    walk_at "gq"
    refine ⟨ns, 0, rfl, by decide, by decide, fun c s b h0 h1 => ?_⟩
    refine all_a fun l1 => ?_
    intro F' G0'
    walk_at "gq"
    refine ⟨_, _, _, _, _, rfl, rfl, by decide, by decide, by decide, by decide, h0, h1, ?_⟩
    intro S c1 s1 b1 hS _ h0 h1
    have lS : (S.map aSR).length = S.length := List.length_map ..
    have p6 := hS.most
    walk_at "gq"
    obtain ⟨z, hz⟩ := repr_sy (sq_l (sqs_string (n := 0) hS) (by omega)).2 (by decide) (by decide)
    refine hz ?_
    walk_at "gq"
    refine gs_seq (gs_if ?_)
    walk_at "gq"
    refine ⟨.l (S.map dSR), by rw [aD_sg], smL_of (sm_sg hS), fun _ => ?_, fun o e => absurd ((str_good hS).symm.trans e) nofun⟩
    walk_at "gq"
    refine o_neNil dats_nil ?_
    walk_at "gq"
    refine ⟨ns, 1, rfl, by decide, by decide, fun c s b h0 h1 => ?_⟩
    refine all_a fun l1 => ?_
    intro F' G0'
    walk_at "gq"
    refine ⟨_, _, _, S, rfl, rfl, hS, h0, h1, fun c' s' b' => ?_⟩
    walk_at "gq"
    refine gs_join (fun γ => ∃ (S3 S4 S5 : Sl), γ = [.sh (aScr ns), .sh (aSg S), .sh (aS z), S3, S4, S5]) (gs_for (fun i γ => ∃ (S3 S4 S5 : Sl), γ = [.sh (aScr ns), .sh (aSg S), .sh (aS z), S3, S4, S5]) ?_) ?_
    · walk_at "gq"
      refine ⟨⟨by omega, by omega, by omega, by omega⟩, ⟨_, _, _, rfl⟩, ?_, fun γ2 h => h⟩
      rintro i B γ2 hB ⟨S3, S4, S5, rfl⟩
      obtain ⟨x, hx, rfl⟩ := map_get hB
      obtain ⟨rfl, hi⟩ := upFrom_get hx
      walk_at "gq"
      refine ⟨ns, _, rfl, by omega, by omega, fun c s b h0 h1 => ?_⟩
      refine all_a fun l9 => ?_
      intro F' G0'
      walk_at "gq"
      refine ⟨_, _, _, S, rfl, rfl, hS, h0, h1, ?_⟩
      intro A c2 s2 b2 hA _ _
      obtain ⟨⟨d, d1, d2, d3, rfl⟩, hy⟩ := hA
      obtain ⟨y, hz2⟩ := repr_sy hy (by decide) (by decide)
      walk_at "gq"
      refine hz2 ?_
      walk_at "gq"
      have dO : ∀ o : Option Nat, Dat 20 (aLst [aO o]) := fun o => dat_lst (dats_cons (by
        cases o with
        | none => exact dat_n
        | some n => exact dat_int _) dats_nil)
      refine gs_pass (fun F' G0' => ?_) ?_
      · simp only [Rl.lend, lend1, List.map_cons, List.map_nil]
        walk_at "gq"
        refine ⟨d, rfl, smL_of d1, fun e => ?_, fun o e => ?_⟩
        · walk_at "gq"
          refine ⟨d, rfl, smL_of d1, ?_⟩
          rw [e]
          walk_at "gq"
          refine o_neSame (dat_lst dats_nil) rfl ?_
          walk_at "gq"
          refine hz2 ?_
          walk_at "gq"
          rw [decide_eq_true rfl]
          exact rfl
        · walk_at "gq"
          refine ⟨d, rfl, smL_of d1, ?_⟩
          rw [e]
          walk_at "gq"
          refine o_neSame (dO o) rfl ?_
          walk_at "gq"
          refine hz2 ?_
          walk_at "gq"
          rw [decide_eq_true rfl]
          exact rfl
      refine gs_if ?_
      cases d with
      | i x => rw [aD_i]; walk_at "go"; exact ⟨_, _, _, rfl⟩
      | s x => rw [aD_s]; walk_at "go"; exact ⟨_, _, _, rfl⟩
      | b x => rw [aD_b]; walk_at "go"; exact ⟨_, _, _, rfl⟩
      | n => rw [aD_n]; walk_at "go"; exact ⟨_, _, _, rfl⟩
      | t x => rw [aD_t]; walk_at "go"; exact ⟨_, _, _, rfl⟩
      | k x => rw [aD_k]; walk_at "go"; exact ⟨_, _, _, rfl⟩
      | l ds =>
        rw [aD_l]
        rw [Dt.sm] at d1
        have ld : (ds.map aD).length = ds.length := List.length_map ..
        have en : ds.map aD ++ [aN] = (ds ++ [Dt.n]).map aD := by rw [List.map_append, List.map_singleton, aD_n]
        have h2 : smL (.l (ds ++ [Dt.n])) := by
          show Dt.sms (ds ++ [Dt.n])
          exact sms_snocN d1.2
        walk_at "gq"
        refine o_cat ?_ ?_
        · rw [List.length_singleton]; omega
        rw [en, show aLst ((ds ++ [Dt.n]).map aD) = aD (.l (ds ++ [Dt.n])) from (aD_l _).symm]
        walk_at "gq"
        refine ⟨_, rfl, h2, fun e => ?_, fun o e => ?_⟩
        · walk_at "gq"
          refine o_cat ?_ ?_
          · rw [List.length_singleton]; omega
          rw [en, show aLst ((ds ++ [Dt.n]).map aD) = aD (.l (ds ++ [Dt.n])) from (aD_l _).symm]
          walk_at "gq"
          refine ⟨_, rfl, h2, ?_⟩
          rw [e]
          walk_at "gq"
          refine o_neSame (dat_lst dats_nil) rfl ?_
          walk_at "gq"
          exact ⟨_, _, _, rfl⟩
        · walk_at "gq"
          refine o_cat ?_ ?_
          · rw [List.length_singleton]; omega
          rw [en, show aLst ((ds ++ [Dt.n]).map aD) = aD (.l (ds ++ [Dt.n])) from (aD_l _).symm]
          walk_at "gq"
          refine ⟨_, rfl, h2, ?_⟩
          rw [e]
          walk_at "gq"
          refine o_neSame (dO o) rfl ?_
          walk_at "gq"
          exact ⟨_, _, _, rfl⟩
    rintro _ ⟨S3, S4, S5, rfl⟩
    walk_at "gq"
    refine hz ?_
    walk_at "gq"
    rw [decide_eq_true rfl]
    exact hR
end
theorem facts {P : Program} {w : World} {K : PySem.W.Frag} {h : Heap} {mg : Str → Option Value} {f : Addr} (X : K.In h) (G : h.Ns mainGlobals mg) (hfa : mg ("law" : Str) = some (.ref f)) (c : He.SaysD faL fnL K) (cx : exL K = true) :
    ∃ fd : FuncData, (∀ (s : Shared) (v : Value), BindsTo s fd ⟨[v], []⟩ [("_law_script", v)]) ∧ ∀ base : Heap, K.In base → base.Ns mainGlobals mg → AtLaw P w K mg base f (spOf K ct_law) := by
  have cx' : ((He.tupB K "NOUGHT" [.int 0, .int 1]) && (iniB K "NoString") && (decide (PySem.W.findIn K (.ref (He.ga K "NoString")) "number" = some none)) && (leB K "LoadError") && (allB K xnL) && (syB K)) = true := cx
  simp only [Bool.and_eq_true] at cx'
  obtain ⟨fd_is_whole, F_is_whole⟩ := c.def_ 0 (d := dd_is_whole) rfl
  have d_is_whole : Std K mg "is_whole" s_is_whole ["thing"] := ⟨_, fd_is_whole, F_is_whole, He.glo_ok X G (c.fact 0 (f := .glo "is_whole") rfl), FunD.bindsN F_is_whole fun _ _ _ _ _ _ us hl => match us, hl with | [_], _ => rfl⟩
  obtain ⟨fd_common, F_common⟩ := c.def_ 1 (d := dd_common) rfl
  have d_common : Std K mg "common" s_common ["one", "other"] := ⟨_, fd_common, F_common, He.glo_ok X G (c.fact 1 (f := .glo "common") rfl), FunD.bindsN F_common fun _ _ _ _ _ _ us hl => match us, hl with | [_, _], _ => rfl⟩
  obtain ⟨fd_is_ratio, F_is_ratio⟩ := c.def_ 2 (d := dd_is_ratio) rfl
  have d_is_ratio : Std K mg "is_ratio" s_is_ratio ["thing"] := ⟨_, fd_is_ratio, F_is_ratio, He.glo_ok X G (c.fact 2 (f := .glo "is_ratio") rfl), FunD.bindsN F_is_ratio fun _ _ _ _ _ _ us hl => match us, hl with | [_], _ => rfl⟩
  obtain ⟨fd_under, F_under⟩ := c.def_ 3 (d := dd_under) rfl
  have d_under : Std K mg "under" s_under ["one", "other"] := ⟨_, fd_under, F_under, He.glo_ok X G (c.fact 3 (f := .glo "under") rfl), FunD.bindsN F_under fun _ _ _ _ _ _ us hl => match us, hl with | [_, _], _ => rfl⟩
  obtain ⟨fd_are_rooms, F_are_rooms⟩ := c.def_ 4 (d := dd_are_rooms) rfl
  have d_are_rooms : Std K mg "are_rooms" s_are_rooms ["thing"] := ⟨_, fd_are_rooms, F_are_rooms, He.glo_ok X G (c.fact 4 (f := .glo "are_rooms") rfl), FunD.bindsN F_are_rooms fun _ _ _ _ _ _ us hl => match us, hl with | [_], _ => rfl⟩
  obtain ⟨fd_is_place, F_is_place⟩ := c.def_ 5 (d := dd_is_place) rfl
  have d_is_place : Std K mg "is_place" s_is_place ["string", "thing"] := ⟨_, fd_is_place, F_is_place, He.glo_ok X G (c.fact 5 (f := .glo "is_place") rfl), FunD.bindsN F_is_place fun _ _ _ _ _ _ us hl => match us, hl with | [_, _], _ => rfl⟩
  obtain ⟨fd_is_hung, F_is_hung⟩ := c.def_ 6 (d := dd_is_hung) rfl
  have d_is_hung : Std K mg "is_hung" s_is_hung ["ahead", "thing"] := ⟨_, fd_is_hung, F_is_hung, He.glo_ok X G (c.fact 6 (f := .glo "is_hung") rfl), FunD.bindsN F_is_hung fun _ _ _ _ _ _ us hl => match us, hl with | [_, _], _ => rfl⟩
  obtain ⟨fd_look_at_string, F_look_at_string⟩ := c.def_ 7 (d := dd_look_at_string) rfl
  have d_look_at_string : Std K mg "look_at_string" s_look_at_string ["thing"] := ⟨_, fd_look_at_string, F_look_at_string, He.glo_ok X G (c.fact 7 (f := .glo "look_at_string") rfl), FunD.bindsN F_look_at_string fun _ _ _ _ _ _ us hl => match us, hl with | [_], _ => rfl⟩
  obtain ⟨fd_law_begun, F_law_begun⟩ := c.def_ 8 (d := dd_law_begun) rfl
  have d_law_begun : Std K mg "_law_begun" s_law_begun ["_law_script", "_law_k"] := ⟨_, fd_law_begun, F_law_begun, He.glo_ok X G (c.fact 8 (f := .glo "_law_begun") rfl), FunD.bindsN F_law_begun fun _ _ _ _ _ _ us hl => match us, hl with | [_, _], _ => rfl⟩
  obtain ⟨fd_law_take, F_law_take⟩ := c.def_ 9 (d := dd_law_take) rfl
  have d_law_take : Std K mg "_law_take" s_law_take ["_law_state", "_law_many"] := ⟨_, fd_law_take, F_law_take, He.glo_ok X G (c.fact 9 (f := .glo "_law_take") rfl), FunD.bindsN F_law_take fun _ _ _ _ _ _ us hl => match us, hl with | [_, _], _ => rfl⟩
  obtain ⟨fd_law_low, F_law_low⟩ := c.def_ 10 (d := dd_law_low) rfl
  have d_law_low : Std K mg "_law_low" s_law_low ["_law_top", "_law_bottom"] := ⟨_, fd_law_low, F_law_low, He.glo_ok X G (c.fact 10 (f := .glo "_law_low") rfl), FunD.bindsN F_law_low fun _ _ _ _ _ _ us hl => match us, hl with | [_, _], _ => rfl⟩
  obtain ⟨fd_law_amount, F_law_amount⟩ := c.def_ 11 (d := dd_law_amount) rfl
  have d_law_amount : Std K mg "_law_amount" s_law_amount ["_law_state", "_law_least", "_law_kind"] := ⟨_, fd_law_amount, F_law_amount, He.glo_ok X G (c.fact 11 (f := .glo "_law_amount") rfl), FunD.bindsN F_law_amount fun _ _ _ _ _ _ us hl => match us, hl with | [_, _, _], _ => rfl⟩
  obtain ⟨fd_law_place, F_law_place⟩ := c.def_ 12 (d := dd_law_place) rfl
  have d_law_place : Std K mg "_law_place" s_law_place ["_law_state", "_law_string_here"] := ⟨_, fd_law_place, F_law_place, He.glo_ok X G (c.fact 12 (f := .glo "_law_place") rfl), FunD.bindsN F_law_place fun _ _ _ _ _ _ us hl => match us, hl with | [_, _], _ => rfl⟩
  obtain ⟨fd_law_string, F_law_string⟩ := c.def_ 13 (d := dd_law_string) rfl
  have d_law_string : Std K mg "_law_string" s_law_string ["_law_state", "_law_most", "_law_places"] := ⟨_, fd_law_string, F_law_string, He.glo_ok X G (c.fact 13 (f := .glo "_law_string") rfl), FunD.bindsN F_law_string fun _ _ _ _ _ _ us hl => match us, hl with | [_, _, _], _ => rfl⟩
  obtain ⟨fd_law_whole, F_law_whole⟩ := c.def_ 14 (d := dd_law_whole) rfl
  have d_law_whole : Std K mg "_law_whole" s_law_whole ["_law_thing"] := ⟨_, fd_law_whole, F_law_whole, He.glo_ok X G (c.fact 14 (f := .glo "_law_whole") rfl), FunD.bindsN F_law_whole fun _ _ _ _ _ _ us hl => match us, hl with | [_], _ => rfl⟩
  obtain ⟨fd_law_ratio, F_law_ratio⟩ := c.def_ 15 (d := dd_law_ratio) rfl
  have d_law_ratio : Std K mg "_law_ratio" s_law_ratio ["_law_thing"] := ⟨_, fd_law_ratio, F_law_ratio, He.glo_ok X G (c.fact 15 (f := .glo "_law_ratio") rfl), FunD.bindsN F_law_ratio fun _ _ _ _ _ _ us hl => match us, hl with | [_], _ => rfl⟩
  obtain ⟨fd_law_is_place, F_law_is_place⟩ := c.def_ 16 (d := dd_law_is_place) rfl
  have d_law_is_place : Std K mg "_law_is_place" s_law_is_place ["_law_string_here", "_law_thing"] := ⟨_, fd_law_is_place, F_law_is_place, He.glo_ok X G (c.fact 16 (f := .glo "_law_is_place") rfl), FunD.bindsN F_law_is_place fun _ _ _ _ _ _ us hl => match us, hl with | [_, _], _ => rfl⟩
  obtain ⟨fd_law_fault, F_law_fault⟩ := c.def_ 17 (d := dd_law_fault) rfl
  have d_law_fault : Std K mg "_law_fault" s_law_fault ["_law_thing"] := ⟨_, fd_law_fault, F_law_fault, He.glo_ok X G (c.fact 17 (f := .glo "_law_fault") rfl), FunD.bindsN F_law_fault fun _ _ _ _ _ _ us hl => match us, hl with | [_], _ => rfl⟩
  obtain ⟨fd_law_told, F_law_told⟩ := c.def_ 18 (d := dd_law_told) rfl
  have d_law_told : Std K mg "_law_told" s_law_told ["_law_thing"] := ⟨_, fd_law_told, F_law_told, He.glo_ok X G (c.fact 18 (f := .glo "_law_told") rfl), FunD.bindsN F_law_told fun _ _ _ _ _ _ us hl => match us, hl with | [_], _ => rfl⟩
  obtain ⟨fd_law_odd, F_law_odd⟩ := c.def_ 19 (d := dd_law_odd) rfl
  have d_law_odd : Std K mg "_law_odd" s_law_odd ["_law_state", "_law_string_here"] := ⟨_, fd_law_odd, F_law_odd, He.glo_ok X G (c.fact 19 (f := .glo "_law_odd") rfl), FunD.bindsN F_law_odd fun _ _ _ _ _ _ us hl => match us, hl with | [_, _], _ => rfl⟩
  obtain ⟨fd_law_pairs_right, F_law_pairs_right⟩ := c.def_ 20 (d := dd_law_pairs_right) rfl
  have d_law_pairs_right : Std K mg "_law_pairs_right" s_law_pairs_right ["_law_state", "_law_string_here"] := ⟨_, fd_law_pairs_right, F_law_pairs_right, He.glo_ok X G (c.fact 20 (f := .glo "_law_pairs_right") rfl), FunD.bindsN F_law_pairs_right fun _ _ _ _ _ _ us hl => match us, hl with | [_, _], _ => rfl⟩
  obtain ⟨fd_law, F_law⟩ := c.def_ 21 (d := dd_law) rfl
  have e := hfa.symm.trans (He.glo_ok X G (c.fact 21 (f := .glo "law") rfl))
  cases e
  obtain ⟨fi_NoString, Fi_NoString⟩ := c.def_ 22 (d := di_NoString) rfl
  have D : Defs K mg := ⟨d_is_whole, d_common, d_is_ratio, d_under, d_are_rooms, d_is_place, d_is_hung, d_look_at_string, d_law_begun, d_law_take, d_law_low, d_law_amount, d_law_place, d_law_string, d_law_whole, d_law_ratio, d_law_is_place, d_law_fault, d_law_told, d_law_odd, d_law_pairs_right, (He.free_ok X G (c.fact 22 (f := .free "ValueError") rfl)), (He.free_ok X G (c.fact 23 (f := .free "abs") rfl)), (He.free_ok X G (c.fact 24 (f := .free "all") rfl)), (He.free_ok X G (c.fact 25 (f := .free "bool") rfl)), (He.free_ok X G (c.fact 26 (f := .free "enumerate") rfl)), (He.free_ok X G (c.fact 27 (f := .free "int") rfl)), (He.free_ok X G (c.fact 28 (f := .free "isinstance") rfl)), (He.free_ok X G (c.fact 29 (f := .free "len") rfl)), (He.free_ok X G (c.fact 30 (f := .free "list") rfl)), (He.free_ok X G (c.fact 31 (f := .free "max") rfl)), (He.free_ok X G (c.fact 32 (f := .free "min") rfl)), (He.free_ok X G (c.fact 33 (f := .free "range") rfl)), (He.free_ok X G (c.fact 34 (f := .free "repr") rfl)), (He.free_ok X G (c.fact 35 (f := .free "tuple") rfl)), ⟨_, He.glo_ok X G (c.fact 36 (f := .glo "NOUGHT") rfl), fun H => He.tupB_ok (x := "NOUGHT") (vs := [.int 0, .int 1]) cx'.1.1.1.1.1 H⟩, (by obtain ⟨t, e⟩ := He.int_ok X G (c.fact 37 (f := .int "MOST_PLACES" (12)) rfl); exact ⟨_, e, _, rfl⟩), (by obtain ⟨t, e⟩ := He.int_ok X G (c.fact 38 (f := .int "MOST_RINGS" (6)) rfl); exact ⟨_, e, _, rfl⟩), (He.glo_ok X G (c.fact 39 (f := .glo "NoString") rfl)), (He.glo_ok X G (c.fact 40 (f := .glo "TooMany") rfl)), (He.glo_ok X G (c.fact 41 (f := .glo "NoRing") rfl)), (He.glo_ok X G (c.fact 42 (f := .glo "NoPlace") rfl)), (He.glo_ok X G (c.fact 43 (f := .glo "NoName") rfl)), (He.glo_ok X G (c.fact 44 (f := .glo "LoadError") rfl)), ⟨_, fi_NoString, (iniB_ok cx'.1.1.1.1.2).1, (iniB_ok cx'.1.1.1.1.2).2, Fi_NoString, FunD.bindsN Fi_NoString fun _ _ _ _ _ _ us hl => match us, hl with | [_, _], _ => rfl⟩, (of_decide_eq_true cx'.1.1.1.2), leB_ok cx'.1.1.2, allB_ok cx'.1.2, syB_ok cx'.2⟩
  have b := FunD.bindsA (ps := ["_law_script"]) F_law fun _ _ _ _ _ _ us hl => match us, hl with | [_], _ => rfl
  refine ⟨fd_law, fun s v => b s [v] rfl, fun base _ _ => ?_⟩
  have i_NoString := ki_NoString (P := P) (w := w) (base := base) D
  have c_is_whole := k_is_whole (P := P) (w := w) (base := base) D 
  have c_is_place := k_is_place (P := P) (w := w) (base := base) D c_is_whole
  have c_under := k_under (P := P) (w := w) (base := base) D 
  have c_common := k_common (P := P) (w := w) (base := base) D 
  have c_is_ratio := k_is_ratio (P := P) (w := w) (base := base) D c_common c_is_whole
  have c_are_rooms := k_are_rooms (P := P) (w := w) (base := base) D c_under c_is_ratio
  have c_is_hung := k_is_hung (P := P) (w := w) (base := base) D c_is_place c_are_rooms
  have c_look_at_string := k_look_at_string (P := P) (w := w) (base := base) D i_NoString c_is_hung
  have c_law_told := k_law_told (P := P) (w := w) (base := base) D c_look_at_string
  have c_law_whole := k_law_whole (P := P) (w := w) (base := base) D 
  have c_law_is_place := k_law_is_place (P := P) (w := w) (base := base) D c_law_whole
  have c_law_low := k_law_low (P := P) (w := w) (base := base) D 
  have c_law_ratio := k_law_ratio (P := P) (w := w) (base := base) D c_law_low c_law_whole
  have c_law_fault := k_law_fault (P := P) (w := w) (base := base) D c_law_is_place c_law_ratio
  have c_law_take := k_law_take (P := P) (w := w) (base := base) D 
  have c_law_odd := k_law_odd (P := P) (w := w) (base := base) D c_law_take
  have c_law_begun := k_law_begun (P := P) (w := w) (base := base) D 
  have c_law_pairs_right := k_law_pairs_right (P := P) (w := w) (base := base) D c_law_is_place c_is_place c_law_take
  have c_law_place := k_law_place (P := P) (w := w) (base := base) D c_law_take
  have c_law_amount := k_law_amount (P := P) (w := w) (base := base) D c_law_low c_law_take
  have c_law_string := k_law_string (P := P) (w := w) (base := base) D c_law_take c_law_place c_law_amount
  exact k_law F_law (fun s v => b s [v] rfl) D c_law_told c_law_fault c_law_odd c_law_begun c_law_pairs_right c_law_string
end My
open PySem PySem.W PySem.Calls PyProof.Rows
theorem PySem.Challenge.cw_ringloads_k68_what_is_a_string_holds : PySem.Challenge.rw_ringloads_k68_what_is_a_string.Holds := by
  w_on; o_law
  refine HandSHeadRun.head_any (r := PySem.W.OpenLaw.row PySem.Challenge.rw_ringloads_k68_what_is_a_string) (q := view (PySem.W.OpenLaw.row PySem.Challenge.rw_ringloads_k68_what_is_a_string).prog [35]) (H := My.hk) (ob := My.ob) (M := 6000) (loose := My.loose) (d := HandSHeadRun.topDef (PySem.W.OpenLaw.row PySem.Challenge.rw_ringloads_k68_what_is_a_string).prog 35) (kwd := []) My.ob_eq
    (by kernel_rfl) (fun s => by kernel_rfl) My.run (by kernel_rfl) (by kernel_rfl) (by kernel_rfl) (by rfl) (by first | assumption | decide +kernel) (by decide +kernel) ⟨rfl, rfl, rfl, rfl, rfl, by decide +kernel⟩ ?hw ?hc
  case hw => w_witness2
  case hc =>
    refine Rl.walk_law (l := PySem.Challenge.rw_ringloads_k68_what_is_a_string) (n := 63) rfl (by decide) (by kernel_rfl) ?F
    intro w mg fa h Y G hmg0
    obtain ⟨K, KX, c, cx⟩ := Y
    have hmg : mg ("law" : PySem.Str) = some (.ref fa) := by
      have e : (HandSHeadRun.topDef (PySem.W.OpenLaw.row PySem.Challenge.rw_ringloads_k68_what_is_a_string).prog 35).name = ("law" : PySem.Str) := by kernel_rfl
      rw [← e]
      exact hmg0
    obtain ⟨fd, hb, hF⟩ := My.facts (P := (PySem.Challenge.rw_ringloads_k68_what_is_a_string).prog) (w := w) KX G hmg c cx
    exact ⟨K, _, KX, fun H a ns hl hO hS => Rl.law_start hl hO hS, hF⟩
