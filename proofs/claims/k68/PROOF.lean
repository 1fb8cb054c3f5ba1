import PyProof.Rows.All
import Wide.All
import OpenK.AllK
import Wide.FinOn
import HandS.ForMost
import HandS.Wide
import HandS.Exc
import HandS.TryOnly
import HandS.ExcOwn
import HandS.CallSlots
import HandS.WordsExc
import HandS.Evl
import HandS.IsInst
import HandS.Text
import HandS.Style
import HandS.Property
import HandS.SetFor
import HandS.SortInts
import HandS.Conv
import KE.SortData
import HandS.Small
import HandS.WordsDict
import HandS.Iter
import PyProof.Rows.IntBool
import PyProof.EqKinds
import HandS.Star
import HandS.Codes
import PyProof.InstNe
import KE.KOpsOwn
import HandS.OwnEq
import HandS.TupMul
import HandS.TupAny
import KE.GoesNew
import KE.KTupSum
import HandS.ClsMeth
import HandS.ExcCtx
import HandS.HotCalls
import HandS.ExcIs
import HandS.ExcValue
import PySem.Challenge.RW_scrollchain_k68_errors_are_distinct
set_option Elab.async false
set_option linter.all false
set_option maxRecDepth 100000
set_option maxHeartbeats 4400000
/-! L3: values as trees, some of whose parts are owned by the one name that holds them; no heap in sight. -/
namespace L3
open PySem L2 PySem.Spec PyProof.Rows

/-- a value as a tree; o: this object is owned (it may change), else it stays as it is -/
inductive T where
  | non | bl (b : Bool) | int (i : Int) | str (s : Str) | fn (v : V)
  | lst (o : Bool) (xs : List T) | tup (xs : List T)
  | dic (o : Bool) (ks : List Key) (xs : List T)
  | ins (o : Bool) (C : Addr) (ns : List Str) (xs : List T)
  | exc (C : Addr)

mutual
/-- freeze: nothing is owned -/
@[simp] def fr : T → T
  | .non => .non | .bl b => .bl b | .int i => .int i | .str s => .str s | .fn v => .fn v
  | .lst _ xs => .lst false (frL xs) | .tup xs => .tup (frL xs)
  | .dic _ ks xs => .dic false ks (frL xs)
  | .ins _ C ns xs => .ins false C ns (frL xs)
  | .exc C => .exc C
@[simp] def frL : List T → List T
  | [] => []
  | x :: xs => fr x :: frL xs
end
mutual
/-- nothing is owned -/
@[simp] def stb : T → Bool
  | .non | .bl _ | .int _ | .str _ | .fn _ => true
  | .lst o xs => !o && stbL xs | .tup xs => stbL xs
  | .dic o _ xs => !o && stbL xs
  | .ins o _ _ xs => !o && stbL xs
  | .exc _ => true
@[simp] def stbL : List T → Bool
  | [] => true
  | x :: xs => stb x && stbL xs
end
mutual
/-- every object but the tuples is owned -/
@[simp] def ff : T → Bool
  | .non | .bl _ | .int _ | .str _ | .fn _ => true
  | .lst o xs => o && ffL xs | .tup xs => ffL xs
  | .dic o _ xs => o && ffL xs
  | .ins o _ _ xs => o && ffL xs
  | .exc _ => false
@[simp] def ffL : List T → Bool
  | [] => true
  | x :: xs => ff x && ffL xs
end
/-- an owned object at the root -/
def own : T → Bool
  | .lst o _ => o | .dic o _ _ => o | .ins o _ _ _ => o | _ => false
theorem frL_map : ∀ xs : List T, frL xs = xs.map fr
  | [] => rfl
  | x :: xs => by rw [frL, frL_map xs]; rfl
theorem stbL_all : ∀ xs : List T, stbL xs = xs.all stb
  | [] => rfl
  | x :: xs => by rw [stbL, stbL_all xs]; rfl
theorem ffL_all : ∀ xs : List T, ffL xs = xs.all ff
  | [] => rfl
  | x :: xs => by rw [ffL, ffL_all xs]; rfl
mutual
theorem stb_fr : ∀ t : T, stb (fr t) = true
  | .non | .bl _ | .int _ | .str _ | .fn _ | .exc _ => by simp [fr, stb]
  | .lst o xs => by simp [fr, stb, stbL_frL xs]
  | .tup xs => by simp [fr, stb, stbL_frL xs]
  | .dic o ks xs => by simp [fr, stb, stbL_frL xs]
  | .ins o C ns xs => by simp [fr, stb, stbL_frL xs]
theorem stbL_frL : ∀ ts : List T, stbL (frL ts) = true
  | [] => by simp [frL, stbL]
  | x :: xs => by simp [frL, stbL, stb_fr x, stbL_frL xs]
end
mutual
theorem fr_stb : ∀ t : T, stb t = true → fr t = t
  | .non, _ | .bl _, _ | .int _, _ | .str _, _ | .fn _, _ | .exc _, _ => by simp [fr]
  | .lst o xs, h => by
    simp [stb] at h
    obtain ⟨h1, h2⟩ := h
    subst h1
    rw [fr, frL_stb xs h2]
  | .tup xs, h => by
    rw [fr, frL_stb xs (by simpa [stb] using h)]
  | .dic o ks xs, h => by
    simp [stb] at h
    obtain ⟨h1, h2⟩ := h
    subst h1
    rw [fr, frL_stb xs h2]
  | .ins o C ns xs, h => by
    simp [stb] at h
    obtain ⟨h1, h2⟩ := h
    subst h1
    rw [fr, frL_stb xs h2]
theorem frL_stb : ∀ ts : List T, stbL ts = true → frL ts = ts
  | [], _ => by simp [frL]
  | x :: xs, h => by
    simp [stbL] at h
    rw [frL, fr_stb x h.1, frL_stb xs h.2]
end

/-- nothing that stood is lost (the kit's) -/
abbrev Ex := Evl.Ex
theorem Ex.refl (H : Hp) : Ex H H := Evl.Ex.refl H
theorem Ex.trans {A B C : Hp} (h : Ex A B) (g : Ex B C) : Ex A C := Evl.Ex.trans h g
theorem Ex.new {H : Hp} {p : Addr} {o : HO} (fresh : H p = none) : Ex H (upd H p o) := Evl.Ex.new fresh
theorem Ex.back {A B : Hp} {p : Addr} (e : Ex A B) (fresh : B p = none) : A p = none := Evl.fresh_back e fresh
theorem ex_rd {A B : Hp} {a : Addr} {u : HO} (e : Ex A B) (h : Rd A a u) : Rd B a u := Evl.ex_rd e h
theorem ex_l {K : PySem.W.Frag} {A B : Hp} {a : Addr} {xs : List V} (e : Ex A B) (h : SqL K A a xs) : SqL K B a xs := Evl.ex_l e h
theorem ex_t {K : PySem.W.Frag} {A B : Hp} {a : Addr} {xs : List V} (e : Ex A B) (h : SqT K A a xs) : SqT K B a xs := Evl.ex_t e h

mutual
/-- the value v is the tree t: what stays is known to F, what is owned stands in H at the addresses G -/
inductive Tr (K : PySem.W.Frag) (F H : Hp) : T → V → List Addr → Prop
  | non : Tr K F H .non .non []
  | bl (b : Bool) : Tr K F H (.bl b) (.bl b) []
  | int (i : Int) : Tr K F H (.int i) (.int i) []
  | str (s : Str) : Tr K F H (.str s) (.str s) []
  | fn (v : V) : Tr K F H (.fn v) v []
  | exc {a C : Addr} : F a = some (ExO (.ref C) a) → Tr K F H (.exc C) (.ref a) []
  | lstF {a : Addr} {xs : List T} {vs : List V} {G : List Addr} : SqL K F a vs → TrL K F H xs vs G → Tr K F H (.lst false xs) (.ref a) G
  | lstT {a : Addr} {xs : List T} {vs : List V} {G : List Addr} : H a = some (.lst vs) → TrL K F H xs vs G → Tr K F H (.lst true xs) (.ref a) (a :: G)
  | tup {a : Addr} {xs : List T} {vs : List V} {G : List Addr} : SqT K F a vs → TrL K F H xs vs G → Tr K F H (.tup xs) (.ref a) G
  | dicF {a : Addr} {xs : List T} {kvs : List (Key × V)} {G : List Addr} : F a = some (.dK kvs) → TrL K F H xs (kvs.map (·.2)) G → Tr K F H (.dic false (kvs.map (·.1)) xs) (.ref a) G
  | dicT {a : Addr} {xs : List T} {kvs : List (Key × V)} {G : List Addr} : H a = some (.dK kvs) → TrL K F H xs (kvs.map (·.2)) G → Tr K F H (.dic true (kvs.map (·.1)) xs) (.ref a) (a :: G)
  | insF {a C dx : Addr} {xs : List T} {fs : List (Str × V)} {G : List Addr} : F a = some (.ins C dx fs) → TrL K F H xs (fs.map (·.2)) G → Tr K F H (.ins false C (fs.map (·.1)) xs) (.ref a) G
  | insT {a C dx : Addr} {xs : List T} {fs : List (Str × V)} {G : List Addr} : H a = some (.ins C dx fs) → TrL K F H xs (fs.map (·.2)) G → Tr K F H (.ins true C (fs.map (·.1)) xs) (.ref a) (a :: G)
inductive TrL (K : PySem.W.Frag) (F H : Hp) : List T → List V → List Addr → Prop
  | nil : TrL K F H [] [] []
  | cons {x : T} {v : V} {xs : List T} {vs : List V} {G1 G2 : List Addr} : Tr K F H x v G1 → TrL K F H xs vs G2 → TrL K F H (x :: xs) (v :: vs) (G1 ++ G2)
end

section
variable {K : PySem.W.Frag} {F H F' H' : Hp}
mutual
theorem Tr.mono (e : Ex F F') : ∀ {t : T} {v : V} {G : List Addr}, Tr K F H t v G → (∀ g ∈ G, H' g = H g) → Tr K F' H' t v G
  | _, _, _, .non, _ => .non
  | _, _, _, .bl b, _ => .bl b
  | _, _, _, .int b, _ => .int b
  | _, _, _, .str b, _ => .str b
  | _, _, _, .fn b, _ => .fn b
  | _, _, _, .exc h, _ => .exc (e _ _ h)
  | _, _, _, .lstF h r, k => .lstF (ex_l e h) (TrL.mono e r k)
  | _, _, _, .lstT h r, k => .lstT ((k _ List.mem_cons_self).trans h) (TrL.mono e r fun g hg => k g (List.mem_cons_of_mem _ hg))
  | _, _, _, .tup h r, k => .tup (ex_t e h) (TrL.mono e r k)
  | _, _, _, .dicF h r, k => .dicF (e _ _ h) (TrL.mono e r k)
  | _, _, _, .dicT h r, k => .dicT ((k _ List.mem_cons_self).trans h) (TrL.mono e r fun g hg => k g (List.mem_cons_of_mem _ hg))
  | _, _, _, .insF h r, k => .insF (e _ _ h) (TrL.mono e r k)
  | _, _, _, .insT h r, k => .insT ((k _ List.mem_cons_self).trans h) (TrL.mono e r fun g hg => k g (List.mem_cons_of_mem _ hg))
theorem TrL.mono (e : Ex F F') : ∀ {t : List T} {v : List V} {G : List Addr}, TrL K F H t v G → (∀ g ∈ G, H' g = H g) → TrL K F' H' t v G
  | _, _, _, .nil, _ => .nil
  | _, _, _, .cons h r, k => .cons (Tr.mono e h fun g hg => k g (List.mem_append_left _ hg)) (TrL.mono e r fun g hg => k g (List.mem_append_right _ hg))
end
mutual
/-- what is owned stands -/
theorem Tr.there : ∀ {t : T} {v : V} {G : List Addr}, Tr K F H t v G → ∀ g ∈ G, (∃ xs, H g = some (.lst xs)) ∨ (∃ xs, H g = some (.dK xs)) ∨ ∃ C dx fs, H g = some (.ins C dx fs)
  | _, _, _, .non, _, h | _, _, _, .bl _, _, h | _, _, _, .int _, _, h | _, _, _, .str _, _, h | _, _, _, .fn _, _, h | _, _, _, .exc _, _, h => nomatch h
  | _, _, _, .lstF h r, g, k => TrL.there r g k
  | _, _, _, .lstT h r, g, k => (List.mem_cons.mp k).elim (fun e => .inl ⟨_, e.symm ▸ h⟩) (TrL.there r g)
  | _, _, _, .tup h r, g, k => TrL.there r g k
  | _, _, _, .dicF h r, g, k => TrL.there r g k
  | _, _, _, .dicT h r, g, k => (List.mem_cons.mp k).elim (fun e => .inr (.inl ⟨_, e.symm ▸ h⟩)) (TrL.there r g)
  | _, _, _, .insF h r, g, k => TrL.there r g k
  | _, _, _, .insT h r, g, k => (List.mem_cons.mp k).elim (fun e => .inr (.inr ⟨_, _, _, e.symm ▸ h⟩)) (TrL.there r g)
theorem TrL.there : ∀ {t : List T} {v : List V} {G : List Addr}, TrL K F H t v G → ∀ g ∈ G, (∃ xs, H g = some (.lst xs)) ∨ (∃ xs, H g = some (.dK xs)) ∨ ∃ C dx fs, H g = some (.ins C dx fs)
  | _, _, _, .nil, _, h => nomatch h
  | _, _, _, .cons h r, g, k => (List.mem_append.mp k).elim (Tr.there h g) (TrL.there r g)
end
/-- what is known of H at the addresses G comes to F -/
def fz (F H : Hp) (G : List Addr) : Hp := fun b => if b ∈ G then H b else F b
theorem fz_in {G : List Addr} {b : Addr} (h : b ∈ G) : fz F H G b = H b := by unfold fz; rw [if_pos h]
theorem fz_out {G : List Addr} {b : Addr} (h : b ∉ G) : fz F H G b = F b := by unfold fz; rw [if_neg h]
theorem fz_ex {G : List Addr} (h : ∀ g ∈ G, F g = none) : Ex F (fz F H G) := fun a o e => by
  rw [fz_out fun z => by rw [h a z] at e; cases e]
  exact e
theorem fz_le {G : List Addr} (h : Ex F H) : Ex (fz F H G) H := fun a o e => by
  by_cases z : a ∈ G
  · rw [fz_in z] at e; exact e
  · rw [fz_out z] at e; exact h a o e
mutual
theorem Tr.frz (e : Ex F F') (H1 : Hp) : ∀ {t : T} {v : V} {G : List Addr}, Tr K F H t v G → (∀ g ∈ G, F' g = H g) → Tr K F' H1 (fr t) v []
  | _, _, _, .non, _ => by simp only [fr]; exact .non
  | _, _, _, .bl b, _ => by simp only [fr]; exact .bl b
  | _, _, _, .int b, _ => by simp only [fr]; exact .int b
  | _, _, _, .str b, _ => by simp only [fr]; exact .str b
  | _, _, _, .fn b, _ => by simp only [fr]; exact .fn b
  | _, _, _, .exc h, _ => by simp only [fr]; exact .exc (e _ _ h)
  | _, _, _, .lstF h r, k => by simp only [fr]; exact .lstF (ex_l e h) (TrL.frz e H1 r k)
  | _, _, _, .lstT h r, k => by simp only [fr]; exact .lstF (SqL.of ((k _ List.mem_cons_self).trans h)) (TrL.frz e H1 r fun g hg => k g (List.mem_cons_of_mem _ hg))
  | _, _, _, .tup h r, k => by simp only [fr]; exact .tup (ex_t e h) (TrL.frz e H1 r k)
  | _, _, _, .dicF h r, k => by simp only [fr]; exact .dicF (e _ _ h) (TrL.frz e H1 r k)
  | _, _, _, .dicT h r, k => by simp only [fr]; exact .dicF ((k _ List.mem_cons_self).trans h) (TrL.frz e H1 r fun g hg => k g (List.mem_cons_of_mem _ hg))
  | _, _, _, .insF h r, k => by simp only [fr]; exact .insF (e _ _ h) (TrL.frz e H1 r k)
  | _, _, _, .insT h r, k => by simp only [fr]; exact .insF ((k _ List.mem_cons_self).trans h) (TrL.frz e H1 r fun g hg => k g (List.mem_cons_of_mem _ hg))
theorem TrL.frz (e : Ex F F') (H1 : Hp) : ∀ {t : List T} {v : List V} {G : List Addr}, TrL K F H t v G → (∀ g ∈ G, F' g = H g) → TrL K F' H1 (frL t) v []
  | _, _, _, .nil, _ => by simp only [frL]; exact .nil
  | _, _, _, .cons h r, k => by
    simp only [frL]
    exact TrL.cons (G1 := []) (G2 := []) (Tr.frz e H1 h fun g hg => k g (List.mem_append_left _ hg)) (TrL.frz e H1 r fun g hg => k g (List.mem_append_right _ hg))
end
mutual
theorem Tr.stb_nil : ∀ {t : T} {v : V} {G : List Addr}, Tr K F H t v G → stb t = true → G = []
  | _, _, _, .non, _ | _, _, _, .bl _, _ | _, _, _, .int _, _ | _, _, _, .str _, _ | _, _, _, .fn _, _ | _, _, _, .exc _, _ => rfl
  | _, _, _, .lstF h r, k => TrL.stb_nil r (by simpa [stb] using k)
  | _, _, _, .lstT h r, k => by simp [stb] at k
  | _, _, _, .tup h r, k => TrL.stb_nil r (by simpa [stb] using k)
  | _, _, _, .dicF h r, k => TrL.stb_nil r (by simpa [stb] using k)
  | _, _, _, .dicT h r, k => by simp [stb] at k
  | _, _, _, .insF h r, k => TrL.stb_nil r (by simpa [stb] using k)
  | _, _, _, .insT h r, k => by simp [stb] at k
theorem TrL.stb_nil : ∀ {t : List T} {v : List V} {G : List Addr}, TrL K F H t v G → stbL t = true → G = []
  | _, _, _, .nil, _ => rfl
  | _, _, _, .cons h r, k => by
    simp [stbL] at k
    rw [Tr.stb_nil h k.1, TrL.stb_nil r k.2]
    rfl
end
mutual
/-- a tree all of whose objects are owned leans on no list of F -/
theorem Tr.ffree {F1 : Hp} (e : ∀ a xs, F a = some (.tup xs) → F1 a = some (.tup xs)) (e2 : ∀ a o xs, F a = some (.frz o (.tup xs)) → F1 a = some (.frz o (.tup xs))) : ∀ {t : T} {v : V} {G : List Addr}, Tr K F H t v G → ff t = true → Tr K F1 H t v G
  | _, _, _, .non, _ => .non
  | _, _, _, .bl b, _ => .bl b
  | _, _, _, .int b, _ => .int b
  | _, _, _, .str b, _ => .str b
  | _, _, _, .fn b, _ => .fn b
  | _, _, _, .exc _, k => by simp [ff] at k
  | _, _, _, .lstF h r, k => by simp [ff] at k
  | _, _, _, .lstT h r, k => .lstT h (TrL.ffree e e2 r (by simpa [ff] using k))
  | _, _, _, .tup h r, k => .tup (by
      rcases h with (q | ⟨o, q⟩) | q
      · exact .inl (.inl (e _ _ q))
      · exact .inl (.inr ⟨o, e2 _ _ _ q⟩)
      · exact .inr q) (TrL.ffree e e2 r (by simpa [ff] using k))
  | _, _, _, .dicF h r, k => by simp [ff] at k
  | _, _, _, .dicT h r, k => .dicT h (TrL.ffree e e2 r (by simpa [ff] using k))
  | _, _, _, .insF h r, k => by simp [ff] at k
  | _, _, _, .insT h r, k => .insT h (TrL.ffree e e2 r (by simpa [ff] using k))
theorem TrL.ffree {F1 : Hp} (e : ∀ a xs, F a = some (.tup xs) → F1 a = some (.tup xs)) (e2 : ∀ a o xs, F a = some (.frz o (.tup xs)) → F1 a = some (.frz o (.tup xs))) : ∀ {t : List T} {v : List V} {G : List Addr}, TrL K F H t v G → ffL t = true → TrL K F1 H t v G
  | _, _, _, .nil, _ => .nil
  | _, _, _, .cons h r, k => by
    simp [ffL] at k
    exact .cons (Tr.ffree e e2 h k.1) (TrL.ffree e e2 r k.2)
end
theorem TrL.length : ∀ {t : List T} {v : List V} {G : List Addr}, TrL K F H t v G → t.length = v.length
  | _, _, _, .nil => rfl
  | _, _, _, .cons h r => by rw [List.length_cons, List.length_cons, TrL.length r]
theorem TrL.append : ∀ {t t2 : List T} {v v2 : List V} {G G2 : List Addr}, TrL K F H t v G → TrL K F H t2 v2 G2 → TrL K F H (t ++ t2) (v ++ v2) (G ++ G2)
  | _, _, _, _, _, _, .nil, r2 => r2
  | _, _, _, _, _, _, .cons h r, r2 => by
    rw [List.cons_append, List.cons_append, List.append_assoc]
    exact .cons h (TrL.append r r2)
theorem TrL.split : ∀ {t t2 : List T} {vs : List V} {G : List Addr}, TrL K F H (t ++ t2) vs G → ∃ v v2 G1 G2, vs = v ++ v2 ∧ G = G1 ++ G2 ∧ TrL K F H t v G1 ∧ TrL K F H t2 v2 G2
  | [], _, vs, G, r => ⟨[], vs, [], G, rfl, rfl, .nil, r⟩
  | x :: t, t2, _, _, .cons h r => by
    obtain ⟨v, v2, G1, G2, rfl, rfl, r1, r2⟩ := TrL.split r
    exact ⟨_ :: v, v2, _ ++ G1, G2, rfl, (List.append_assoc _ _ _).symm, .cons h r1, r2⟩
theorem TrL.one {t : T} {v : V} {G : List Addr} (h : Tr K F H t v G) : TrL K F H [t] [v] G := by
  have := TrL.cons h .nil
  rwa [List.append_nil] at this
/-- an item -/
theorem TrL.get : ∀ {ts : List T} {vs : List V} {G : List Addr} {i : Nat} {t : T}, TrL K F H ts vs G → ts[i]? = some t → ∃ v G1, vs[i]? = some v ∧ Tr K F H t v G1 ∧ G1.Sublist G
  | _, _, _, i, t, .nil, e => by simp at e
  | _, _, _, 0, t, .cons h r, e => by
    simp at e
    subst e
    exact ⟨_, _, rfl, h, List.sublist_append_left _ _⟩
  | _, _, _, i + 1, t, .cons h r, e => by
    obtain ⟨v, G1, e1, h1, s⟩ := TrL.get (i := i) r (by simpa using e)
    exact ⟨v, G1, by simpa using e1, h1, s.trans (List.sublist_append_right _ _)⟩
theorem TrL.map_int : ∀ {ns : List Int} {vs : List V} {G : List Addr}, TrL K F H (ns.map .int) vs G → vs = ns.map V.int ∧ G = []
  | [], _, _, .nil => ⟨rfl, rfl⟩
  | n :: ns, _, _, .cons h r => by
    cases h
    obtain ⟨rfl, rfl⟩ := TrL.map_int r
    exact ⟨rfl, rfl⟩
theorem TrL.of_int : ∀ {ns : List Int}, TrL K F H (ns.map .int) (ns.map V.int) []
  | [] => .nil
  | n :: ns => TrL.cons (G1 := []) (G2 := []) (.int n) TrL.of_int
end

/-! ### what lives: names' contents, and values on the way -/
inductive Live (K : PySem.W.Frag) (F H : Hp) : List (Option T) → List (Option V) → List Addr → Prop
  | nil : Live K F H [] [] []
  | skip {x : Option V} {ts : List (Option T)} {vs : List (Option V)} {G : List Addr} : Live K F H ts vs G → Live K F H (none :: ts) (x :: vs) G
  | cons {t : T} {v : V} {ts : List (Option T)} {vs : List (Option V)} {G1 G2 : List Addr} : Tr K F H t v G1 → Live K F H ts vs G2 → Live K F H (some t :: ts) (some v :: vs) (G1 ++ G2)
section
variable {K : PySem.W.Frag} {F H F' H' : Hp} {ts : List (Option T)} {vs : List (Option V)} {G : List Addr}
theorem Live.mono (e : Ex F F') : ∀ {ts : List (Option T)} {vs : List (Option V)} {G : List Addr}, Live K F H ts vs G → (∀ g ∈ G, H' g = H g) → Live K F' H' ts vs G
  | _, _, _, .nil, _ => .nil
  | _, _, _, .skip r, k => .skip (Live.mono e r k)
  | _, _, _, .cons h r, k => .cons (h.mono e fun g hg => k g (List.mem_append_left _ hg)) (Live.mono e r fun g hg => k g (List.mem_append_right _ hg))
theorem Live.there : ∀ {ts : List (Option T)} {vs : List (Option V)} {G : List Addr}, Live K F H ts vs G → ∀ g ∈ G, (∃ xs, H g = some (.lst xs)) ∨ (∃ xs, H g = some (.dK xs)) ∨ ∃ C dx fs, H g = some (.ins C dx fs)
  | _, _, _, .nil, _, h => nomatch h
  | _, _, _, .skip r, g, k => Live.there r g k
  | _, _, _, .cons h r, g, k => (List.mem_append.mp k).elim (Tr.there h g) (Live.there r g)
theorem Live.length : ∀ {ts : List (Option T)} {vs : List (Option V)} {G : List Addr}, Live K F H ts vs G → ts.length = vs.length
  | _, _, _, .nil => rfl
  | _, _, _, .skip r => by rw [List.length_cons, List.length_cons, Live.length r]
  | _, _, _, .cons _ r => by rw [List.length_cons, List.length_cons, Live.length r]
/-- values written out -/
theorem Live.of_trL : ∀ {xs : List T} {ws : List V} {G1 : List Addr}, TrL K F H xs ws G1 → Live K F H ts vs G → Live K F H (xs.map some ++ ts) (ws.map some ++ vs) (G1 ++ G)
  | _, _, _, .nil, r => r
  | _, _, _, .cons h q, r => by
    rw [List.map_cons, List.map_cons, List.cons_append, List.cons_append, List.append_assoc]
    exact .cons h (Live.of_trL q r)
theorem Live.to_trL : ∀ {xs : List T} {ws : List V} {ts : List (Option T)} {vs : List (Option V)} {G : List Addr}, xs.length = ws.length → Live K F H (xs.map some ++ ts) (ws.map some ++ vs) G → ∃ G1 G2, G = G1 ++ G2 ∧ TrL K F H xs ws G1 ∧ Live K F H ts vs G2
  | [], [], _, _, G, _, r => ⟨[], G, rfl, .nil, r⟩
  | x :: xs, w :: ws, _, _, _, hl, r => by
    cases r with
    | cons h q =>
      obtain ⟨G1, G2, rfl, q1, q2⟩ := Live.to_trL (by simpa using hl) q
      exact ⟨_ ++ G1, G2, (List.append_assoc _ _ _).symm, .cons h q1, q2⟩
  | [], _ :: _, _, _, _, hl, _ => by simp at hl
  | _ :: _, [], _, _, _, hl, _ => by simp at hl
/-- one in the middle comes to the head -/
theorem Live.mid {x : Option T} {y : Option V} : ∀ {as : List (Option T)} {ws : List (Option V)} {G : List Addr}, as.length = ws.length → Live K F H (as ++ x :: ts) (ws ++ y :: vs) G → ∃ G', G.Perm G' ∧ Live K F H (x :: (as ++ ts)) (y :: (ws ++ vs)) G'
  | [], [], G, _, r => ⟨G, .refl _, r⟩
  | a :: as, w :: ws, G, hl, r => by
    rw [List.cons_append, List.cons_append] at r
    generalize ha : as ++ x :: ts = A at r
    generalize hw : ws ++ y :: vs = W at r
    cases r with
    | skip q =>
      subst ha hw
      obtain ⟨G', p, q'⟩ := Live.mid (by simpa using hl) q
      cases q' with
      | skip q2 => exact ⟨_, p, .skip (.skip q2)⟩
      | cons h q2 => exact ⟨_, p, .cons h (.skip q2)⟩
    | @cons t v _ _ Ga Gb h q =>
      subst ha hw
      obtain ⟨G', p, q'⟩ := Live.mid (by simpa using hl) q
      cases q' with
      | skip q2 => exact ⟨_, p.append_left _, .skip (.cons h q2)⟩
      | @cons t2 v2 _ _ Gc Gd h2 q2 =>
        refine ⟨Gc ++ (Ga ++ Gd), (p.append_left Ga).trans ?_, .cons h2 (.cons h q2)⟩
        iterate 2 rw [← List.append_assoc]
        exact List.perm_append_comm.append_right _
  | [], _ :: _, _, hl, _ => by simp at hl
  | _ :: _, [], _, hl, _ => by simp at hl
theorem Live.mid' {x : Option T} {y : Option V} : ∀ {as : List (Option T)} {ws : List (Option V)} {G : List Addr}, as.length = ws.length → Live K F H (x :: (as ++ ts)) (y :: (ws ++ vs)) G → ∃ G', G.Perm G' ∧ Live K F H (as ++ x :: ts) (ws ++ y :: vs) G'
  | [], [], G, _, r => ⟨G, .refl _, r⟩
  | a :: as, w :: ws, G, hl, r => by
    have sw : ∃ G', G.Perm G' ∧ Live K F H (a :: x :: (as ++ ts)) (w :: y :: (ws ++ vs)) G' := by
      cases r with
      | skip q =>
        cases q with
        | skip q => exact ⟨_, .refl _, .skip (.skip q)⟩
        | cons h q => exact ⟨_, .refl _, .cons h (.skip q)⟩
      | @cons _ _ _ _ Ga Gb h q =>
        cases q with
        | skip q => exact ⟨_, .refl _, .skip (.cons h q)⟩
        | @cons _ _ _ _ Gc Gd h2 q =>
          refine ⟨Gc ++ (Ga ++ Gd), ?_, .cons h2 (.cons h q)⟩
          iterate 2 rw [← List.append_assoc]
          exact List.perm_append_comm.append_right _
    obtain ⟨G', p, q⟩ := sw
    generalize hx : x :: (as ++ ts) = A at q
    generalize hw : y :: (ws ++ vs) = W at q
    cases q with
    | skip q =>
      subst hx hw
      obtain ⟨G2, p2, q2⟩ := Live.mid' (by simpa using hl) q
      exact ⟨G2, p.trans p2, .skip q2⟩
    | cons h q =>
      subst hx hw
      obtain ⟨G2, p2, q2⟩ := Live.mid' (by simpa using hl) q
      exact ⟨_, p.trans (p2.append_left _), .cons h q2⟩
  | [], _ :: _, _, hl, _ => by simp at hl
  | _ :: _, [], _, hl, _ => by simp at hl
/-- the i-th is taken out -/
theorem Live.take : ∀ {ts : List (Option T)} {vs : List (Option V)} {G : List Addr} {i : Nat} {t : T}, Live K F H ts vs G → ts[i]? = some (some t) → ∃ v G1 G2, vs[i]? = some (some v) ∧ Tr K F H t v G1 ∧ Live K F H (ts.set i none) vs G2 ∧ G.Perm (G1 ++ G2)
  | _, _, _, i, t, .nil, e => by simp at e
  | _, _, _, 0, t, .skip r, e => by simp at e
  | _, _, _, i + 1, t, .skip r, e => by
    obtain ⟨v, G1, G2, e1, h, q, p⟩ := Live.take (i := i) r (by simpa using e)
    exact ⟨v, G1, G2, by simpa using e1, h, .skip q, p⟩
  | _, _, _, 0, t, .cons h r, e => by
    simp at e
    subst e
    exact ⟨_, _, _, rfl, h, .skip r, .refl _⟩
  | _, _, _, i + 1, t, .cons h0 r, e => by
    obtain ⟨v, G1, G2, e1, h, q, p⟩ := Live.take (i := i) r (by simpa using e)
    refine ⟨v, G1, _, by simpa using e1, h, .cons h0 q, (p.append_left _).trans ?_⟩
    iterate 2 rw [← List.append_assoc]
    exact List.perm_append_comm.append_right _
/-- the i-th is forgotten -/
theorem Live.forget : ∀ {ts : List (Option T)} {vs : List (Option V)} {G : List Addr} (i : Nat), Live K F H ts vs G → ∃ G', Live K F H (ts.set i none) vs G' ∧ G'.Sublist G
  | _, _, _, i, .nil => ⟨[], .nil, List.Sublist.refl _⟩
  | _, _, _, 0, .skip r => ⟨_, .skip r, List.Sublist.refl _⟩
  | _, _, _, i + 1, .skip r => by
    obtain ⟨G', q, s⟩ := Live.forget i r
    exact ⟨G', .skip q, s⟩
  | _, _, _, 0, .cons h r => ⟨_, .skip r, List.sublist_append_right _ _⟩
  | _, _, _, i + 1, .cons h r => by
    obtain ⟨G', q, s⟩ := Live.forget i r
    exact ⟨_, .cons h q, s.append_left _⟩
/-- a place with no content is given one -/
theorem Live.put {t : T} {v : V} {G1 : List Addr} (h : Tr K F H t v G1) : ∀ {ts : List (Option T)} {vs : List (Option V)} {G : List Addr} {i : Nat}, Live K F H ts vs G → i < ts.length → ∃ G', Live K F H (ts.set i (some t)) (vs.set i (some v)) G' ∧ ∃ G2, G'.Perm (G1 ++ G2) ∧ G2.Sublist G
  | _, _, _, i, .nil, hi => by simp at hi
  | _, _, _, 0, .skip r, _ => ⟨_, .cons h r, _, .refl _, List.Sublist.refl _⟩
  | _, _, _, i + 1, .skip r, hi => by
    obtain ⟨G', q, G2, p, s⟩ := Live.put h (i := i) r (by simpa using hi)
    exact ⟨G', .skip q, G2, p, s⟩
  | _, _, _, 0, .cons _ r, _ => ⟨_, .cons h r, _, .refl _, List.sublist_append_right _ _⟩
  | _, _, _, i + 1, .cons (G1 := Ga) h0 r, hi => by
    obtain ⟨G', q, G2, p, s⟩ := Live.put h (i := i) r (by simpa using hi)
    refine ⟨_, .cons h0 q, Ga ++ G2, ?_, s.append_left _⟩
    refine (p.append_left _).trans ?_
    iterate 2 rw [← List.append_assoc]
    exact List.perm_append_comm.append_right _
theorem Live.wipe1 : ∀ {ts : List (Option T)} {vs : List (Option V)} {G : List Addr} (i : Nat), Live K F H ts vs G → ∃ G', Live K F H (ts.set i none) (vs.set i none) G' ∧ G'.Sublist G
  | _, _, _, i, .nil => ⟨[], .nil, List.Sublist.refl _⟩
  | _, _, _, 0, .skip r => ⟨_, .skip r, List.Sublist.refl _⟩
  | _, _, _, i + 1, .skip r => by
    obtain ⟨G', q, s⟩ := Live.wipe1 i r
    exact ⟨G', .skip q, s⟩
  | _, _, _, 0, .cons h r => ⟨_, .skip r, List.sublist_append_right _ _⟩
  | _, _, _, i + 1, .cons h r => by
    obtain ⟨G', q, s⟩ := Live.wipe1 i r
    exact ⟨_, .cons h q, s.append_left _⟩
end
end L3

namespace L3
open PySem L2 PySem.Spec PyProof.Rows

abbrev Rho := List (Option T)
/-- what is fixed through a body: the fragment, what was known and what stood at the entry, the addresses that may change, the object that is handed in to be changed (it stands in slot 0) -/
structure Cst where
  K : PySem.W.Frag
  F0 : Hp
  H0 : Hp
  G0 : List Addr
  io : Option Addr
structure Sim (c : Cst) (F H : Hp) (σ : L2.St) (ρ : Rho) (tt : List T) (tv : List V) : Prop where
  ex : Ex F H
  fx : Ex c.F0 F
  fn : ∀ b, c.H0 b ≠ none → c.F0 b = none → b ∉ c.G0 → F b = none
  keep : ∀ b o, c.H0 b = some o → b ∉ c.G0 → H b = some o
  dom : ∀ b, c.H0 b ≠ none → H b ≠ none
  tl : tt.length = tv.length
  live : ∃ G, Live c.K F H (tt.map some ++ ρ) (tv.map some ++ σ) G ∧ G.Nodup ∧ ∀ g ∈ G, F g = none ∧ (c.H0 g = none ∨ g ∈ c.G0)
  iop : ∀ p, c.io = some p → σ[0]? = some (some (.ref p)) ∧ ∃ t, ρ[0]? = some (some t) ∧ own t = true

section
variable {c : Cst} {F H : Hp} {σ : L2.St} {ρ : Rho} {tt ts : List T} {tv vs : List V} {t : T} {v : V} {p : Addr}
theorem Sim.len (I : Sim c F H σ ρ tt tv) : σ.length = ρ.length := by
  obtain ⟨G, l, _, _⟩ := I.live
  have h := l.length
  have := I.tl
  simp only [List.length_append, List.length_map] at h
  omega
/-- a fresh address was fresh at the entry -/
theorem Sim.fresh0 (I : Sim c F H σ ρ tt tv) (h : H p = none) : c.H0 p = none := by
  cases e : c.H0 p with
  | none => rfl
  | some o => exact absurd h (I.dom p (by rw [e]; exact fun z => by cases z))
theorem Sim.freshF (I : Sim c F H σ ρ tt tv) (h : H p = none) : F p = none := I.ex.back h
/-- another order, another part of what lives -/
theorem Sim.re {tt' : List T} {tv' : List V} {σ' : L2.St} {ρ' : Rho} (I : Sim c F H σ ρ tt tv) (tl : tt'.length = tv'.length)
    (h : ∀ G, Live c.K F H (tt.map some ++ ρ) (tv.map some ++ σ) G → ∃ G', Live c.K F H (tt'.map some ++ ρ') (tv'.map some ++ σ') G' ∧ ∃ P, G'.Perm P ∧ P.Sublist G)
    (iop : ∀ p, c.io = some p → σ'[0]? = some (some (.ref p)) ∧ ∃ t, ρ'[0]? = some (some t) ∧ own t = true) : Sim c F H σ' ρ' tt' tv' := by
  obtain ⟨G, l, nd, hg⟩ := I.live
  obtain ⟨G', l', P, pm, s⟩ := h G l
  refine ⟨I.ex, I.fx, I.fn, I.keep, I.dom, tl, ⟨G', l', pm.nodup_iff.mpr (nd.sublist s), fun g hm => hg g (s.subset (pm.mem_iff.mp hm))⟩, iop⟩
/-- the heap grows -/
theorem Sim.grow {H' : Hp} (I : Sim c F H σ ρ tt tv) (e : Ex H H') : Sim c F H' σ ρ tt tv := by
  obtain ⟨G, l, nd, hg⟩ := I.live
  refine ⟨I.ex.trans e, I.fx, I.fn, fun b o h n => e b o (I.keep b o h n), fun b h z => I.dom b h (e.back z), I.tl, ⟨G, l.mono (Ex.refl F) fun g hm => ?_, nd, hg⟩, I.iop⟩
  rcases l.there g hm with ⟨_, h⟩ | ⟨_, h⟩ | ⟨_, _, _, h⟩ <;> rw [h, e g _ h]
/-- F grows by what is new to the entry, or owned and now given up: general -/
theorem Sim.pushG {G1 : List Addr} (I : Sim c F H σ ρ tt tv) (h : Tr c.K F H t v G1) (hn : G1 = []) : Sim c F H σ ρ (t :: tt) (v :: tv) := by
  subst hn
  refine I.re (by simp [I.tl]) (fun G l => ⟨G, ?_, G, .refl _, List.Sublist.refl _⟩) I.iop
  exact Live.cons (G1 := []) h l
theorem Sim.drop (I : Sim c F H σ ρ (t :: tt) (v :: tv)) : Sim c F H σ ρ tt tv := by
  refine I.re (by simpa using I.tl) (fun G l => ?_) I.iop
  cases l with
  | cons h q => exact ⟨_, q, _, .refl _, List.sublist_append_right _ _⟩
theorem Sim.drop2 {t2 : T} {v2 : V} (I : Sim c F H σ ρ (t :: t2 :: tt) (v :: v2 :: tv)) : Sim c F H σ ρ (t :: tt) (v :: tv) := by
  refine I.re (by simpa using I.tl) (fun G l => ?_) I.iop
  cases l with
  | cons h q =>
    cases q with
    | cons h2 q => exact ⟨_, .cons h q, _, .refl _, (List.sublist_append_right _ _).append_left _⟩
theorem Sim.dropL (I : Sim c F H σ ρ (ts ++ tt) (vs ++ tv)) (hl : ts.length = vs.length) : Sim c F H σ ρ tt tv := by
  have tl := I.tl
  simp only [List.length_append] at tl
  refine I.re (by omega) (fun G l => ?_) I.iop
  rw [List.map_append, List.map_append, List.append_assoc, List.append_assoc] at l
  obtain ⟨G1, G2, rfl, _, q⟩ := Live.to_trL hl l
  exact ⟨_, q, _, .refl _, List.sublist_append_right _ _⟩
/-- values evaluated behind one -/
theorem Sim.mid (I : Sim c F H σ ρ (ts ++ t :: tt) (vs ++ v :: tv)) (hl : ts.length = vs.length) : Sim c F H σ ρ (t :: (ts ++ tt)) (v :: (vs ++ tv)) := by
  have tl := I.tl
  simp only [List.length_append, List.length_cons] at tl
  refine I.re (by simp only [List.length_append, List.length_cons]; omega) (fun G l => ?_) I.iop
  simp only [List.map_append, List.map_cons, List.append_assoc, List.cons_append] at l ⊢
  obtain ⟨G', pm, q⟩ := Live.mid (by simp [hl]) l
  exact ⟨G', q, G, pm.symm, List.Sublist.refl _⟩
theorem Sim.swap {t2 : T} {v2 : V} (I : Sim c F H σ ρ (t :: t2 :: tt) (v :: v2 :: tv)) : Sim c F H σ ρ (t2 :: t :: tt) (v2 :: v :: tv) :=
  Sim.mid (ts := [t]) (vs := [v]) I rfl
/-- the value on top -/
theorem Sim.top (I : Sim c F H σ ρ (t :: tt) (v :: tv)) : ∃ G1 G2, Tr c.K F H t v G1 ∧ Live c.K F H (tt.map some ++ ρ) (tv.map some ++ σ) G2 ∧ (G1 ++ G2).Nodup ∧ ∀ g ∈ G1 ++ G2, F g = none ∧ (c.H0 g = none ∨ g ∈ c.G0) := by
  obtain ⟨G, l, nd, hg⟩ := I.live
  cases l with
  | cons h q => exact ⟨_, _, h, q, nd, hg⟩
/-- a new object at p, made of what lies on top -/
theorem Sim.newLst (I : Sim c F H σ ρ (ts ++ tt) (vs ++ tv)) (hl : ts.length = vs.length) (hp : H p = none) : Sim c F (upd H p (.lst vs)) σ ρ (.lst true ts :: tt) (.ref p :: tv) := by
  have tl := I.tl
  simp only [List.length_append] at tl
  obtain ⟨G, l, nd, hg⟩ := I.live
  rw [List.map_append, List.map_append, List.append_assoc, List.append_assoc] at l
  obtain ⟨G1, G2, rfl, q1, q2⟩ := Live.to_trL hl l
  have J := I.grow (Ex.new (o := .lst vs) hp)
  have hpG : p ∉ G1 ++ G2 := fun z => by
    rcases l.there p z with ⟨_, h⟩ | ⟨_, h⟩ | ⟨_, _, _, h⟩ <;> (rw [hp] at h; cases h)
  have k : ∀ g ∈ G1 ++ G2, upd H p (.lst vs) g = H g := fun g hm => upd_ne fun z => hpG (z ▸ hm)
  refine ⟨J.ex, J.fx, J.fn, J.keep, J.dom, by simp only [List.length_cons]; omega, ⟨p :: (G1 ++ G2), ?_, List.nodup_cons.mpr ⟨hpG, nd⟩, fun g hm => ?_⟩, I.iop⟩
  · exact Live.cons (G1 := p :: G1) (.lstT upd_same (q1.mono (Ex.refl F) fun g hm => k g (List.mem_append_left _ hm))) (q2.mono (Ex.refl F) fun g hm => k g (List.mem_append_right _ hm))
  · rcases List.mem_cons.mp hm with rfl | hm
    · exact ⟨I.freshF hp, .inl (I.fresh0 hp)⟩
    · exact hg g hm
theorem Sim.newTup (I : Sim c F H σ ρ (ts ++ tt) (vs ++ tv)) (hl : ts.length = vs.length) (hp : H p = none) : Sim c (upd F p (.tup vs)) (upd H p (.tup vs)) σ ρ (.tup ts :: tt) (.ref p :: tv) := by
  have tl := I.tl
  simp only [List.length_append] at tl
  obtain ⟨G, l, nd, hg⟩ := I.live
  rw [List.map_append, List.map_append, List.append_assoc, List.append_assoc] at l
  obtain ⟨G1, G2, rfl, q1, q2⟩ := Live.to_trL hl l
  have hpG : p ∉ G1 ++ G2 := fun z => by
    rcases l.there p z with ⟨_, h⟩ | ⟨_, h⟩ | ⟨_, _, _, h⟩ <;> (rw [hp] at h; cases h)
  have k : ∀ g ∈ G1 ++ G2, upd H p (.tup vs) g = H g := fun g hm => upd_ne fun z => hpG (z ▸ hm)
  have fp := I.freshF hp
  have h0 := I.fresh0 hp
  have eF : Ex F (upd F p (.tup vs)) := Ex.new fp
  have eH : Ex H (upd H p (.tup vs)) := Ex.new hp
  refine ⟨fun a o e => ?_, I.fx.trans eF, fun b h1 h2 h3 => ?_, fun b o h n => eH b o (I.keep b o h n), fun b h z => I.dom b h (eH.back z), by simp only [List.length_cons]; omega, ⟨G1 ++ G2, ?_, nd, fun g hm => ?_⟩, I.iop⟩
  · by_cases z : a = p
    · subst z; rw [upd_same] at e ⊢; exact e
    · rw [upd_ne z] at e ⊢; exact I.ex a o e
  · have z : b ≠ p := fun z => h1 (z ▸ h0)
    rw [upd_ne z]; exact I.fn b h1 h2 h3
  · exact Live.cons (.tup (SqT.of upd_same) (q1.mono eF fun g hm => k g (List.mem_append_left _ hm))) (q2.mono eF fun g hm => k g (List.mem_append_right _ hm))
  · have z : g ≠ p := fun z => hpG (z ▸ hm)
    rw [upd_ne z]; exact hg g hm
/-- what lies on top is frozen -/
theorem Sim.frz (I : Sim c F H σ ρ (t :: tt) (v :: tv)) : ∃ F', Ex F F' ∧ Sim c F' H σ ρ (fr t :: tt) (v :: tv) := by
  obtain ⟨G1, G2, h, q, nd, hg⟩ := I.top
  have d := List.nodup_append.mp nd
  have eF : Ex F (fz F H G1) := fz_ex fun g hm => (hg g (List.mem_append_left _ hm)).1
  refine ⟨fz F H G1, eF, fz_le I.ex, I.fx.trans eF, fun b h1 h2 h3 => ?_, I.keep, I.dom, by simpa using I.tl, ⟨G2, ?_, d.2.1, fun g hm => ⟨?_, (hg g (List.mem_append_right _ hm)).2⟩⟩, I.iop⟩
  · rw [fz_out fun z => ((hg b (List.mem_append_left _ z)).2.elim h1 h3)]
    exact I.fn b h1 h2 h3
  · exact Live.cons (G1 := []) (h.frz eF H fun g hm => fz_in hm) (q.mono eF fun _ _ => rfl)
  · rw [fz_out fun z => d.2.2 g z g hm rfl]
    exact (hg g (List.mem_append_right _ hm)).1
theorem ap_get {α : Type} {xs ys : List α} {i : Nat} : (xs ++ ys)[xs.length + i]? = ys[i]? := by
  rw [List.getElem?_append_right (Nat.le_add_right _ _), Nat.add_sub_cancel_left]
theorem ap_set {α : Type} {xs ys : List α} {i : Nat} {y : α} : (xs ++ ys).set (xs.length + i) y = xs ++ ys.set i y := by
  rw [List.set_append_right _ _ (Nat.le_add_right _ _), Nat.add_sub_cancel_left]
/-- a name's content is moved onto the top -/
theorem Sim.move {i : Nat} (I : Sim c F H σ ρ tt tv) (h : ρ[i]? = some (some t)) (hi : c.io = none ∨ i ≠ 0) : ∃ v, σ[i]? = some (some v) ∧ Sim c F H σ (ρ.set i none) (t :: tt) (v :: tv) := by
  obtain ⟨G, l, nd, hg⟩ := I.live
  have h' : (tt.map some ++ ρ)[(tt.map some).length + i]? = some (some t) := by rw [ap_get]; exact h
  obtain ⟨v, G1, G2, e1, q, l2, pm⟩ := l.take h'
  rw [ap_set] at l2
  have hl : (tt.map some).length = (tv.map some).length := by simp [I.tl]
  rw [hl, ap_get] at e1
  refine ⟨v, e1, I.ex, I.fx, I.fn, I.keep, I.dom, by simp [I.tl], ⟨G1 ++ G2, .cons q l2, pm.nodup_iff.mp nd, fun g hm => hg g (pm.mem_iff.mpr hm)⟩, fun p hp => ?_⟩
  rcases hi with hi | hi
  · rw [hi] at hp; cases hp
  · obtain ⟨a, t0, b, d⟩ := I.iop p hp
    exact ⟨a, t0, by rw [List.getElem?_set_ne hi]; exact b, d⟩
/-- what is on top comes to a name -/
theorem Sim.store {i : Nat} (I : Sim c F H σ ρ (t :: tt) (v :: tv)) (hi : c.io = none ∨ i ≠ 0) : Sim c F H (σ.set i (some v)) (ρ.set i (some t)) tt tv := by
  have iop : ∀ p, c.io = some p → (σ.set i (some v))[0]? = some (some (.ref p)) ∧ ∃ t0, (ρ.set i (some t))[0]? = some (some t0) ∧ own t0 = true := fun p hp => by
    rcases hi with hi | hi
    · rw [hi] at hp; cases hp
    · obtain ⟨a, t0, b, d⟩ := I.iop p hp
      exact ⟨by rw [List.getElem?_set_ne hi]; exact a, t0, by rw [List.getElem?_set_ne hi]; exact b, d⟩
  refine I.re (by simpa using I.tl) (fun G l => ?_) iop
  cases l with
  | @cons _ _ _ _ G1 G2 h q =>
    by_cases hlt : i < ρ.length
    · obtain ⟨G', q', G3, pm, s⟩ := Live.put h (i := (tt.map some).length + i) q (by simp [hlt])
      have hl : (tt.map some).length = (tv.map some).length := by
        have hI := I.tl
        simp only [List.length_cons] at hI
        simp; omega
      change Live c.K F H ((tt.map some ++ ρ).set ((tt.map some).length + i) (some t)) ((tv.map some ++ σ).set ((tt.map some).length + i) (some v)) G' at q'
      rw [ap_set] at q'
      rw [hl, ap_set] at q'
      exact ⟨G', q', _, pm, s.append_left _⟩
    · have hlen := I.len
      rw [List.set_eq_of_length_le (by omega), List.set_eq_of_length_le (by omega)]
      exact ⟨G2, q, G2, .refl _, List.sublist_append_right _ _⟩
/-- a name is forgotten -/
theorem Sim.forget {i : Nat} (I : Sim c F H σ ρ tt tv) (hi : c.io = none ∨ i ≠ 0) : Sim c F H σ (ρ.set i none) tt tv := by
  refine I.re I.tl (fun G l => ?_) fun p hp => ?_
  · obtain ⟨G', q, s⟩ := Live.forget ((tt.map some).length + i) l
    rw [ap_set] at q
    exact ⟨G', q, G', .refl _, s⟩
  · rcases hi with hi | hi
    · rw [hi] at hp; cases hp
    · obtain ⟨a, t0, b, d⟩ := I.iop p hp
      exact ⟨a, t0, by rw [List.getElem?_set_ne hi]; exact b, d⟩
/-- .. of its slot too -/
theorem Sim.wipe1 {i : Nat} (I : Sim c F H σ ρ tt tv) (hi : c.io = none ∨ i ≠ 0) : Sim c F H (σ.set i none) (ρ.set i none) tt tv := by
  refine I.re I.tl (fun G l => ?_) fun p hp => ?_
  · obtain ⟨G', q, s⟩ := Live.wipe1 ((tt.map some).length + i) l
    rw [ap_set] at q
    have hl : (tt.map some).length = (tv.map some).length := by simp [I.tl]
    rw [hl, ap_set] at q
    exact ⟨G', q, G', .refl _, s⟩
  · rcases hi with hi | hi
    · rw [hi] at hp; cases hp
    · obtain ⟨a, t0, b, d⟩ := I.iop p hp
      exact ⟨by rw [List.getElem?_set_ne hi]; exact a, t0, by rw [List.getElem?_set_ne hi]; exact b, d⟩
theorem set_same {α : Type} : ∀ {xs : List α} {i : Nat} {x : α}, xs[i]? = some x → xs.set i x = xs
  | [], _, _, h => by simp at h
  | y :: ys, 0, x, h => by
    have e : y = x := by simpa using h
    rw [e]; rfl
  | y :: ys, i + 1, x, h => by
    show y :: ys.set i x = y :: ys
    exact congrArg (y :: ·) (set_same (by simpa using h))
/-- a name's content that stays is copied onto the top -/
theorem Sim.copy {i : Nat} (I : Sim c F H σ ρ tt tv) (h : ρ[i]? = some (some t)) (hs : stb t = true) : ∃ v, σ[i]? = some (some v) ∧ Sim c F H σ ρ (t :: tt) (v :: tv) := by
  obtain ⟨G, l, nd, hg⟩ := I.live
  have h' : (tt.map some ++ ρ)[(tt.map some).length + i]? = some (some t) := by rw [ap_get]; exact h
  obtain ⟨v, G1, G2, e1, q, l2, pm⟩ := l.take h'
  have hl : (tt.map some).length = (tv.map some).length := by simp [I.tl]
  rw [hl, ap_get] at e1
  have e := q.stb_nil hs
  subst e
  exact ⟨v, e1, I.pushG q rfl⟩
/-- a name's content is frozen -/
theorem Sim.frzAt {i : Nat} (I : Sim c F H σ ρ tt tv) (h : ρ[i]? = some (some t)) (hi : c.io = none ∨ i ≠ 0) : ∃ F', Ex F F' ∧ Sim c F' H σ (ρ.set i (some (fr t))) tt tv := by
  obtain ⟨v, e, J⟩ := I.move h hi
  obtain ⟨F', ef, J'⟩ := J.frz
  have J2 := J'.store (i := i) hi
  rw [List.set_set, set_same e] at J2
  exact ⟨F', ef, J2⟩
/-- F may know less, where what lives leans on it no more (after a loan) -/
theorem Sim.lstAt {i : Nat} {xs : List T} (I : Sim c F H σ ρ tt tv) (h : ρ[i]? = some (some (.lst true xs))) : ∃ p ws G1, σ[i]? = some (some (.ref p)) ∧ H p = some (.lst ws) ∧ F p = none ∧ TrL c.K F H xs ws G1 ∧ ws.length = xs.length := by
  obtain ⟨G, l, nd, hg⟩ := I.live
  have h' : (tt.map some ++ ρ)[(tt.map some).length + i]? = some (some (.lst true xs)) := by rw [ap_get]; exact h
  obtain ⟨v, G1, G2, e1, q, l2, pm⟩ := l.take h'
  have hl : (tt.map some).length = (tv.map some).length := by simp [I.tl]
  rw [hl, ap_get] at e1
  cases q with
  | @lstT a _ ws G' hH hr =>
    refine ⟨a, ws, _, e1, hH, (hg a (pm.mem_iff.mpr (by simp))).1, hr, hr.length.symm⟩
/-- a list that a name owns is changed: its new items are made of its old ones and of what lies on top -/
theorem Sim.mutL {i : Nat} {xs : List T} (I : Sim c F H σ ρ (ts ++ tt) (vs ++ tv)) (hlen : ts.length = vs.length) (h : ρ[i]? = some (some (.lst true xs))) :
    ∃ p ws Gx Gt, σ[i]? = some (some (.ref p)) ∧ H p = some (.lst ws) ∧ TrL c.K F H xs ws Gx ∧ TrL c.K F H ts vs Gt ∧
      ∀ xs' ws' G' P, TrL c.K F H xs' ws' G' → P.Sublist (Gx ++ Gt) → G'.Perm P → Sim c F (upd H p (.lst ws')) σ (ρ.set i (some (.lst true xs'))) tt tv := by
  have tl := I.tl
  simp only [List.length_append] at tl
  obtain ⟨G, l, nd, hg⟩ := I.live
  rw [List.map_append, List.map_append, List.append_assoc, List.append_assoc] at l
  obtain ⟨Gt, G2, rfl, q1, q2⟩ := Live.to_trL hlen l
  have h' : (tt.map some ++ ρ)[(tt.map some).length + i]? = some (some (.lst true xs)) := by rw [ap_get]; exact h
  obtain ⟨v, G1, G3, e1, q, l2, pm⟩ := q2.take h'
  have hl : (tt.map some).length = (tv.map some).length := by simp; omega
  rw [hl, ap_get] at e1
  rw [ap_set] at l2
  have hlt : i < ρ.length := (List.getElem?_eq_some_iff.mp h).1
  cases q with
  | @lstT p _ ws Gx hH hr =>
    refine ⟨p, ws, Gx, Gt, e1, hH, hr, q1, fun xs' ws' G' P r' sub pm' => ?_⟩
    have ndA : (Gt ++ (p :: Gx ++ G3)).Nodup := (List.Perm.append_left _ pm).nodup_iff.mp nd
    have hgA : ∀ g ∈ Gt ++ (p :: Gx ++ G3), F g = none ∧ (c.H0 g = none ∨ g ∈ c.G0) := fun g hm => hg g ((List.Perm.append_left _ pm).mem_iff.mpr hm)
    have ndB := List.nodup_append.mp ndA
    have ndC := List.nodup_append.mp ndB.2.1
    have pGx : p ∉ Gx := (List.nodup_cons.mp ndC.1).1
    have pGt : p ∉ Gt := fun z => ndB.2.2 p z p (by simp) rfl
    have pG3 : p ∉ G3 := fun z => ndC.2.2 p (by simp) p z rfl
    have pP : ∀ g ∈ G', g ≠ p := fun g hm z => by
      subst z
      rcases List.mem_append.mp (sub.subset (pm'.mem_iff.mp hm)) with k | k
      · exact pGx k
      · exact pGt k
    have r2 : TrL c.K F (upd H p (.lst ws')) xs' ws' G' := r'.mono (Ex.refl F) fun g hm => upd_ne (pP g hm)
    have l3 : Live c.K F (upd H p (.lst ws')) (tt.map some ++ ρ.set i none) (tv.map some ++ σ) G3 := l2.mono (Ex.refl F) fun g hm => upd_ne fun z => pG3 (z ▸ hm)
    obtain ⟨G4, q4, G5, pm4, s4⟩ := Live.put (.lstT upd_same r2) (i := (tt.map some).length + i) l3 (by simp [hlt])
    rw [ap_set, List.set_set] at q4
    rw [hl, ap_set, set_same e1] at q4
    have hH0 : c.H0 p = none ∨ p ∈ c.G0 := (hgA p (by simp)).2
    have hFp : F p = none := (hgA p (by simp)).1
    have ndP : ((p :: G') ++ G5).Nodup := by
      have w1 : ((p :: Gx ++ Gt) ++ G3).Nodup := by
        have : (Gt ++ (p :: Gx ++ G3)).Perm ((p :: Gx ++ Gt) ++ G3) := by
          rw [← List.append_assoc]
          exact List.perm_append_comm.append_right _
        exact this.nodup_iff.mp ndA
      have w2 : ((p :: P) ++ G5).Sublist ((p :: Gx ++ Gt) ++ G3) := (List.Sublist.cons_cons p sub).append s4
      have w3 := w1.sublist w2
      exact ((pm'.cons p).append_right _).nodup_iff.mpr w3
    refine ⟨fun a o e => ?_, I.fx, I.fn, fun b o e n => ?_, fun b e => ?_, by omega, ⟨G4, q4, pm4.nodup_iff.mpr ndP, fun g hm => ?_⟩, fun p' hp' => ?_⟩
    · have z : a ≠ p := fun z => by rw [z, hFp] at e; cases e
      rw [upd_ne z]; exact I.ex a o e
    · have z : b ≠ p := fun z => by
        subst z
        rcases hH0 with k | k
        · rw [k] at e; cases e
        · exact n k
      rw [upd_ne z]; exact I.keep b o e n
    · by_cases z : b = p
      · subst z; rw [upd_same]; exact fun z => by cases z
      · rw [upd_ne z]; exact I.dom b e
    · rcases List.mem_append.mp (pm4.mem_iff.mp hm) with k | k
      · rcases List.mem_cons.mp k with rfl | k
        · exact ⟨hFp, hH0⟩
        · rcases List.mem_append.mp (sub.subset (pm'.mem_iff.mp k)) with k | k
          · exact hgA g (by simp [k])
          · exact hgA g (by simp [k])
      · exact hgA g (by simp [s4.subset k])
    · obtain ⟨a, t0, b, d⟩ := I.iop p' hp'
      refine ⟨a, ?_⟩
      by_cases z : i = 0
      · subst z
        exact ⟨.lst true xs', List.getElem?_set_self hlt, rfl⟩
      · exact ⟨t0, by rw [List.getElem?_set_ne z]; exact b, d⟩
end
end L3

namespace L3
open PySem L2 PySem.Spec PyProof.Rows

abbrev WE := Rho → (T → Rho → Prop) → Prop
abbrev WT := Rho → (Bool → Rho → Prop) → Prop
abbrev WA := Rho → (List T → Rho → Prop) → Prop
structure En where
  nx : Rho → Prop
  rt : T → Rho → Prop
  bk : Rho → Prop := fun _ => False
  ct : Rho → Prop := fun _ => False
abbrev WS := En → Rho → Prop

/-- an expression: its value comes onto the top -/
def VE (X : Cx) (c : Cst) (e : Expr) (w : WE) : Prop :=
  ∃ te : TE, PE X e te ∧ ∀ (F H : Hp) (σ : L2.St) (ρ : Rho) (tt : List T) (tv : List V) (Q : T → Rho → Prop) (P : VK), Sim c F H σ ρ tt tv → w ρ Q →
    (∀ v H' F' t ρ', Sim c F' H' σ ρ' (t :: tt) (v :: tv) → Q t ρ' → P v H') → te σ H P
/-- a test -/
def VT (X : Cx) (c : Cst) (e : Expr) (w : WT) : Prop :=
  ∃ te : TT, PT X e te ∧ ∀ (F H : Hp) (σ : L2.St) (ρ : Rho) (tt : List T) (tv : List V) (Q : Bool → Rho → Prop) (P : Bool → Hp → Prop), Sim c F H σ ρ tt tv → w ρ Q →
    (∀ b H' F' ρ', Sim c F' H' σ ρ' tt tv → Q b ρ' → P b H') → te σ H P
/-- .. within and, or -/
def VW (X : Cx) (c : Cst) (e : Expr) (w : WT) : Prop :=
  ∃ te : TT, PW X e te ∧ ∀ (F H : Hp) (σ : L2.St) (ρ : Rho) (tt : List T) (tv : List V) (Q : Bool → Rho → Prop) (P : Bool → Hp → Prop), Sim c F H σ ρ tt tv → w ρ Q →
    (∀ b H' F' ρ', Sim c F' H' σ ρ' tt tv → Q b ρ' → P b H') → te σ H P
/-- arguments: their values come onto the top, the first one topmost -/
def VA (X : Cx) (c : Cst) (es : List Expr) (w : WA) : Prop :=
  ∃ te : TA, PA X es te ∧ ∀ (F H : Hp) (σ : L2.St) (ρ : Rho) (tt : List T) (tv : List V) (Q : List T → Rho → Prop) (P : List V → Hp → Prop), Sim c F H σ ρ tt tv → w ρ Q →
    (∀ vs H' F' ts ρ', Sim c F' H' σ ρ' (ts ++ tt) (vs ++ tv) → ts.length = vs.length → Q ts ρ' → P vs H') → te σ H P
/-- how the wanted ends match -/
structure Mt (c : Cst) (D : Ends) (E : En) (tt : List T) (tv : List V) : Prop where
  nx : ∀ F H σ ρ, Sim c F H σ ρ tt tv → E.nx ρ → D.nx σ H
  rt : ∀ F H σ ρ t v, Sim c F H σ ρ (t :: tt) (v :: tv) → E.rt t ρ → D.rt v H
  bk : ∀ F H σ ρ, Sim c F H σ ρ tt tv → E.bk ρ → D.bk σ H
  ct : ∀ F H σ ρ, Sim c F H σ ρ tt tv → E.ct ρ → D.ct σ H
def VS (X : Cx) (c : Cst) (st : Stmt) (w : WS) : Prop :=
  ∃ ts : TS, PS X st ts ∧ ∀ (F H : Hp) (σ : L2.St) (ρ : Rho) (tt : List T) (tv : List V) (D : Ends) (E : En), Sim c F H σ ρ tt tv → Mt c D E tt tv → w E ρ → ts D σ H
def VB (X : Cx) (c : Cst) (sts : List Stmt) (w : WS) : Prop :=
  ∃ ts : TS, PSs X sts ts ∧ ∀ (F H : Hp) (σ : L2.St) (ρ : Rho) (tt : List T) (tv : List V) (D : Ends) (E : En), Sim c F H σ ρ tt tv → Mt c D E tt tv → w E ρ → ts D σ H

/-! ### values on the way -/
section
variable {X : Cx} {c : Cst}
/-- what is read off a tree at a name -/
@[simp] def wVar (i : Nat) (ρ : Rho) (Q : T → Rho → Prop) : Prop := match ρ[i]? with
  | some (some t) => stb t = true ∧ Q t ρ
  | _ => False
@[simp] def wFrz (i : Nat) (ρ : Rho) (Q : T → Rho → Prop) : Prop := match ρ[i]? with
  | some (some t) => Q (fr t) (ρ.set i (some (fr t)))
  | _ => False
@[simp] def wMove (i : Nat) (ρ : Rho) (Q : T → Rho → Prop) : Prop := match ρ[i]? with
  | some (some t) => Q t (ρ.set i none)
  | _ => False
@[simp] def wC (t : T) (ρ : Rho) (Q : T → Rho → Prop) : Prop := Q t ρ
theorem slot_of {ρ : Rho} {i : Nat} {P : T → Prop} (h : match ρ[i]? with | some (some t) => P t | _ => False) : ∃ t, ρ[i]? = some (some t) ∧ P t := by
  split at h
  · exact ⟨_, by assumption, h⟩
  · exact h.elim
theorem ve_var (i : Nat) {x : Str} {pos : Pos} (hN : X.N[i]? = some x := by rfl) (hv : Vis X.env.scope x := by first | exact Or.inl rfl | exact Or.inr (Or.inl rfl) | exact Or.inr (Or.inr rfl)) (hd : (x == ("__debug__" : Str)) = false := by decide)
    (hcd : (x == ("__classdict__" : Str)) = false := by decide) : VE X c (.Name x pos) (wVar i) := by
  refine ⟨_, pe_var hN hv hd hcd, fun F H σ ρ tt tv Q P I h k => ?_⟩
  obtain ⟨t, e, hs, q⟩ := slot_of h
  obtain ⟨v, e1, J⟩ := I.copy e hs
  exact ⟨v, e1, k _ _ _ _ _ J q⟩
theorem ve_frz (i : Nat) {x : Str} {pos : Pos} (hi : c.io = none ∨ i ≠ 0 := by first | exact .inl rfl | exact .inr (by decide)) (hN : X.N[i]? = some x := by rfl) (hv : Vis X.env.scope x := by first | exact Or.inl rfl | exact Or.inr (Or.inl rfl) | exact Or.inr (Or.inr rfl)) (hd : (x == ("__debug__" : Str)) = false := by decide)
    (hcd : (x == ("__classdict__" : Str)) = false := by decide) : VE X c (.Name x pos) (wFrz i) := by
  refine ⟨_, pe_var hN hv hd hcd, fun F H σ ρ tt tv Q P I h k => ?_⟩
  obtain ⟨t, e, q⟩ := slot_of h
  obtain ⟨F', _, J⟩ := I.frzAt e hi
  have hlt : i < ρ.length := (List.getElem?_eq_some_iff.mp e).1
  obtain ⟨v, e1, J⟩ := J.copy (t := fr t) (List.getElem?_set_self hlt) (stb_fr t)
  exact ⟨v, e1, k _ _ _ _ _ J q⟩
theorem ve_move (i : Nat) {x : Str} {pos : Pos} (hi : c.io = none ∨ i ≠ 0 := by first | exact .inl rfl | exact .inr (by decide)) (hN : X.N[i]? = some x := by rfl) (hv : Vis X.env.scope x := by first | exact Or.inl rfl | exact Or.inr (Or.inl rfl) | exact Or.inr (Or.inr rfl)) (hd : (x == ("__debug__" : Str)) = false := by decide)
    (hcd : (x == ("__classdict__" : Str)) = false := by decide) : VE X c (.Name x pos) (wMove i) := by
  refine ⟨_, pe_var hN hv hd hcd, fun F H σ ρ tt tv Q P I h k => ?_⟩
  obtain ⟨t, e, q⟩ := slot_of h
  obtain ⟨v, e1, J⟩ := I.move e hi
  exact ⟨v, e1, k _ _ _ _ _ J q⟩
theorem ve_int {i j pos} : VE X c (.Constant (.int i) j pos) (wC (.int i)) := ⟨_, pe_int, fun _ _ _ _ _ _ _ _ I h k => k _ _ _ _ _ (I.pushG (.int i) rfl) h⟩
theorem ve_bl {b j pos} : VE X c (.Constant (.bool b) j pos) (wC (.bl b)) := ⟨_, pe_bl, fun _ _ _ _ _ _ _ _ I h k => k _ _ _ _ _ (I.pushG (.bl b) rfl) h⟩
theorem ve_non {j pos} : VE X c (.Constant .none j pos) (wC .non) := ⟨_, pe_non, fun _ _ _ _ _ _ _ _ I h k => k _ _ _ _ _ (I.pushG .non rfl) h⟩
theorem ve_str {x j pos} : VE X c (.Constant (.str x) j pos) (wC (.str x)) := ⟨_, pe_str, fun _ _ _ _ _ _ _ _ I h k => k _ _ _ _ _ (I.pushG (.str x) rfl) h⟩
/-- a module's int -/
theorem ve_gint {x : Str} {i : Int} {u : Tok} {pos : Pos} (hg : Gl X x) (hm : X.mg x = some (.int i u)) (hd : (x == ("__debug__" : Str)) = false := by decide) : VE X c (.Name x pos) (wC (.int i)) :=
  ⟨_, pe_glob (v := .int i) hg hm ⟨_, rfl⟩ hd, fun _ _ _ _ _ _ _ _ I h k => k _ _ _ _ _ (I.pushG (.int i) rfl) h⟩
theorem ve_gstr {x : Str} {i : Str} {u : Tok} {pos : Pos} (hg : Gl X x) (hm : X.mg x = some (.str i u)) (hd : (x == ("__debug__" : Str)) = false := by decide) : VE X c (.Name x pos) (wC (.str i)) :=
  ⟨_, pe_glob (v := .str i) hg hm ⟨_, rfl⟩ hd, fun _ _ _ _ _ _ _ _ I h k => k _ _ _ _ _ (I.pushG (.str i) rfl) h⟩
/-- any global value, as it is (a class, a def) -/
theorem ve_gval {x : Str} {v : V} {u : Value} {pos : Pos} (hg : Gl X x) (hm : X.mg x = some u) (r : RelV v u) (hd : (x == ("__debug__" : Str)) = false := by decide) : VE X c (.Name x pos) (wC (.fn v)) :=
  ⟨_, pe_glob hg hm r hd, fun _ _ _ _ _ _ _ _ I h k => k _ _ _ _ _ (I.pushG (.fn v) rfl) h⟩
theorem ve_bval {x : Str} {v : V} {u : Value} {pos : Pos} (hg : Gl X x) (hm : X.mg x = none) (hv : bootBuiltins x = some u) (r : RelV v u) (hn : x ≠ "__name__" := by decide) (hd : (x == ("__debug__" : Str)) = false := by decide) : VE X c (.Name x pos) (wC (.fn v)) :=
  ⟨_, pe_bltn hg hm hv r hn hd, fun _ _ _ _ _ _ _ _ I h k => k _ _ _ _ _ (I.pushG (.fn v) rfl) h⟩

/-! ### operations on what lies on top -/
/-- a two-place operation: what it makes of two trees -/
abbrev F2 := T → T → (T → Prop) → Prop
abbrev F1 := T → (T → Prop) → Prop
abbrev FA := List T → (T → Prop) → Prop
def Op2 (c : Cst) (r : R2) (f : F2) : Prop := ∀ (F H : Hp) (σ : L2.St) (ρ : Rho) (tt : List T) (tv : List V) (a b : T) (x y : V) (k : T → Prop) (P : VK),
  Sim c F H σ ρ (b :: a :: tt) (y :: x :: tv) → f a b k → (∀ v H' F' t, Sim c F' H' σ ρ (t :: tt) (v :: tv) → k t → P v H') → r x y H P
def Op1 (c : Cst) (r : V → Hp → VK → Prop) (f : F1) : Prop := ∀ (F H : Hp) (σ : L2.St) (ρ : Rho) (tt : List T) (tv : List V) (a : T) (x : V) (k : T → Prop) (P : VK),
  Sim c F H σ ρ (a :: tt) (x :: tv) → f a k → (∀ v H' F' t, Sim c F' H' σ ρ (t :: tt) (v :: tv) → k t → P v H') → r x H P
def OpA (c : Cst) (r : List V → Hp → VK → Prop) (f : FA) : Prop := ∀ (F H : Hp) (σ : L2.St) (ρ : Rho) (tt : List T) (tv : List V) (ts : List T) (vs : List V) (k : T → Prop) (P : VK),
  Sim c F H σ ρ (ts ++ tt) (vs ++ tv) → ts.length = vs.length → f ts k → (∀ v H' F' t, Sim c F' H' σ ρ (t :: tt) (v :: tv) → k t → P v H') → r vs H P
@[simp] def w2 (f : F2) (wa wb : WE) (ρ : Rho) (Q : T → Rho → Prop) : Prop := wa ρ fun a ρ1 => wb ρ1 fun b ρ2 => f a b fun t => Q t ρ2
@[simp] def w1 (f : F1) (wa : WE) (ρ : Rho) (Q : T → Rho → Prop) : Prop := wa ρ fun a ρ1 => f a fun t => Q t ρ1
@[simp] def wA (f : FA) (wa : WA) (ρ : Rho) (Q : T → Rho → Prop) : Prop := wa ρ fun ts ρ1 => f ts fun t => Q t ρ1
variable {a b e : Expr} {es : List Expr} {wa wb w : WE} {wt wu : WT} {was : WA} {pos : Pos}
theorem tOp_ok {r : R2} {f : F2} {ta tb : TE} (hr : Op2 c r f)
    (ka : ∀ (F H : Hp) (σ : L2.St) (ρ : Rho) (tt : List T) (tv : List V) (Q : T → Rho → Prop) (P : VK), Sim c F H σ ρ tt tv → wa ρ Q → (∀ v H' F' t ρ', Sim c F' H' σ ρ' (t :: tt) (v :: tv) → Q t ρ' → P v H') → ta σ H P)
    (kb : ∀ (F H : Hp) (σ : L2.St) (ρ : Rho) (tt : List T) (tv : List V) (Q : T → Rho → Prop) (P : VK), Sim c F H σ ρ tt tv → wb ρ Q → (∀ v H' F' t ρ', Sim c F' H' σ ρ' (t :: tt) (v :: tv) → Q t ρ' → P v H') → tb σ H P) :
    ∀ (F H : Hp) (σ : L2.St) (ρ : Rho) (tt : List T) (tv : List V) (Q : T → Rho → Prop) (P : VK), Sim c F H σ ρ tt tv → w2 f wa wb ρ Q → (∀ v H' F' t ρ', Sim c F' H' σ ρ' (t :: tt) (v :: tv) → Q t ρ' → P v H') → tOp r ta tb σ H P :=
  fun F H σ ρ tt tv Q P I h k => ka F H σ ρ tt tv _ _ I h fun v H1 F1 t ρ1 I1 h1 => kb F1 H1 σ ρ1 _ _ _ _ I1 h1 fun u H2 F2 t2 ρ2 I2 h2 => hr F2 H2 σ ρ2 tt tv _ _ _ _ _ _ I2 h2 fun z H3 F3 t3 I3 h3 => k z H3 F3 t3 ρ2 I3 h3
theorem ve_op {op : Operator} {r : R2} {f : F2} (ho : OpR X (binaryOp op) r) (hr : Op2 c r f) (ha : VE X c a wa) (hb : VE X c b wb) : VE X c (.BinOp a op b pos) (w2 f wa wb) := by
  obtain ⟨ta, pa, ka⟩ := ha
  obtain ⟨tb, pb, kb⟩ := hb
  exact ⟨_, pe_op ho pa pb, tOp_ok hr ka kb⟩
theorem ve_cmp {op : CmpOp} {r : R2} {f : F2} (ho : OpR X (compareOp op) r) (hr : Op2 c r f) (ha : VE X c a wa) (hb : VE X c b wb) (hm : behindInMarks op b = false := by first | exact nomark _ | rfl) : VE X c (.Compare a [op] [b] pos) (w2 f wa wb) := by
  obtain ⟨ta, pa, ka⟩ := ha
  obtain ⟨tb, pb, kb⟩ := hb
  exact ⟨_, pe_cmpR ho pa pb hm, tOp_ok hr ka kb⟩
/- a value as a test -/
/-- the bool that a tree is -/
def onB (t : T) (f : Bool → Prop) : Prop := match t with | .bl b => f b | _ => False
@[simp] theorem onB_bl (b : Bool) (f : Bool → Prop) : onB (.bl b) f = f b := rfl
@[simp] def wB (w : WE) (ρ : Rho) (Q : Bool → Rho → Prop) : Prop := w ρ fun t ρ1 => onB t fun b => Q b ρ1
theorem bl_of {t : T} {P : Bool → Prop} (h : onB t P) : ∃ b, t = .bl b ∧ P b := by
  cases t with
  | bl b => exact ⟨b, rfl, h⟩
  | _ => exact h.elim
theorem vt_cmp {op : CmpOp} {r : R2} {f : F2} (ho : OpR X (compareOp op) r) (hr : Op2 c r f) (ha : VE X c a wa) (hb : VE X c b wb) (hm : behindInMarks op b = false := by first | exact nomark _ | rfl) : VT X c (.Compare a [op] [b] pos) (wB (w2 f wa wb)) := by
  obtain ⟨ta, pa, ka⟩ := ha
  obtain ⟨tb, pb, kb⟩ := hb
  refine ⟨_, pt_cmpR ho pa pb hm, fun F H σ ρ tt tv Q P I h k => ?_⟩
  refine tOp_ok hr ka kb F H σ ρ tt tv _ _ I h fun v H1 F1 t ρ1 I1 q1 => ?_
  obtain ⟨b, rfl, q⟩ := bl_of (P := fun b => Q b ρ1) q1
  obtain ⟨G1, G2, z, _⟩ := I1.top
  cases z
  exact ⟨b, rfl, k _ _ _ _ I1.drop q⟩
/-- a < b < c -/
@[simp] def wChain (f f' : F2) (wa wb wd : WE) (ρ : Rho) (Q : T → Rho → Prop) : Prop := wa ρ fun x ρ1 => wb ρ1 fun y ρ2 => stb y = true ∧ f x y fun t => onB t fun b => if b = true then wd ρ2 fun z ρ3 => f' y z fun t => Q t ρ3 else Q (.bl false) ρ2
theorem tChain_ok {r r' : R2} {f f' : F2} {ta tb td : TE} {wd : WE} (hr : Op2 c r f) (hr' : Op2 c r' f')
    (ka : ∀ (F H : Hp) (σ : L2.St) (ρ : Rho) (tt : List T) (tv : List V) (Q : T → Rho → Prop) (P : VK), Sim c F H σ ρ tt tv → wa ρ Q → (∀ v H' F' t ρ', Sim c F' H' σ ρ' (t :: tt) (v :: tv) → Q t ρ' → P v H') → ta σ H P)
    (kb : ∀ (F H : Hp) (σ : L2.St) (ρ : Rho) (tt : List T) (tv : List V) (Q : T → Rho → Prop) (P : VK), Sim c F H σ ρ tt tv → wb ρ Q → (∀ v H' F' t ρ', Sim c F' H' σ ρ' (t :: tt) (v :: tv) → Q t ρ' → P v H') → tb σ H P)
    (kd : ∀ (F H : Hp) (σ : L2.St) (ρ : Rho) (tt : List T) (tv : List V) (Q : T → Rho → Prop) (P : VK), Sim c F H σ ρ tt tv → wd ρ Q → (∀ v H' F' t ρ', Sim c F' H' σ ρ' (t :: tt) (v :: tv) → Q t ρ' → P v H') → td σ H P) :
    ∀ (F H : Hp) (σ : L2.St) (ρ : Rho) (tt : List T) (tv : List V) (Q : T → Rho → Prop) (P : VK), Sim c F H σ ρ tt tv → wChain f f' wa wb wd ρ Q → (∀ v H' F' t ρ', Sim c F' H' σ ρ' (t :: tt) (v :: tv) → Q t ρ' → P v H') → tChain r r' ta tb td σ H P := by
  intro F H σ ρ tt tv Q P I h k
  refine ka F H σ ρ tt tv _ _ I h fun x H1 F1 t1 ρ1 I1 h1 => ?_
  refine kb F1 H1 σ ρ1 _ _ _ _ I1 h1 fun y H2 F2 t2 ρ2 I2 h2 => ?_
  obtain ⟨s2, h2⟩ := h2
  -- the middle value is kept below
  obtain ⟨G1, G2, z2, _⟩ := I2.top
  have e := z2.stb_nil s2
  subst e
  have I3 : Sim c F2 H2 σ ρ2 (t2 :: t1 :: t2 :: tt) (y :: x :: y :: tv) := (I2.swap.drop.pushG z2 rfl |> fun J => (by
    have J1 : Sim c F2 H2 σ ρ2 (t2 :: t2 :: t1 :: tt) (y :: y :: x :: tv) := I2.pushG z2 rfl
    have J2 : Sim c F2 H2 σ ρ2 (t1 :: t2 :: t2 :: tt) (x :: y :: y :: tv) := Sim.mid (ts := [t2, t2]) (vs := [y, y]) J1 rfl
    exact J2.swap))
  refine hr F2 H2 σ ρ2 (t2 :: tt) (y :: tv) _ _ _ _ _ _ I3 h2 fun v H3 F3 t3 I4 h3 => ?_
  obtain ⟨b, rfl, q3⟩ := bl_of h3
  obtain ⟨_, _, z3, _⟩ := I4.top
  cases z3
  cases b with
  | true =>
    rw [if_pos rfl] at q3
    refine ⟨true, rfl, ?_⟩
    rw [if_pos rfl]
    refine kd F3 H3 σ ρ2 _ _ _ _ I4.drop q3 fun z H4 F4 t4 ρ4 I5 h4 => ?_
    exact hr' F4 H4 σ ρ4 tt tv _ _ _ _ _ _ I5 h4 fun v' H5 F5 t5 I6 h5 => k _ _ _ _ _ I6 h5
  | false =>
    rw [if_neg (by decide)] at q3
    refine ⟨false, rfl, ?_⟩
    rw [if_neg (by decide)]
    exact k _ _ _ _ _ (I4.drop2) q3
theorem ve_chain {op op' : CmpOp} {r r' : R2} {f f' : F2} {d : Expr} {wd : WE} (ho : OpR X (compareOp op) r) (hr : Op2 c r f) (ho' : OpR X (compareOp op') r') (hr' : Op2 c r' f') (ha : VE X c a wa) (hb : VE X c b wb) (hd : VE X c d wd)
    (hm : lastMarks [op, op'] [b, d] = false := by with_unfolding_all rfl) :
    VE X c (.Compare a [op, op'] [b, d] pos) (wChain f f' wa wb wd) := by
  obtain ⟨ta, pa, ka⟩ := ha
  obtain ⟨tb, pb, kb⟩ := hb
  obtain ⟨td, pd, kd⟩ := hd
  exact ⟨_, pe_chain ho ho' pa pb pd hm, tChain_ok hr hr' ka kb kd⟩
theorem vt_chain {op op' : CmpOp} {r r' : R2} {f f' : F2} {d : Expr} {wd : WE} (ho : OpR X (compareOp op) r) (hr : Op2 c r f) (ho' : OpR X (compareOp op') r') (hr' : Op2 c r' f') (ha : VE X c a wa) (hb : VE X c b wb) (hd : VE X c d wd)
    (hm : lastMarks [op, op'] [b, d] = false := by with_unfolding_all rfl) :
    VT X c (.Compare a [op, op'] [b, d] pos) (wB (wChain f f' wa wb wd)) := by
  obtain ⟨ta, pa, ka⟩ := ha
  obtain ⟨tb, pb, kb⟩ := hb
  obtain ⟨td, pd, kd⟩ := hd
  refine ⟨_, pt_chain ho ho' pa pb pd hm, fun F H σ ρ tt tv Q P I h k => ?_⟩
  refine tChain_ok hr hr' ka kb kd F H σ ρ tt tv _ _ I h fun v H1 F1 t ρ1 I1 q1 => ?_
  obtain ⟨b, rfl, q⟩ := bl_of (P := fun b => Q b ρ1) q1
  obtain ⟨G1, G2, z, _⟩ := I1.top
  cases z
  exact ⟨b, rfl, k _ _ _ _ I1.drop q⟩
theorem ve_un {op : UnaryOp} {r : V → Hp → VK → Prop} {f : F1} (ho : UnR X (unaryOp op) r) (hr : Op1 c r f) (ha : VE X c a wa) : VE X c (.UnaryOp op a pos) (w1 f wa) := by
  obtain ⟨ta, pa, ka⟩ := ha
  exact ⟨_, pe_un ho pa, fun F H σ ρ tt tv Q P I h k => ka F H σ ρ tt tv _ _ I h fun v H1 F1 t ρ1 I1 h1 => hr F1 H1 σ ρ1 tt tv _ _ _ _ I1 h1 fun z H3 F3 t3 I3 h3 => k z H3 F3 t3 ρ1 I3 h3⟩
/-! tests -/
theorem vt_val (ha : VE X c a wa) (he : ∀ whole, isTrue a X.env whole = (do let v ← whole; standAt a.pos; holding [v] (truthy v)) := by intro _; rfl) : VT X c a (wB wa) := by
  obtain ⟨ta, pa, ka⟩ := ha
  refine ⟨_, pt_val pa he, fun F H σ ρ tt tv Q P I h k => ka F H σ ρ tt tv _ _ I h fun v H1 F1 t ρ1 I1 h1 => ?_⟩
  obtain ⟨b, rfl, q⟩ := bl_of (P := fun b => Q b ρ1) h1
  obtain ⟨G1, G2, z, _⟩ := I1.top
  cases z
  exact ⟨b, rfl, k _ _ _ _ I1.drop q⟩
@[simp] def wNot (t : WT) (ρ : Rho) (Q : Bool → Rho → Prop) : Prop := t ρ fun b ρ1 => Q (!b) ρ1
@[simp] def wAnd (t u : WT) (ρ : Rho) (Q : Bool → Rho → Prop) : Prop := t ρ fun b ρ1 => if b = true then u ρ1 Q else Q false ρ1
@[simp] def wOr (t u : WT) (ρ : Rho) (Q : Bool → Rho → Prop) : Prop := t ρ fun b ρ1 => if b = true then Q true ρ1 else u ρ1 Q
theorem vt_not (ha : VT X c a wt) : VT X c (.UnaryOp .Not a pos) (wNot wt) := by
  obtain ⟨ta, pa, ka⟩ := ha
  exact ⟨_, pt_not pa, fun F H σ ρ tt tv Q P I h k => ka F H σ ρ tt tv _ _ I h fun b H1 F1 ρ1 I1 h1 => k _ _ _ _ I1 h1⟩
theorem vt_w (ha : VW X c a wt) : VT X c a wt := by
  obtain ⟨ta, pa, ka⟩ := ha
  exact ⟨_, pa.pt, ka⟩
theorem vw_and1 (ha : VT X c a wt) : VW X c (.BoolOp .And [a] pos) wt := by
  obtain ⟨ta, pa, ka⟩ := ha
  exact ⟨_, pw_and1 pa, ka⟩
theorem vw_or1 (ha : VT X c a wt) : VW X c (.BoolOp .Or [a] pos) wt := by
  obtain ⟨ta, pa, ka⟩ := ha
  exact ⟨_, pw_or1 pa, ka⟩
theorem vw_and (ha : VT X c a wt) (hb : VW X c (.BoolOp .And (b :: es) pos) wu) : VW X c (.BoolOp .And (a :: b :: es) pos) (wAnd wt wu) := by
  obtain ⟨ta, pa, ka⟩ := ha
  obtain ⟨tb, pb, kb⟩ := hb
  refine ⟨_, pw_and pa pb, fun F H σ ρ tt tv Q P I h k => ka F H σ ρ tt tv _ _ I h fun d H1 F1 ρ1 I1 h1 => ?_⟩
  cases d with
  | true =>
    rw [if_pos rfl] at h1 ⊢
    exact kb F1 H1 σ ρ1 tt tv Q P I1 h1 k
  | false =>
    rw [if_neg (by decide)] at h1 ⊢
    exact k _ _ _ _ I1 h1
theorem vw_or (ha : VT X c a wt) (hb : VW X c (.BoolOp .Or (b :: es) pos) wu) : VW X c (.BoolOp .Or (a :: b :: es) pos) (wOr wt wu) := by
  obtain ⟨ta, pa, ka⟩ := ha
  obtain ⟨tb, pb, kb⟩ := hb
  refine ⟨_, pw_or pa pb, fun F H σ ρ tt tv Q P I h k => ka F H σ ρ tt tv _ _ I h fun d H1 F1 ρ1 I1 h1 => ?_⟩
  cases d with
  | true =>
    rw [if_pos rfl] at h1 ⊢
    exact k _ _ _ _ I1 h1
  | false =>
    rw [if_neg (by decide)] at h1 ⊢
    exact kb F1 H1 σ ρ1 tt tv Q P I1 h1 k
/-- and, or, not as values (bools) -/
@[simp] def wAndV (wa wb : WE) (ρ : Rho) (Q : T → Rho → Prop) : Prop := wa ρ fun t ρ1 => onB t fun b => if b = true then wb ρ1 Q else Q (.bl false) ρ1
@[simp] def wOrV (wa wb : WE) (ρ : Rho) (Q : T → Rho → Prop) : Prop := wa ρ fun t ρ1 => onB t fun b => if b = true then Q (.bl true) ρ1 else wb ρ1 Q
@[simp] def wNotV (wa : WE) (ρ : Rho) (Q : T → Rho → Prop) : Prop := wa ρ fun t ρ1 => onB t fun b => Q (.bl (!b)) ρ1
theorem ve_one {op} (ha : VE X c a wa) : VE X c (.BoolOp op [a] pos) wa := by
  obtain ⟨ta, pa, ka⟩ := ha
  exact ⟨_, pe_one pa, ka⟩
theorem ve_and (ha : VE X c a wa) (hb : VE X c (.BoolOp .And (b :: es) pos) wb) : VE X c (.BoolOp .And (a :: b :: es) pos) (wAndV wa wb) := by
  obtain ⟨ta, pa, ka⟩ := ha
  obtain ⟨tb, pb, kb⟩ := hb
  refine ⟨_, pe_and pa pb, fun F H σ ρ tt tv Q P I h k => ka F H σ ρ tt tv _ _ I h fun v H1 F1 t ρ1 I1 h1 => ?_⟩
  obtain ⟨b, rfl, q1⟩ := bl_of h1
  obtain ⟨_, _, z, _⟩ := I1.top
  cases z
  cases b with
  | true =>
    rw [if_pos rfl] at q1
    exact ⟨true, rfl, (by rw [if_pos rfl]; exact kb F1 H1 σ ρ1 tt tv Q P I1.drop q1 k)⟩
  | false =>
    rw [if_neg (by decide)] at q1
    exact ⟨false, rfl, (by rw [if_neg (by decide)]; exact k _ _ _ _ _ I1 q1)⟩
theorem ve_or (ha : VE X c a wa) (hb : VE X c (.BoolOp .Or (b :: es) pos) wb) : VE X c (.BoolOp .Or (a :: b :: es) pos) (wOrV wa wb) := by
  obtain ⟨ta, pa, ka⟩ := ha
  obtain ⟨tb, pb, kb⟩ := hb
  refine ⟨_, pe_or pa pb, fun F H σ ρ tt tv Q P I h k => ka F H σ ρ tt tv _ _ I h fun v H1 F1 t ρ1 I1 h1 => ?_⟩
  obtain ⟨b, rfl, q1⟩ := bl_of h1
  obtain ⟨_, _, z, _⟩ := I1.top
  cases z
  cases b with
  | true =>
    rw [if_pos rfl] at q1
    exact ⟨true, rfl, (by rw [if_pos rfl]; exact k _ _ _ _ _ I1 q1)⟩
  | false =>
    rw [if_neg (by decide)] at q1
    exact ⟨false, rfl, (by rw [if_neg (by decide)]; exact kb F1 H1 σ ρ1 tt tv Q P I1.drop q1 k)⟩
theorem ve_not (ha : VE X c a wa) : VE X c (.UnaryOp .Not a pos) (wNotV wa) := by
  obtain ⟨ta, pa, ka⟩ := ha
  refine ⟨_, pe_not pa, fun F H σ ρ tt tv Q P I h k => ka F H σ ρ tt tv _ _ I h fun v H1 F1 t ρ1 I1 h1 => ?_⟩
  obtain ⟨b, rfl, q⟩ := bl_of (P := fun b => Q (.bl (!b)) ρ1) h1
  obtain ⟨G1, G2, z, _⟩ := I1.top
  cases z
  exact ⟨b, rfl, k _ _ _ _ _ (I1.drop.pushG (.bl (!b)) rfl) q⟩
@[simp] def wIf (t : WT) (wa wb : WE) (ρ : Rho) (Q : T → Rho → Prop) : Prop := t ρ fun b ρ1 => if b = true then wa ρ1 Q else wb ρ1 Q
theorem ve_if {d : Expr} (hc : VT X c d wt) (ha : VE X c a wa) (hb : VE X c b wb) : VE X c (.IfExp d a b pos) (wIf wt wa wb) := by
  obtain ⟨tc, pc, kc⟩ := hc
  obtain ⟨ta, pa, ka⟩ := ha
  obtain ⟨tb, pb, kb⟩ := hb
  refine ⟨_, pe_ifExp pc pa pb, fun F H σ ρ tt tv Q P I h k => kc F H σ ρ tt tv _ _ I h fun b H1 F1 ρ1 I1 h1 => ?_⟩
  cases b with
  | true =>
    rw [if_pos rfl] at h1 ⊢
    exact ka F1 H1 σ ρ1 tt tv Q P I1 h1 k
  | false =>
    rw [if_neg (by decide)] at h1 ⊢
    exact kb F1 H1 σ ρ1 tt tv Q P I1 h1 k
/-! arguments, displays -/
@[simp] def wNil (ρ : Rho) (Q : List T → Rho → Prop) : Prop := Q [] ρ
@[simp] def wCons (wa : WE) (wr : WA) (ρ : Rho) (Q : List T → Rho → Prop) : Prop := wa ρ fun t ρ1 => wr ρ1 fun ts ρ2 => Q (t :: ts) ρ2
theorem va_nil : VA X c [] wNil := ⟨_, pa_nil, fun F H σ ρ tt tv Q P I h k => k [] H F [] ρ I rfl h⟩
theorem va_cons (ha : VE X c e wa) (hr : VA X c es was) (hs : starEach (e :: es) X.env = (false, eval e X.env) :: starEach es X.env := by rfl) : VA X c (e :: es) (wCons wa was) := by
  obtain ⟨ta, pa, ka⟩ := ha
  obtain ⟨tr, pr, kr⟩ := hr
  refine ⟨_, pa_cons pa pr hs, fun F H σ ρ tt tv Q P I h k => ka F H σ ρ tt tv _ _ I h fun v H1 F1 t ρ1 I1 h1 => ?_⟩
  refine kr F1 H1 σ ρ1 _ _ _ _ I1 h1 fun vs H2 F2 ts ρ2 I2 hl h2 => ?_
  exact k (v :: vs) H2 F2 (t :: ts) ρ2 (I2.mid hl) (by simp [hl]) h2
/-- [a, b, ..]: a list that is owned; (a, b, ..) -/
@[simp] def wLst (was : WA) (ρ : Rho) (Q : T → Rho → Prop) : Prop := was ρ fun ts ρ1 => ts.length ≤ sizeLine ∧ Q (.lst true ts) ρ1
@[simp] def wTup (was : WA) (ρ : Rho) (Q : T → Rho → Prop) : Prop := was ρ fun ts ρ1 => ts.length ≤ sizeLine ∧ Q (.tup ts) ρ1
theorem ve_lst (ha : VA X c es was) : VE X c (.List es pos) (wLst was) := by
  obtain ⟨ta, pa, ka⟩ := ha
  refine ⟨_, pe_lst pa, fun F H σ ρ tt tv Q P I h k => ka F H σ ρ tt tv _ _ I h fun vs H1 F1 ts ρ1 I1 hl h1 => ⟨hl ▸ h1.1, fun p hp => ?_⟩⟩
  exact k _ _ _ _ _ (I1.newLst hl hp) h1.2
theorem ve_tup {x1} (ha : VA X c es was) : VE X c (.Tuple es x1 pos) (wTup was) := by
  obtain ⟨ta, pa, ka⟩ := ha
  refine ⟨_, pe_tup pa, fun F H σ ρ tt tv Q P I h k => ka F H σ ρ tt tv _ _ I h fun vs H1 F1 ts ρ1 I1 hl h1 => ⟨hl ▸ h1.1, fun p hp => ?_⟩⟩
  exact k _ _ _ _ _ (I1.newTup hl hp) h1.2
/-! built-ins by values -/
theorem ve_callB {x : Str} {p : Pos} {id : String} {r : List V → Hp → VK → Prop} {f : FA} (hc : CallR X (.builtin id) r) (hr : OpA c r f) (hm : X.mg x = none) (ha : VA X c (e :: es) was) (hg : Gl X x := by rfl) (hv : bootBuiltins x = some (.builtin id) := by decide +kernel) (hn : x ≠ "__name__" := by decide) (hdb : (x == ("__debug__" : Str)) = false := by decide)
    (he : starEach (e :: es) X.env = (false, eval e X.env) :: starEach es X.env := by rfl) (hpl : (backTo pos (starEach es X.env)).any (·.1) = false := by rfl) : VE X c (.Call (.Name x p) (e :: es) [] pos) (wA f was) := by
  obtain ⟨ta, pa, ka⟩ := ha
  exact ⟨_, pe_callB hc hg hm hv pa hn hdb he hpl, fun F H σ ρ tt tv Q P I h k => ka F H σ ρ tt tv _ _ I h fun vs H1 F1 ts ρ1 I1 hl h1 => hr F1 H1 σ ρ1 tt tv _ _ _ _ I1 hl h1 fun z H3 F3 t3 I3 h3 => k z H3 F3 t3 ρ1 I3 h3⟩
theorem ve_callTy {x : Str} {p : Pos} {id : String} {r : List V → Hp → VK → Prop} {f : FA} (hc : CallR X (.type id) r) (hr : OpA c r f) (hm : X.mg x = none) (ha : VA X c (e :: es) was) (hg : Gl X x := by rfl) (hv : bootBuiltins x = some (.type id) := by decide +kernel) (hn : x ≠ "__name__" := by decide) (hdb : (x == ("__debug__" : Str)) = false := by decide)
    (he : starEach (e :: es) X.env = (false, eval e X.env) :: starEach es X.env := by rfl) (hpl : (backTo pos (starEach es X.env)).any (·.1) = false := by rfl) : VE X c (.Call (.Name x p) (e :: es) [] pos) (wA f was) := by
  obtain ⟨ta, pa, ka⟩ := ha
  exact ⟨_, pe_callTy hc hg hm hv pa hn hdb he hpl, fun F H σ ρ tt tv Q P I h k => ka F H σ ρ tt tv _ _ I h fun vs H1 F1 ts ρ1 I1 hl h1 => hr F1 H1 σ ρ1 tt tv _ _ _ _ I1 hl h1 fun z H3 F3 t3 I3 h3 => k z H3 F3 t3 ρ1 I3 h3⟩
end
end L3

/-! a def's promise where it is known that no repr runs around it -/
namespace L3
open PySem L2 PySem.Spec PyProof.Rows

structure FnG (P : Program) (w : World) (K : PySem.W.Frag) (mg : Str → Option Value) (base : Heap) (C : CXT) (k : Nat) (f : Addr) (fd : FuncData) (ps : List Str) (sp : Sp) : Prop where
  len : ∀ us G Q E, sp us G Q E → us.length = ps.length
  run : ∀ (A : Around) (outer : List Env) (s : Shared) (H : Hp) (args : Args) (us : List Value) (vs : List V) (Q : VK) (E : XK), Room k A → A.guards = some [] → Env0 P w K mg base A outer s H → BindsTo s fd args (ps.zip us) → Vals vs us → sp vs H Q E →
    codeAny (model P w) A (.call (.ref f) args) (CR C outer P w H s Q E) s
section
variable {P : Program} {w : World} {K : PySem.W.Frag} {mg : Str → Option Value} {base : Heap} {C : CXT} {k j : Nat} {f : Addr} {fd : FuncData} {ps : List Str} {sp sp' : Sp}
theorem FnG.mono (G : FnG P w K mg base C j f fd ps sp) (h : j ≤ k) : FnG P w K mg base C k f fd ps sp := ⟨G.len, fun A outer s H args us vs Q E r => G.run A outer s H args us vs Q E (r.mono h)⟩
theorem FnG.imp (G : FnG P w K mg base C k f fd ps sp) (h : ∀ vs H Q E, sp' vs H Q E → sp vs H Q E) : FnG P w K mg base C k f fd ps sp' :=
  ⟨fun vs H Q E q => G.len vs H Q E (h _ _ _ _ q), fun A outer s H args us vs Q E r g e b v q => G.run A outer s H args us vs Q E r g e b v (h _ _ _ _ q)⟩
/-- the body over the readings, where nothing shows itself around it -/
theorem fnG_of {x qual : Str} {st : Stmt} {N : List Str} (F : Fun K x qual st f fd) (S : FnScope N ps (defScope st)) (len : ∀ vs H Q E, sp vs H Q E → vs.length = ps.length)
    (hb : ∀ (cdv : Value) (A : Around) (outer : List Env) (s : Shared) (H : Hp) (vs : List V) (Q : VK) (E : XK), Room k (A.deeper (envOfC qual (defScope st) s.heap.objs.size f cdv)) → A.guards = some [] → sp vs H Q E →
      ∃ t, PSs (cxOf C P w K mg base N qual (defScope st) f cdv A outer s H E) (defBody st) t ∧ t { nx := fun _ H' => Q .non H', rt := Q } (start N vs) H) : FnG P w K mg base C (k + 1) f fd ps sp := by
  obtain ⟨oc, od, kV, doc, pm, an, cdv, ct, osl, rfl, lk, hcode⟩ := F.ex
  refine ⟨len, fun A outer s H args us vs Q E rm gd e0 bnd rel want => ?_⟩
  have hkeep : ∀ b o, base.get? b = some o → s.heap.get? b = some o := fun b o e => (e0.bs b o e).1
  have inK := e0.mod.kin.keeps hkeep
  have kinds : ∀ y ∈ ps.zip us, (defScope st).names.lookup y.1 = some .local ∨ ((defScope st).names.lookup y.1 = some .cell ∧ ((cellsFrom (s.heap.objs.size + 1) (defScope st).names []).lookup y.1).isSome = true) := by
    rintro ⟨n, v⟩ hy
    rcases S.par n (List.of_mem_zip hy).1 with z | z
    · exact Or.inl z
    · exact Or.inr ⟨z, PySem.W.cellsFrom_some _ _ _ (Or.inl z)⟩
  refine codeAny_call_function rm.depth (inK _ _ lk) rfl S.co S.gen rfl (PySem.W.codeRec_of inK hcode) (bnd _ _ _ _ ?_)
  refine wpAny_newFunctionEnv_cells S.kind kinds fun env henv s1 y => ?_
  subst henv
  refine ⟨(e0.mod.nolimit.keeps hkeep).keeps y.toInCall.keep, codeAny_func ?_⟩
  obtain ⟨t, pt, q⟩ := hb cdv A outer s H vs Q E (rm.deeper _) gd want
  have J : Inv (cxOf C P w K mg base N qual (defScope st) f cdv A outer s H E) [] (start N vs) H s1 := inv_start S rm.hd e0 (len _ _ _ _ want) rel y
  refine wpAny_mono (pt.run [] s1 (start N vs) H _ J q) (fun fl s2 z => ?_) fun _ _ z => z
  cases fl with
  | ret u =>
    obtain ⟨v, σ', H', I, rv, z⟩ := z
    exact ⟨v, H', I.os, I.bare, I.base, I.hok, rv, z⟩
  | next =>
    obtain ⟨σ', H', I, z⟩ := z
    exact ⟨.non, H', I.os, I.bare, I.base, I.hok, rfl, z⟩
  | brk => obtain ⟨_, _, _, z⟩ := z; exact z.elim
  | cont => obtain ⟨_, _, _, z⟩ := z; exact z.elim
end
/-- the values at the places ix -/
def pick {α : Type} (ix : List Nat) (xs : List α) : List α := ix.filterMap fun i => xs[i]?
theorem vals_pick {vs : List V} {us : List Value} (r : Vals vs us) : ∀ ix : List Nat, Vals (pick ix vs) (pick ix us)
  | [] => .nil
  | i :: ix => by
    unfold pick
    rw [List.filterMap_cons, List.filterMap_cons]
    cases h : vs[i]? with
    | none =>
      rw [r.none_of h]
      exact vals_pick r ix
    | some v =>
      obtain ⟨u, hu, rv⟩ := r.get h
      rw [hu]
      exact .cons rv (vals_pick r ix)
/-- how a call with np values and the keywords ks binds: the parameter j is the value at ix[j] -/
def Bnd (K : PySem.W.Frag) (fd : FuncData) (ps : List Str) (np : Nat) (ks : List Str) (ix : List Nat) : Prop :=
  ∀ (s : Shared) (us ws : List Value), K.In s.heap → us.length = np → ws.length = ks.length → BindsTo s fd ⟨us, ks.zip ws⟩ (ps.zip (pick ix (us ++ ws)))
theorem bnd_of {K : PySem.W.Frag} {x qual : Str} {st : Stmt} {f : Addr} {fd : FuncData} {ps ks : List Str} {np : Nat} {ix : List Nat} (F : Fun K x qual st f fd)
    (h : ∀ (kV doc pm : Value) (an : Option Addr) (cdv ct : Value) (us ws : List Value), us.length = np → ws.length = ks.length →
      bindArgs (PySem.W.fnOf x qual (defArgs st) (defBody st) (defScope st) .none kV doc pm an cdv ct) ⟨us, ks.zip ws⟩ = pure (ps.zip (pick ix (us ++ ws)))) : Bnd K fd ps np ks ix := by
  obtain ⟨oc, od, kV, doc, pm, an, cdv, ct, osl, rfl, _, _⟩ := F.ex
  exact fun s us ws _ h1 h2 => .of_eq (h kV doc pm an cdv ct us ws h1 h2)
section
variable {X : Cx} {C : CXT} {k np : Nat} {f : Addr} {fd : FuncData} {ps ks : List Str} {ix : List Nat} {sp : Sp} {E : L2.St → XK} {x : Str} {p pos : Pos} {e : Expr} {es : List Expr} {kws : List Keyword} {t tk : TA}
theorem run_G {pins : List (Addr × Obj)} {σ : L2.St} {H : Hp} {s : Shared} {Q : VK} {us ws : List Value} {vs zs : List V} (G : FnG X.prog X.w X.K X.mg X.base C k f fd ps sp) (rm : Room k X.A) (gd : X.A.guards = some []) (b : Bnd X.K fd ps np ks ix) (hx : PassesAt C X σ (E σ))
    (I : Inv X pins σ H s) (r : Vals vs us) (rz : Vals zs ws) (h1 : vs.length = np) (h2 : zs.length = ks.length) (h : sp (pick ix (vs ++ zs)) H Q (E σ)) : wpAny (model X.prog X.w) X.A (call (.ref f) us (ks.zip ws)) (EP X pins σ Q) X.xe s := by
  have rr := vals_pick (r.append rz) ix
  refine wpAny_call (codeAny_mono (G.run X.A X.stack s H ⟨us, ks.zip ws⟩ _ _ Q (E σ) rm gd I.env0 (b s us ws I.kIn (by rw [← r.length, h1]) (by rw [← rz.length, h2])) rr h) fun z s2 q => ?_)
  cases z with
  | error y => exact hx pins H s y s2 I q
  | ok fl =>
    cases fl with
    | ret u => exact I.after q
    | next => exact q.elim
    | brk => exact q.elim
    | cont => exact q.elim
def tCallG (np : Nat) (sp : Sp) (ix : List Nat) (E : L2.St → XK) (t : TA) : TE := fun σ H Q => t σ H fun vs H1 => vs.length = np ∧ sp (pick ix vs) H1 Q (E σ)
def tCallGK (np nk : Nat) (sp : Sp) (ix : List Nat) (E : L2.St → XK) (t tk : TA) : TE := fun σ H Q => t σ H fun vs H1 => tk σ H1 fun zs H2 => vs.length = np ∧ zs.length = nk ∧ sp (pick ix (vs ++ zs)) H2 Q (E σ)
/-- f(a, ..) -/
theorem pe_callG (G : FnG X.prog X.w X.K X.mg X.base C k f fd ps sp) (rm : Room k X.A) (gd : X.A.guards = some []) (gl : Gl X x) (mx : X.mg x = some (.ref f)) (kp : PySem.W.keepIn X.K (.ref f) = true) (b : Bnd X.K fd ps np [] ix) (hx : ∀ σ, PassesAt C X σ (E σ))
    (ha : PA X (e :: es) t) (nd : (x == ("__debug__" : Str)) = false) (he : starEach (e :: es) X.env = (false, eval e X.env) :: starEach es X.env) (hpl : (backTo pos (starEach es X.env)).any (·.1) = false) : PE X (.Call (.Name x p) (e :: es) [] pos) (tCallG np sp ix E t) := by
  constructor
  intro pins s σ H Q I h
  apply wpAny_Call_Name_kw
  apply ld_glob I gl mx _ nd
  apply PySem.W.callWith_K (h₀ := X.base) I.ok.mod.kin kp _ he hpl
  refine thn (ha.run pos pins s σ H _ I h) fun us s1 ⟨vs, H1, J, r, hl, q⟩ => ⟨J.kIn, ?_⟩
  have := run_G (zs := []) (ws := []) G rm gd b (hx σ) J r .nil hl rfl (by rw [List.append_nil]; exact q)
  exact this
/-- f(a, .., k = b, ..) -/
theorem pe_callGK (G : FnG X.prog X.w X.K X.mg X.base C k f fd ps sp) (rm : Room k X.A) (gd : X.A.guards = some []) (gl : Gl X x) (mx : X.mg x = some (.ref f)) (kp : PySem.W.keepIn X.K (.ref f) = true) (b : Bnd X.K fd ps np ks ix) (hx : ∀ σ, PassesAt C X σ (E σ))
    (ha : PA X (e :: es) t) (hkw : PK X kws tk) (hall : (backToKw pos (keywordEach kws X.env)).all (·.1.isSome) = true) (hks : (backToKw pos (keywordEach kws X.env)).filterMap (·.1) = ks)
    (nd : (x == ("__debug__" : Str)) = false) (he : starEach (e :: es) X.env = (false, eval e X.env) :: starEach es X.env)
    (hpl : ((backTo pos (starEach (e :: es) X.env)).any (·.1) || (backToKw pos (keywordEach kws X.env)).any (·.1.isNone)) = false) : PE X (.Call (.Name x p) (e :: es) kws pos) (tCallGK np ks.length sp ix E t tk) := by
  constructor
  intro pins s σ H Q I h
  apply wpAny_Call_Name_kw
  apply ld_glob I gl mx _ nd
  apply PySem.W.callWith_KW (h₀ := X.base) I.ok.mod.kin kp hall _ hpl he
  refine thn (ha.run pos pins s σ H _ I h) fun us s1 ⟨vs, H1, J, r, q⟩ => ?_
  refine thn (hkw.run pos pins s1 σ H1 _ J q) fun ws s2 ⟨zs, H2, J2, rz, l1, l2, q2⟩ => ⟨J2.kIn, ?_⟩
  rw [hks]
  exact run_G G rm gd b (hx σ) J2 r rz l1 l2 q2
/-- f(k = b, ..) -/
theorem pe_callGK0 (G : FnG X.prog X.w X.K X.mg X.base C k f fd ps sp) (rm : Room k X.A) (gd : X.A.guards = some []) (gl : Gl X x) (mx : X.mg x = some (.ref f)) (kp : PySem.W.keepIn X.K (.ref f) = true) (b : Bnd X.K fd ps 0 ks ix) (hx : ∀ σ, PassesAt C X σ (E σ))
    (hkw : PK X kws tk) (hall : (backToKw pos (keywordEach kws X.env)).all (·.1.isSome) = true) (hks : (backToKw pos (keywordEach kws X.env)).filterMap (·.1) = ks)
    (nd : (x == ("__debug__" : Str)) = false) (hpl : ((backTo pos (starEach [] X.env)).any (·.1) || (backToKw pos (keywordEach kws X.env)).any (·.1.isNone)) = false) : PE X (.Call (.Name x p) [] kws pos) (tCallG ks.length sp ix E tk) := by
  constructor
  intro pins s σ H Q I h
  apply wpAny_Call_Name_kw
  apply ld_glob I gl mx _ nd
  apply PySem.W.callWith_KW0 (h₀ := X.base) I.ok.mod.kin kp hall _ hpl
  refine thn (hkw.run pos pins s σ H _ I h) fun ws s2 ⟨zs, H2, J2, rz, l2, q2⟩ => ⟨J2.kIn, ?_⟩
  rw [hks]
  exact run_G (us := []) (vs := []) G rm gd b (hx σ) J2 .nil rz rfl l2 q2
end

/-! ### the end of a law -/
/-- the law's def, called on the script, gives True -/
theorem law_G {P : Program} {w : World} {K : PySem.W.Frag} {mg mb : Str → Option Value} {C : CXT} {k : Nat} {fa a : Addr} {fd : FuncData} {x : Str} {sp : Sp} {s0 : Shared} {vs : List Value} {ns : List Int}
    (inK : K.In s0.heap) (gns : s0.heap.Ns mainGlobals mg) (bns : s0.heap.Ns builtinsNs mb) (boot : ∀ y : Str, y ≠ "__name__" → mb y = bootBuiltins y) (lim : s0.heap.NoLimit) (nogen : s0.gens = #[])
    (there : s0.heap.get? a = some { cls := .type "list", data := .seq vs.toArray }) (iota : IntsAre vs ns) (short : ns.length ≤ sizeLine) (rm : Room k callerA)
    (G : ∀ base : Heap, K.In base → base.Ns mainGlobals mg → FnG P w K mg base C k fa fd [x] sp) (bnd : ∀ (s : Shared) (u : Value), BindsTo s fd ⟨[u], []⟩ [(x, u)])
    (want : ∀ H : Hp, Only H → SqL K H a (ns.map V.int) → sp [.ref a] H (fun v _ => v = .bl true) fun _ _ _ => False) (noexc : ∀ H e s', C [] H s0 (fun _ _ _ => False) e s' → False) :
    codeAny (model P w) callerA (.call (.ref fa) ⟨[.ref a], []⟩) (fun r s' => r = .ok (.ret (.bool true)) ∧ OldK s0.heap s'.heap ∧ s'.os = s0.os ∧ AllBare s'.gens) s0 := by
  have rel := vals_ints iota
  have lenV := iota.length
  have main : ∀ H : Hp, Only H → SqL K H a (ns.map V.int) → HOk P w H s0.heap → (∀ b, H b ≠ none → b = a) → (H a ≠ none → K.lookup a = none) →
      codeAny (model P w) callerA (.call (.ref fa) ⟨[.ref a], []⟩) (fun r s' => r = .ok (.ret (.bool true)) ∧ OldK s0.heap s'.heap ∧ s'.os = s0.os ∧ AllBare s'.gens) s0 := fun H only seq ok onlyA noK => by
    have isA : ∀ b u, H b = some u → b = a := fun b u z => onlyA b (by rw [z]; exact fun z => by cases z)
    have free : ∀ {b : Addr} {o : Obj} {es : Array DictEntry} {ep : Nat}, s0.heap.get? b = some o → o.data = .dict es ep → H b = none := by
      intro b o es ep e d
      cases z : H b with
      | none => rfl
      | some u =>
        rw [isA b u z, there] at e
        cases e
        have z2 : Data.seq vs.toArray _ = Data.dict es ep := d
        cases z2
    have carry : ∀ {b : Addr} {m : Str → Option Value}, s0.heap.Ns b m → (hidT s0.heap H).Ns b m := by
      rintro b m ⟨o, es, ep, e, d, r⟩
      exact ⟨o, es, ep, hidT_get e (free e d), d, r⟩
    have inB : K.In (hidT s0.heap H) := by
      intro b o e
      refine hidT_get (inK b o e) ?_
      cases z : H b with
      | none => rfl
      | some u =>
        rw [isA b u z, noK (by rw [← isA b u z, z]; exact fun z => by cases z)] at e
        cases e
    obtain ⟨mc, l1, l2⟩ := lim
    have mod : Mod K mg (hidT s0.heap H) := ⟨inB, carry gns, ⟨mb, carry bns, boot⟩, ⟨mc, carry l1, l2⟩⟩
    have e0 : Env0 P w K mg (hidT s0.heap H) callerA [] s0 H := ⟨rfl, mod, fun b o e => of_hidT e, Nat.le_of_eq (hidT_size _ _), trivial, fun b hb => (by cases hb), ok, .of_eq nogen⟩
    refine codeAny_mono ((G _ inB (carry gns)).run callerA [] s0 H ⟨[.ref a], []⟩ [.ref a] [.ref a] _ _ rm rfl e0 (bnd s0 (.ref a)) (.cons rfl .nil) (want H only seq)) fun r s' z => ?_
    cases r with
    | error e => exact (noexc H e s' z).elim
    | ok fl =>
      cases fl with
      | next => exact z.elim
      | brk => exact z.elim
      | cont => exact z.elim
      | ret u =>
        obtain ⟨v, H', os, bare, un, ok', rv, z⟩ := z
        have ev : v = .bl true := z
        subst ev
        have eu : u = Value.bool true := rv
        subst eu
        refine ⟨rfl, OldK.of_keep ?_, os, bare⟩
        intro b o e
        cases z : H b with
        | none => exact un.keep b o e z (fun y => by cases y) (fun y => by cases y)
        | some q =>
          rcases only b with y | ⟨ob, xs, y⟩
          · rw [z] at y; cases y
          · obtain ⟨g1, _⟩ := ok b _ y
            obtain ⟨g2, _⟩ := ok' b _ (un.frzs b ob _ y)
            rw [e] at g1
            cases g1
            exact g2
  cases z : K.lookup a with
  | some o =>
    have e := inK a o z
    rw [there] at e
    cases e
    refine main (fun _ => none) (fun _ => Or.inl rfl) (Or.inr ⟨_, vs.toArray, _, z, rfl, rfl, rfl, ?_, ?_⟩) (fun b u y => by cases (show (none : Option HO) = some u from y)) (fun b y => absurd rfl y) (fun y => absurd rfl y)
    · rw [List.size_toArray, lenV]; exact short
    · simpa using rel
  | none =>
    let H : Hp := fun b => if b = a then some (.frz { cls := .type "list", data := .seq vs.toArray } (.lst (ns.map V.int))) else none
    have at_ : H a = some (.frz { cls := .type "list", data := .seq vs.toArray } (.lst (ns.map V.int))) := if_pos rfl
    have off : ∀ b, b ≠ a → H b = none := fun b y => if_neg y
    refine main H (fun b => ?_) (Or.inl (Or.inr ⟨_, at_⟩)) (fun b u y => ?_) (fun b y => Decidable.byContradiction fun q => y (off b q)) fun _ => z
    · by_cases q : b = a
      · exact Or.inr ⟨_, _, q ▸ at_⟩
      · exact Or.inl (off b q)
    · by_cases q : b = a
      · subst q
        rw [at_] at y
        cases y
        exact ⟨there, by rw [List.length_map]; exact short, vs, _, rel, there⟩
      · rw [off b q] at y
        cases y
theorem walk_G {l : PySem.W.OpenLaw} {n k : Nat} {q : Program} {loose : List Str} {XP : (Str → Option Value) → Heap → Prop} {YP : World → Heap → Prop} {d : DefRec} {K : Params → PySem.W.Frag} {C : World → CXT} {sp : World → Sp} {x : Str}
    (most : l.most = some n) (few : n ≤ sizeLine) (nodef : d.params.defaults = []) (rm : Room k callerA) (hY : ∀ (w : World) (h : Heap), YP w h → (K w.params).In h)
    (F : ∀ (w : World) (mg : Str → Option Value) (fa : Addr) (b : Heap), (K w.params).In b → b.Ns mainGlobals mg → mg d.name = some (.ref fa) →
      ∃ fd : FuncData, (∀ (s : Shared) (u : Value), BindsTo s fd ⟨[u], []⟩ [(x, u)]) ∧ ∀ base : Heap, (K w.params).In base → base.Ns mainGlobals mg → FnG l.prog w (K w.params) mg base (C w) k fa fd [x] (sp w))
    (want : ∀ (w : World) (H : Hp) (a : Addr) (ns : List Int), ns.length ≤ n → Only H → SqL (K w.params) H a (ns.map V.int) → sp w [.ref a] H (fun v _ => v = .bl true) fun _ _ _ => False)
    (noexc : ∀ (w : World) (H : Hp) (s : Shared) (e : Value) (s' : Shared), C w [] H s (fun _ _ _ => False) e s' → False) : PySem.W.WalkO q loose XP YP l.row.toRowW d [] (fun f vs => PySem.call f vs) := by
  refine Att.attach_call most nodef fun w s0 s1 mg mb fa o pm cd doc a vs ns G Y z1 z2 z3 hm hobj hints hlen hg => ?_
  have inK := hY w _ Y
  obtain ⟨fd, bnd, hF⟩ := F w mg fa _ inK G.T.g hm
  exact law_G inK G.T.g G.T.b G.T.builtins G.T.nolimit hg hobj hints (Nat.le_trans hlen few) rm hF bnd (fun H h1 h2 => want w H a ns hlen h1 h2) fun H e s' => noexc w H s1 e s'
end L3

namespace L3
open PySem L2 PySem.Spec PyProof.Rows

/-! ### a def's contract -/
/-- what a def promises: from its arguments' trees, of what comes back (and what the object that was handed in to be changed is then), of what is raised -/
abbrev G3 := List T → (T → T → Prop) → (Addr → T → Prop) → Prop
def ioT : Bool → T → List T
  | true, t => [t]
  | false, _ => []
def ioV : Bool → List V → List V
  | true, vs => vs.take 1
  | false, _ => []
structure Post (K : PySem.W.Frag) (io : Bool) (F H : Hp) (G : List Addr) (vs : List V) (F' H' : Hp) (rv : List V) (rt : List T) (t0 : T) : Prop where
  ex : Ex F F'
  le : Ex F' H'
  fn : ∀ b, H b ≠ none → F b = none → b ∉ G → F' b = none
  keep : ∀ b o, H b = some o → b ∉ G → H' b = some o
  dom : ∀ b, H b ≠ none → H' b ≠ none
  live : ∃ G', TrL K F' H' (rt ++ ioT io t0) (rv ++ ioV io vs) G' ∧ G'.Nodup ∧ ∀ g ∈ G', F' g = none ∧ (H g = none ∨ g ∈ G)
  own : io = true → own t0 = true
def ArgOk : Bool → List T → Prop
  | false, ts => stbL ts = true
  | true, t0 :: ts => own t0 = true ∧ stbL ts = true
  | true, [] => False
def Low (K : PySem.W.Frag) (n : Nat) (io : Bool) (g : G3) : Sp := fun vs H Q E => ∃ (F : Hp) (ts : List T) (G : List Addr), Ex F H ∧ TrL K F H ts vs G ∧ G.Nodup ∧ (∀ g ∈ G, F g = none) ∧ ts.length = n ∧ ArgOk io ts ∧
  ∃ (q : T → T → Prop) (R : Addr → T → Prop), g ts q R ∧ (∀ t t0, q t t0 → ∀ F' H' v, Post K io F H G vs F' H' [v] [t] t0 → Q v H') ∧ (∀ a t0, R a t0 → ∀ F' H', Post K io F H G vs F' H' [] [] t0 → E (.ref a) none H')

/-- the constants of a body -/
def cstOf (K : PySem.W.Frag) (io : Bool) (F H : Hp) (G : List Addr) (vs : List V) : Cst := ⟨K, F, H, G, match io, vs with | true, .ref p :: _ => some p | _, _ => none⟩
theorem cstOf_f {K : PySem.W.Frag} {F H : Hp} {G : List Addr} {vs : List V} : (cstOf K false F H G vs).io = none := rfl
/-- the content of the object that was handed in to be changed -/
@[simp] def ioR : Bool → Rho → T
  | true, some t :: _ => t
  | _, _ => .non
@[simp] def start3 (n : Nat) (ts : List T) : Rho := ts.map some ++ List.replicate (n - ts.length) none
theorem live_none {K : PySem.W.Frag} {F H : Hp} : ∀ n : Nat, Live K F H (List.replicate n none) (List.replicate n none) []
  | 0 => .nil
  | n + 1 => .skip (live_none n)
theorem own_ref {K : PySem.W.Frag} {F H : Hp} {t : T} {v : V} {G : List Addr} (h : Tr K F H t v G) (o : own t = true) : ∃ p, v = .ref p := by
  cases h <;> first | exact ⟨_, rfl⟩ | (simp [own] at o)
theorem sim_start {K : PySem.W.Frag} {io : Bool} {F H : Hp} {G : List Addr} {vs : List V} {ts : List T} {N : List Str} (e : Ex F H) (r : TrL K F H ts vs G) (nd : G.Nodup) (hG : ∀ g ∈ G, F g = none) (ao : ArgOk io ts) :
    Sim (cstOf K io F H G vs) F H (start N vs) (start3 N.length ts) [] [] := by
  refine ⟨e, Ex.refl F, fun b _ h _ => h, fun b o h _ => h, fun b h => h, rfl, ⟨G, ?_, nd, fun g hm => ⟨hG g hm, .inr hm⟩⟩, fun p hp => ?_⟩
  · show Live K F H (ts.map some ++ List.replicate (N.length - ts.length) none) (vs.map some ++ List.replicate (N.length - vs.length) none) G
    rw [r.length]
    have := Live.of_trL r (live_none (K := K) (F := F) (H := H) (N.length - vs.length))
    rwa [List.append_nil] at this
  · cases io with
    | false => cases hp
    | true =>
      cases r with
      | nil => exact (show False from ao).elim
      | cons h r' =>
        obtain ⟨o, _⟩ := (show own _ = true ∧ stbL _ = true from ao)
        obtain ⟨p', rfl⟩ := own_ref h o
        have e : p' = p := Option.some.inj hp
        subst e
        exact ⟨rfl, _, rfl, o⟩
/-- at the end: what lies on top and the object that was handed in -/
theorem post_of {K : PySem.W.Frag} {io : Bool} {F H F' H' : Hp} {G : List Addr} {vs : List V} {ts rt : List T} {rv : List V} {σ : L2.St} {ρ : Rho} (ao : ArgOk io ts) (r : TrL K F H ts vs G) (hl : rt.length = rv.length) (I : Sim (cstOf K io F H G vs) F' H' σ ρ rt rv) : Post K io F H G vs F' H' rv rt (ioR io ρ) := by
  refine ⟨I.fx, I.ex, fun b h1 h2 h3 => I.fn b h1 h2 h3, fun b o h n => I.keep b o h n, fun b h => I.dom b h, ?_, fun ho => ?_⟩
  · obtain ⟨G1, l, nd, hg⟩ := I.live
    obtain ⟨Ga, Gb, rfl, q1, q2⟩ := Live.to_trL hl l
    cases io with
    | false =>
      refine ⟨Ga, ?_, (List.nodup_append.mp nd).1, fun g hm => hg g (List.mem_append_left _ hm)⟩
      show TrL K F' H' (rt ++ []) (rv ++ []) Ga
      iterate 2 rw [List.append_nil]
      exact q1
    | true =>
      cases r with
      | nil => exact (show False from ao).elim
      | @cons x v xs vs' G1 G2 h r' =>
        obtain ⟨o, _⟩ := (show own _ = true ∧ stbL _ = true from ao)
        obtain ⟨p', rfl⟩ := own_ref h o
        obtain ⟨e1, t0, e2, o2⟩ := I.iop p' rfl
        cases ρ with
        | nil => simp at e2
        | cons x0 ρ' =>
          have e3 : x0 = some t0 := by simpa using e2
          subst e3
          generalize hσ : σ = σ0 at q2
          cases q2 with
          | @cons _ v0 _ _ Gc Gd h0 q3 =>
            subst hσ
            have e4 : v0 = .ref p' := by simpa using e1
            subst e4
            refine ⟨Ga ++ Gc, ?_, ?_, fun g hm => hg g ?_⟩
            · exact TrL.append q1 (TrL.one h0)
            · exact nd.sublist ((List.sublist_append_left Gc Gd).append_left Ga)
            · rcases List.mem_append.mp hm with z | z
              · exact List.mem_append.mpr (.inl z)
              · exact List.mem_append_right _ (List.mem_append_left _ z)
  · subst ho
    cases r with
    | nil => exact (show False from ao).elim
    | cons h r' =>
      obtain ⟨o, _⟩ := (show own _ = true ∧ stbL _ = true from ao)
      obtain ⟨p', rfl⟩ := own_ref h o
      obtain ⟨e1, t0, e2, o2⟩ := I.iop p' rfl
      cases ρ with
      | nil => simp at e2
      | cons x0 ρ' =>
        have e3 : x0 = some t0 := by simpa using e2
        subst e3
        exact o2

/-- what is raised comes where it is wished -/
def Lk (c : Cst) (R : Addr → Rho → Prop) (W : WX) : Prop := ∀ F H σ ρ tt tv a, Sim c F H σ ρ tt tv → R a ρ → W (.ref a) none σ H
theorem Lk.none {c : Cst} : Lk c (fun _ _ => False) (fun _ _ _ _ => False) := fun _ _ _ _ _ _ _ _ h => h.elim

/-- the wish of a def's body -/
abbrev WO (E : XK) : WX := fun cls d _ H => E cls d H
section
variable {P : Program} {mg : Str → Option Value} {w : World} {base : Heap} {K : PySem.W.Frag}
/-- THE RULE for a def: its body over trees -/
theorem fn3 {x qual : Str} {st : Stmt} {f : Addr} {fd : FuncData} {N ps : List Str} {k n : Nat} {io : Bool} {g : G3} (F : Fun K x qual st f fd) (S : FnScope N ps (defScope st)) (hn : ps.length = n)
    (hbody : ∀ (cdv : Value) (A : Around) (outer : List Env) (s : Shared) (F0 H : Hp) (G : List Addr) (vs : List V) (E : XK) (ts : List T) (Q : T → T → Prop) (R : Addr → T → Prop),
      Room k (A.deeper (envOfC qual (defScope st) s.heap.objs.size f cdv)) → A.guards = some [] → ts.length = n → g ts Q R →
      L2N.Takes (cxOf (L2N.CX P w) P w K mg base N qual (defScope st) f cdv A outer s H E) (WO E) → Lk (cstOf K io F0 H G vs) (fun a ρ => R a (ioR io ρ)) (WO E) →
      ∃ wb, VB (cxOf (L2N.CX P w) P w K mg base N qual (defScope st) f cdv A outer s H E) (cstOf K io F0 H G vs) (defBody st) wb ∧ wb { nx := fun ρ => Q .non (ioR io ρ), rt := fun t ρ => Q t (ioR io ρ) } (start3 N.length ts)) :
    FnG P w K mg base (L2N.CX P w) (k + 1) f fd ps (Low K n io g) := by
  refine fnG_of F S (fun vs H Q E h => ?_) (fun cdv A outer s H vs Q E hr gd h => ?_)
  · obtain ⟨F0, ts, G, _, r, _, _, hl, _⟩ := h
    rw [← r.length, hl, hn]
  · obtain ⟨F0, ts, G, ex, r, nd, hG, hl, ao, q, R, hg, hq, hR⟩ := h
    have lk : Lk (cstOf K io F0 H G vs) (fun a ρ => R a (ioR io ρ)) (WO E) := fun F' H' σ ρ tt tv a I h => by
      have J : Sim (cstOf K io F0 H G vs) F' H' σ ρ (tt ++ []) (tv ++ []) := by simpa using I
      have J2 : Sim (cstOf K io F0 H G vs) F' H' σ ρ [] [] := J.dropL I.tl
      exact hR _ _ h F' H' (post_of (rt := []) (rv := []) ao r rfl J2)
    obtain ⟨wb, ⟨tb, pb, kb⟩, hw⟩ := hbody cdv A outer s F0 H G vs E ts q R hr gd hl hg (L2N.takes_of rfl rfl rfl rfl) lk
    refine ⟨tb, pb, kb F0 H (start N vs) (start3 N.length ts) [] [] _ _ (sim_start ex r nd hG ao) ⟨fun F' H' σ ρ I h => ?_, fun F' H' σ ρ t v I h => ?_, fun _ _ _ _ _ (h : False) => h.elim, fun _ _ _ _ _ (h : False) => h.elim⟩ hw⟩
    · exact hq _ _ h F' H' .non (post_of ao r rfl (I.pushG .non rfl))
    · exact hq _ _ h F' H' v (post_of ao r rfl I)
end

/-! ### calls -/
section
variable {c : Cst} {F H : Hp} {σ : L2.St} {ρ : Rho} {tt ts : List T} {tv vs : List V}
/-- what lies on top is frozen and taken off -/
theorem Sim.takeFrz (I : Sim c F H σ ρ (ts ++ tt) (vs ++ tv)) (hl : ts.length = vs.length) : ∃ F', Ex F F' ∧ Sim c F' H σ ρ tt tv ∧ TrL c.K F' H (frL ts) vs [] := by
  have tl := I.tl
  simp only [List.length_append] at tl
  obtain ⟨G, l, nd, hg⟩ := I.live
  rw [List.map_append, List.map_append, List.append_assoc, List.append_assoc] at l
  obtain ⟨G1, G2, rfl, q1, q2⟩ := Live.to_trL hl l
  have d := List.nodup_append.mp nd
  have eF : Ex F (fz F H G1) := fz_ex fun g hm => (hg g (List.mem_append_left _ hm)).1
  refine ⟨fz F H G1, eF, ⟨fz_le I.ex, I.fx.trans eF, fun b h1 h2 h3 => ?_, I.keep, I.dom, by omega, ⟨G2, q2.mono eF fun _ _ => rfl, d.2.1, fun g hm => ⟨?_, (hg g (List.mem_append_right _ hm)).2⟩⟩, I.iop⟩, q1.frz eF H fun g hm => fz_in hm⟩
  · rw [fz_out fun z => ((hg b (List.mem_append_left _ z)).2.elim h1 h3)]
    exact I.fn b h1 h2 h3
  · rw [fz_out fun z => d.2.2 g z g hm rfl]
    exact (hg g (List.mem_append_right _ hm)).1
/-- behind a call that changes nothing that stood -/
theorem Sim.back (I : Sim c F H σ ρ tt tv) {F' H' : Hp} {ws rv : List V} {rt : List T} {t0 : T} (p : Post c.K false F H [] ws F' H' rv rt t0) (hl : rt.length = rv.length) : Sim c F' H' σ ρ (rt ++ tt) (rv ++ tv) := by
  obtain ⟨G, l, nd, hg⟩ := I.live
  obtain ⟨G', r, nd', hg'⟩ := p.live
  have r : TrL c.K F' H' rt rv G' := by
    have r2 : TrL c.K F' H' (rt ++ []) (rv ++ []) G' := r
    rwa [List.append_nil, List.append_nil] at r2
  have ho : ∀ g ∈ G, ∃ o, H g = some o := fun g hm => by
    rcases l.there g hm with ⟨_, h⟩ | ⟨_, h⟩ | ⟨_, _, _, h⟩ <;> exact ⟨_, h⟩
  have kk : ∀ g ∈ G, H' g = H g := fun g hm => by
    obtain ⟨o, h⟩ := ho g hm
    rw [h]; exact p.keep g o h (by simp)
  refine ⟨p.le, I.fx.trans p.ex, fun b h1 h2 h3 => p.fn b (I.dom b h1) (I.fn b h1 h2 h3) (by simp), fun b o h n => p.keep b o (I.keep b o h n) (by simp), fun b h => p.dom b (I.dom b h), by simp [hl, I.tl], ⟨G' ++ G, ?_, List.nodup_append.mpr ⟨nd', nd, fun a ha b hb z => ?_⟩, fun g hm => ?_⟩, I.iop⟩
  · rw [List.map_append, List.map_append, List.append_assoc, List.append_assoc]
    exact Live.of_trL r (l.mono p.ex kk)
  · subst z
    obtain ⟨o, h⟩ := ho a hb
    rcases (hg' a ha).2 with z | z
    · rw [h] at z; cases z
    · simp at z
  · obtain hm | hm := List.mem_append.mp hm
    · refine ⟨(hg' g hm).1, ?_⟩
      rcases (hg' g hm).2 with z | z
      · exact .inl (I.fresh0 z)
      · simp at z
    · obtain ⟨o, h⟩ := ho g hm
      exact ⟨p.fn g (by rw [h]; exact fun z => by cases z) (hg g hm).1 (by simp), (hg g hm).2⟩
/-- what a call asks, where nothing is handed in to be changed -/
theorem Sim.low {E : XK} {n : Nat} {g : G3} {Q : VK} {q : T → T → Prop} {R : Addr → T → Prop} (I : Sim c F H σ ρ (ts ++ tt) (vs ++ tv)) (hl : ts.length = vs.length) (hn : ts.length = n) (h : g (frL ts) q R)
    (hq : ∀ t t0 F' H' v, Sim c F' H' σ ρ (t :: tt) (v :: tv) → q t t0 → Q v H') (hR : ∀ a t0 F' H', Sim c F' H' σ ρ tt tv → R a t0 → E (.ref a) none H') : Low c.K n false g vs H Q E := by
  obtain ⟨F', e, J, r⟩ := I.takeFrz hl
  exact ⟨F', frL ts, [], J.ex, r, List.nodup_nil, by simp, by rw [frL_map, List.length_map, hn], stbL_frL ts, q, R, h, fun t t0 h F2 H2 v p => hq t t0 F2 H2 v (J.back p rfl) h,
    fun a t0 h F2 H2 p => hR a t0 F2 H2 (J.back (rt := []) (rv := []) p rfl) h⟩
/-- behind a call that may change what the name i holds -/
theorem Sim.backIo {i : Nat} {p : Addr} {G1 G2 : List Addr} (I : Sim c F H σ ρ tt tv) (hi : σ[i]? = some (some (.ref p))) (hlt : i < ρ.length)
    (l : Live c.K F H (tt.map some ++ ρ.set i none) (tv.map some ++ σ) G2) (nd : (G1 ++ G2).Nodup) (hg : ∀ g ∈ G1 ++ G2, F g = none ∧ (c.H0 g = none ∨ g ∈ c.G0))
    {F' H' : Hp} {ws rv : List V} {rt : List T} {t1 : T} (P : Post c.K true F H G1 (.ref p :: ws) F' H' rv rt t1) (hl : rt.length = rv.length) : Sim c F' H' σ (ρ.set i (some t1)) (rt ++ tt) (rv ++ tv) := by
  obtain ⟨G', r, nd', hg'⟩ := P.live
  have r : TrL c.K F' H' (rt ++ [t1]) (rv ++ [.ref p]) G' := r
  obtain ⟨rv1, rv2, Ga, Gb, e1, rfl, r1, r2⟩ := r.split
  have hrv : rv1 = rv ∧ rv2 = [.ref p] := List.append_inj' e1.symm (by
    have a := r2.length
    simp only [List.length_cons, List.length_nil] at a ⊢
    omega)
  obtain ⟨rfl, rfl⟩ := hrv
  have nd12 := List.nodup_append.mp nd
  have ho : ∀ g ∈ G2, ∃ o, H g = some o := fun g hm => by
    rcases l.there g hm with ⟨_, h⟩ | ⟨_, h⟩ | ⟨_, _, _, h⟩ <;> exact ⟨_, h⟩
  have nG : ∀ g ∈ G2, g ∉ G1 := fun g hm z => nd12.2.2 g z g hm rfl
  have kk : ∀ g ∈ G2, H' g = H g := fun g hm => by
    obtain ⟨o, h⟩ := ho g hm
    rw [h]; exact P.keep g o h (nG g hm)
  have l2 := l.mono P.ex kk
  have hG1 : ∀ b, c.H0 b ≠ none → b ∉ c.G0 → b ∉ G1 := fun b h1 h2 z => by
    rcases (hg b (List.mem_append_left _ z)).2 with q | q
    · exact h1 q
    · exact h2 q
  have l3 : ∃ G', Live c.K F' H' (tt.map some ++ ρ.set i (some t1)) (tv.map some ++ σ) G' ∧ ∃ G3, G'.Perm (Gb ++ G3) ∧ G3.Sublist G2 := by
    have r3 : ∃ Gc, Tr c.K F' H' t1 (.ref p) Gc ∧ Gb = Gc := by
      cases r2 with
      | cons h q =>
        cases q
        exact ⟨_, h, List.append_nil _⟩
    obtain ⟨Gc, r3, rfl⟩ := r3
    obtain ⟨G4, q4, G5, pm, s⟩ := Live.put r3 (i := (tt.map some).length + i) l2 (by simp [hlt])
    have hlen : (tt.map some).length = (tv.map some).length := by simp [I.tl]
    rw [ap_set, List.set_set] at q4
    rw [hlen, ap_set, set_same hi] at q4
    exact ⟨G4, q4, G5, pm, s⟩
  obtain ⟨G4, q4, G5, pm, s⟩ := l3
  refine ⟨P.le, I.fx.trans P.ex, fun b h1 h2 h3 => P.fn b (I.dom b h1) (I.fn b h1 h2 h3) (hG1 b h1 h3), fun b o h n => P.keep b o (I.keep b o h n) (hG1 b (by rw [h]; exact fun z => by cases z) n), fun b h => P.dom b (I.dom b h), by simp [hl, I.tl], ⟨Ga ++ G4, ?_, ?_, fun g hm => ?_⟩, fun p' hp' => ?_⟩
  · rw [List.map_append, List.map_append, List.append_assoc, List.append_assoc]
    exact Live.of_trL r1 q4
  · have w : (Ga ++ (Gb ++ G5)).Nodup := by
      rw [← List.append_assoc]
      refine List.nodup_append.mpr ⟨nd', nd12.2.1.sublist s, fun a ha b hb z => ?_⟩
      subst z
      obtain ⟨o, h⟩ := ho a (s.subset hb)
      rcases (hg' a ha).2 with z | z
      · rw [h] at z; cases z
      · exact nG a (s.subset hb) z
    exact (pm.append_left Ga).nodup_iff.mpr w
  · have hm' : g ∈ Ga ++ Gb ∨ g ∈ G5 := by
      rcases List.mem_append.mp hm with z | z
      · exact .inl (List.mem_append_left _ z)
      · rcases List.mem_append.mp (pm.mem_iff.mp z) with z | z
        · exact .inl (List.mem_append_right _ z)
        · exact .inr z
    rcases hm' with z | z
    · refine ⟨(hg' g z).1, ?_⟩
      rcases (hg' g z).2 with q | q
      · exact .inl (I.fresh0 q)
      · exact (hg g (List.mem_append_left _ q)).2
    · have z2 := s.subset z
      obtain ⟨o, h⟩ := ho g z2
      exact ⟨P.fn g (by rw [h]; exact fun z => by cases z) (hg g (List.mem_append_right _ z2)).1 (nG g z2), (hg g (List.mem_append_right _ z2)).2⟩
  · obtain ⟨a, t, b, d⟩ := I.iop p' hp'
    refine ⟨a, ?_⟩
    by_cases z : i = 0
    · subst z
      exact ⟨t1, List.getElem?_set_self hlt, P.own rfl⟩
    · exact ⟨t, by rw [List.getElem?_set_ne z]; exact b, d⟩
/-- what a call asks, where the content of the name i is handed in to be changed -/
theorem Sim.lowIo {E : XK} {n i : Nat} {g : G3} {Q : VK} {t0 : T} {p : Addr} {q : T → T → Prop} {R : Addr → T → Prop} (I : Sim c F H σ ρ (ts ++ tt) (vs ++ tv)) (hl : ts.length = vs.length) (hn : ts.length + 1 = n)
    (hi : σ[i]? = some (some (.ref p))) (h0 : ρ[i]? = some (some t0)) (ho : own t0 = true) (h : g (t0 :: frL ts) q R)
    (hq : ∀ t t1 F' H' v, Sim c F' H' σ (ρ.set i (some t1)) (t :: tt) (v :: tv) → q t t1 → Q v H') (hR : ∀ a t1 F' H', Sim c F' H' σ (ρ.set i (some t1)) tt tv → R a t1 → E (.ref a) none H') : Low c.K n true g (.ref p :: vs) H Q E := by
  obtain ⟨F', e, J, r⟩ := I.takeFrz hl
  obtain ⟨G, l, nd, hg⟩ := J.live
  have h' : (tt.map some ++ ρ)[(tt.map some).length + i]? = some (some t0) := by rw [ap_get]; exact h0
  obtain ⟨v, G1, G2, e1, r1, l2, pm⟩ := l.take h'
  have hlen : (tt.map some).length = (tv.map some).length := by simp [J.tl]
  rw [hlen, ap_get, hi] at e1
  have ev : V.ref p = v := by simpa using e1
  subst ev
  rw [ap_set] at l2
  have hlt : i < ρ.length := (List.getElem?_eq_some_iff.mp h0).1
  have nd2 : (G1 ++ G2).Nodup := pm.nodup_iff.mp nd
  have hg2 : ∀ g ∈ G1 ++ G2, F' g = none ∧ (c.H0 g = none ∨ g ∈ c.G0) := fun g hm => hg g (pm.mem_iff.mpr hm)
  have r2 : TrL c.K F' H (t0 :: frL ts) (.ref p :: vs) G1 := by
    have := TrL.cons r1 r
    rwa [List.append_nil] at this
  exact ⟨F', t0 :: frL ts, G1, J.ex, r2, (List.nodup_append.mp nd2).1, fun g hm => (hg2 g (List.mem_append_left _ hm)).1, (by rw [List.length_cons, frL_map, List.length_map]; exact hn), ⟨ho, stbL_frL ts⟩, q, R, h,
    fun t t1 h F2 H2 v P => hq t t1 F2 H2 v (J.backIo hi hlt l2 nd2 hg2 P rfl) h, fun a t1 h F2 H2 P => hR a t1 F2 H2 (J.backIo (rt := []) (rv := []) hi hlt l2 nd2 hg2 P rfl) h⟩
end
section
variable {X : Cx} {c : Cst} {W : WX} {R : Addr → Rho → Prop} {k n : Nat} {f : Addr} {fd : FuncData} {ps : List Str} {g : G3} {x : Str} {p pos : Pos} {e : Expr} {es : List Expr} {was : WA}
/-- f(..), nothing handed in to be changed -/
@[simp] def wCall (n : Nat) (g : G3) (R : Addr → Rho → Prop) (was : WA) (ρ : Rho) (Q : T → Rho → Prop) : Prop := was ρ fun ts ρ1 => ts.length = n ∧ g (frL ts) (fun t _ => Q t ρ1) fun a _ => R a ρ1
/-- does the name own what it holds -/
@[simp] def isOwn : Option (Option T) → Bool
  | some (some t) => own t
  | _ => false
/-- f(x, ..), what x (slot i) holds handed in to be changed -/
@[simp] def wCallIo (n i : Nat) (g : G3) (R : Addr → Rho → Prop) (was : WA) (ρ : Rho) (Q : T → Rho → Prop) : Prop := isOwn ρ[i]? = true ∧ was ρ fun ts ρ1 => match ρ1[i]? with
  | some (some t0) => own t0 = true ∧ ts.length + 1 = n ∧ g (t0 :: frL ts) (fun t t1 => Q t (ρ1.set i (some t1))) fun a t1 => R a (ρ1.set i (some t1))
  | _ => False
theorem pick_all {α : Type} : ∀ xs : List α, pick (List.range xs.length) xs = xs
  | [] => rfl
  | x :: xs => by
    have ih := pick_all xs
    unfold pick at ih ⊢
    rw [List.length_cons, List.range_succ_eq_map, List.filterMap_cons]
    simp only [List.getElem?_cons_zero, List.filterMap_map]
    rw [show ((fun i => (x :: xs)[i]?) ∘ Nat.succ) = (fun i => xs[i]?) from funext fun i => by simp, ih]
/-- the values at the places ix, as pick, on trees -/
theorem sim_pick {F H : Hp} {σ : L2.St} {ρ : Rho} {tt ts : List T} {tv vs : List V} (I : Sim c F H σ ρ (ts ++ tt) (vs ++ tv)) (hl : ts.length = vs.length) (ix : List Nat) :
    ∃ F', Ex F F' ∧ Sim c F' H σ ρ tt tv ∧ TrL c.K F' H (pick ix (frL ts)) (pick ix vs) [] := by
  obtain ⟨F', e, J, r⟩ := I.takeFrz hl
  refine ⟨F', e, J, ?_⟩
  induction ix with
  | nil => exact .nil
  | cons i ix ih =>
    unfold pick
    rw [List.filterMap_cons, List.filterMap_cons]
    cases h : (frL ts)[i]? with
    | none =>
      have : vs[i]? = none := by
        rw [List.getElem?_eq_none_iff] at h ⊢
        rw [← r.length]; exact h
      rw [this]
      exact ih
    | some t =>
      obtain ⟨v, G1, hv, ht, s⟩ := r.get h
      rw [hv]
      have e2 : G1 = [] := List.eq_nil_of_sublist_nil s
      subst e2
      exact TrL.cons (G1 := []) (G2 := []) ht ih
/-- f(..), nothing handed in to be changed; ix: where each parameter's value stands among the written ones -/
@[simp] def wCallP (n : Nat) (ix : List Nat) (np : Nat) (g : G3) (R : Addr → Rho → Prop) (was : WA) (ρ : Rho) (Q : T → Rho → Prop) : Prop := was ρ fun ts ρ1 => ts.length = np ∧ (pick ix (frL ts)).length = n ∧ g (pick ix (frL ts)) (fun t _ => Q t ρ1) fun a _ => R a ρ1
theorem stbL_pick {ts : List T} : ∀ ix : List Nat, stbL (pick ix (frL ts)) = true
  | [] => rfl
  | i :: ix => by
    unfold pick
    rw [List.filterMap_cons]
    cases h : (frL ts)[i]? with
    | none => exact stbL_pick ix
    | some t =>
      have h1 := stbL_frL ts
      rw [stbL_all, List.all_eq_true] at h1
      show (stb t && stbL (pick ix (frL ts))) = true
      rw [h1 t (List.mem_of_getElem? h), stbL_pick ix]
      rfl
theorem Sim.lowP {F H : Hp} {σ : L2.St} {ρ : Rho} {tt ts : List T} {tv vs : List V} {E : XK} {g : G3} {Q : VK} {q : T → T → Prop} {R : Addr → T → Prop} (I : Sim c F H σ ρ (ts ++ tt) (vs ++ tv)) (hl : ts.length = vs.length) (ix : List Nat) (hn : (pick ix (frL ts)).length = n) (h : g (pick ix (frL ts)) q R)
    (hq : ∀ t t0 F' H' v, Sim c F' H' σ ρ (t :: tt) (v :: tv) → q t t0 → Q v H') (hR : ∀ a t0 F' H', Sim c F' H' σ ρ tt tv → R a t0 → E (.ref a) none H') : Low c.K n false g (pick ix vs) H Q E := by
  obtain ⟨F', e, J, r⟩ := sim_pick I hl ix
  exact ⟨F', _, [], J.ex, r, List.nodup_nil, by simp, hn, stbL_pick ix, q, R, h, fun t t0 h F2 H2 v p => hq t t0 F2 H2 v (J.back p rfl) h,
    fun a t0 h F2 H2 p => hR a t0 F2 H2 (J.back (rt := []) (rv := []) p rfl) h⟩
/-- what is known of a def that is called -/
structure Kn (X : Cx) (c : Cst) (W : WX) (R : Addr → Rho → Prop) : Prop where
  gd : X.A.guards = some []
  tk : L2N.Takes X W
  lk : Lk c R W
  hK : X.K = c.K
/-- a def of the text that keeps the promise g -/
structure Df (P : Program) (w : World) (K : PySem.W.Frag) (mg : Str → Option Value) (base : Heap) (x : Str) (k : Nat) (f : Addr) (fd : FuncData) (ps : List Str) (n : Nat) (io : Bool) (g : G3) : Prop where
  G : FnG P w K mg base (L2N.CX P w) k f fd ps (Low K n io g)
  mx : mg x = some (.ref f)
  (kp : PySem.W.keepIn K (.ref f) = true)
theorem ve_call {ix : List Nat} {np : Nat} (D : Df X.prog X.w X.K X.mg X.base x k f fd ps n false g) (b : Bnd X.K fd ps np [] ix) (hr : Room k X.A) (kn : Kn X c W R) (ha : VA X c (e :: es) was) (hg : Gl X x := by rfl) (hdb : (x == ("__debug__" : Str)) = false := by decide)
    (hpl : (backTo pos (starEach es X.env)).any (·.1) = false := by rfl) (he : starEach (e :: es) X.env = (false, eval e X.env) :: starEach es X.env := by rfl) :
    VE X c (.Call (.Name x p) (e :: es) [] pos) (wCallP n ix np g R was) := by
  obtain ⟨ta, pa, ka⟩ := ha
  refine ⟨_, pe_callG D.G hr kn.gd hg D.mx D.kp b (fun σ => L2N.passAt kn.tk σ) pa hdb he hpl, fun F H σ ρ tt tv Q P I h k => ?_⟩
  refine ka F H σ ρ tt tv _ _ I h fun vs H1 F1 ts ρ1 I1 hl h1 => ⟨by rw [← hl]; exact h1.1, ?_⟩
  rw [kn.hK]
  exact I1.lowP hl ix h1.2.1 h1.2.2 (fun t t0 F' H' v J q => k _ _ _ _ _ J q) fun a t0 F' H' J q => kn.lk F' H' σ ρ1 tt tv a J q
theorem ve_callIo {np i : Nat} {xn : Str} {pn : Pos} (D : Df X.prog X.w X.K X.mg X.base x k f fd ps n true g) (b : Bnd X.K fd ps np [] (List.range np)) (hr : Room k X.A) (kn : Kn X c W R) (ha : VA X c es was)
    (hN : X.N[i]? = some xn := by rfl) (hv : Vis X.env.scope xn := by first | exact Or.inl rfl | exact Or.inr (Or.inl rfl) | exact Or.inr (Or.inr rfl)) (hd : (xn == ("__debug__" : Str)) = false := by decide)
    (hcd : (xn == ("__classdict__" : Str)) = false := by decide) (hg : Gl X x := by rfl) (hdb : (x == ("__debug__" : Str)) = false := by decide) (he : starEach (.Name xn pn :: es) X.env = (false, eval (.Name xn pn) X.env) :: starEach es X.env := by rfl) (hpl : (backTo pos (starEach es X.env)).any (·.1) = false := by rfl) (hnp : np = n := by rfl) :
    VE X c (.Call (.Name x p) (.Name xn pn :: es) [] pos) (wCallIo n i g R was) := by
  obtain ⟨ta, pa, ka⟩ := ha
  refine ⟨_, pe_callG D.G hr kn.gd hg D.mx D.kp b (fun σ => L2N.passAt kn.tk σ) (pa_cons (pe_var (i := i) hN hv hd hcd) pa he) hdb he hpl, fun F H σ ρ tt tv Q P I h k => ?_⟩
  obtain ⟨h0, h⟩ := h
  obtain ⟨t, e0, o0⟩ : ∃ t, ρ[i]? = some (some t) ∧ own t = true := by
    cases z : ρ[i]? with
    | none => rw [z] at h0; cases h0
    | some y =>
      cases y with
      | none => rw [z] at h0; cases h0
      | some t => rw [z] at h0; exact ⟨t, rfl, h0⟩
  have hp : ∃ p, σ[i]? = some (some (.ref p)) := by
    obtain ⟨G, l, _, _⟩ := I.live
    have h' : (tt.map some ++ ρ)[(tt.map some).length + i]? = some (some t) := by rw [ap_get]; exact e0
    obtain ⟨v, G1, G2, e1, r1, _, _⟩ := l.take h'
    have hlen : (tt.map some).length = (tv.map some).length := by simp [I.tl]
    rw [hlen, ap_get] at e1
    obtain ⟨p, rfl⟩ := own_ref r1 o0
    exact ⟨p, e1⟩
  obtain ⟨p, e1⟩ := hp
  refine ⟨.ref p, e1, ?_⟩
  refine ka F H σ ρ tt tv _ _ I h fun vs H1 F1 ts ρ1 I1 hl h1 => ?_
  obtain ⟨t0, e2, o2, hn, hg2⟩ := slot_of (P := fun t0 => own t0 = true ∧ ts.length + 1 = n ∧ g (t0 :: frL ts) (fun t t1 => Q t (ρ1.set i (some t1))) fun a t1 => R a (ρ1.set i (some t1))) h1
  have hall : pick (List.range np) (V.ref p :: vs) = V.ref p :: vs := by
    have : (V.ref p :: vs).length = np := by rw [List.length_cons, ← hl, hn, hnp]
    rw [← this]
    exact pick_all _
  refine ⟨by rw [List.length_cons, ← hl, hn, hnp], ?_⟩
  rw [hall, kn.hK]
  exact I1.lowIo hl hn e1 e2 o2 hg2 (fun t t1 F' H' v J q => k _ _ _ _ _ J q) fun a t1 F' H' J q => kn.lk F' H' σ _ tt tv a J q
/-! keywords -/
def VK2 (X : Cx) (c : Cst) (kws : List Keyword) (w : WA) : Prop :=
  ∃ te : TA, PK X kws te ∧ ∀ (F H : Hp) (σ : L2.St) (ρ : Rho) (tt : List T) (tv : List V) (Q : List T → Rho → Prop) (P : List V → Hp → Prop), Sim c F H σ ρ tt tv → w ρ Q →
    (∀ vs H' F' ts ρ', Sim c F' H' σ ρ' (ts ++ tt) (vs ++ tv) → ts.length = vs.length → Q ts ρ' → P vs H') → te σ H P
theorem vk_nil : VK2 X c [] wNil := ⟨_, pk_nil, fun F H σ ρ tt tv Q P I h k => k [] H F [] ρ I rfl h⟩
theorem vk_cons {wa : WE} {nm : Option Str} {kpos : Pos} {kws : List Keyword} (ha : VE X c e wa) (hr : VK2 X c kws was) : VK2 X c (⟨nm, e, kpos⟩ :: kws) (wCons wa was) := by
  obtain ⟨ta, pa, ka⟩ := ha
  obtain ⟨tr, pr, kr⟩ := hr
  refine ⟨_, pk_cons pa pr, fun F H σ ρ tt tv Q P I h k => ka F H σ ρ tt tv _ _ I h fun v H1 F1 t ρ1 I1 h1 => ?_⟩
  refine kr F1 H1 σ ρ1 _ _ _ _ I1 h1 fun vs H2 F2 ts ρ2 I2 hl h2 => ?_
  exact k (v :: vs) H2 F2 (t :: ts) ρ2 (I2.mid hl) (by simp [hl]) h2
theorem ve_callK0 {ix : List Nat} {ks : List Str} {kws : List Keyword} (D : Df X.prog X.w X.K X.mg X.base x k f fd ps n false g) (b : Bnd X.K fd ps 0 ks ix) (hr : Room k X.A) (kn : Kn X c W R) (ha : VK2 X c kws was) (hg : Gl X x := by rfl) (hdb : (x == ("__debug__" : Str)) = false := by decide)
    (hall : (backToKw pos (keywordEach kws X.env)).all (·.1.isSome) = true := by rfl) (hks : (backToKw pos (keywordEach kws X.env)).filterMap (·.1) = ks := by rfl) (hpl : ((backTo pos (starEach [] X.env)).any (·.1) || (backToKw pos (keywordEach kws X.env)).any (·.1.isNone)) = false := by rfl) :
    VE X c (.Call (.Name x p) [] kws pos) (wCallP n ix ks.length g R was) := by
  obtain ⟨ta, pa, ka⟩ := ha
  refine ⟨_, pe_callGK0 D.G hr kn.gd hg D.mx D.kp b (fun σ => L2N.passAt kn.tk σ) pa hall hks hdb hpl, fun F H σ ρ tt tv Q P I h k => ?_⟩
  refine ka F H σ ρ tt tv _ _ I h fun vs H1 F1 ts ρ1 I1 hl h1 => ⟨by rw [← hl]; exact h1.1, ?_⟩
  rw [kn.hK]
  exact I1.lowP hl ix h1.2.1 h1.2.2 (fun t t0 F' H' v J q => k _ _ _ _ _ J q) fun a t0 F' H' J q => kn.lk F' H' σ ρ1 tt tv a J q
/-- f(a, .., k = b, ..) -/
@[simp] def wCallPK (n : Nat) (ix : List Nat) (np nk : Nat) (g : G3) (R : Addr → Rho → Prop) (was wks : WA) (ρ : Rho) (Q : T → Rho → Prop) : Prop := was ρ fun ts ρ1 => wks ρ1 fun us ρ2 => ts.length = np ∧ us.length = nk ∧ (pick ix (frL (ts ++ us))).length = n ∧ g (pick ix (frL (ts ++ us))) (fun t _ => Q t ρ2) fun a _ => R a ρ2
theorem ve_callK {ix : List Nat} {np : Nat} {ks : List Str} {kws : List Keyword} {wks : WA} (D : Df X.prog X.w X.K X.mg X.base x k f fd ps n false g) (b : Bnd X.K fd ps np ks ix) (hr : Room k X.A) (kn : Kn X c W R) (ha : VA X c (e :: es) was) (hk : VK2 X c kws wks) (hg : Gl X x := by rfl) (hdb : (x == ("__debug__" : Str)) = false := by decide)
    (hall : (backToKw pos (keywordEach kws X.env)).all (·.1.isSome) = true := by rfl) (hks : (backToKw pos (keywordEach kws X.env)).filterMap (·.1) = ks := by rfl)
    (hpl : ((backTo pos (starEach (e :: es) X.env)).any (·.1) || (backToKw pos (keywordEach kws X.env)).any (·.1.isNone)) = false := by rfl) (he : starEach (e :: es) X.env = (false, eval e X.env) :: starEach es X.env := by rfl) :
    VE X c (.Call (.Name x p) (e :: es) kws pos) (wCallPK n ix np ks.length g R was wks) := by
  obtain ⟨ta, pa, ka⟩ := ha
  obtain ⟨tb, pb, kb⟩ := hk
  refine ⟨_, pe_callGK D.G hr kn.gd hg D.mx D.kp b (fun σ => L2N.passAt kn.tk σ) pa pb hall hks hdb he hpl, fun F H σ ρ tt tv Q P I h k => ?_⟩
  refine ka F H σ ρ tt tv _ _ I h fun vs H1 F1 ts ρ1 I1 hl h1 => ?_
  refine kb F1 H1 σ ρ1 _ _ _ _ I1 h1 fun us H2 F2 tus ρ2 I2 hl2 h2 => ⟨by rw [← hl]; exact h2.1, by rw [← hl2]; exact h2.2.1, ?_⟩
  -- the positional values lie below the keywords': to one row
  have I3 : Sim c F2 H2 σ ρ2 ((ts ++ tus) ++ tt) ((vs ++ us) ++ tv) := by
    have tl := I2.tl
    refine I2.re (by simp only [List.length_append] at tl ⊢; omega) (fun G l => ?_) I2.iop
    simp only [List.map_append, List.append_assoc] at l ⊢
    obtain ⟨Ga, Gb, rfl, q1, q2⟩ := Live.to_trL (by simpa using hl2) l
    obtain ⟨Gc, Gd, rfl, q3, q4⟩ := Live.to_trL (by simpa using hl) q2
    refine ⟨Gc ++ (Ga ++ Gd), Live.of_trL q3 (Live.of_trL q1 q4), Ga ++ (Gc ++ Gd), ?_, List.Sublist.refl _⟩
    iterate 2 rw [← List.append_assoc]
    exact List.perm_append_comm.append_right _
  rw [kn.hK]
  exact I3.lowP (by simp [hl, hl2]) ix h2.2.2.1 h2.2.2.2 (fun t t0 F' H' v J q => k _ _ _ _ _ J q) fun a t0 F' H' J q => kn.lk F' H' σ ρ2 tt tv a J q

/-! ### a loan: an expression that owns nothing and changes nothing -/
@[simp] def frA (ρ : Rho) : Rho := ρ.map (Option.map fr)
@[simp] def wLend (w : WE) (ρ : Rho) (Q : T → Rho → Prop) : Prop := w (frA ρ) fun t _ => ff t = true ∧ Q t ρ
@[simp] def wLendT (w : WT) (ρ : Rho) (Q : Bool → Rho → Prop) : Prop := w (frA ρ) fun b _ => Q b ρ
theorem live_frz {K : PySem.W.Frag} {F H F' : Hp} (e : Ex F F') (H1 : Hp) : ∀ {ts : List (Option T)} {vs : List (Option V)} {G : List Addr}, Live K F H ts vs G → (∀ g ∈ G, F' g = H g) → Live K F' H1 (ts.map (Option.map fr)) vs []
  | _, _, _, .nil, _ => .nil
  | _, _, _, .skip r, k => .skip (live_frz e H1 r k)
  | _, _, _, .cons h r, k => Live.cons (G1 := []) (G2 := []) (h.frz e H1 fun g hg => k g (List.mem_append_left _ hg)) (live_frz e H1 r fun g hg => k g (List.mem_append_right _ hg))
/-- the constants of a loan -/
def cstL (K : PySem.W.Frag) (F H : Hp) : Cst := ⟨K, F, H, [], none⟩
theorem Sim.lend {c : Cst} {F H : Hp} {σ : L2.St} {ρ : Rho} {tt : List T} {tv : List V} (I : Sim c F H σ ρ tt tv) : ∃ F1, Ex F F1 ∧ Sim (cstL c.K F1 H) F1 H σ (frA ρ) [] [] ∧
    ∀ F' H' ρ', Sim (cstL c.K F1 H) F' H' σ ρ' [] [] → ∃ F2, Sim c F2 H' σ ρ tt tv ∧
      ∀ (t : T) (v : V), ff t = true → Sim (cstL c.K F1 H) F' H' σ ρ' [t] [v] → Sim c F2 H' σ ρ (t :: tt) (v :: tv) := by
  obtain ⟨G, l, nd, hg⟩ := I.live
  have eF : Ex F (fz F H G) := fz_ex fun g hm => (hg g hm).1
  have hl : (tt.map some).length = (tv.map some).length := by simp [I.tl]
  have l1 : Live c.K (fz F H G) H (frA ρ) σ [] := by
    have a := live_frz eF H l fun g hm => fz_in hm
    rw [List.map_append] at a
    have b : ((tt.map fr).map some ++ frA ρ) = (List.map some tt).map (Option.map fr) ++ ρ.map (Option.map fr) := by
      unfold frA
      iterate 2 rw [List.map_map]
      rfl
    rw [← b] at a
    obtain ⟨G1, G2, e, _, q⟩ := Live.to_trL (by simpa using I.tl) a
    have e2 : G2 = [] := (List.append_eq_nil_iff.mp e.symm).2
    rw [e2] at q
    exact q
  refine ⟨fz F H G, eF, ⟨fz_le I.ex, Ex.refl _, fun b _ h _ => h, fun b o h _ => h, fun b h => h, rfl, ⟨[], l1, List.nodup_nil, by simp⟩, fun p z => by cases z⟩, fun F' H' ρ' J => ?_⟩
  have ho : ∀ g ∈ G, ∃ o, H g = some o ∧ (∀ xs, o ≠ .tup xs) ∧ ∀ u xs, o ≠ .frz u xs := fun g hm => by
    rcases l.there g hm with ⟨_, h⟩ | ⟨_, h⟩ | ⟨_, _, _, h⟩ <;> exact ⟨_, h, (by intro xs z; cases z), by intro u xs z; cases z⟩
  have keep : Ex H H' := fun b o h => J.keep b o h (by show b ∉ []; simp)
  let F2 : Hp := fun b => if b ∈ G then none else F' b
  have f2in : ∀ {b}, b ∈ G → F2 b = none := fun {b} h => if_pos h
  have f2out : ∀ {b}, b ∉ G → F2 b = F' b := fun {b} h => if_neg h
  have eF2 : Ex F F2 := fun b o h => by
    have nb : b ∉ G := fun z => by rw [(hg b z).1] at h; cases h
    rw [f2out nb]
    exact J.fx b o (eF b o h)
  have le2 : Ex F2 H' := fun b o h => by
    by_cases z : b ∈ G
    · rw [f2in z] at h; cases h
    · rw [f2out z] at h; exact J.ex b o h
  have kk : ∀ g ∈ G, H' g = H g := fun g hm => by
    obtain ⟨o, h, _⟩ := ho g hm
    rw [h]; exact keep g o h
  have l2 := l.mono eF2 kk
  have fn2 : ∀ b, c.H0 b ≠ none → c.F0 b = none → b ∉ c.G0 → F2 b = none := fun b h1 h2 h3 => by
    by_cases z : b ∈ G
    · exact f2in z
    · rw [f2out z]
      refine J.fn b (I.dom b h1) ?_ (by show b ∉ []; simp)
      show fz F H G b = none
      rw [fz_out z]
      exact I.fn b h1 h2 h3
  have S : Sim c F2 H' σ ρ tt tv := ⟨le2, I.fx.trans eF2, fn2, fun b o h n => keep b o (I.keep b o h n), fun b h => (by
    have := I.dom b h
    cases z : H b with
    | none => exact absurd z this
    | some o => rw [keep b o z]; exact fun z => by cases z), I.tl, ⟨G, l2, nd, fun g hm => ⟨f2in hm, (hg g hm).2⟩⟩, I.iop⟩
  refine ⟨F2, S, fun t v hf J2 => ?_⟩
  obtain ⟨Gr, Gx, r, _, ndr, hgr⟩ := J2.top
  have fresh : ∀ g ∈ Gr, H g = none := fun g hm => by
    rcases (hgr g (List.mem_append_left _ hm)).2 with z | z
    · exact z
    · exact absurd z (by show g ∉ []; simp)
  have r2 : Tr c.K F2 H' t v Gr := r.ffree (fun a xs h => by
    have nb : a ∉ G := fun z => by
      obtain ⟨o, h1, h2, _⟩ := ho a z
      have h3 := J2.ex a _ h
      rw [keep a o h1] at h3
      exact h2 xs (Option.some.inj h3)
    rw [f2out nb]; exact h) (fun a u xs h => by
    have nb : a ∉ G := fun z => by
      obtain ⟨o, h1, _, h2⟩ := ho a z
      have h3 := J2.ex a _ h
      rw [keep a o h1] at h3
      exact h2 u _ (Option.some.inj h3)
    rw [f2out nb]; exact h) hf
  refine ⟨S.ex, S.fx, S.fn, S.keep, S.dom, by simp [I.tl], ⟨Gr ++ G, .cons r2 l2, List.nodup_append.mpr ⟨(List.nodup_append.mp ndr).1, nd, fun a ha b hb z => ?_⟩, fun g hm => ?_⟩, S.iop⟩
  · subst z
    obtain ⟨o, h, _⟩ := ho a hb
    rw [fresh a ha] at h; cases h
  · obtain hm | hm := List.mem_append.mp hm
    · refine ⟨?_, .inl (I.fresh0 (fresh g hm))⟩
      by_cases z : g ∈ G
      · exact f2in z
      · rw [f2out z]; exact (hgr g (List.mem_append_left _ hm)).1
    · exact ⟨f2in hm, (hg g hm).2⟩
theorem ve_lend {w : WE} (h : ∀ F1 H, VE X (cstL c.K F1 H) e w) : VE X c e (wLend w) := by
  -- the reading is the same whatever the constants: it is taken at each entry
  obtain ⟨te0, pe0, _⟩ := h (fun _ => none) (fun _ => none)
  refine ⟨fun σ H P => ∃ te : TE, PE X e te ∧ te σ H P, ⟨fun pins s σ H Q I h2 => ?_⟩, fun F H σ ρ tt tv Q P I hw k => ?_⟩
  · obtain ⟨te, pe, h2⟩ := h2
    exact pe.run pins s σ H Q I h2
  · obtain ⟨F1, _, J, back⟩ := I.lend
    obtain ⟨te, pe, ke⟩ := h F1 H
    refine ⟨te, pe, ke F1 H σ (frA ρ) [] [] _ _ J hw fun v H' F' t ρ' J' h1 => ?_⟩
    obtain ⟨F2, _, S⟩ := back F' H' ρ' J'.drop
    exact k v H' F2 t ρ (S t v h1.1 J') h1.2
theorem vt_lend {w : WT} (h : ∀ F1 H, VT X (cstL c.K F1 H) e w) : VT X c e (wLendT w) := by
  refine ⟨fun σ H P => ∃ te : TT, PT X e te ∧ te σ H P, ⟨fun pins s σ H Q I h2 => ?_⟩, fun F H σ ρ tt tv Q P I hw k => ?_⟩
  · obtain ⟨te, pe, h2⟩ := h2
    exact pe.run pins s σ H Q I h2
  · obtain ⟨F1, _, J, back⟩ := I.lend
    obtain ⟨te, pe, ke⟩ := h F1 H
    refine ⟨te, pe, ke F1 H σ (frA ρ) [] [] _ _ J hw fun b H' F' ρ' J' h1 => ?_⟩
    obtain ⟨F2, S, _⟩ := back F' H' ρ' J'
    exact k b H' F2 ρ S h1
end
end L3

namespace L3
open PySem L2 PySem.Spec PyProof.Rows

section
variable {X : Cx} {c : Cst} {e : Expr} {w : WE} {pos : Pos} {st : Stmt} {sts : List Stmt} {wa wb : WS}
/-! ### small statements -/
@[simp] def wNext (E : En) (ρ : Rho) : Prop := E.nx ρ
@[simp] def wSeq (a b : WS) (E : En) (ρ : Rho) : Prop := a { E with nx := b E } ρ
theorem vb_nil : VB X c [] wNext := ⟨_, pss_nil, fun F H σ ρ tt tv D E I m h => m.nx F H σ ρ I h⟩
theorem vb_cons (h1 : VS X c st wa) (h2 : VB X c sts wb) : VB X c (st :: sts) (wSeq wa wb) := by
  obtain ⟨t1, p1, k1⟩ := h1
  obtain ⟨t2, p2, k2⟩ := h2
  exact ⟨_, pss_cons p1 p2, fun F H σ ρ tt tv D E I m h => k1 F H σ ρ tt tv _ { E with nx := wb E } I ⟨fun F H σ ρ J q => k2 F H σ ρ tt tv D E J m q, m.rt, m.bk, m.ct⟩ h⟩
theorem vb_one (h1 : VS X c st wa) : VB X c [st] wa := by
  obtain ⟨t1, p1, k1⟩ := h1
  exact ⟨_, pss_one p1, k1⟩
theorem vs_pass : VS X c (.Pass pos) wNext := ⟨_, ps_pass, fun F H σ ρ tt tv D E I m h => m.nx F H σ ρ I h⟩
@[simp] def wBrk (E : En) (ρ : Rho) : Prop := E.bk ρ
@[simp] def wCnt (E : En) (ρ : Rho) : Prop := E.ct ρ
theorem vs_break : VS X c (.Break pos) wBrk := ⟨_, ps_break, fun F H σ ρ tt tv D E I m h => m.bk F H σ ρ I h⟩
theorem vs_continue : VS X c (.Continue pos) wCnt := ⟨_, ps_continue, fun F H σ ρ tt tv D E I m h => m.ct F H σ ρ I h⟩
@[simp] def wDrop (w : WE) (E : En) (ρ : Rho) : Prop := w ρ fun _ ρ1 => E.nx ρ1
theorem vs_expr (he : VE X c e w) (hs : swapsWith e none pos.line X.env = pure false := by rfl) : VS X c (.Expr e pos) (wDrop w) := by
  obtain ⟨te, pe, ke⟩ := he
  exact ⟨_, ps_expr pe hs, fun F H σ ρ tt tv D E I m h => ke F H σ ρ tt tv _ _ I h fun v H1 F1 t ρ1 I1 q => m.nx F1 H1 σ ρ1 I1.drop q⟩
@[simp] def wRet (w : WE) (E : En) (ρ : Rho) : Prop := w ρ E.rt
theorem vs_ret (he : VE X c e w) : VS X c (.Return (some e) pos) (wRet w) := by
  obtain ⟨te, pe, ke⟩ := he
  exact ⟨_, ps_ret pe, fun F H σ ρ tt tv D E I m h => ke F H σ ρ tt tv _ _ I h fun v H1 F1 t ρ1 I1 q => m.rt F1 H1 σ ρ1 t v I1 q⟩
@[simp] def wRetN (E : En) (ρ : Rho) : Prop := E.rt .non ρ
theorem vs_retN : VS X c (.Return none pos) wRetN := ⟨_, ps_retN, fun F H σ ρ tt tv D E I m h => m.rt F H σ ρ .non .non (I.pushG .non rfl) h⟩
@[simp] def wIfS (wt : WT) (a b : WS) (E : En) (ρ : Rho) : Prop := wt ρ fun k ρ1 => if k = true then a E ρ1 else b E ρ1
theorem vs_if {d : Expr} {a b : List Stmt} {wt : WT} (hd : VT X c d wt) (ha : VB X c a wa) (hb : VB X c b wb) : VS X c (.If d a b pos) (wIfS wt wa wb) := by
  obtain ⟨td, pd, kd⟩ := hd
  obtain ⟨ta, pa, ka⟩ := ha
  obtain ⟨tb, pb, kb⟩ := hb
  refine ⟨_, ps_if pd pa pb, fun F H σ ρ tt tv D E I m h => kd F H σ ρ tt tv _ _ I h fun k H1 F1 ρ1 I1 q => ?_⟩
  cases k with
  | true =>
    rw [if_pos rfl] at q ⊢
    exact ka F1 H1 σ ρ1 tt tv D E I1 m q
  | false =>
    rw [if_neg (by decide)] at q ⊢
    exact kb F1 H1 σ ρ1 tt tv D E I1 m q
@[simp] def wNever (_ : En) (_ : Rho) : Prop := False
theorem vs_never : VS X c st wNever := ⟨_, ps_never, fun _ _ _ _ _ _ _ _ _ _ h => h.elim⟩
theorem vb_never : VB X c sts wNever := ⟨_, pss_never, fun _ _ _ _ _ _ _ _ _ _ h => h.elim⟩
/-- raise X('..') of an own class -/
@[simp] def wRaise (R : Addr → Rho → Prop) (a : Addr) (_ : En) (ρ : Rho) : Prop := R a ρ
theorem vs_raise {W : WX} {R : Addr → Rho → Prop} {C : Addr} (hc : X.calm = true) (tk : L2N.Takes X W) (lk : Lk c R W) (he : L2N.PMk X e (fun _ H Q => Q (.ref C) none H)) : VS X c (.Raise (some e) none pos) (wRaise R C) :=
  ⟨_, L2N.ps_raise hc tk he, fun F H σ ρ tt tv D E I m h => lk F H σ ρ tt tv C I h⟩

/-! ### targets -/
abbrev WG := T → Rho → (Rho → Prop) → Prop
abbrev WGs := List T → Rho → (Rho → Prop) → Prop
def VG (X : Cx) (c : Cst) (tg : Expr) (js : List Nat) (g : WG) : Prop :=
  ∃ tg2 : TG, PG X tg tg2 ∧ ∀ (F H : Hp) (σ : L2.St) (ρ : Rho) (tt : List T) (tv : List V) (t : T) (v : V) (Q : Rho → Prop) (P : L2.St → Hp → Prop), Sim c F H σ ρ (t :: tt) (v :: tv) → g t ρ Q →
    (∀ H' F' σ' ρ', Sim c F' H' σ' ρ' tt tv → Q ρ' → (∀ vs : List Nat, (∀ j ∈ js, j ∈ vs) → wipe σ' vs = wipe σ vs) → P σ' H') → tg2 v σ H P
def VGs (X : Cx) (c : Cst) (tgs : List Expr) (js : List Nat) (g : WGs) : Prop :=
  ∃ tg2 : TGs, PGs X tgs tg2 ∧ ∀ (F H : Hp) (σ : L2.St) (ρ : Rho) (tt ts : List T) (tv vs : List V) (Q : Rho → Prop) (P : L2.St → Hp → Prop), Sim c F H σ ρ (ts ++ tt) (vs ++ tv) → ts.length = vs.length → g ts ρ Q →
    (∀ H' F' σ' ρ', Sim c F' H' σ' ρ' tt tv → Q ρ' → (∀ vs : List Nat, (∀ j ∈ js, j ∈ vs) → wipe σ' vs = wipe σ vs) → P σ' H') → tg2 vs σ H P
theorem wipe_set_ne {σ : L2.St} {j : Nat} {y : Option V} : ∀ {vs : List Nat}, j ∉ vs → wipe (σ.set j y) vs = (wipe σ vs).set j y
  | [], _ => rfl
  | v :: vs, h => by
    have h1 : j ≠ v := fun z => h (by simp [z])
    have h2 : j ∉ vs := fun z => h (by simp [z])
    show (wipe (σ.set j y) vs).set v none = ((wipe σ vs).set v none).set j y
    rw [wipe_set_ne h2, List.set_comm _ _ h1]
theorem wipe_set {σ : L2.St} {j : Nat} {y : Option V} : ∀ {vs : List Nat}, j ∈ vs → wipe (σ.set j y) vs = wipe σ vs
  | v :: vs, h => by
    show (wipe (σ.set j y) vs).set v none = (wipe σ vs).set v none
    by_cases z : j ∈ vs
    · rw [wipe_set z]
    · have e : j = v := by
        obtain q | q := List.mem_cons.mp h
        · exact q
        · exact absurd q z
      subst e
      rw [wipe_set_ne z, List.set_set]
@[simp] def gN (i : Nat) (t : T) (ρ : Rho) (Q : Rho → Prop) : Prop := Q (ρ.set i (some t))
theorem vg_name (i : Nat) {x : Str} (hN : X.N.Nodup) (hi : c.io = none ∨ i ≠ 0 := by first | exact .inl rfl | exact .inr (by decide)) (hx : X.N[i]? = some x := by rfl) (hl : Loc X.env.scope x := by first | exact Or.inl rfl | exact Or.inr rfl)
    (hf : X.fn x = true ∨ X.env.scope.names.lookup x = some .local := by first | exact .inl rfl | exact .inr rfl | assumption) : VG X c (.Name x pos) [i] (gN i) :=
  ⟨_, pg_name hN hx hl hf, fun F H σ ρ tt tv t v Q P I h k => k H F _ _ (I.store hi) h fun vs hv => wipe_set (hv i (by simp))⟩
@[simp] def gsNil (ts : List T) (ρ : Rho) (Q : Rho → Prop) : Prop := match ts with | [] => Q ρ | _ => False
@[simp] def gsCons (g : WG) (gs : WGs) (ts : List T) (ρ : Rho) (Q : Rho → Prop) : Prop := match ts with | t :: r => g t ρ fun ρ1 => gs r ρ1 Q | [] => False
theorem vgs_nil : VGs X c [] [] gsNil := by
  refine ⟨_, pgs_nil, fun F H σ ρ tt ts tv vs Q P I hl h k => ?_⟩
  cases ts with
  | nil =>
    have e : vs = [] := List.length_eq_zero_iff.mp hl.symm
    subst e
    exact ⟨rfl, k H F σ ρ I h fun _ _ => rfl⟩
  | cons _ _ => exact (show False from h).elim
theorem vgs_cons {tg : Expr} {tgs : List Expr} {js ks : List Nat} {g : WG} {gs : WGs} (h1 : VG X c tg js g) (h2 : VGs X c tgs ks gs)
    (hs : (assignEach (tg :: tgs) X.env).map (·.2) = assign tg X.env :: (assignEach tgs X.env).map (·.2) := by rfl) : VGs X c (tg :: tgs) (js ++ ks) (gsCons g gs) := by
  obtain ⟨t1, p1, k1⟩ := h1
  obtain ⟨t2, p2, k2⟩ := h2
  refine ⟨_, pgs_cons p1 p2 hs, fun F H σ ρ tt ts tv vs Q P I hl h k => ?_⟩
  cases ts with
  | nil => exact False.elim h
  | cons t r =>
    cases vs with
    | nil => simp at hl
    | cons v vr =>
      have hl' : r.length = vr.length := by simpa using hl
      refine ⟨v, vr, rfl, ?_⟩
      refine k1 F H σ ρ (r ++ tt) (vr ++ tv) t v _ _ I h fun H1 F1 σ1 ρ1 I1 q e1 => ?_
      refine k2 F1 H1 σ1 ρ1 tt r tv vr _ _ I1 hl' q fun H2 F2 σ2 ρ2 I2 q2 e2 => ?_
      exact k H2 F2 σ2 ρ2 I2 q2 fun vs hv => (e2 vs fun j hj => hv j (List.mem_append_right _ hj)).trans (e1 vs fun j hj => hv j (List.mem_append_left _ hj))
/-- a, b, .. = a tuple of that length -/
@[simp] def gT (n : Nat) (gs : WGs) (t : T) (ρ : Rho) (Q : Rho → Prop) : Prop := match t with | .tup ts => ts.length = n ∧ gs ts ρ Q | _ => False
theorem Sim.open_tup {F H : Hp} {σ : L2.St} {ρ : Rho} {tt ts : List T} {tv : List V} {v : V} (I : Sim c F H σ ρ (.tup ts :: tt) (v :: tv)) : ∃ a vs, v = .ref a ∧ SqT c.K H a vs ∧ ts.length = vs.length ∧ Sim c F H σ ρ (ts ++ tt) (vs ++ tv) := by
  obtain ⟨G, l, nd, hg⟩ := I.live
  cases l with
  | cons h q =>
    cases h with
    | @tup a _ vs G1 hs hr =>
      refine ⟨a, vs, rfl, ex_t I.ex hs, hr.length, I.ex, I.fx, I.fn, I.keep, I.dom, ?_, ⟨_, ?_, nd, hg⟩, I.iop⟩
      · have := I.tl
        simp only [List.length_cons, List.length_append] at this ⊢
        have := hr.length
        omega
      · rw [List.map_append, List.map_append, List.append_assoc, List.append_assoc]
        exact Live.of_trL hr q
theorem vg_tup {tgs : List Expr} {js : List Nat} {gs : WGs} {kk n : Nat} (hc : X.calm = true) (h : VGs X c tgs js gs) (hK : X.K = c.K := by rfl)
    (hn : (assignEach tgs X.env).length = n := by rfl) (hst : (assignEach tgs X.env).findIdx? (·.1) = none := by rfl) : VG X c (.Tuple tgs kk pos) js (gT n gs) := by
  obtain ⟨t1, p1, k1⟩ := h
  refine ⟨_, pg_tup hc p1 hn hst, fun F H σ ρ tt tv t v Q P I h k => ?_⟩
  cases t with
  | tup ts =>
    obtain ⟨a, vs, rfl, hs, hl, J⟩ := I.open_tup
    exact ⟨a, vs, rfl, hK ▸ hs, by rw [← hl]; exact h.1, k1 F H σ ρ tt ts tv vs Q P J hl h.2 k⟩
  | _ => exact (show False from h).elim
/-- target = e -/
@[simp] def wAsgG (g : WG) (w : WE) (E : En) (ρ : Rho) : Prop := w ρ fun t ρ1 => g t ρ1 E.nx
theorem vs_asg {tg : Expr} {js : List Nat} {g : WG} (he : VE X c e w) (hg : VG X c tg js g) (hs : swapsWithSole [tg] e pos.line X.env = pure false := by rfl) (hw : swappedStores [tg] e X.env = pure none := by rfl)
    (h1 : (assignEach [tg] X.env).map (·.2) = [assign tg X.env] := by rfl) : VS X c (.Assign [tg] e pos) (wAsgG g w) := by
  obtain ⟨te, pe, ke⟩ := he
  obtain ⟨tg2, pg, kg⟩ := hg
  exact ⟨_, ps_asg pe pg hs hw h1, fun F H σ ρ tt tv D E I m h => ke F H σ ρ tt tv _ _ I h fun v H1 F1 t ρ1 I1 q => kg F1 H1 σ ρ1 tt tv t v _ _ I1 q fun H2 F2 σ2 ρ2 I2 q2 _ => m.nx F2 H2 σ2 ρ2 I2 q2⟩
/-- name = e -/
@[simp] def wSet (i : Nat) (w : WE) (E : En) (ρ : Rho) : Prop := w ρ fun t ρ1 => E.nx (ρ1.set i (some t))
theorem vs_set (i : Nat) {x : Str} {pos' : Pos} (hN : X.N.Nodup) (he : VE X c e w) (hi : c.io = none ∨ i ≠ 0 := by first | exact .inl rfl | exact .inr (by decide)) (hx : X.N[i]? = some x := by rfl) (hl : Loc X.env.scope x := by first | exact Or.inl rfl | exact Or.inr rfl)
    (hs : swapsWith e (some (.Name x pos')) pos.line X.env = pure false := by rfl) (hf : X.fn x = true ∨ X.env.scope.names.lookup x = some .local := by first | exact .inl rfl | exact .inr rfl | assumption) : VS X c (.Assign [.Name x pos'] e pos) (wSet i w) := by
  obtain ⟨te, pe, ke⟩ := he
  exact ⟨_, ps_set hN hx hl pe hs hf, fun F H σ ρ tt tv D E I m h => ke F H σ ρ tt tv _ _ I h fun v H1 F1 t ρ1 I1 q => m.nx F1 H1 _ _ (I1.store hi) q⟩
/-- a, b = x, y (two names; nothing of it is seen as a tuple) -/
@[simp] def wPar (i j : Nat) (was : WA) (E : En) (ρ : Rho) : Prop := was ρ fun ts ρ1 => match ts with | [t, u] => E.nx ((ρ1.set i (some t)).set j (some u)) | _ => False
theorem vs_par (i j : Nat) {x y : Str} {a b : Expr} {was : WA} {px py pt : Pos} {kt k2 pt2} (hN : X.N.Nodup) (hc : X.calm = true) (ha : VA X c [a, b] was) (hi : c.io = none ∨ i ≠ 0 := by first | exact .inl rfl | exact .inr (by decide)) (hj : c.io = none ∨ j ≠ 0 := by first | exact .inl rfl | exact .inr (by decide))
    (hx : X.N[i]? = some x := by rfl) (hy : X.N[j]? = some y := by rfl) (hij : i ≠ j := by decide) (hlx : X.env.scope.names.lookup x = some .local := by rfl) (hly : X.env.scope.names.lookup y = some .local := by rfl)
    (hs : swapsWithSole [.Tuple [.Name x px, .Name y py] kt pt] (.Tuple [a, b] k2 pt2) pos.line X.env = pure false := by rfl)
    (hw : swappedStores [.Tuple [.Name x px, .Name y py] kt pt] (.Tuple [a, b] k2 pt2) X.env = pure (some [x, y]) := by rfl) :
    VS X c (.Assign [.Tuple [.Name x px, .Name y py] kt pt] (.Tuple [a, b] k2 pt2) pos) (wPar i j was) := by
  obtain ⟨ta, pa, ka⟩ := ha
  refine ⟨_, ps_par hc hN hx hy hij hlx hly pa hw hs, fun F H σ ρ tt tv D E I m h => ka F H σ ρ tt tv _ _ I h fun vs H1 F1 ts ρ1 I1 hl q => ?_⟩
  match ts, vs, hl, I1, q with
  | [t, u], [v, z], _, I1, q =>
    refine ⟨v, z, rfl, m.nx F1 H1 _ _ ?_ q⟩
    have J1 : Sim c F1 H1 _ _ (u :: tt) (z :: tv) := Sim.store (i := i) (t := t) (v := v) I1 hi
    exact J1.store hj

/-! ### name op= e -/
@[simp] def wAug (i : Nat) (f : F2) (w : WE) (E : En) (ρ : Rho) : Prop := match ρ[i]? with
  | some (some t) => stb t = true ∧ w ρ fun u ρ1 => f t u fun r => E.nx (ρ1.set i (some r))
  | _ => False
theorem vs_aug (i : Nat) {x : Str} {op : Operator} {ti : TIp} {f : F2} {pos' : Pos} (hN : X.N.Nodup) (ho : PIp X op ti) (hr : Op2 c ti f) (he : VE X c e w) (hi : c.io = none ∨ i ≠ 0 := by first | exact .inl rfl | exact .inr (by decide)) (hx : X.N[i]? = some x := by rfl)
    (hl : Loc X.env.scope x := by first | exact Or.inl rfl | exact Or.inr rfl) (hf : X.fn x = true ∨ X.env.scope.names.lookup x = some .local := by first | exact .inl rfl | exact .inr rfl | assumption) :
    VS X c (.AugAssign (.Name x pos') op e pos) (wAug i f w) := by
  obtain ⟨te, pe, ke⟩ := he
  refine ⟨_, ps_aug hN hx hl pe ho hf, fun F H σ ρ tt tv D E I m h => ?_⟩
  obtain ⟨t, e0, hs, q⟩ := slot_of (P := fun t => stb t = true ∧ w ρ fun u ρ1 => f t u fun r => E.nx (ρ1.set i (some r))) h
  obtain ⟨v, e1, J⟩ := I.copy e0 hs
  refine ⟨v, e1, ke F H σ ρ _ _ _ _ J q fun z H1 F1 u ρ1 I1 q1 => ?_⟩
  exact hr F1 H1 σ ρ1 tt tv _ _ _ _ _ _ I1 q1 fun y H2 F2 r I2 q2 => m.nx F2 H2 _ _ (I2.store hi) q2
end
end L3

namespace L3
open PySem L2 PySem.Spec PyProof.Rows

/-! ### what is walked -/
/-- the iterator J gives the items, one a turn, while ls lies on top of tt -/
structure Wk (c : Cst) (J : It) (ls : List T) (lv : List V) (items : List T) : Prop where
  go : ∀ i F H σ ρ tt tv, i < items.length → Sim c F H σ ρ (ls ++ tt) (lv ++ tv) → J.go i H
  yld : ∀ i F H σ ρ tt tv x H', i < items.length → Sim c F H σ ρ (ls ++ tt) (lv ++ tv) → J.yld i H x H' → ∃ F' t, items[i]? = some t ∧ Sim c F' H' σ ρ (t :: (ls ++ tt)) (x :: (lv ++ tv))
  stop : ∀ i F H σ ρ tt tv, items.length ≤ i → Sim c F H σ ρ (ls ++ tt) (lv ++ tv) → J.stop i H
abbrev WI := Rho → (List T → Rho → Prop) → Prop
def VI (X : Cx) (c : Cst) (tg iter : Expr) (wi : WI) : Prop :=
  ∃ ti : TI, PI X tg iter ti ∧ ∀ (F H : Hp) (σ : L2.St) (ρ : Rho) (tt : List T) (tv : List V) (Q : List T → Rho → Prop) (R : It → Hp → Prop), Sim c F H σ ρ tt tv → wi ρ Q →
    (∀ J H' F' ρ' items ls lv, Sim c F' H' σ ρ' (ls ++ tt) (lv ++ tv) → ls.length = lv.length → Wk c J ls lv items → Q items ρ' → R J H') → ti σ H R

section
variable {X : Cx} {c : Cst} {tg iter e : Expr} {w : WE} {was : WA} {pos p : Pos}
theorem Sim.app {F H : Hp} {σ : L2.St} {ρ : Rho} {tt ts : List T} {tv vs : List V} (I : Sim c F H σ ρ (ts ++ tt) (vs ++ tv)) (hl : ts.length = vs.length) : Sim c F H σ ρ tt tv := I.dropL hl
/-- a frozen list on top -/
theorem Sim.lstF {F H : Hp} {σ : L2.St} {ρ : Rho} {tt : List T} {tv : List V} {xs : List T} {v : V} (I : Sim c F H σ ρ (.lst false (frL xs) :: tt) (v :: tv)) : ∃ a vs, v = .ref a ∧ SqL c.K F a vs ∧ TrL c.K F H (frL xs) vs [] := by
  obtain ⟨G1, G2, h, _⟩ := I.top
  cases h with
  | @lstF a _ vs G hs hr =>
    have e := hr.stb_nil (stbL_frL xs)
    subst e
    exact ⟨a, vs, rfl, hs, hr⟩
theorem TrL.at_ {K : PySem.W.Frag} {F H : Hp} {xs : List T} {vs : List V} {i : Nat} {x : V} (r : TrL K F H xs vs []) (hx : vs[i]? = some x) : ∃ t, xs[i]? = some t ∧ Tr K F H t x [] := by
  have hlt : xs.length > i := by
    rw [r.length]
    exact (List.getElem?_eq_some_iff.mp hx).1
  obtain ⟨v, G1, e, h, s⟩ := r.get (List.getElem?_eq_getElem hlt)
  rw [hx] at e
  have ev : x = v := Option.some.inj e
  subst ev
  have e2 : G1 = [] := List.eq_nil_of_sublist_nil s
  subst e2
  exact ⟨_, List.getElem?_eq_getElem hlt, h⟩
/-- the items of a list, of a tuple -/
@[simp] def wiL (w : WE) (ρ : Rho) (Q : List T → Rho → Prop) : Prop := w ρ fun t ρ1 => match t with | .lst _ xs => Q (frL xs) ρ1 | _ => False
theorem wk_list {F H : Hp} {a : Addr} {xs : List T} {vs : List V} (hs : SqL c.K F a vs) (hr : TrL c.K F H (frL xs) vs []) (inj : ∀ F' H' σ ρ tt tv, Sim c F' H' σ ρ (.lst false (frL xs) :: tt) (.ref a :: tv) → ∃ ws, SqL c.K H' a ws ∧ TrL c.K F' H' (frL xs) ws []) :
    Wk c (Itl c.K a) [.lst false (frL xs)] [.ref a] (frL xs) := by
  refine ⟨fun i F' H' σ ρ tt tv hi I => ?_, fun i F' H' σ ρ tt tv x H2 hi I y => ?_, fun i F' H' σ ρ tt tv hi I => ?_⟩
  · obtain ⟨ws, h1, h2⟩ := inj F' H' σ ρ tt tv I
    have hl := h2.length
    exact ⟨ws, _, h1, List.getElem?_eq_getElem (by omega)⟩
  · obtain ⟨ws, h1, h2⟩ := inj F' H' σ ρ tt tv I
    obtain ⟨rfl, y⟩ := y
    obtain ⟨t, e, q⟩ := h2.at_ (y ws h1)
    exact ⟨F', t, e, I.pushG q rfl⟩
  · obtain ⟨ws, h1, h2⟩ := inj F' H' σ ρ tt tv I
    have hl := h2.length
    exact ⟨ws, h1, by omega⟩
theorem vi_list (he : VE X c e w) (hK : X.K = c.K := by rfl) : VI X c tg e (wiL w) := by
  obtain ⟨te, pe, ke⟩ := he
  refine ⟨_, pi_list pe, fun F H σ ρ tt tv Q R I h k => ke F H σ ρ tt tv _ _ I h fun v H1 F1 t ρ1 I1 q => ?_⟩
  cases t with
  | lst o xs =>
    obtain ⟨F2, _, J⟩ := I1.frz
    have J : Sim c F2 H1 σ ρ1 (.lst false (frL xs) :: tt) (v :: tv) := by simpa only [fr] using J
    obtain ⟨a, vs, rfl, hs, hr⟩ := J.lstF
    refine ⟨a, rfl, ⟨vs, hK ▸ ex_l J.ex hs⟩, ?_⟩
    rw [hK]
    refine k (Itl c.K a) H1 F2 ρ1 (frL xs) [.lst false (frL xs)] [.ref a] J rfl (wk_list hs hr fun F' H' σ' ρ' tt' tv' I' => ?_) q
    obtain ⟨a', ws, e, h1, h2⟩ := I'.lstF
    cases e
    exact ⟨ws, ex_l I'.ex h1, h2⟩
  | _ => exact (show False from q).elim
theorem Sim.tupF {F H : Hp} {σ : L2.St} {ρ : Rho} {tt : List T} {tv : List V} {xs : List T} {v : V} (I : Sim c F H σ ρ (.tup (frL xs) :: tt) (v :: tv)) : ∃ a vs, v = .ref a ∧ SqT c.K F a vs ∧ TrL c.K F H (frL xs) vs [] := by
  obtain ⟨G1, G2, h, _⟩ := I.top
  cases h with
  | @tup a _ vs G hs hr =>
    have e := hr.stb_nil (stbL_frL xs)
    subst e
    exact ⟨a, vs, rfl, hs, hr⟩
@[simp] def wiT (w : WE) (ρ : Rho) (Q : List T → Rho → Prop) : Prop := w ρ fun t ρ1 => match t with | .tup xs => Q (frL xs) ρ1 | _ => False
theorem vi_tup (he : VE X c e w) (hK : X.K = c.K := by rfl) : VI X c tg e (wiT w) := by
  obtain ⟨te, pe, ke⟩ := he
  refine ⟨_, pi_tup pe, fun F H σ ρ tt tv Q R I h k => ke F H σ ρ tt tv _ _ I h fun v H1 F1 t ρ1 I1 q => ?_⟩
  cases t with
  | tup xs =>
    obtain ⟨F2, _, J⟩ := I1.frz
    have J : Sim c F2 H1 σ ρ1 (.tup (frL xs) :: tt) (v :: tv) := by simpa only [fr] using J
    obtain ⟨a, vs, rfl, hs, hr⟩ := J.tupF
    refine ⟨a, rfl, ⟨vs, hK ▸ ex_t J.ex hs⟩, ?_⟩
    rw [hK]
    have inj : ∀ F' H' σ' ρ' tt' tv', Sim c F' H' σ' ρ' (.tup (frL xs) :: tt') (.ref a :: tv') → ∃ ws, SqT c.K H' a ws ∧ TrL c.K F' H' (frL xs) ws [] := fun F' H' σ' ρ' tt' tv' I' => by
      obtain ⟨a', ws, e, h1, h2⟩ := I'.tupF
      cases e
      exact ⟨ws, ex_t I'.ex h1, h2⟩
    refine k (Itt c.K a) H1 F2 ρ1 (frL xs) [.tup (frL xs)] [.ref a] J rfl ⟨fun i F' H' σ ρ tt tv hi I => ?_, fun i F' H' σ ρ tt tv x H2 hi I y => ?_, fun i F' H' σ ρ tt tv hi I => ?_⟩ q
    · obtain ⟨ws, h1, h2⟩ := inj F' H' σ ρ tt tv I
      have hl := h2.length
      exact ⟨ws, _, h1, List.getElem?_eq_getElem (by omega)⟩
    · obtain ⟨ws, h1, h2⟩ := inj F' H' σ ρ tt tv I
      obtain ⟨rfl, y⟩ := y
      obtain ⟨t, e, q⟩ := h2.at_ (y ws h1)
      exact ⟨F', t, e, I.pushG q rfl⟩
    · obtain ⟨ws, h1, h2⟩ := inj F' H' σ ρ tt tv I
      have hl := h2.length
      exact ⟨ws, h1, by omega⟩
  | _ => exact (show False from q).elim
/-- range(n), range(a, b) -/
@[simp] def rngT (lo : Int) (n : Nat) : List T := (List.range n).map fun (i : Nat) => .int (lo + (i : Int))
theorem rngT_len (lo : Int) (n : Nat) : (rngT lo n).length = n := by simp [rngT]
theorem rngT_get {lo : Int} {n i : Nat} (h : i < n) : (rngT lo n)[i]? = some (.int (lo + (i : Int))) := by simp [rngT, h]
theorem wk_range (lo : Int) (n : Nat) : Wk c (Itr lo n) [] [] (rngT lo n) := by
  refine ⟨fun i F' H' σ ρ tt tv hi I => ?_, fun i F' H' σ ρ tt tv x H2 hi I y => ?_, fun i F' H' σ ρ tt tv hi I => ?_⟩
  · rw [rngT_len] at hi; exact hi
  · obtain ⟨rfl, rfl⟩ := y
    rw [rngT_len] at hi
    exact ⟨F', _, rngT_get hi, I.pushG (.int _) rfl⟩
  · rw [rngT_len] at hi; exact hi
theorem Sim.intTop {F H : Hp} {σ : L2.St} {ρ : Rho} {tt : List T} {tv : List V} {i : Int} {v : V} (I : Sim c F H σ ρ (.int i :: tt) (v :: tv)) : v = .int i := by
  obtain ⟨_, _, h, _⟩ := I.top
  cases h
  rfl
@[simp] def wiR1 (was : WA) (ρ : Rho) (Q : List T → Rho → Prop) : Prop := was ρ fun ts ρ1 => match ts with | [.int n] => -(2 ^ 62) ≤ n ∧ n < 2 ^ 62 ∧ Q (rngT 0 n.toNat) ρ1 | _ => False
theorem vi_range1 {a : Expr} (hm : X.mg "range" = none) (ha : VA X c [a] was) (hg : Gl X "range" := by rfl) (hs : starEach [a] X.env = [(false, eval a X.env)] := by rfl) : VI X c tg (.Call (.Name "range" p) [a] [] pos) (wiR1 was) := by
  obtain ⟨ta, pa, ka⟩ := ha
  refine ⟨_, pi_range1 hg hm pa hs, fun F H σ ρ tt tv Q R I h k => ka F H σ ρ tt tv _ _ I h fun vs H1 F1 ts ρ1 I1 hl q => ?_⟩
  split at q
  · match vs, hl, I1 with
    | [v], _, I1 =>
      have e : v = .int _ := Sim.intTop I1
      subst e
      exact ⟨_, rfl, q.1, q.2.1, k _ H1 F1 ρ1 _ [] [] (Sim.drop I1) rfl (wk_range 0 _) q.2.2⟩
  · exact q.elim
@[simp] def wiR2 (was : WA) (ρ : Rho) (Q : List T → Rho → Prop) : Prop := was ρ fun ts ρ1 => match ts with | [.int a, .int b] => (-(2 ^ 62) ≤ a ∧ a < 2 ^ 62 ∧ -(2 ^ 62) ≤ b ∧ b < 2 ^ 62) ∧ Q (rngT a (b - a).toNat) ρ1 | _ => False
theorem vi_range2 {a b : Expr} (hm : X.mg "range" = none) (ha : VA X c [a, b] was) (hg : Gl X "range" := by rfl) (hs : starEach [a, b] X.env = [(false, eval a X.env), (false, eval b X.env)] := by rfl) (hs2 : starEach [b] X.env = [(false, eval b X.env)] := by rfl) : VI X c tg (.Call (.Name "range" p) [a, b] [] pos) (wiR2 was) := by
  obtain ⟨ta, pa, ka⟩ := ha
  refine ⟨_, pi_range2 hg hm pa hs hs2, fun F H σ ρ tt tv Q R I h k => ka F H σ ρ tt tv _ _ I h fun vs H1 F1 ts ρ1 I1 hl q => ?_⟩
  split at q
  · match vs, hl, I1 with
    | [v, u], _, I1 =>
      have e : v = .int _ := Sim.intTop I1
      have e2 : u = .int _ := Sim.intTop (Sim.drop I1)
      subst e
      subst e2
      exact ⟨_, _, rfl, q.1, k _ H1 F1 ρ1 _ [] [] (Sim.drop (Sim.drop I1)) rfl (wk_range _ _) q.2⟩
  · exact q.elim
/-- enumerate(xs), zip(xs, ys) of lists: each item a new pair -/
@[simp] def enT : Nat → List T → List T
  | _, [] => []
  | i, x :: xs => .tup [.int (i : Int), x] :: enT (i + 1) xs
theorem enT_len : ∀ (i : Nat) (xs : List T), (enT i xs).length = xs.length
  | _, [] => rfl
  | i, x :: xs => by rw [enT, List.length_cons, enT_len, List.length_cons]
theorem enT_get : ∀ {k : Nat} {xs : List T} {i : Nat} {x : T}, xs[i]? = some x → (enT k xs)[i]? = some (.tup [.int ((k + i : Nat) : Int), x])
  | _, [], _, _, h => by simp at h
  | k, y :: ys, 0, x, h => by
    have e : y = x := by simpa using h
    subst e
    rfl
  | k, y :: ys, i + 1, x, h => by
    have := enT_get (k := k + 1) (xs := ys) (i := i) (x := x) (by simpa using h)
    rw [show k + (i + 1) = k + 1 + i by omega]
    simpa [enT] using this
@[simp] def ziT : List T → List T → List T
  | x :: xs, y :: ys => .tup [x, y] :: ziT xs ys
  | _, _ => []
theorem ziT_len : ∀ (xs ys : List T), (ziT xs ys).length = min xs.length ys.length
  | [], _ => by simp [ziT]
  | _ :: _, [] => by simp [ziT]
  | x :: xs, y :: ys => by simp [ziT, ziT_len xs ys] <;> omega
theorem ziT_get : ∀ {xs ys : List T} {i : Nat} {x y : T}, xs[i]? = some x → ys[i]? = some y → (ziT xs ys)[i]? = some (.tup [x, y])
  | [], _, _, _, _, g, _ => by simp at g
  | _ :: _, [], _, _, _, _, g => by simp at g
  | a :: xs, b :: ys, 0, x, y, h, h2 => by
    have e : a = x := by simpa using h
    have e2 : b = y := by simpa using h2
    subst e e2
    rfl
  | a :: xs, b :: ys, i + 1, x, y, h, h2 => by
    simpa [ziT] using ziT_get (xs := xs) (ys := ys) (i := i) (by simpa using h) (by simpa using h2)
@[simp] def wiEn (was : WA) (ρ : Rho) (Q : List T → Rho → Prop) : Prop := was ρ fun ts ρ1 => match ts with | [.lst _ xs] => Q (enT 0 (frL xs)) ρ1 | _ => False
theorem vi_enum {a : Expr} {elts : List Expr} {kk : Nat} {tpos : Pos} (hm : X.mg "enumerate" = none) (ha : VA X c [a] was) (hK : X.K = c.K := by rfl) (hg : Gl X "enumerate" := by rfl) (hs : starEach [a] X.env = [(false, eval a X.env)] := by rfl) :
    VI X c (.Tuple elts kk tpos) (.Call (.Name "enumerate" p) [a] [] pos) (wiEn was) := by
  obtain ⟨ta, pa, ka⟩ := ha
  refine ⟨_, pi_enum hg hm pa hs, fun F H σ ρ tt tv Q R I h k => ka F H σ ρ tt tv _ _ I h fun vs H1 F1 ts ρ1 I1 hl q => ?_⟩
  split at q
  · rename_i o xs
    match vs, hl, I1 with
    | [v], _, I1 =>
      have I1 : Sim c F1 H1 σ ρ1 (.lst o xs :: tt) (v :: tv) := I1
      obtain ⟨F2, _, J⟩ := I1.frz
      have J : Sim c F2 H1 σ ρ1 (.lst false (frL xs) :: tt) (v :: tv) := by simpa only [fr] using J
      obtain ⟨a, vs, rfl, hs, hr⟩ := J.lstF
      refine ⟨a, vs, rfl, hK ▸ ex_l J.ex hs, ?_⟩
      rw [hK]
      have inj : ∀ F' H' σ' ρ' tt' tv', Sim c F' H' σ' ρ' (.lst false (frL xs) :: tt') (.ref a :: tv') → ∃ ws, SqL c.K H' a ws ∧ TrL c.K F' H' (frL xs) ws [] := fun F' H' σ' ρ' tt' tv' I' => by
        obtain ⟨a', ws, e, h1, h2⟩ := I'.lstF
        cases e
        exact ⟨ws, ex_l I'.ex h1, h2⟩
      refine k (Ite c.K a) H1 F2 ρ1 (enT 0 (frL xs)) [.lst false (frL xs)] [.ref a] J rfl ⟨fun i F' H' σ ρ tt tv hi I => ?_, fun i F' H' σ ρ tt tv x H2 hi I y => ?_, fun i F' H' σ ρ tt tv hi I => ?_⟩ q
      · obtain ⟨ws, h1, h2⟩ := inj F' H' σ ρ tt tv I
        have hl := h2.length
        rw [enT_len] at hi
        exact ⟨ws, _, h1, List.getElem?_eq_getElem (by omega)⟩
      · obtain ⟨ws, h1, h2⟩ := inj F' H' σ ρ tt tv I
        obtain ⟨T0, x0, rfl, hT, rfl, y⟩ := y
        obtain ⟨t, e, q⟩ := h2.at_ (y ws h1)
        have J1 : Sim c F' H' σ ρ ([.int (i : Int), t] ++ ([.lst false (frL xs)] ++ tt)) ([.int (i : Int), x0] ++ ([.ref a] ++ tv)) := Sim.pushG (Sim.pushG I q rfl) (.int _) rfl
        have e2 := enT_get (k := 0) e
        rw [Nat.zero_add] at e2
        exact ⟨_, _, e2, J1.newTup rfl hT⟩
      · obtain ⟨ws, h1, h2⟩ := inj F' H' σ ρ tt tv I
        have hl := h2.length
        rw [enT_len] at hi
        exact ⟨ws, h1, by omega⟩
  · exact q.elim
@[simp] def wiZi (was : WA) (ρ : Rho) (Q : List T → Rho → Prop) : Prop := was ρ fun ts ρ1 => match ts with | [.lst _ xs, .lst _ ys] => Q (ziT (frL xs) (frL ys)) ρ1 | _ => False
theorem vi_zip {a b : Expr} {elts : List Expr} {kk : Nat} {tpos : Pos} (hm : X.mg "zip" = none) (ha : VA X c [a, b] was) (hK : X.K = c.K := by rfl) (hg : Gl X "zip" := by rfl) (hs : starEach [a, b] X.env = (false, eval a X.env) :: starEach [b] X.env := by rfl) (hpl : (backTo pos (starEach [b] X.env)).any (·.1) = false := by rfl) :
    VI X c (.Tuple elts kk tpos) (.Call (.Name "zip" p) [a, b] [] pos) (wiZi was) := by
  obtain ⟨ta, pa, ka⟩ := ha
  refine ⟨_, pi_zip hg hm pa hs hpl, fun F H σ ρ tt tv Q R I h k => ka F H σ ρ tt tv _ _ I h fun vs H1 F1 ts ρ1 I1 hl q => ?_⟩
  split at q
  · rename_i o xs o2 ys
    match vs, hl, I1 with
    | [v, u], _, I1 =>
      have I1 : Sim c F1 H1 σ ρ1 (.lst o xs :: .lst o2 ys :: tt) (v :: u :: tv) := I1
      obtain ⟨F2, _, J⟩ := I1.frz
      obtain ⟨F3, _, J⟩ := J.swap.frz
      have J : Sim c F3 H1 σ ρ1 (.lst false (frL xs) :: .lst false (frL ys) :: tt) (v :: u :: tv) := by simpa only [fr] using J.swap
      obtain ⟨a, vs, rfl, hs, hr⟩ := J.lstF
      obtain ⟨b, us, rfl, hs2, hr2⟩ := J.drop.lstF
      refine ⟨a, b, vs, us, rfl, hK ▸ ex_l J.ex hs, hK ▸ ex_l J.ex hs2, ?_⟩
      rw [hK]
      have inj : ∀ F' H' σ' ρ' tt' tv', Sim c F' H' σ' ρ' ([.lst false (frL xs), .lst false (frL ys)] ++ tt') ([.ref a, .ref b] ++ tv') → ∃ ws zs, SqL c.K H' a ws ∧ TrL c.K F' H' (frL xs) ws [] ∧ SqL c.K H' b zs ∧ TrL c.K F' H' (frL ys) zs [] := fun F' H' σ' ρ' tt' tv' I' => by
        have I' : Sim c F' H' σ' ρ' (.lst false (frL xs) :: .lst false (frL ys) :: tt') (.ref a :: .ref b :: tv') := I'
        obtain ⟨a', ws, e, h1, h2⟩ := I'.lstF
        cases e
        obtain ⟨b', zs, e, h3, h4⟩ := I'.drop.lstF
        cases e
        exact ⟨ws, zs, ex_l I'.ex h1, h2, ex_l I'.ex h3, h4⟩
      refine k (Itz c.K a b) H1 F3 ρ1 (ziT (frL xs) (frL ys)) [.lst false (frL xs), .lst false (frL ys)] [.ref a, .ref b] J rfl ⟨fun i F' H' σ ρ tt tv hi I => ?_, fun i F' H' σ ρ tt tv x H2 hi I y => ?_, fun i F' H' σ ρ tt tv hi I => ?_⟩ q
      · obtain ⟨ws, zs, h1, h2, h3, h4⟩ := inj F' H' σ ρ tt tv I
        have hl := h2.length
        have hl2 := h4.length
        rw [ziT_len] at hi
        exact ⟨ws, zs, _, _, h1, h3, List.getElem?_eq_getElem (by omega), List.getElem?_eq_getElem (by omega)⟩
      · obtain ⟨ws, zs, h1, h2, h3, h4⟩ := inj F' H' σ ρ tt tv I
        obtain ⟨T0, x0, y0, rfl, hT, rfl, yx, yy⟩ := y
        obtain ⟨t, e, q⟩ := h2.at_ (yx ws h1)
        obtain ⟨t', e', q'⟩ := h4.at_ (yy zs h3)
        have J1 : Sim c F' H' σ ρ ([t, t'] ++ ([.lst false (frL xs), .lst false (frL ys)] ++ tt)) ([x0, y0] ++ ([.ref a, .ref b] ++ tv)) := Sim.pushG (Sim.pushG I q' rfl) q rfl
        exact ⟨_, _, ziT_get e e', J1.newTup rfl hT⟩
      · obtain ⟨ws, zs, h1, h2, h3, h4⟩ := inj F' H' σ ρ tt tv I
        have hl := h2.length
        have hl2 := h4.length
        rw [ziT_len] at hi
        refine ⟨ws, zs, h1, h3, ?_⟩
        omega
  · exact q.elim
/-- the signs of a text -/
@[simp] def siT (s : Str) : List T := s.cps.toList.map fun k => .str ⟨#[k]⟩
@[simp] def wiS (w : WE) (ρ : Rho) (Q : List T → Rho → Prop) : Prop := w ρ fun t ρ1 => match t with | .str s => Q (siT s) ρ1 | _ => False
theorem vi_str (he : VE X c e w) : VI X c tg e (wiS w) := by
  obtain ⟨te, pe, ke⟩ := he
  refine ⟨_, pi_str pe, fun F H σ ρ tt tv Q R I h k => ke F H σ ρ tt tv _ _ I h fun v H1 F1 t ρ1 I1 q => ?_⟩
  cases t with
  | str s =>
    have e : v = .str s := by
      obtain ⟨_, _, h, _⟩ := I1.top
      cases h
      rfl
    subst e
    have hlen : (siT s).length = s.cps.size := by simp [siT]
    refine ⟨s, rfl, k (Its s) H1 F1 ρ1 (siT s) [] [] I1.drop rfl ⟨fun i F' H' σ ρ tt tv hi I => ?_, fun i F' H' σ ρ tt tv x H2 hi I y => ?_, fun i F' H' σ ρ tt tv hi I => ?_⟩ q⟩
    · rw [hlen] at hi; exact hi
    · obtain ⟨rfl, k, hk, rfl⟩ := y
      refine ⟨F', .str ⟨#[k]⟩, ?_, I.pushG (.str _) rfl⟩
      unfold siT
      rw [List.getElem?_map, Array.getElem?_toList, hk]
      rfl
    · rw [hlen] at hi; exact hi
  | _ => exact (show False from q).elim

/-! ### for -/
def wFor (wi : WI) (g : WG) (wb : WS) (E : En) (ρ : Rho) : Prop := wi ρ fun items ρ1 => ∃ Pv : Nat → Rho → Prop, Pv 0 ρ1 ∧
  (∀ i t ρ', items[i]? = some t → Pv i ρ' → g t ρ' fun ρ2 => wb { nx := Pv (i + 1), rt := E.rt, bk := E.nx, ct := Pv (i + 1) } ρ2) ∧ ∀ ρ', Pv items.length ρ' → E.nx ρ'
theorem vs_for {body : List Stmt} {wi : WI} {g : WG} {js : List Nat} {wb : WS} (hp : PassesOwn (model X.prog X.w) X.A X.env X.xe) (hc : X.calm = true) (hi : VI X c tg iter wi) (hg : VG X c tg js g) (hb : VB X c body wb)
    (hs : ∀ x, foldedSetIterable iter X.env x = pure x := by intro _; rfl) : VS X c (.For tg iter body [] pos) (wFor wi g wb) := by
  obtain ⟨ti, pi, ki⟩ := hi
  obtain ⟨tg2, pg, kg⟩ := hg
  obtain ⟨tb, pb, kb⟩ := hb
  refine ⟨_, ps_for hp hc pi pg pb hs, fun F H σ ρ tt tv D E I m h => ki F H σ ρ tt tv _ _ I h fun J H1 F1 ρ1 items ls lv I1 hl wk q => ?_⟩
  obtain ⟨Pv, h0, hstep, hend⟩ := q
  refine ⟨fun i n σ H => n = items.length - i ∧ i ≤ items.length ∧ ∃ F ρ, Sim c F H σ ρ (ls ++ tt) (lv ++ tv) ∧ Pv i ρ, ⟨items.length, by simp, Nat.zero_le _, F1, ρ1, I1, h0⟩, ?_⟩
  rintro i n σ2 H2 ⟨rfl, hi, F2, ρ2, I2, p2⟩
  by_cases hlt : i < items.length
  · refine .inr ⟨wk.go i F2 H2 σ2 ρ2 tt tv hlt I2, fun σ' H' => ∃ F' ρ', Sim c F' H' σ' ρ' (ls ++ tt) (lv ++ tv) ∧ Pv (i + 1) ρ', fun σ' H' ⟨F', ρ', I', p'⟩ => ⟨items.length - (i + 1), by omega, rfl, hlt, F', ρ', I', p'⟩, fun x H3 hy => ?_⟩
    obtain ⟨F3, t, et, I3⟩ := wk.yld i F2 H2 σ2 ρ2 tt tv x H3 hlt I2 hy
    refine kg F3 H3 σ2 ρ2 (ls ++ tt) (lv ++ tv) t x _ _ I3 (hstep i t ρ2 et p2) fun H4 F4 σ4 ρ4 I4 q4 _ => ?_
    refine kb F4 H4 σ4 ρ4 _ _ _ _ I4 ⟨fun F5 H5 σ5 ρ5 I5 q5 => ⟨F5, ρ5, I5, q5⟩, fun F5 H5 σ5 ρ5 t5 v5 I5 q5 => ?_, fun F5 H5 σ5 ρ5 I5 q5 => m.nx F5 H5 σ5 ρ5 (I5.dropL hl) q5, fun F5 H5 σ5 ρ5 I5 q5 => ⟨F5, ρ5, I5, q5⟩⟩ q4
    have I6 : Sim c F5 H5 σ5 ρ5 (ls ++ t5 :: tt) (lv ++ v5 :: tv) := by
      have := I5
      refine I5.re (by have := I5.tl; simp only [List.length_cons, List.length_append] at this ⊢; omega) (fun G l => ?_) I5.iop
      simp only [List.map_append, List.map_cons, List.append_assoc, List.cons_append] at l ⊢
      obtain ⟨G', pm, q⟩ := Live.mid' (by simp [hl]) l
      exact ⟨G', q, G, pm.symm, List.Sublist.refl _⟩
    exact m.rt F5 H5 σ5 ρ5 t5 v5 (I6.dropL hl) q5
  · have e : i = items.length := by omega
    subst e
    exact .inl ⟨wk.stop _ F2 H2 σ2 ρ2 tt tv (Nat.le_refl _) I2, m.nx F2 H2 σ2 ρ2 (I2.dropL hl) (hend ρ2 p2)⟩

/-! ### while -/
def wWhile (wt : WT) (wb : WS) (E : En) (ρ : Rho) : Prop := ∃ Pv : Nat → Rho → Prop, (∃ n, Pv n ρ) ∧
  ∀ n ρ', Pv n ρ' → wt ρ' fun b ρ1 => if b = true then wb { nx := fun ρ2 => ∃ m, m < n ∧ Pv m ρ2, rt := E.rt, bk := E.nx, ct := fun ρ2 => ∃ m, m < n ∧ Pv m ρ2 } ρ1 else E.nx ρ1
theorem vs_while {d : Expr} {body : List Stmt} {wt : WT} {wb : WS} (hp : PassesOwn (model X.prog X.w) X.A X.env X.xe) (hd : VT X c d wt) (hb : VB X c body wb) : VS X c (.While d body [] pos) (wWhile wt wb) := by
  obtain ⟨td, pd, kd⟩ := hd
  obtain ⟨tb, pb, kb⟩ := hb
  refine ⟨_, ps_while hp pd pb, fun F H σ ρ tt tv D E I m h => ?_⟩
  obtain ⟨Pv, ⟨n0, h0⟩, hstep⟩ := h
  refine ⟨fun n σ H => ∃ F ρ, Sim c F H σ ρ tt tv ∧ Pv n ρ, ⟨n0, F, ρ, I, h0⟩, ?_⟩
  rintro n σ1 H1 ⟨F1, ρ1, I1, p1⟩
  refine kd F1 H1 σ1 ρ1 tt tv _ _ I1 (hstep n ρ1 p1) fun b H2 F2 ρ2 I2 q2 => ?_
  cases b with
  | true =>
    rw [if_pos rfl] at q2 ⊢
    refine ⟨fun σ' H' => ∃ k, k < n ∧ ∃ F' ρ', Sim c F' H' σ' ρ' tt tv ∧ Pv k ρ', fun σ' H' ⟨k, hk, r⟩ => ⟨k, hk, r⟩, ?_⟩
    exact kb F2 H2 σ1 ρ2 tt tv _ { nx := fun ρ2 => ∃ m, m < n ∧ Pv m ρ2, rt := E.rt, bk := E.nx, ct := fun ρ2 => ∃ m, m < n ∧ Pv m ρ2 } I2 ⟨fun F5 H5 σ5 ρ5 I5 ⟨k, hk, p⟩ => ⟨k, hk, F5, ρ5, I5, p⟩, m.rt, m.nx, fun F5 H5 σ5 ρ5 I5 ⟨k, hk, p⟩ => ⟨k, hk, F5, ρ5, I5, p⟩⟩ q2
  | false =>
    rw [if_neg (by decide)] at q2 ⊢
    exact m.nx F2 H2 σ1 ρ2 I2 q2
end
end L3

namespace L3
open PySem L2 PySem.Spec PyProof.Rows

/-! ### trees as data -/
mutual
def py : T → PyData
  | .non => .none | .bl b => .bool b | .int i => .int i | .str s => .str s | .fn _ => .none
  | .lst _ xs => .list (pyL xs) | .tup xs => .tuple (pyL xs) | .dic _ _ _ => .none | .ins _ _ _ _ => .none | .exc _ => .none
def pyL : List T → List PyData
  | [] => []
  | x :: xs => py x :: pyL xs
end
mutual
/-- data without dicts, instances, defs -/
def pyd : T → Bool
  | .non | .bl _ | .int _ | .str _ => true
  | .lst _ xs | .tup xs => pydL xs
  | _ => false
def pydL : List T → Bool
  | [] => true
  | x :: xs => pyd x && pydL xs
end
section
variable {K : PySem.W.Frag} {F H : Hp}
mutual
theorem Tr.dp (e : Ex F H) : ∀ {t : T} {v : V} {G : List Addr}, Tr K F H t v G → pyd t = true → Dp K H v (py t)
  | _, _, _, .non, _ => by simp only [py]; exact .non
  | _, _, _, .bl b, _ => by simp only [py]; exact .bl b
  | _, _, _, .int b, _ => by simp only [py]; exact .int b
  | _, _, _, .str b, _ => by simp only [py]; exact .str b
  | _, _, _, .fn b, h => by simp [pyd] at h
  | _, _, _, .exc _, h => by simp [pyd] at h
  | _, _, _, .lstF h r, k => by simp only [py]; exact .lst (ex_l e h) (TrL.dp e r (by simpa [pyd] using k))
  | _, _, _, .lstT h r, k => by simp only [py]; exact .lst (SqL.of h) (TrL.dp e r (by simpa [pyd] using k))
  | _, _, _, .tup h r, k => by simp only [py]; exact .tup (ex_t e h) (TrL.dp e r (by simpa [pyd] using k))
  | _, _, _, .dicF _ _, h => by simp [pyd] at h
  | _, _, _, .dicT _ _, h => by simp [pyd] at h
  | _, _, _, .insF _ _, h => by simp [pyd] at h
  | _, _, _, .insT _ _, h => by simp [pyd] at h
theorem TrL.dp (e : Ex F H) : ∀ {t : List T} {v : List V} {G : List Addr}, TrL K F H t v G → pydL t = true → DpAll K H v (pyL t)
  | _, _, _, .nil, _ => by simp only [pyL]; exact .nil
  | _, _, _, .cons h r, k => by
    simp [pydL] at k
    simp only [pyL]
    exact .cons (h.dp e k.1) (TrL.dp e r k.2)
end
end

/-! ### operators -/
section
variable {X : Cx} {c : Cst}
theorem Sim.scal2 {F H : Hp} {σ : L2.St} {ρ : Rho} {tt : List T} {tv : List V} {a b : T} {x y : V} (I : Sim c F H σ ρ (b :: a :: tt) (y :: x :: tv)) : (∃ G, Tr c.K F H a x G) ∧ ∃ G, Tr c.K F H b y G := by
  obtain ⟨_, _, h, _⟩ := I.top
  obtain ⟨_, _, h2, _⟩ := I.drop.top
  exact ⟨⟨_, h2⟩, ⟨_, h⟩⟩
/-- ints in, under C -/
@[simp] def fII (C : Int → Int → Prop) (g : Int → Int → T) (a : T) (b : T) (k : (T → Prop)) : Prop := match a, b with | .int i, .int j => C i j ∧ k (g i j) | _, _ => False
theorem o2_II {C : Int → Int → Prop} {g : Int → Int → T} {gv : Int → Int → V} (hg : ∀ i j K F H, Tr K F H (g i j) (gv i j) []) : Op2 c (rI C gv) (fII C g) := by
  intro F H σ ρ tt tv a b x y k P I h q
  unfold fII at h
  split at h
  · obtain ⟨⟨_, h1⟩, _, h2⟩ := I.scal2
    cases h1
    cases h2
    exact ⟨_, _, rfl, rfl, h.1, q _ _ _ _ (I.drop.drop.pushG (hg _ _ _ _ _) rfl) h.2⟩
  · exact h.elim
@[simp] def fII0 (g : Int → Int → T) (a : T) (b : T) (k : (T → Prop)) : Prop := match a, b with | .int i, .int j => k (g i j) | _, _ => False
theorem o2_II0 {g : Int → Int → T} {gv : Int → Int → V} (hg : ∀ i j K F H, Tr K F H (g i j) (gv i j) []) : Op2 c (rI0 gv) (fII0 g) := by
  intro F H σ ρ tt tv a b x y k P I h q
  unfold fII0 at h
  split at h
  · obtain ⟨⟨_, h1⟩, _, h2⟩ := I.scal2
    cases h1
    cases h2
    exact ⟨_, _, rfl, rfl, q _ _ _ _ (I.drop.drop.pushG (hg _ _ _ _ _) rfl) h⟩
  · exact h.elim
abbrev fSub : F2 := fII0 fun i j => .int (i - j)
theorem o2_sub : Op2 c (rI0 fun i j => .int (i - j)) fSub := o2_II0 fun _ _ _ _ _ => .int _
abbrev fLt : F2 := fII0 fun i j => .bl (decide (i < j))
abbrev fLe : F2 := fII0 fun i j => .bl (decide (i ≤ j))
abbrev fGt : F2 := fII0 fun i j => .bl (decide (j < i))
abbrev fGe : F2 := fII0 fun i j => .bl (decide (j ≤ i))
theorem o2_lt : Op2 c (rI0 fun i j => .bl (decide (i < j))) fLt := o2_II0 fun _ _ _ _ _ => .bl _
theorem o2_le : Op2 c (rI0 fun i j => .bl (decide (i ≤ j))) fLe := o2_II0 fun _ _ _ _ _ => .bl _
theorem o2_gt : Op2 c (rI0 fun i j => .bl (decide (j < i))) fGt := o2_II0 fun _ _ _ _ _ => .bl _
theorem o2_ge : Op2 c (rI0 fun i j => .bl (decide (j ≤ i))) fGe := o2_II0 fun _ _ _ _ _ => .bl _
abbrev fDiv : F2 := fII CDivW fun i j => .int (i / j)
abbrev fMod : F2 := fII (fun _ j => 0 < j) fun i j => .int (i % j)
theorem o2_div : Op2 c (rI CDivW fun i j => .int (i / j)) fDiv := o2_II fun _ _ _ _ _ => .int _
theorem o2_mod : Op2 c (rI (fun _ j => 0 < j) fun i j => .int (i % j)) fMod := o2_II fun _ _ _ _ _ => .int _
/-- a power of an int of any size -/
def CPowW (i j : Int) : Prop := 0 ≤ j ∧ (i.natAbs.log2 + 1 : Int) * j ≤ 2 ^ 27
theorem op_powW : OpR X (binaryOp .Pow) (rI CPowW fun i j => .int (i ^ j.toNat)) := opI fun i j _ _ _ _ _ hc q => by
  refine pow_int hc.1 ?_ q
  have b : (Builtin.Int.intBits i : Int) ≤ i.natAbs.log2 + 1 := by
    unfold Builtin.Int.intBits
    split <;> omega
  exact Int.le_trans (Int.mul_le_mul_of_nonneg_right b hc.1) hc.2
abbrev fPow : F2 := fII CPowW fun i j => .int (i ^ j.toNat)
theorem o2_pow : Op2 c (rI CPowW fun i j => .int (i ^ j.toNat)) fPow := o2_II fun _ _ _ _ _ => .int _
theorem Op2.or {r r' : R2} {f f' g : F2} (h1 : Op2 c r f) (h2 : Op2 c r' f') (hg : ∀ a b k, g a b k → f a b k ∨ f' a b k) : Op2 c (fun x y H Q => r x y H Q ∨ r' x y H Q) g := by
  intro F H σ ρ tt tv a b x y k P I h q
  rcases hg a b k h with h | h
  · exact .inl (h1 F H σ ρ tt tv a b x y k P I h q)
  · exact .inr (h2 F H σ ρ tt tv a b x y k P I h q)

/-! lists: + and * -/
def rCatS (K : PySem.W.Frag) : R2 := fun x y H Q => ∃ l b xs zs, x = .ref l ∧ y = .ref b ∧ SqL K H l xs ∧ SqL K H b zs ∧ xs.length + zs.length ≤ sizeLine ∧ ∀ p, H p = none → Q (.ref p) (upd H p (.lst (xs ++ zs)))
theorem op_catS : OpR X (binaryOp .Add) (rCatS X.K) := by
  rintro pins s σ H _ _ v u Q I rx ry ⟨l, b, xs, zs, rfl, rfl, hx, hy, hz, q⟩
  cases rx
  cases ry
  obtain ⟨its, r, p1, _⟩ := I.list hx
  obtain ⟨its2, r2, p2, _⟩ := I.list hy
  obtain ⟨⟨c1, d1, dt1, s1⟩, n1, e1, c1', d1', dt1'⟩ := p1
  obtain ⟨⟨c2, d2, dt2, s2⟩, n2, e2, c2', d2', dt2'⟩ := p2
  dsimp only at c1' d1' dt1' c2' d2' dt2'
  subst c1' d1' dt1' c2' d2' dt2'
  have hl := r.length
  have hl2 := r2.length
  refine concat_meets ⟨_, e1, rfl⟩ ⟨_, e2, rfl⟩ noFill_list_add seq_list_add PySem.F.slot_list_add PySem.F.entry_list_add (PySem.F.args_list_add_2 _ _) (list_addW l b its.toArray its2.toArray n1 n2 none none s1 s2 (by simp only [List.size_toArray]; omega)) ⟨e1, e2, ?_⟩
  rw [show its.toArray ++ its2.toArray = (its ++ its2).toArray by simp]
  have size : (xs ++ zs).length ≤ sizeLine := by simpa using hz
  exact ⟨.ref _, _, I.lnew (t' := s.toks) (r.append r2) size, rfl, q _ I.fresh⟩
theorem Sim.opLst {F H : Hp} {σ : L2.St} {ρ : Rho} {tt xs : List T} {tv : List V} {o : Bool} {v : V} (I : Sim c F H σ ρ (.lst o xs :: tt) (v :: tv)) : ∃ a vs, v = .ref a ∧ SqL c.K H a vs ∧ xs.length = vs.length ∧ Sim c F H σ ρ (xs ++ tt) (vs ++ tv) := by
  obtain ⟨G, l, nd, hg⟩ := I.live
  have tl := I.tl
  cases l with
  | cons h q =>
    cases h with
    | @lstF a _ vs G1 hs hr =>
      refine ⟨a, vs, rfl, ex_l I.ex hs, hr.length, I.ex, I.fx, I.fn, I.keep, I.dom, ?_, ⟨_, ?_, nd, hg⟩, I.iop⟩
      · simp only [List.length_cons, List.length_append] at tl ⊢
        have := hr.length
        omega
      · rw [List.map_append, List.map_append, List.append_assoc, List.append_assoc]
        exact Live.of_trL hr q
    | @lstT a _ vs G1 hs hr =>
      refine ⟨a, vs, rfl, SqL.of hs, hr.length, I.ex, I.fx, I.fn, I.keep, I.dom, ?_, ⟨_, ?_, (List.nodup_cons.mp nd).2, fun g hm => hg g (List.mem_cons_of_mem _ hm)⟩, I.iop⟩
      · simp only [List.length_cons, List.length_append] at tl ⊢
        have := hr.length
        omega
      · rw [List.map_append, List.map_append, List.append_assoc, List.append_assoc]
        exact Live.of_trL hr q
/-- the items of a list below a list's -/
theorem Sim.exch {F H : Hp} {σ : L2.St} {ρ : Rho} {tt xs ys : List T} {tv vs us : List V} (I : Sim c F H σ ρ (xs ++ (ys ++ tt)) (vs ++ (us ++ tv))) (h1 : xs.length = vs.length) (h2 : ys.length = us.length) : Sim c F H σ ρ ((ys ++ xs) ++ tt) ((us ++ vs) ++ tv) := by
  have tl := I.tl
  refine I.re (by simp only [List.length_append] at tl ⊢; omega) (fun G l => ?_) I.iop
  simp only [List.map_append, List.append_assoc] at l ⊢
  obtain ⟨Ga, Gb, rfl, q1, q2⟩ := Live.to_trL h1 l
  obtain ⟨Gc, Gd, rfl, q3, q4⟩ := Live.to_trL h2 q2
  refine ⟨Gc ++ (Ga ++ Gd), Live.of_trL q3 (Live.of_trL q1 q4), Ga ++ (Gc ++ Gd), ?_, List.Sublist.refl _⟩
  iterate 2 rw [← List.append_assoc]
  exact List.perm_append_comm.append_right _
@[simp] def fCat (a : T) (b : T) (k : (T → Prop)) : Prop := match a, b with | .lst _ xs, .lst _ ys => xs.length + ys.length ≤ sizeLine ∧ k (.lst true (xs ++ ys)) | _, _ => False
theorem o2_cat : Op2 c (rCatS c.K) fCat := by
  intro F H σ ρ tt tv a b x y k P I h q
  unfold fCat at h
  split at h
  · rename_i o1 xs o2 ys
    obtain ⟨l2, us, rfl, s2, hl2, I2⟩ := I.opLst
    have I3 := Sim.mid (t := .lst _ _) I2 hl2
    obtain ⟨l1, vs, rfl, s1, hl1, I4⟩ := I3.opLst
    refine ⟨l1, l2, vs, us, rfl, rfl, s1, s2, by omega, fun p hp => ?_⟩
    have I6 : Sim c F H σ ρ ((xs ++ ys) ++ tt) ((vs ++ us) ++ tv) := by
      iterate 2 rw [List.append_assoc]
      exact I4
    exact q _ _ _ _ (I6.newLst (by simp [hl1, hl2]) hp) h.2
  · exact h.elim
@[simp] def fAddS (a : T) (b : T) (k : (T → Prop)) : Prop := match a, b with | .str x, .str y => x.length + y.length ≤ sizeLine ∧ k (.str (x ++ y)) | _, _ => False
theorem o2_addS : Op2 c (fun x y H Q => ∃ i j, x = .str i ∧ y = .str j ∧ i.length + j.length ≤ sizeLine ∧ Q (.str (i ++ j)) H) fAddS := by
  intro F H σ ρ tt tv a b x y k P I h q
  unfold fAddS at h
  split at h
  · obtain ⟨⟨_, h1⟩, _, h2⟩ := I.scal2
    cases h1
    cases h2
    exact ⟨_, _, rfl, rfl, h.1, q _ _ _ _ (I.drop.drop.pushG (.str _) rfl) h.2⟩
  · exact h.elim
/-- a + b: ints, lists, texts -/
@[simp] def fAdd (a : T) (b : T) (k : (T → Prop)) : Prop := match a, b with
  | .int i, .int j => k (.int (i + j))
  | .lst _ xs, .lst _ ys => xs.length + ys.length ≤ sizeLine ∧ k (.lst true (xs ++ ys))
  | .str x, .str y => x.length + y.length ≤ sizeLine ∧ k (.str (x ++ y))
  | _, _ => False
theorem op_addA : OpR X (binaryOp .Add) (fun x y H Q => rI0 (fun i j => .int (i + j)) x y H Q ∨ (rCatS X.K x y H Q ∨ ∃ i j, x = .str i ∧ y = .str j ∧ i.length + j.length ≤ sizeLine ∧ Q (.str (i ++ j)) H)) := op_add.or (op_catS.or op_add_str)
theorem o2_add : Op2 c (fun x y H Q => rI0 (fun i j => .int (i + j)) x y H Q ∨ (rCatS c.K x y H Q ∨ ∃ i j, x = .str i ∧ y = .str j ∧ i.length + j.length ≤ sizeLine ∧ Q (.str (i ++ j)) H)) fAdd := by
  refine Op2.or (f := fII0 fun i j => .int (i + j)) (f' := fun a b k => fCat a b k ∨ fAddS a b k) (o2_II0 fun _ _ _ _ _ => .int _) (Op2.or o2_cat o2_addS fun a b k h => h) fun a b k h => ?_
  unfold fAdd at h
  split at h
  · exact .inl h
  · exact .inr (.inl h)
  · exact .inr (.inr h)
  · exact h.elim
theorem ip_addI : PIp X .Add (rI0 fun i j => .int (i + j)) := iop_add
theorem ip_subI : PIp X .Sub (rI0 fun i j => .int (i - j)) := iop_sub
abbrev fAddI : F2 := fII0 fun i j => .int (i + j)
theorem o2_addI : Op2 c (rI0 fun i j => .int (i + j)) fAddI := o2_II0 fun _ _ _ _ _ => .int _

/-! == and != of data -/
@[simp] def fEqD (neg : Bool) (a : T) (b : T) (k : (T → Prop)) : Prop := (pyd a = true ∧ pyd b = true ∧ SeqAt.shaped (py a) = true ∧ SeqAt.shaped (py b) = true) ∧ k (.bl (if neg then !PyData.eqv (py a) (py b) else PyData.eqv (py a) (py b)))
theorem o2_eqD : Op2 c (rEqD c.K) (fEqD false) := by
  intro F H σ ρ tt tv a b x y k P I h q
  obtain ⟨⟨_, h1⟩, _, h2⟩ := I.scal2
  exact ⟨_, _, h1.dp I.ex h.1.1, h2.dp I.ex h.1.2.1, h.1.2.2.1, h.1.2.2.2, q _ _ _ _ (I.drop.drop.pushG (.bl _) rfl) h.2⟩
theorem o2_neD : Op2 c (rNeD c.K) (fEqD true) := by
  intro F H σ ρ tt tv a b x y k P I h q
  obtain ⟨⟨_, h1⟩, _, h2⟩ := I.scal2
  exact ⟨_, _, h1.dp I.ex h.1.1, h2.dp I.ex h.1.2.1, h.1.2.2.1, h.1.2.2.2, q _ _ _ _ (I.drop.drop.pushG (.bl _) rfl) h.2⟩
@[simp] def fEqS (neg : Bool) (a : T) (b : T) (k : (T → Prop)) : Prop := match a, b with
  | .int i, .int j => k (.bl (if neg then !decide (i = j) else decide (i = j)))
  | .str i, .str j => k (.bl (if neg then !decide (i = j) else decide (i = j)))
  | .bl i, .bl j => k (.bl (if neg then !decide (i = j) else decide (i = j)))
  | _, _ => False
theorem o2_eqS : Op2 c rEq (fEqS false) := by
  intro F H σ ρ tt tv a b x y k P I h q
  obtain ⟨⟨_, h1⟩, _, h2⟩ := I.scal2
  unfold fEqS at h
  split at h
  · cases h1; cases h2
    refine ⟨rfl, q _ _ _ _ (I.drop.drop.pushG (.bl _) rfl) ?_⟩
    simpa using h
  · cases h1; cases h2
    refine ⟨rfl, q _ _ _ _ (I.drop.drop.pushG (.bl _) rfl) ?_⟩
    simpa using h
  · cases h1; cases h2
    refine ⟨rfl, q _ _ _ _ (I.drop.drop.pushG (.bl _) rfl) ?_⟩
    simpa using h
  · exact h.elim
theorem o2_neS : Op2 c rNe (fEqS true) := by
  intro F H σ ρ tt tv a b x y k P I h q
  obtain ⟨⟨_, h1⟩, _, h2⟩ := I.scal2
  unfold fEqS at h
  split at h
  · cases h1; cases h2
    refine ⟨rfl, q _ _ _ _ (I.drop.drop.pushG (.bl _) rfl) ?_⟩
    simpa using h
  · cases h1; cases h2
    refine ⟨rfl, q _ _ _ _ (I.drop.drop.pushG (.bl _) rfl) ?_⟩
    simpa using h
  · cases h1; cases h2
    refine ⟨rfl, q _ _ _ _ (I.drop.drop.pushG (.bl _) rfl) ?_⟩
    simpa using h
  · exact h.elim
/-! a == b -/
mutual
/-- data that may be compared: not nested deeper than d -/
@[simp] def pln : Nat → T → Bool
  | _, .non | _, .bl _ | _, .int _ => true
  | _, .str x => (PyData.str x).canLay0
  | d + 1, .lst _ xs | d + 1, .tup xs => plnL d xs
  | _, _ => false
@[simp] def plnL : Nat → List T → Bool
  | _, [] => true
  | d, x :: xs => pln d x && plnL d xs
end
mutual
theorem pln_ok : ∀ (d : Nat) (t : T), pln d t = true → pyd t = true ∧ (py t).canLay0 = true ∧ (py t).depth ≤ d
  | _, .non, _ | _, .bl _, _ | _, .int _, _ => ⟨by simp [pyd], by simp [py, PyData.canLay0], by simp [py, PyData.depth]⟩
  | _, .str x, h => ⟨by simp [pyd], by simpa [pln, py] using h, by simp [py, PyData.depth]⟩
  | d + 1, .lst _ xs, h | d + 1, .tup xs, h => by
    obtain ⟨h1, h2, h3⟩ := plnL_ok d xs (by simpa [pln] using h)
    simp only [pyd, py, PyData.canLay0, PyData.depth]
    exact ⟨h1, h2, by omega⟩
  | 0, .lst _ _, h | 0, .tup _, h => by simp [pln] at h
  | 0, .fn _, h | 0, .dic _ _ _, h | 0, .ins _ _ _ _, h | 0, .exc _, h => by simp [pln] at h
  | _ + 1, .fn _, h | _ + 1, .dic _ _ _, h | _ + 1, .ins _ _ _ _, h | _ + 1, .exc _, h => by simp [pln] at h
theorem plnL_ok : ∀ (d : Nat) (ts : List T), plnL d ts = true → pydL ts = true ∧ PyData.canLayAll0 (pyL ts) = true ∧ PyData.depthAll (pyL ts) ≤ d
  | _, [], _ => ⟨by simp [pydL], by simp [pyL, PyData.canLayAll0], by simp [pyL, PyData.depthAll]⟩
  | d, x :: xs, h => by
    have h : pln d x = true ∧ plnL d xs = true := by simpa [plnL] using h
    obtain ⟨a1, a2, a3⟩ := pln_ok d x h.1
    obtain ⟨b1, b2, b3⟩ := plnL_ok d xs h.2
    simp only [pydL, pyL, PyData.canLayAll0, PyData.depthAll]
    exact ⟨by rw [a1, b1]; rfl, by rw [a2, b2]; rfl, by omega⟩
end
def isStr : T → Bool
  | .str _ => true
  | _ => false
/-- equal as data -/
def teq (a b : T) : Bool := PyData.eqv (py a) (py b)
def teqL (a b : List T) : Bool := PyData.eqvAll (pyL a) (pyL b)
@[simp] def fEq (neg : Bool) (a b : T) (k : T → Prop) : Prop := ((isStr a && isStr b || (pln 60 a && pln 60 b)) = true) ∧ k (.bl (if neg then !teq a b else teq a b))
theorem fEq_or {neg : Bool} (a b : T) (k : T → Prop) (h : fEq neg a b k) : fEqS neg a b k ∨ fEqD neg a b k := by
  obtain ⟨h1, h2⟩ := h
  by_cases hs : (isStr a && isStr b) = true
  · cases a <;> (try (simp [isStr] at hs; done))
    cases b <;> (try (simp [isStr] at hs; done))
    rename_i x y
    refine .inl ?_
    have e : teq (.str x) (.str y) = decide (x = y) := by
      simp only [teq, py, PyData.eqv]
      exact Bool.beq_eq_decide_eq _ _
    rw [e] at h2
    exact h2
  · refine .inr ⟨?_, h2⟩
    have h3 : pln 60 a = true ∧ pln 60 b = true := by simpa [hs] using h1
    obtain ⟨a1, a2, a3⟩ := pln_ok 60 a h3.1
    obtain ⟨b1, b2, b3⟩ := pln_ok 60 b h3.2
    refine ⟨a1, b1, ?_, ?_⟩
    · unfold SeqAt.shaped
      rw [a2, Bool.true_and, decide_eq_true_eq]
      omega
    · unfold SeqAt.shaped
      rw [b2, Bool.true_and, decide_eq_true_eq]
      omega
theorem op_eqA (hu : X.A.units + 64 < cLine) : OpR X (compareOp .Eq) (fun x y H Q => rEq x y H Q ∨ rEqD X.K x y H Q) := op_eq.or (op_eqD hu)
theorem op_neA (hu : X.A.units + 64 < cLine) : OpR X (compareOp .NotEq) (fun x y H Q => rNe x y H Q ∨ rNeD X.K x y H Q) := op_ne.or (op_neD hu)
theorem o2_eq : Op2 c (fun x y H Q => rEq x y H Q ∨ rEqD c.K x y H Q) (fEq false) := Op2.or o2_eqS o2_eqD fEq_or
theorem o2_ne : Op2 c (fun x y H Q => rNe x y H Q ∨ rNeD c.K x y H Q) (fEq true) := Op2.or o2_neS o2_neD fEq_or
/-- is None -/
@[simp] def fIsN (neg : Bool) (a : T) (b : T) (k : (T → Prop)) : Prop := match a, b with
  | .fn _, _ => False
  | .non, .non => k (.bl (!neg))
  | _, .non => k (.bl neg)
  | _, _ => False
theorem o2_isN : Op2 c (fun x y H Q => y = .non ∧ Q (.bl (decide (x = .non))) H) (fIsN false) := by
  intro F H σ ρ tt tv a b x y k P I h q
  obtain ⟨⟨_, h1⟩, _, h2⟩ := I.scal2
  unfold fIsN at h
  split at h
  · exact h.elim
  · cases h1; cases h2
    exact ⟨rfl, q _ _ _ _ (I.drop.drop.pushG (.bl _) rfl) (by simpa using h)⟩
  · rename_i n1 n2
    cases h2
    refine ⟨rfl, q _ _ _ _ (I.drop.drop.pushG (.bl _) rfl) ?_⟩
    cases h1 <;> first | (exact absurd rfl n2) | (exact absurd rfl (n1 _)) | (simpa using h)
  · exact h.elim
theorem o2_notN : Op2 c (fun x y H Q => y = .non ∧ Q (.bl (!decide (x = .non))) H) (fIsN true) := by
  intro F H σ ρ tt tv a b x y k P I h q
  obtain ⟨⟨_, h1⟩, _, h2⟩ := I.scal2
  unfold fIsN at h
  split at h
  · exact h.elim
  · cases h1; cases h2
    exact ⟨rfl, q _ _ _ _ (I.drop.drop.pushG (.bl _) rfl) (by simpa using h)⟩
  · rename_i n1 n2
    cases h2
    refine ⟨rfl, q _ _ _ _ (I.drop.drop.pushG (.bl _) rfl) ?_⟩
    cases h1 <;> first | (exact absurd rfl n2) | (exact absurd rfl (n1 _)) | (simpa using h)
  · exact h.elim
/-- -a -/
@[simp] def fNeg (a : T) (k : (T → Prop)) : Prop := match a with | .int i => k (.int (-i)) | _ => False
theorem o1_neg : Op1 c (rU fun i => .int (-i)) fNeg := by
  intro F H σ ρ tt tv a x k P I h q
  unfold fNeg at h
  split at h
  · have e := I.intTop
    subst e
    exact ⟨_, rfl, q _ _ _ _ (I.drop.pushG (.int _) rfl) h⟩
  · exact h.elim
end
end L3

namespace L3
open PySem L2 PySem.Spec PyProof.Rows
section
variable {X : Cx} {c : Cst} {e : Expr} {w wa wb : WE} {pos : Pos}

/-! ### a * b: ints, a list that was just made and an int -/
theorem TrL.rep {K : PySem.W.Frag} {F H : Hp} {xs : List T} {vs : List V} (r : TrL K F H xs vs []) : ∀ n : Nat, TrL K F H (List.replicate n xs).flatten (List.replicate n vs).flatten []
  | 0 => .nil
  | n + 1 => by
    simp only [List.replicate_succ, List.flatten_cons]
    exact r.append (TrL.rep r n)
/-- trees of which nothing is owned come onto the top -/
theorem Sim.pushL {F H : Hp} {σ : L2.St} {ρ : Rho} {tt ts : List T} {tv vs : List V} (I : Sim c F H σ ρ tt tv) (r : TrL c.K F H ts vs []) : Sim c F H σ ρ (ts ++ tt) (vs ++ tv) := by
  refine I.re (by simp [r.length, I.tl]) (fun G l => ⟨G, ?_, G, .refl _, List.Sublist.refl _⟩) I.iop
  rw [List.map_append, List.map_append, List.append_assoc, List.append_assoc]
  exact Live.of_trL (G1 := []) r l
/-- an owned list on top is laid open -/
theorem Sim.opLstT {F H : Hp} {σ : L2.St} {ρ : Rho} {tt xs : List T} {tv : List V} {v : V} (I : Sim c F H σ ρ (.lst true xs :: tt) (v :: tv)) : ∃ a vs, v = .ref a ∧ H a = some (.lst vs) ∧ xs.length = vs.length ∧ Sim c F H σ ρ (xs ++ tt) (vs ++ tv) := by
  obtain ⟨G, l, nd, hg⟩ := I.live
  have tl := I.tl
  cases l with
  | cons h q =>
    cases h with
    | @lstT a _ vs G1 hs hr =>
      refine ⟨a, vs, rfl, hs, hr.length, I.ex, I.fx, I.fn, I.keep, I.dom, ?_, ⟨_, ?_, (List.nodup_cons.mp nd).2, fun g hm => hg g (List.mem_cons_of_mem _ hm)⟩, I.iop⟩
      · simp only [List.length_cons, List.length_append] at tl ⊢
        have := hr.length
        omega
      · rw [List.map_append, List.map_append, List.append_assoc, List.append_assoc]
        exact Live.of_trL hr q
/-- list * int, of any list: the copies put together -/
theorem copies_join (us : List Value) : ∀ (m : Nat) (front : Array Value), List.foldl (fun x1 x2 => x1 ++ x2) front (List.replicate m us.toArray) = front ++ (List.replicate m us).flatten.toArray
  | 0, front => by simp
  | m + 1, front => by
    simp only [List.replicate_succ, List.foldl_cons, List.flatten_cons]
    rw [copies_join us m]
    simp
theorem copies_of (us : List Value) (m : Nat) : List.foldl (fun x1 x2 => x1 ++ x2) #[] (List.replicate (if us.toArray.isEmpty = true then 0 else m) us.toArray) = (List.replicate m us).flatten.toArray := by
  rw [copies_join]
  by_cases z : us = []
  · subst z
    simp
  · rw [if_neg (by simpa using z)]
    simp
/-- the method itself, whatever else the list's object holds -/
theorem mul_any (p : Addr) (arr : Array Value) (cap : Nat) (di : Option Addr) (slo : Array (Option Value)) (n : Int) (tok : Tok) (inRange : (!Builtin.List.listFitsIndex n) = false) (few : arr.size * n.toNat ≤ (2 ^ 63 - 1) / 8) (short : Builtin.List.listTooLong (arr.size * n.toNat) = false) :
    Meets (Builtin.«list.__mul__» ⟨[.ref p, .int n tok], []⟩) (fun _ R z => z.heap.get? p = some { cls := .type "list", dict := di, data := .seq arr cap, slots := slo } ∧
      R (.ok (.ret (Value.ref z.heap.objs.size))) { z with heap := z.heap.push { cls := Value.type "list", data := Data.seq (List.foldl (fun x1 x2 => x1 ++ x2) #[] (List.replicate (if arr.isEmpty = true then 0 else n.toNat) arr)) }, toks := z.toks }) := by
  refine Meets.of_wp fun _ _ _ _ z want => ?_
  have size := PySem.AutoListH.joined_fits (items := arr) (x := n) (by rw [short]; exact Bool.false_ne_true)
  have index := AutoSeq1.idx_int
  have no1 : decide ((!Builtin.List.listFitsIndex n) = true) = false := by rw [inRange]; rfl
  have no3 : decide (Builtin.List.listTooLong (arr.size * n.toNat) = true) = false := by rw [short]; rfl
  cases z
  cases want with
  | intro obj want =>
    wp_walk using wpAny_loadPart' obj
    repeat (first
      | (refine wpAny_ite_false no1 ?_; wp_walk using wpAny_loadPart' obj)
      | (refine wpAny_ite_false (decide_eq_false (Nat.not_lt.mpr few)) ?_; wp_walk using wpAny_loadPart' obj)
      | (refine wpAny_ite_false no3 ?_; wp_walk using wpAny_loadPart' obj)
      | (refine wpAny_ite_false (decide_eq_false (Nat.not_lt.mpr size)) ?_; wp_walk using wpAny_loadPart' obj))
    exact ⟨_, rfl, want⟩
theorem rmul_any (n : Int) (tok : Tok) (p : Addr) (arr : Array Value) (cap : Nat) (di : Option Addr) (slo : Array (Option Value)) :
    Meets (Builtin.«int.__rmul__» ⟨[.int n tok, .ref p], []⟩) (fun _ R z => z.heap.get? p = some { cls := .type "list", dict := di, data := .seq arr cap, slots := slo } ∧ R (.ok (.ret Value.notImplemented)) z) := by
  refine Meets.of_wp fun _ _ _ _ z want => ?_
  cases z
  cases want with
  | intro obj want =>
    wp_walk using wpAny_loadPart' obj
    exact ⟨_, rfl, want⟩
def rRepS (K : PySem.W.Frag) : R2 := fun x y H Q => ∃ l n vs, x = .ref l ∧ y = .int n ∧ SqL K H l vs ∧ (-(2 ^ 63) ≤ n ∧ n < 2 ^ 63 ∧ vs.length * n.toNat ≤ sizeLine) ∧ ∀ a, H a = none → Q (.ref a) (upd H a (.lst (List.replicate n.toNat vs).flatten))
theorem op_repS : OpR X (binaryOp .Mult) (rRepS X.K) := by
  rintro pins s σ H _ _ v u Q I rx ry ⟨l, n, vs, rfl, rfl, known, ⟨low, high, most⟩, next⟩
  cases rx
  obtain ⟨tok, rfl⟩ := ry
  obtain ⟨us, rel, ⟨⟨cl, di, da, slo⟩, cap, obj, k1, k2, k3⟩, _⟩ := I.list known
  simp only at k1 k2 k3
  subst k1 k2 k3
  have bound : us.toArray.size * n.toNat ≤ sizeLine := by
    have := rel.length
    rw [List.size_toArray]
    rwa [this] at most
  have fits : (!Builtin.List.listFitsIndex n) = false := by
    rw [fitsIndex_both low high]
    rfl
  have few : us.toArray.size * n.toNat ≤ (2 ^ 63 - 1) / 8 := Nat.le_trans bound (by decide)
  have short : Builtin.List.listTooLong (us.toArray.size * n.toNat) = false := notLongL bound
  have isList : s.TypeIs (.ref l) "list" := ⟨_, obj, rfl⟩
  have size : (List.replicate n.toNat vs).flatten.length ≤ sizeLine := by
    rw [PyProof.Rows.lm_len_rep_flat, Nat.mul_comm]
    exact most
  have result : EP X pins σ Q (Value.ref s.heap.objs.size) { s with heap := s.heap.push { cls := Value.type "list", data := Data.seq (List.foldl (fun x1 x2 => x1 ++ x2) #[] (List.replicate (if us.toArray.isEmpty = true then 0 else n.toNat) us.toArray)) }, toks := s.toks } := by
    rw [copies_of]
    exact ⟨.ref _, _, I.lnew (t' := s.toks) (rel.rep n.toNat) size, rfl, next _ I.fresh⟩
  have made : wpAny (model X.prog X.w) X.A (call (.builtin "list.__mul__") [.ref l, .int n tok]) (EP X pins σ Q) X.xe s :=
    call_meets F.slot_list_mul isList F.entry_list_mul (F.args_list_mul_2 _ _) (mul_any l us.toArray cap none slo n tok fits few short) ⟨obj, result⟩
  exact wpAny_binaryOp_repeat_ref (by decide) isList (fun z => typeIs_int z n tok) noFill_list_mul F.fills_int_mul F.slot_int_rmul repeat_list F.slot_int_index.lookup
    (call_meets F.slot_int_rmul (typeIs_int s n tok) F.entry_int_rmul (F.args_int_rmul_2 _ _) (rmul_any n tok l us.toArray cap none slo) ⟨obj, rfl, isList, made⟩)
@[simp] def fRep (a : T) (b : T) (k : (T → Prop)) : Prop := match a, b with | .lst _ xs, .int n => (-(2 ^ 63) ≤ n ∧ n < 2 ^ 63 ∧ xs.length * n.toNat ≤ sizeLine) ∧ k (.lst true (List.replicate n.toNat (frL xs)).flatten) | _, _ => False
theorem frL_len (xs : List T) : (frL xs).length = xs.length := by rw [frL_map, List.length_map]
theorem o2_rep : Op2 c (rRepS c.K) fRep := by
  intro F H σ ρ tt tv a b x y k P I h q
  unfold fRep at h
  split at h
  · rename_i o xs n
    have e := I.intTop
    subst e
    obtain ⟨l, vs, rfl, hl, hlen, J⟩ := I.drop.opLst
    obtain ⟨F2, _, J2, r⟩ := J.takeFrz hlen
    refine ⟨l, n, vs, rfl, rfl, hl, ⟨h.1.1, h.1.2.1, hlen ▸ h.1.2.2⟩, fun p hp => ?_⟩
    have r2 := TrL.rep r n.toNat
    exact q _ _ _ _ ((J2.pushL r2).newLst r2.length hp) h.2
  · exact h.elim
@[simp] def fMul (a : T) (b : T) (k : (T → Prop)) : Prop := match a, b with
  | .int i, .int j => CMulW i j ∧ k (.int (i * j))
  | .lst _ xs, .int n => (-(2 ^ 63) ≤ n ∧ n < 2 ^ 63 ∧ xs.length * n.toNat ≤ sizeLine) ∧ k (.lst true (List.replicate n.toNat (frL xs)).flatten)
  | _, _ => False
theorem op_mulA : OpR X (binaryOp .Mult) (fun x y H Q => rI CMulW (fun i j => .int (i * j)) x y H Q ∨ rRepS X.K x y H Q) := op_mulW.or op_repS
theorem o2_mul : Op2 c (fun x y H Q => rI CMulW (fun i j => .int (i * j)) x y H Q ∨ rRepS c.K x y H Q) fMul := by
  refine Op2.or (f := fII CMulW fun i j => .int (i * j)) (f' := fRep) (o2_II fun _ _ _ _ _ => .int _) o2_rep fun a b k h => ?_
  unfold fMul at h
  split at h
  · exact .inl h
  · exact .inr h
  · exact h.elim

/-! ### subscripts -/
theorem atI_len {α β : Type} {xs : List α} {ys : List β} (h : xs.length = ys.length) {i : Int} {x : α} (e : atI xs i = some x) : ∃ (j : Nat) (y : β), atI ys i = some y ∧ xs[j]? = some x ∧ ys[j]? = some y := by
  unfold atI at e ⊢
  rw [← h]
  cases z : ixN xs.length i with
  | none => rw [z] at e; cases e
  | some j =>
    rw [z] at e
    have e : xs[j]? = some x := e
    have hj : j < xs.length := (List.getElem?_eq_some_iff.mp e).1
    exact ⟨j, ys[j]'(by omega), List.getElem?_eq_getElem (by omega), e, List.getElem?_eq_getElem (by omega)⟩
/-- one of the values on top is kept -/
theorem Sim.keepAt {F H : Hp} {σ : L2.St} {ρ : Rho} {tt xs : List T} {tv vs : List V} {j : Nat} {t : T} {v : V} (I : Sim c F H σ ρ (xs ++ tt) (vs ++ tv)) (hl : xs.length = vs.length) (e : xs[j]? = some t) (e2 : vs[j]? = some v) : Sim c F H σ ρ (t :: tt) (v :: tv) := by
  have tl := I.tl
  simp only [List.length_append] at tl
  refine I.re (by simp only [List.length_cons]; omega) (fun G l => ?_) I.iop
  rw [List.map_append, List.map_append, List.append_assoc, List.append_assoc] at l
  obtain ⟨G1, G2, rfl, q1, q2⟩ := Live.to_trL hl l
  obtain ⟨v', Gt, e3, ht, s⟩ := q1.get e
  rw [e2] at e3
  cases e3
  exact ⟨Gt ++ G2, .cons ht q2, _, .refl _, s.append (List.Sublist.refl _)⟩
@[simp] def fIx (a : T) (b : T) (k : (T → Prop)) : Prop := match a, b with
  | .lst _ xs, .int i => match atI xs i with | some t => k t | none => False
  | .tup xs, .int i => match atI xs i with | some t => k t | none => False
  | .str s, .int i => s.length ≤ sizeLine ∧ match atI s.cps.toList i with | some n => k (.str ⟨#[n]⟩) | none => False
  | _, _ => False
theorem o2_ix : Op2 c (rIx c.K) fIx := by
  intro F H σ ρ tt tv a b x y k P I h q
  unfold fIx at h
  split at h
  · rename_i o xs i
    have e := I.intTop
    subst e
    obtain ⟨l, vs, rfl, hs, hlen, J⟩ := I.drop.opLst
    split at h
    · rename_i t et
      obtain ⟨j, v, ev, ej, ej2⟩ := atI_len hlen et
      exact .inl ⟨l, vs, i, v, rfl, rfl, hs, ev, q _ _ _ _ (J.keepAt hlen ej ej2) h⟩
    · exact h.elim
  · rename_i xs i
    have e := I.intTop
    subst e
    obtain ⟨l, vs, rfl, hs, hlen, J⟩ := I.drop.open_tup
    split at h
    · rename_i t et
      obtain ⟨j, v, ev, ej, ej2⟩ := atI_len hlen et
      exact .inr (.inl ⟨l, vs, i, v, rfl, rfl, hs, ev, q _ _ _ _ (J.keepAt hlen ej ej2) h⟩)
    · exact h.elim
  · obtain ⟨⟨_, h1⟩, _, h2⟩ := I.scal2
    cases h1
    cases h2
    obtain ⟨hz, h⟩ := h
    split at h
    · rename_i n en
      exact .inr (.inr ⟨_, _, n, rfl, rfl, hz, en, q _ _ _ _ (I.drop.drop.pushG (.str _) rfl) h⟩)
    · exact h.elim
  · exact h.elim
theorem ve_ix {a b : Expr} (ha : VE X c a wa) (hb : VE X c b wb) (hK : X.K = c.K := by rfl) (hs : PlainIx b := by exact fun _ _ => rfl) : VE X c (.Subscript a b pos) (w2 fIx wa wb) := by
  obtain ⟨ta, pa, ka⟩ := ha
  obtain ⟨tb, pb, kb⟩ := hb
  refine ⟨_, pe_ix ix_seq pa pb hs, ?_⟩
  rw [hK]
  exact tOp_ok o2_ix ka kb

/-! ### slices -/
abbrev WO2 := Rho → (Option Int → Rho → Prop) → Prop
def VO (X : Cx) (c : Cst) (e : Option Expr) (w : WO2) : Prop :=
  ∃ to : TO, PO X e to ∧ ∀ (F H : Hp) (σ : L2.St) (ρ : Rho) (tt : List T) (tv : List V) (Q : Option Int → Rho → Prop) (P : Option Int → Hp → Prop), Sim c F H σ ρ tt tv → w ρ Q →
    (∀ o H' F' ρ', Sim c F' H' σ ρ' tt tv → Q o ρ' → P o H') → to σ H P
@[simp] def wNo (ρ : Rho) (Q : Option Int → Rho → Prop) : Prop := Q none ρ
@[simp] def wSm (w : WE) (ρ : Rho) (Q : Option Int → Rho → Prop) : Prop := w ρ fun t ρ1 => match t with | .int i => Q (some i) ρ1 | _ => False
theorem vo_none : VO X c none wNo := ⟨_, po_none, fun F H σ ρ tt tv Q P I h k => k _ _ _ _ I h⟩
theorem vo_some (he : VE X c e w) : VO X c (some e) (wSm w) := by
  obtain ⟨te, pe, ke⟩ := he
  refine ⟨_, po_some pe, fun F H σ ρ tt tv Q P I h k => ke F H σ ρ tt tv _ _ I h fun v H1 F1 t ρ1 I1 q => ?_⟩
  cases t with
  | int i =>
    have e := I1.intTop
    subst e
    exact ⟨i, rfl, k _ _ _ _ I1.drop q⟩
  | _ => exact (show False from q).elim
def cutT {α : Type} (xs : List α) (lo hi : Option Int) : List α := (xs.drop (HT.sIx xs.length 0 lo)).take (HT.sIx xs.length xs.length hi - HT.sIx xs.length 0 lo)
theorem TrL.take {K : PySem.W.Frag} {F H : Hp} : ∀ {xs : List T} {vs : List V} {G : List Addr} (n : Nat), TrL K F H xs vs G → ∃ G', TrL K F H (xs.take n) (vs.take n) G' ∧ G'.Sublist G
  | _, _, _, 0, _ => ⟨[], .nil, List.nil_sublist _⟩
  | _, _, _, _ + 1, .nil => ⟨[], .nil, List.Sublist.refl _⟩
  | _, _, _, n + 1, .cons h r => by
    obtain ⟨G', q, s⟩ := TrL.take n r
    exact ⟨_, .cons h q, s.append_left _⟩
theorem TrL.drop {K : PySem.W.Frag} {F H : Hp} : ∀ {xs : List T} {vs : List V} {G : List Addr} (n : Nat), TrL K F H xs vs G → ∃ G', TrL K F H (xs.drop n) (vs.drop n) G' ∧ G'.Sublist G
  | _, _, G, 0, r => ⟨G, r, List.Sublist.refl _⟩
  | _, _, _, _ + 1, .nil => ⟨[], .nil, List.Sublist.refl _⟩
  | _, _, _, n + 1, .cons h r => by
    obtain ⟨G', q, s⟩ := TrL.drop n r
    exact ⟨G', q, s.trans (List.sublist_append_right _ _)⟩
theorem Sim.cut {F H : Hp} {σ : L2.St} {ρ : Rho} {tt xs : List T} {tv vs : List V} (lo hi : Option Int) (I : Sim c F H σ ρ (xs ++ tt) (vs ++ tv)) (hl : xs.length = vs.length) : Sim c F H σ ρ (cutT xs lo hi ++ tt) (cutT vs lo hi ++ tv) ∧ (cutT xs lo hi).length = (cutT vs lo hi).length := by
  have tl := I.tl
  simp only [List.length_append] at tl
  have e : (cutT xs lo hi).length = (cutT vs lo hi).length := by
    unfold cutT
    simp [hl]
  refine ⟨I.re (by simp only [List.length_append]; omega) (fun G l => ?_) I.iop, e⟩
  rw [List.map_append, List.map_append, List.append_assoc, List.append_assoc] at l
  obtain ⟨G1, G2, rfl, q1, q2⟩ := Live.to_trL hl l
  obtain ⟨Ga, qa, sa⟩ := q1.drop (HT.sIx xs.length 0 lo)
  obtain ⟨Gb, qb, sb⟩ := qa.take (HT.sIx xs.length xs.length hi - HT.sIx xs.length 0 lo)
  refine ⟨Gb ++ G2, ?_, _, .refl _, (sb.trans sa).append (List.Sublist.refl _)⟩
  rw [List.map_append, List.map_append, List.append_assoc, List.append_assoc]
  refine Live.of_trL ?_ q2
  unfold cutT
  rw [← hl]
  exact qb
@[simp] def fSl (t : T) (lo hi : Option Int) (k : T → Prop) : Prop := match t with
  | .lst _ xs => k (.lst true (cutT xs lo hi))
  | .str s => s.length ≤ sizeLine ∧ k (.str (cutS s lo hi))
  | _ => False
@[simp] def wSl (wa : WE) (wl wh : WO2) (ρ : Rho) (Q : T → Rho → Prop) : Prop := wa ρ fun t ρ1 => wl ρ1 fun lo ρ2 => wh ρ2 fun hi ρ3 => fSl t lo hi fun r => Q r ρ3
theorem ve_slice {lo hi : Option Expr} {wl wh : WO2} {p2 : Pos} (he : VE X c e w) (hlo : VO X c lo wl) (hhi : VO X c hi wh) (hK : X.K = c.K := by rfl) : VE X c (.Subscript e (.Slice lo hi none p2) pos) (wSl w wl wh) := by
  obtain ⟨te, pe, ke⟩ := he
  obtain ⟨tl, pl, kl⟩ := hlo
  obtain ⟨th, ph, kh⟩ := hhi
  refine ⟨_, pe_slice (sl_list.or sl_str) pe pl ph, fun F H σ ρ tt tv Q P I h k => ?_⟩
  refine ke F H σ ρ tt tv _ _ I h fun v H1 F1 t ρ1 I1 q => ?_
  refine kl F1 H1 σ ρ1 _ _ _ _ I1 q fun lo H2 F2 ρ2 I2 q => ?_
  refine kh F2 H2 σ ρ2 _ _ _ _ I2 q fun hi H3 F3 ρ3 I3 q => ?_
  unfold fSl at q
  split at q
  · obtain ⟨l, vs, rfl, hs, hlen, J⟩ := I3.opLst
    refine .inl ⟨l, vs, rfl, hK ▸ hs, fun p hp => ?_⟩
    obtain ⟨J2, e2⟩ := J.cut lo hi hlen
    exact k _ _ _ _ _ (J2.newLst e2 hp) q
  · obtain ⟨_, _, z, _⟩ := I3.top
    cases z
    exact .inr ⟨_, rfl, q.1, k _ _ _ _ _ (I3.drop.pushG (.str _) rfl) q.2⟩
  · exact q.elim

/-! ### built-in calls by values -/
def isInts : List T → Option (List Int)
  | [] => some []
  | .int i :: xs => (isInts xs).map (i :: ·)
  | _ :: _ => none
theorem isInts_map : ∀ ns : List Int, isInts (ns.map .int) = some ns
  | [] => rfl
  | n :: ns => by rw [List.map_cons, isInts, isInts_map ns]; rfl
theorem isInts_eq : ∀ {xs : List T} {ns : List Int}, isInts xs = some ns → xs = ns.map .int
  | [], ns, h => by
    have e : [] = ns := Option.some.inj h
    subst e
    rfl
  | .int i :: xs, ns, h => by
    unfold isInts at h
    cases z : isInts xs with
    | none => rw [z] at h; cases h
    | some ms =>
      rw [z] at h
      have e : i :: ms = ns := Option.some.inj h
      subst e
      rw [isInts_eq z, List.map_cons]
  | .non :: _, _, h | .bl _ :: _, _, h | .str _ :: _, _, h | .fn _ :: _, _, h | .lst _ _ :: _, _, h | .tup _ :: _, _, h | .dic _ _ _ :: _, _, h | .ins _ _ _ _ :: _, _, h => by cases h
def isBls : List T → Option (List Bool)
  | [] => some []
  | .bl i :: xs => (isBls xs).map (i :: ·)
  | _ :: _ => none
theorem isBls_map : ∀ ns : List Bool, isBls (ns.map .bl) = some ns
  | [] => rfl
  | n :: ns => by rw [List.map_cons, isBls, isBls_map ns]; rfl
theorem isBls_eq : ∀ {xs : List T} {ns : List Bool}, isBls xs = some ns → xs = ns.map .bl
  | [], ns, h => by
    have e : [] = ns := Option.some.inj h
    subst e
    rfl
  | .bl i :: xs, ns, h => by
    unfold isBls at h
    cases z : isBls xs with
    | none => rw [z] at h; cases h
    | some ms =>
      rw [z] at h
      have e : i :: ms = ns := Option.some.inj h
      subst e
      rw [isBls_eq z, List.map_cons]
  | .non :: _, _, h | .int _ :: _, _, h | .str _ :: _, _, h | .fn _ :: _, _, h | .lst _ _ :: _, _, h | .tup _ :: _, _, h | .dic _ _ _ :: _, _, h | .ins _ _ _ _ :: _, _, h => by cases h
theorem TrL.bls {K : PySem.W.Frag} {F H : Hp} : ∀ {ns : List Bool} {vs : List V} {G : List Addr}, TrL K F H (ns.map .bl) vs G → vs = ns.map V.bl ∧ G = []
  | [], _, _, .nil => ⟨rfl, rfl⟩
  | n :: ns, _, _, .cons h r => by
    cases h
    obtain ⟨rfl, rfl⟩ := TrL.bls r
    exact ⟨rfl, rfl⟩
/-- what lies on top: ints -/
theorem Sim.intsTop {F H : Hp} {σ : L2.St} {ρ : Rho} {tt : List T} {tv vs : List V} {ns : List Int} (I : Sim c F H σ ρ (ns.map .int ++ tt) (vs ++ tv)) (hl : ns.length = vs.length) : vs = ns.map V.int := by
  obtain ⟨G, l, _⟩ := I.live
  rw [List.map_append, List.map_append, List.append_assoc, List.append_assoc] at l
  obtain ⟨_, _, _, q, _⟩ := Live.to_trL (by simpa using hl) l
  exact (TrL.map_int q).1
theorem Sim.blsTop {F H : Hp} {σ : L2.St} {ρ : Rho} {tt : List T} {tv vs : List V} {ns : List Bool} (I : Sim c F H σ ρ (ns.map .bl ++ tt) (vs ++ tv)) (hl : ns.length = vs.length) : vs = ns.map V.bl := by
  obtain ⟨G, l, _⟩ := I.live
  rw [List.map_append, List.map_append, List.append_assoc, List.append_assoc] at l
  obtain ⟨_, _, _, q, _⟩ := Live.to_trL (by simpa using hl) l
  exact (TrL.bls q).1
/-- one value on top -/
theorem one_top {vs : List V} (hl : 1 = vs.length) : ∃ v, vs = [v] := by
  match vs, hl with
  | [v], _ => exact ⟨v, rfl⟩
theorem two_top {vs : List V} (hl : 2 = vs.length) : ∃ v u, vs = [v, u] := by
  match vs, hl with
  | [v, u], _ => exact ⟨v, u, rfl⟩
@[simp] def fLen (ts : List T) (k : (T → Prop)) : Prop := match ts with
  | [.lst _ xs] => k (.int xs.length)
  | [.tup xs] => k (.int xs.length)
  | [.str s] => s.length ≤ sizeLine ∧ k (.int s.length)
  | _ => False
theorem oA_len : OpA c (fun xs H Q => ∃ x n, xs = [x] ∧ LenV c.K x H n ∧ Q (.int n) H) fLen := by
  intro F H σ ρ tt tv ts vs k P I hl h q
  unfold fLen at h
  split at h
  · obtain ⟨v, rfl⟩ := one_top hl
    obtain ⟨a, us, rfl, hs, hlen, J⟩ := Sim.opLst I
    exact ⟨_, _, rfl, .inl ⟨us, hs, hlen⟩, q _ _ _ _ ((Sim.drop I).pushG (.int _) rfl) h⟩
  · obtain ⟨v, rfl⟩ := one_top hl
    obtain ⟨a, us, rfl, hs, hlen, J⟩ := Sim.open_tup I
    exact ⟨_, _, rfl, .inr ⟨us, hs, hlen⟩, q _ _ _ _ ((Sim.drop I).pushG (.int _) rfl) h⟩
  · obtain ⟨v, rfl⟩ := one_top hl
    obtain ⟨_, _, z, _⟩ := Sim.top I
    cases z
    exact ⟨_, _, rfl, ⟨h.1, rfl⟩, q _ _ _ _ ((Sim.drop I).pushG (.int _) rfl) h.2⟩
  · exact h.elim
/-- a list of ints -/
@[simp] def fInts (g : List Int → (T → Prop) → Prop) (ts : List T) (k : (T → Prop)) : Prop := match ts with
  | [.lst _ xs] => match isInts xs with | some ns => g ns k | none => False
  | _ => False
theorem Sim.lstInts {F H : Hp} {σ : L2.St} {ρ : Rho} {tt : List T} {tv vs : List V} {ns : List Int} {o : Bool} (I : Sim c F H σ ρ ([.lst o (ns.map .int)] ++ tt) (vs ++ tv)) (hl : 1 = vs.length) : ∃ a, vs = [.ref a] ∧ SqL c.K H a (ns.map V.int) := by
  obtain ⟨v, rfl⟩ := one_top hl
  obtain ⟨a, us, rfl, hs, hlen, J⟩ := Sim.opLst I
  have e := J.intsTop (by simpa using hlen)
  subst e
  exact ⟨a, rfl, hs⟩
@[simp] def fSum (ts : List T) (k : T → Prop) : Prop := fInts (fun ns k => k (.int ns.sum)) ts k
theorem oA_sum : OpA c (rSum c.K) fSum := by
  intro F H σ ρ tt tv ts vs k P I hl h q
  unfold fSum fInts at h
  split at h
  · split at h
    · rename_i ns hn
      have e := isInts_eq hn
      subst e
      obtain ⟨a, rfl, hs⟩ := Sim.lstInts I hl
      exact ⟨a, ns, rfl, hs, q _ _ _ _ ((Sim.drop I).pushG (.int _) rfl) h⟩
    · exact h.elim
  · exact h.elim
/-- max, min of two ints, of a list of ints -/
def rMax2 (K : PySem.W.Frag) : List V → Hp → VK → Prop := fun xs H Q => (∃ i j, xs = [.int i, .int j] ∧ Q (.int (if j > i then j else i)) H) ∨ rMax K xs H Q
def rMin2 (K : PySem.W.Frag) : List V → Hp → VK → Prop := fun xs H Q => (∃ i j, xs = [.int i, .int j] ∧ Q (.int (if j < i then j else i)) H) ∨ rMin K xs H Q
theorem call_maxA (hc : X.calm = true) : CallR X (.builtin "max") (rMax2 X.K) := by
  rintro pins s σ H xs us Q I r h
  rcases h with h | h
  · exact call_max2 hc pins s σ H xs us Q I r h
  · exact cr_max hc pins s σ H xs us Q I r h
theorem call_minA (hc : X.calm = true) : CallR X (.builtin "min") (rMin2 X.K) := by
  rintro pins s σ H xs us Q I r h
  rcases h with h | h
  · exact call_min2 hc pins s σ H xs us Q I r h
  · exact cr_min hc pins s σ H xs us Q I r h
@[simp] def fMax (ts : List T) (k : (T → Prop)) : Prop := match ts with
  | [.int i, .int j] => k (.int (max i j))
  | [.lst _ xs] => match isInts xs with | some ns => 0 < ns.length ∧ ∀ m, m ∈ ns → (∀ y, y ∈ ns → y ≤ m) → k (.int m) | none => False
  | _ => False
@[simp] def fMin (ts : List T) (k : (T → Prop)) : Prop := match ts with
  | [.int i, .int j] => k (.int (min i j))
  | [.lst _ xs] => match isInts xs with | some ns => 0 < ns.length ∧ ∀ m, m ∈ ns → (∀ y, y ∈ ns → m ≤ y) → k (.int m) | none => False
  | _ => False
theorem Sim.two {F H : Hp} {σ : L2.St} {ρ : Rho} {tt : List T} {tv vs : List V} {i j : Int} (I : Sim c F H σ ρ ([.int i, .int j] ++ tt) (vs ++ tv)) (hl : 2 = vs.length) : vs = [.int i, .int j] ∧ Sim c F H σ ρ tt tv := by
  obtain ⟨v, u, rfl⟩ := two_top hl
  have e : v = .int i := Sim.intTop I
  have e2 : u = .int j := Sim.intTop (Sim.drop I)
  subst e e2
  exact ⟨rfl, Sim.drop (Sim.drop I)⟩
theorem oA_max : OpA c (rMax2 c.K) fMax := by
  intro F H σ ρ tt tv ts vs k P I hl h q
  unfold fMax at h
  split at h
  · rename_i i j
    obtain ⟨rfl, J⟩ := Sim.two I hl
    refine .inl ⟨i, j, rfl, q _ _ _ _ (J.pushG (.int _) rfl) ?_⟩
    have e : (if j > i then j else i) = max i j := by rw [Int.max_def]; split <;> split <;> omega
    rw [e]; exact h
  · split at h
    · rename_i ns hn
      have e := isInts_eq hn
      subst e
      obtain ⟨a, rfl, hs⟩ := Sim.lstInts I hl
      exact .inr ⟨a, ns, rfl, hs, h.1, fun m hm hy => q _ _ _ _ ((Sim.drop I).pushG (.int _) rfl) (h.2 m hm hy)⟩
    · exact h.elim
  · exact h.elim
theorem oA_min : OpA c (rMin2 c.K) fMin := by
  intro F H σ ρ tt tv ts vs k P I hl h q
  unfold fMin at h
  split at h
  · rename_i i j
    obtain ⟨rfl, J⟩ := Sim.two I hl
    refine .inl ⟨i, j, rfl, q _ _ _ _ (J.pushG (.int _) rfl) ?_⟩
    have e : (if j < i then j else i) = min i j := by rw [Int.min_def]; split <;> split <;> omega
    rw [e]; exact h
  · split at h
    · rename_i ns hn
      have e := isInts_eq hn
      subst e
      obtain ⟨a, rfl, hs⟩ := Sim.lstInts I hl
      exact .inr ⟨a, ns, rfl, hs, h.1, fun m hm hy => q _ _ _ _ ((Sim.drop I).pushG (.int _) rfl) (h.2 m hm hy)⟩
    · exact h.elim
  · exact h.elim
@[simp] def fAbs (ts : List T) (k : (T → Prop)) : Prop := match ts with | [.int i] => k (.int (if i < 0 then -i else i)) | _ => False
theorem oA_abs : OpA c (fun xs H Q => ∃ i, xs = [.int i] ∧ Q (.int (if i < 0 then -i else i)) H) fAbs := by
  intro F H σ ρ tt tv ts vs k P I hl h q
  unfold fAbs at h
  split at h
  · obtain ⟨v, rfl⟩ := one_top hl
    have e : v = .int _ := Sim.intTop I
    subst e
    exact ⟨_, rfl, q _ _ _ _ ((Sim.drop I).pushG (.int _) rfl) h⟩
  · exact h.elim
@[simp] def fInt (ts : List T) (k : (T → Prop)) : Prop := match ts with | [.int i] => k (.int i) | [.bl b] => k (.int (if b then 1 else 0)) | _ => False
theorem oA_int : OpA c (fun xs H Q => (∃ i, xs = [.int i] ∧ Q (.int i) H) ∨ ∃ k, xs = [.bl k] ∧ Q (.int (if k then 1 else 0)) H) fInt := by
  intro F H σ ρ tt tv ts vs k P I hl h q
  unfold fInt at h
  split at h
  · obtain ⟨v, rfl⟩ := one_top hl
    have e : v = .int _ := Sim.intTop I
    subst e
    exact .inl ⟨_, rfl, q _ _ _ _ ((Sim.drop I).pushG (.int _) rfl) h⟩
  · obtain ⟨v, rfl⟩ := one_top hl
    obtain ⟨_, _, z, _⟩ := Sim.top I
    cases z
    exact .inr ⟨_, rfl, q _ _ _ _ ((Sim.drop I).pushG (.int _) rfl) h⟩
  · exact h.elim
/-- str of an int -/
@[simp] def fStr (ts : List T) (k : (T → Prop)) : Prop := match ts with | [.int i] => i.natAbs.log2 < 1920 ∧ k (.str (toString i)) | _ => False
theorem oA_str : OpA c (fun xs H Q => ∃ i, xs = [.int i] ∧ i.natAbs.log2 < 1920 ∧ Q (.str (toString i)) H) fStr := by
  intro F H σ ρ tt tv ts vs k P I hl h q
  unfold fStr at h
  split at h
  · obtain ⟨v, rfl⟩ := one_top hl
    have e : v = .int _ := Sim.intTop I
    subst e
    exact ⟨_, rfl, h.1, q _ _ _ _ ((Sim.drop I).pushG (.str _) rfl) h.2⟩
  · exact h.elim
/-- list(xs) -/
@[simp] def fList (ts : List T) (k : (T → Prop)) : Prop := match ts with | [.lst _ xs] => k (.lst true xs) | [.tup xs] => k (.lst true xs) | _ => False
theorem oA_list : OpA c (fun xs H Q => ∃ p ys, xs = [.ref p] ∧ (SqL c.K H p ys ∨ SqT c.K H p ys) ∧ ∀ l, H l = none → Q (.ref l) (upd H l (.lst ys))) fList := by
  intro F H σ ρ tt tv ts vs k P I hl h q
  unfold fList at h
  split at h
  · obtain ⟨v, rfl⟩ := one_top hl
    obtain ⟨a, us, rfl, hs, hlen, J⟩ := Sim.opLst I
    exact ⟨a, us, rfl, .inl hs, fun l hl => q _ _ _ _ (J.newLst hlen hl) h⟩
  · obtain ⟨v, rfl⟩ := one_top hl
    obtain ⟨a, us, rfl, hs, hlen, J⟩ := Sim.open_tup I
    exact ⟨a, us, rfl, .inr hs, fun l hl => q _ _ _ _ (J.newLst hlen hl) h⟩
  · exact h.elim
@[simp] def fAll (ts : List T) (k : (T → Prop)) : Prop := match ts with | [.lst _ xs] => (match isBls xs with | some bs => k (.bl (bs.all id)) | none => False) | _ => False
@[simp] def fAny (ts : List T) (k : (T → Prop)) : Prop := match ts with | [.lst _ xs] => (match isBls xs with | some bs => k (.bl (bs.any id)) | none => False) | _ => False
theorem oA_all : OpA c (rAll c.K) fAll := by
  intro F H σ ρ tt tv ts vs k P I hl h q
  unfold fAll at h
  split at h
  · split at h
    · rename_i bs hn
      have e := isBls_eq hn
      subst e
      obtain ⟨v, rfl⟩ := one_top hl
      obtain ⟨a, us, rfl, hs, hlen, J⟩ := Sim.opLst I
      have e := J.blsTop (by simpa using hlen)
      subst e
      exact ⟨a, bs, rfl, hs, q _ _ _ _ ((Sim.drop I).pushG (.bl _) rfl) h⟩
    · exact h.elim
  · exact h.elim
theorem oA_any : OpA c (rAny c.K) fAny := by
  intro F H σ ρ tt tv ts vs k P I hl h q
  unfold fAny at h
  split at h
  · split at h
    · rename_i bs hn
      have e := isBls_eq hn
      subst e
      obtain ⟨v, rfl⟩ := one_top hl
      obtain ⟨a, us, rfl, hs, hlen, J⟩ := Sim.opLst I
      have e := J.blsTop (by simpa using hlen)
      subst e
      exact ⟨a, bs, rfl, hs, q _ _ _ _ ((Sim.drop I).pushG (.bl _) rfl) h⟩
    · exact h.elim
  · exact h.elim
end
end L3

namespace L3
open PySem L2 PySem.Spec PyProof.Rows
section
variable {X : Cx} {c : Cst} {e : Expr} {w wa wb : WE} {pos apos cpos p : Pos}
section
variable {F H : Hp} {σ : L2.St} {ρ : Rho} {tt ts : List T} {tv vs : List V} {t : T} {v : V}

/-! ### a part is taken out of what a name holds -/
theorem TrL.takeAt {K : PySem.W.Frag} : ∀ {xs : List T} {vs : List V} {G : List Addr} {j : Nat} {t : T}, TrL K F H xs vs G → xs[j]? = some t →
    ∃ v Gt G', vs[j]? = some v ∧ Tr K F H t v Gt ∧ TrL K F H (xs.set j (.fn v)) vs G' ∧ G.Perm (Gt ++ G')
  | _, _, _, j, t, .nil, e => by simp at e
  | _, _, _, 0, t, .cons h r, e => by
    simp at e
    subst e
    exact ⟨_, _, _, rfl, h, TrL.cons (G1 := []) (.fn _) r, .refl _⟩
  | _, _, _, j + 1, t, .cons (G1 := Ga) h r, e => by
    obtain ⟨v, Gt, G', e1, ht, r', pm⟩ := TrL.takeAt (j := j) r (by simpa using e)
    refine ⟨v, Gt, Ga ++ G', by simpa using e1, ht, .cons h r', (pm.append_left _).trans ?_⟩
    iterate 2 rw [← List.append_assoc]
    exact List.perm_append_comm.append_right _
/-- what holds parts: a list, a tuple -/
@[simp] def parts : T → Option (List T)
  | .lst _ xs => some xs
  | .tup xs => some xs
  | _ => none
@[simp] def reparts : T → List T → T
  | .lst o _, ys => .lst o ys
  | .tup _, ys => .tup ys
  | t, _ => t
theorem own_reparts : ∀ (t : T) (ys : List T), own (reparts t ys) = own t
  | .non, _ | .bl _, _ | .int _, _ | .str _, _ | .fn _, _ | .lst _ _, _ | .tup _, _ | .dic _ _ _, _ | .ins _ _ _ _, _ | .exc _, _ => rfl
/-- a part of what a name holds comes onto the top; in its place only the bare value is known -/
theorem Sim.takeAt {i j : Nat} {t0 : T} {xs : List T} (I : Sim c F H σ ρ tt tv) (h : ρ[i]? = some (some t0)) (hp : parts t0 = some xs) (hj : xs[j]? = some t) :
    ∃ a ws v, σ[i]? = some (some (.ref a)) ∧ ((∃ o, t0 = .lst o xs ∧ SqL c.K H a ws ∧ (o = true → H a = some (.lst ws))) ∨ (t0 = .tup xs ∧ SqT c.K H a ws)) ∧ ws[j]? = some v ∧ xs.length = ws.length ∧
      Sim c F H σ (ρ.set i (some (reparts t0 (xs.set j (.fn v))))) (t :: tt) (v :: tv) := by
  obtain ⟨G, l, nd, hg⟩ := I.live
  have h' : (tt.map some ++ ρ)[(tt.map some).length + i]? = some (some t0) := by rw [ap_get]; exact h
  obtain ⟨v0, G1, G2, e1, q, l2, pm⟩ := l.take h'
  have hl : (tt.map some).length = (tv.map some).length := by simp [I.tl]
  rw [ap_set] at l2
  rw [hl, ap_get] at e1
  have hlt : i < ρ.length := (List.getElem?_eq_some_iff.mp h).1
  -- put back
  have fin : ∀ {u : T} {v : V} {Gt Gn : List Addr}, Tr c.K F H u v0 Gn → Tr c.K F H t v Gt → G1.Perm (Gt ++ Gn) → own u = own t0 → Sim c F H σ (ρ.set i (some u)) (t :: tt) (v :: tv) := fun {u v Gt Gn} hu ht pm1 ho => by
    obtain ⟨G4, q4, G5, pm4, s4⟩ := Live.put hu (i := (tt.map some).length + i) l2 (by simp [hlt])
    rw [ap_set, List.set_set] at q4
    rw [hl, ap_set, set_same e1] at q4
    have key : (Gt ++ G4).Perm (Gt ++ (Gn ++ G5)) := pm4.append_left _
    have sub : (Gt ++ (Gn ++ G5)).Sublist (Gt ++ (Gn ++ G2)) := (s4.append_left _).append_left _
    have big : G.Perm (Gt ++ (Gn ++ G2)) := by
      rw [← List.append_assoc]
      exact pm.trans (pm1.append_right _)
    refine ⟨I.ex, I.fx, I.fn, I.keep, I.dom, by simp [I.tl], ⟨Gt ++ G4, .cons ht q4, key.nodup_iff.mpr ((big.nodup_iff.mp nd).sublist sub), fun g hm => hg g (big.mem_iff.mpr (sub.subset (key.mem_iff.mp hm)))⟩, fun p hp => ?_⟩
    obtain ⟨a, t1, b, d⟩ := I.iop p hp
    refine ⟨a, ?_⟩
    by_cases z : i = 0
    · subst z
      refine ⟨u, List.getElem?_set_self hlt, ?_⟩
      rw [h] at b
      cases b
      rw [ho]; exact d
    · exact ⟨t1, by rw [List.getElem?_set_ne z]; exact b, d⟩
  cases q with
  | @lstF a _ ws Gx hs hr =>
    cases hp
    obtain ⟨v, Gt, G', e2, ht, r', pm'⟩ := hr.takeAt hj
    exact ⟨a, ws, v, e1, .inl ⟨_, rfl, ex_l I.ex hs, fun z => by cases z⟩, e2, hr.length, fin (.lstF hs r') ht pm' rfl⟩
  | @lstT a _ ws Gx hs hr =>
    cases hp
    obtain ⟨v, Gt, G', e2, ht, r', pm'⟩ := hr.takeAt hj
    refine ⟨a, ws, v, e1, .inl ⟨_, rfl, SqL.of hs, fun _ => hs⟩, e2, hr.length, fin (.lstT hs r') ht ?_ rfl⟩
    exact (pm'.cons a).trans (List.perm_middle.symm)
  | @tup a _ ws Gx hs hr =>
    cases hp
    obtain ⟨v, Gt, G', e2, ht, r', pm'⟩ := hr.takeAt hj
    exact ⟨a, ws, v, e1, .inr ⟨rfl, ex_t I.ex hs⟩, e2, hr.length, fin (.tup hs r') ht pm' rfl⟩
  | _ => cases hp
end
@[simp] def isRef : Option (Option T) → Bool
  | some (some (.lst _ _)) => true
  | some (some (.tup _)) => true
  | _ => false
@[simp] def wTake (i : Nat) (wb : WE) (ρ : Rho) (Q : T → Rho → Prop) : Prop := isRef ρ[i]? = true ∧ wb ρ fun k ρ1 => match k with
  | .int j => match ρ1[i]? with
    | some (some t0) => (match parts t0 with
      | some xs => (match ixN xs.length j with
        | some n => (match xs[n]? with | some t => ∀ v, Q t (ρ1.set i (some (reparts t0 (xs.set n (.fn v))))) | none => False)
        | none => False)
      | none => False)
    | _ => False
  | _ => False
theorem some_val {F H : Hp} {σ : L2.St} {ρ : Rho} {tt : List T} {tv : List V} {i : Nat} {t : T} (I : Sim c F H σ ρ tt tv) (h : ρ[i]? = some (some t)) : ∃ v, σ[i]? = some (some v) := by
  obtain ⟨G, l, nd, hg⟩ := I.live
  have h' : (tt.map some ++ ρ)[(tt.map some).length + i]? = some (some t) := by rw [ap_get]; exact h
  obtain ⟨v0, G1, G2, e1, q, l2, pm⟩ := l.take h'
  have hl : (tt.map some).length = (tv.map some).length := by simp [I.tl]
  rw [hl, ap_get] at e1
  exact ⟨v0, e1⟩
theorem ve_take (i : Nat) {x : Str} {b : Expr} (hb : VE X c b wb) (hK : X.K = c.K := by rfl) (hs : PlainIx b := by exact fun _ _ => rfl) (hN : X.N[i]? = some x := by rfl) (hv : Vis X.env.scope x := by first | exact Or.inl rfl | exact Or.inr (Or.inl rfl) | exact Or.inr (Or.inr rfl)) (hd : (x == ("__debug__" : Str)) = false := by decide)
    (hcd : (x == ("__classdict__" : Str)) = false := by decide) : VE X c (.Subscript (.Name x p) b pos) (wTake i wb) := by
  obtain ⟨tb, pb, kb⟩ := hb
  refine ⟨_, pe_ix ix_seq (pe_var hN hv hd hcd) pb hs, ?_⟩
  rw [hK]
  intro F H σ ρ tt tv Q P I h k
  obtain ⟨h0, h⟩ := h
  obtain ⟨t9, e9⟩ : ∃ t, ρ[i]? = some (some t) := by
    cases z : ρ[i]? with
    | none => rw [z] at h0; cases h0
    | some y =>
      cases y with
      | none => rw [z] at h0; cases h0
      | some t => exact ⟨t, rfl⟩
  obtain ⟨v9, s9⟩ := some_val I e9
  refine ⟨v9, s9, kb F H σ ρ tt tv _ _ I h fun u H1 F1 t1 ρ1 I1 q => ?_⟩
  split at q
  · rename_i j
    have eu := I1.intTop
    subst eu
    split at q
    · rename_i t0 e0
      split at q
      · rename_i xs hp
        split at q
        · rename_i n hn
          split at q
          · rename_i t ht
            obtain ⟨a, ws, v, ea, hh, ew, hlen, J⟩ := I1.drop.takeAt e0 hp ht
            rw [s9] at ea
            cases ea
            have eat : atI ws j = some v := by
              unfold atI
              rw [← hlen, hn]
              exact ew
            rcases hh with ⟨o, _, hs', _⟩ | ⟨_, hs'⟩
            · exact .inl ⟨a, ws, j, v, rfl, rfl, hs', eat, k _ _ _ _ _ J (q v)⟩
            · exact .inr (.inl ⟨a, ws, j, v, rfl, rfl, hs', eat, k _ _ _ _ _ J (q v)⟩)
          · exact q.elim
        · exact q.elim
      · exact q.elim
    · exact q.elim
  · exact q.elim

/-! ### changes to a list that a name owns -/
@[simp] def isLs : Option (Option T) → Bool
  | some (some (.lst o _)) => o
  | _ => false
theorem isLs_eq {o : Option (Option T)} (h : isLs o = true) : ∃ xs, o = some (some (.lst true xs)) := by
  match o, h with
  | some (some (.lst true xs)), _ => exact ⟨xs, rfl⟩
theorem lst_of {ρ : Rho} {i : Nat} {P : List T → Prop} (h : match ρ[i]? with | some (some (.lst true xs)) => P xs | _ => False) : ∃ xs, ρ[i]? = some (some (.lst true xs)) ∧ P xs := by
  split at h
  · exact ⟨_, by assumption, h⟩
  · exact h.elim
/-- x.append(e) -/
@[simp] def wApp (i : Nat) (w : WE) (ρ : Rho) (Q : T → Rho → Prop) : Prop := isLs ρ[i]? = true ∧ w ρ fun t ρ1 => match ρ1[i]? with
  | some (some (.lst true xs)) => xs.length < sizeLine ∧ Q .non (ρ1.set i (some (.lst true (xs ++ [t]))))
  | _ => False
theorem ve_app (i : Nat) {x : Str} (he : VE X c e w) (hN : X.N[i]? = some x := by rfl) (hv : Vis X.env.scope x := by first | exact Or.inl rfl | exact Or.inr (Or.inl rfl) | exact Or.inr (Or.inr rfl)) (hd : (x == ("__debug__" : Str)) = false := by decide)
    (hcd : (x == ("__classdict__" : Str)) = false := by decide)
    (hbase : attributeBase (.Name x p) "append" X.env (eval (.Name x p) X.env) = eval (.Name x p) X.env := by rfl)
    (hfew : ((backTo cpos (starEach [e] X.env)).all (fun x => !x.1) && (backToKw cpos (keywordEach [] X.env)).all (fun x => x.1.isSome) && decide ([e].length + ([] : List Keyword).length + (if ([] : List Keyword).isEmpty then 0 else 1) < 30)) = true := by rfl)
    (hs : starEach [e] X.env = (false, eval e X.env) :: starEach [] X.env := by rfl) (hplain : (backTo cpos (starEach [] X.env)).any (·.1) = false := by rfl) (hline : (apos.endLine == cpos.line) = true := by rfl) :
    VE X c (.Call (.Attribute (.Name x p) "append" apos) [e] [] cpos) (wApp i w) := by
  obtain ⟨te, pe, ke⟩ := va_cons he va_nil hs
  refine ⟨_, pe_bm PySem.F.plainAttrs_list PySem.F.slot_list_append PySem.F.type_list_append mt_append (pe_var hN hv hd hcd) pe hbase hfew hline hs hplain, fun F H σ ρ tt tv Q P I h k => ?_⟩
  obtain ⟨h0, h⟩ := h
  obtain ⟨xs0, e0⟩ := isLs_eq h0
  obtain ⟨l, ws0, _, s0, hH0, _⟩ := I.lstAt e0
  refine ⟨.ref l, s0, .inl ⟨rfl, ws0, SqL.of hH0⟩, ?_⟩
  refine ke F H σ ρ tt tv (fun ts ρ1 => ∃ t, ts = [t] ∧ match ρ1[i]? with | some (some (.lst true xs)) => xs.length < sizeLine ∧ Q .non (ρ1.set i (some (.lst true (xs ++ [t])))) | _ => False) _ I ?_ fun vs H1 F1 ts ρ1 I1 hl q => ?_
  · exact cast (congrArg (w ρ) (funext fun t => funext fun ρ1 => propext ⟨fun h => ⟨t, rfl, h⟩, fun ⟨_, e, h⟩ => by cases e; exact h⟩)) h
  · obtain ⟨t, rfl, q⟩ := q
    obtain ⟨v, rfl⟩ := one_top hl
    obtain ⟨xs, e1, q⟩ := lst_of (P := fun xs => xs.length < sizeLine ∧ Q .non (ρ1.set i (some (.lst true (xs ++ [t]))))) q
    obtain ⟨l', ws, Gx, Gt, s1, hH, r1, r2, mk⟩ := I1.mutL hl e1
    rw [s0] at s1
    cases s1
    refine ⟨l, ws, v, rfl, rfl, hH, by rw [← r1.length]; exact q.1, k _ _ _ _ _ ((mk _ _ _ _ (r1.append r2) (List.Sublist.refl _) (.refl _)).pushG .non rfl) q.2⟩
/-- methods with no argument: x.reverse(), x.clear(), x.pop() -/
@[simp] def wRev (i : Nat) (ρ : Rho) (Q : T → Rho → Prop) : Prop := match ρ[i]? with
  | some (some (.lst true xs)) => Q .non (ρ.set i (some (.lst true xs.reverse)))
  | _ => False
theorem TrL.rev {K : PySem.W.Frag} {F H : Hp} {xs : List T} {vs : List V} {G : List Addr} (r : TrL K F H xs vs G) : ∃ G', TrL K F H xs.reverse vs.reverse G' ∧ G'.Perm G := by
  refine TrL.rec (motive_1 := fun _ _ _ _ => True) (motive_2 := fun xs vs G _ => ∃ G', TrL K F H xs.reverse vs.reverse G' ∧ G'.Perm G) trivial (fun _ => trivial) (fun _ => trivial) (fun _ => trivial) (fun _ => trivial) (fun _ => trivial) (fun _ _ _ => trivial) (fun _ _ _ => trivial) (fun _ _ _ => trivial) (fun _ _ _ => trivial) (fun _ _ _ => trivial) (fun _ _ _ => trivial) (fun _ _ _ => trivial) ⟨[], .nil, .refl _⟩ (fun h _ _ ih => ?_) r
  obtain ⟨G', q, pm⟩ := ih
  iterate 2 rw [List.reverse_cons]
  exact ⟨_, q.append (.one h), List.perm_append_comm.trans (pm.append_left _)⟩
theorem ve_rev (i : Nat) {x : Str} (hN : X.N[i]? = some x := by rfl) (hv : Vis X.env.scope x := by first | exact Or.inl rfl | exact Or.inr (Or.inl rfl) | exact Or.inr (Or.inr rfl)) (hd : (x == ("__debug__" : Str)) = false := by decide)
    (hcd : (x == ("__classdict__" : Str)) = false := by decide) (hbase : attributeBase (.Name x p) "reverse" X.env (eval (.Name x p) X.env) = eval (.Name x p) X.env := by rfl) (hline : (apos.endLine == cpos.line) = true := by rfl) :
    VE X c (.Call (.Attribute (.Name x p) "reverse" apos) [] [] cpos) (wRev i) := by
  refine ⟨_, pe_bm0 PySem.F.plainAttrs_list PySem.F.slot_list_reverse PySem.F.type_list_reverse mt_reverse (pe_var hN hv hd hcd) hbase hline, fun F H σ ρ tt tv Q P I h k => ?_⟩
  obtain ⟨xs, e1, q⟩ := lst_of (P := fun xs => Q .non (ρ.set i (some (.lst true xs.reverse)))) h
  obtain ⟨l, ws, Gx, Gt, s1, hH, r1, r2, mk⟩ := Sim.mutL (ts := []) (vs := []) I rfl e1
  obtain ⟨G', r', pm⟩ := r1.rev
  exact ⟨.ref l, s1, .inl ⟨rfl, ws, SqL.of hH⟩, l, ws, rfl, rfl, hH, k _ _ _ _ _ ((mk _ _ _ _ r' (List.sublist_append_left _ _) pm).pushG .non rfl) q⟩
@[simp] def wClr (i : Nat) (ρ : Rho) (Q : T → Rho → Prop) : Prop := match ρ[i]? with
  | some (some (.lst true _)) => Q .non (ρ.set i (some (.lst true [])))
  | _ => False
theorem ve_clr (i : Nat) {x : Str} (hN : X.N[i]? = some x := by rfl) (hv : Vis X.env.scope x := by first | exact Or.inl rfl | exact Or.inr (Or.inl rfl) | exact Or.inr (Or.inr rfl)) (hd : (x == ("__debug__" : Str)) = false := by decide)
    (hcd : (x == ("__classdict__" : Str)) = false := by decide) (hbase : attributeBase (.Name x p) "clear" X.env (eval (.Name x p) X.env) = eval (.Name x p) X.env := by rfl) (hline : (apos.endLine == cpos.line) = true := by rfl) :
    VE X c (.Call (.Attribute (.Name x p) "clear" apos) [] [] cpos) (wClr i) := by
  refine ⟨_, pe_bm0 PySem.F.plainAttrs_list PySem.F.slot_list_clear PySem.F.type_list_clear mt_clear (pe_var hN hv hd hcd) hbase hline, fun F H σ ρ tt tv Q P I h k => ?_⟩
  obtain ⟨xs, e1, q⟩ := lst_of (P := fun xs => Q .non (ρ.set i (some (.lst true [])))) h
  obtain ⟨l, ws, Gx, Gt, s1, hH, r1, r2, mk⟩ := Sim.mutL (ts := []) (vs := []) I rfl e1
  exact ⟨.ref l, s1, .inl ⟨rfl, ws, SqL.of hH⟩, l, ws, rfl, rfl, hH, k _ _ _ _ _ ((mk [] [] [] [] .nil (List.nil_sublist _) (.refl _)).pushG .non rfl) q⟩
@[simp] def wPop (i : Nat) (ρ : Rho) (Q : T → Rho → Prop) : Prop := match ρ[i]? with
  | some (some (.lst true xs)) => (match xs[xs.length - 1]? with | some t => Q t (ρ.set i (some (.lst true xs.dropLast))) | none => False)
  | _ => False
theorem dropLast_set {α : Type} {xs : List α} {y : α} : (xs.set (xs.length - 1) y).dropLast = xs.dropLast := by
  rw [List.dropLast_eq_take, List.dropLast_eq_take, List.length_set, List.take_set_of_le (Nat.le_refl _)]
theorem ve_pop (i : Nat) {x : Str} (hN : X.N[i]? = some x := by rfl) (hv : Vis X.env.scope x := by first | exact Or.inl rfl | exact Or.inr (Or.inl rfl) | exact Or.inr (Or.inr rfl)) (hd : (x == ("__debug__" : Str)) = false := by decide)
    (hcd : (x == ("__classdict__" : Str)) = false := by decide) (hbase : attributeBase (.Name x p) "pop" X.env (eval (.Name x p) X.env) = eval (.Name x p) X.env := by rfl) (hline : (apos.endLine == cpos.line) = true := by rfl) :
    VE X c (.Call (.Attribute (.Name x p) "pop" apos) [] [] cpos) (wPop i) := by
  refine ⟨_, pe_bm0 PySem.F.plainAttrs_list PySem.F.slot_list_pop PySem.F.type_list_pop mt_pop (pe_var hN hv hd hcd) hbase hline, fun F H σ ρ tt tv Q P I h k => ?_⟩
  obtain ⟨xs, e1, q⟩ := lst_of (P := fun xs => match xs[xs.length - 1]? with | some t => Q t (ρ.set i (some (.lst true xs.dropLast))) | none => False) h
  split at q
  · rename_i t ht
    obtain ⟨a, ws, v, s1, hh, ew, hlen, J⟩ := I.takeAt e1 rfl ht
    have hlt : i < ρ.length := (List.getElem?_eq_some_iff.mp e1).1
    obtain ⟨l, ws2, Gx, Gt, s2, hH, r1, r2, mk⟩ := Sim.mutL (ts := []) (vs := []) J rfl (List.getElem?_set_self hlt)
    rw [s1] at s2
    cases s2
    have hsame : ws = ws2 := by
      rcases hh with ⟨o, z, _, hs⟩ | ⟨z, _⟩
      · cases z
        have e9 := hs rfl
        rw [hH] at e9
        cases e9
        rfl
      · cases z
    subst hsame
    have e3 : (reparts (.lst true xs) (xs.set (xs.length - 1) (.fn v))) = .lst true (xs.set (xs.length - 1) (.fn v)) := rfl
    refine ⟨.ref a, s1, .inl ⟨rfl, ws, SqL.of hH⟩, a, ws, v, rfl, rfl, hH, by rw [← hlen]; exact ew, ?_⟩
    obtain ⟨Gd, rd, sd⟩ := r1.take (xs.length - 1)
    have M := mk _ _ _ _ rd (sd.trans (List.sublist_append_left _ _)) (.refl _)
    have ed : (xs.set (xs.length - 1) (T.fn v)).take (xs.length - 1) = xs.dropLast := by rw [List.dropLast_eq_take, List.take_set_of_le (Nat.le_refl _)]
    have ed2 : ws.take (xs.length - 1) = ws.dropLast := by rw [List.dropLast_eq_take, hlen]
    rw [ed, ed2, List.set_set] at M
    exact k _ _ _ _ _ M q
  · exact q.elim
end
end L3

namespace L3
open PySem L2 PySem.Spec PyProof.Rows
section
variable {X : Cx} {c : Cst} {e : Expr} {w wa wb : WE} {pos apos cpos p : Pos}
section
variable {F H : Hp} {σ : L2.St} {ρ : Rho} {tt ts : List T} {tv vs : List V} {t : T} {v : V}
/-- what lies below is seen as names' contents -/
theorem Sim.deep (I : Sim c F H σ ρ (ts ++ tt) (vs ++ tv)) (hl : ts.length = vs.length) : Sim { c with io := none } F H (tv.map some ++ σ) (tt.map some ++ ρ) ts vs := by
  obtain ⟨G, l, nd, hg⟩ := I.live
  refine ⟨I.ex, I.fx, I.fn, I.keep, I.dom, hl, ⟨G, ?_, nd, hg⟩, fun p hp => by cases hp⟩
  rw [List.map_append, List.map_append, List.append_assoc, List.append_assoc] at l
  exact l
theorem Sim.undeep {F' H' : Hp} (I0 : Sim c F H σ ρ (ts ++ tt) (vs ++ tv)) {tt' us : List T} {tv' ws : List V} (I : Sim { c with io := none } F' H' (tv'.map some ++ σ) (tt'.map some ++ ρ) us ws) (hl : tt'.length = tv'.length) : Sim c F' H' σ ρ (us ++ tt') (ws ++ tv') := by
  obtain ⟨G, l, nd, hg⟩ := I.live
  have tl := I.tl
  refine ⟨I.ex, I.fx, I.fn, I.keep, I.dom, by simp only [List.length_append]; omega, ⟨G, ?_, nd, hg⟩, I0.iop⟩
  rw [List.map_append, List.map_append, List.append_assoc, List.append_assoc]
  exact l
/-- an owned list on the way is changed -/
theorem Sim.mutS {xs : List T} (I : Sim c F H σ ρ (ts ++ .lst true xs :: tt) (vs ++ v :: tv)) (hlen : ts.length = vs.length) :
    ∃ p ws Gx Gt, v = .ref p ∧ H p = some (.lst ws) ∧ TrL c.K F H xs ws Gx ∧ TrL c.K F H ts vs Gt ∧
      ∀ xs' ws' G' P, TrL c.K F H xs' ws' G' → P.Sublist (Gx ++ Gt) → G'.Perm P → Sim c F (upd H p (.lst ws')) σ ρ (.lst true xs' :: tt) (.ref p :: tv) := by
  have tl := I.tl
  simp only [List.length_append, List.length_cons] at tl
  have J := I.deep hlen
  have J2 : Sim { c with io := none } F H ((v :: tv).map some ++ σ) ((T.lst true xs :: tt).map some ++ ρ) (ts ++ []) (vs ++ []) := by simp only [List.append_nil]; exact J
  obtain ⟨p, ws, Gx, Gt, s1, hH, r1, r2, mk⟩ := J2.mutL hlen (i := 0) (xs := xs) rfl
  have ev : v = .ref p := by simpa using s1
  refine ⟨p, ws, Gx, Gt, ev, hH, r1, r2, fun xs' ws' G' P r' sub pm => ?_⟩
  have M := mk xs' ws' G' P r' sub pm
  have M2 : Sim { c with io := none } F (upd H p (.lst ws')) ((V.ref p :: tv).map some ++ σ) ((T.lst true xs' :: tt).map some ++ ρ) [] [] := by
    subst ev
    exact M
  exact Sim.undeep I M2 (by simp only [List.length_cons]; omega)
theorem Sim.unmid (I : Sim c F H σ ρ (t :: (ts ++ tt)) (v :: (vs ++ tv))) (hl : ts.length = vs.length) : Sim c F H σ ρ (ts ++ t :: tt) (vs ++ v :: tv) := by
  have tl := I.tl
  simp only [List.length_append, List.length_cons] at tl
  refine I.re (by simp only [List.length_append, List.length_cons]; omega) (fun G l => ?_) I.iop
  simp only [List.map_append, List.map_cons, List.append_assoc, List.cons_append] at l ⊢
  obtain ⟨G', pm, q⟩ := Live.mid' (by simp [hl]) l
  exact ⟨G', q, G, pm.symm, List.Sublist.refl _⟩
end
/-! ### methods of a list on the way: told[0].append(1) -/
@[simp] def wAppS (wo w : WE) (ρ : Rho) (Q : T → Rho → Prop) : Prop := wo ρ fun t0 ρ0 => match t0 with
  | .lst true xs => w ρ0 fun t ρ1 => xs.length < sizeLine ∧ Q .non ρ1
  | _ => False
theorem ve_appS {o : Expr} {wo : WE} (ho : VE X c o wo) (he : VE X c e w) (hK : X.K = c.K := by rfl)
    (hbase : attributeBase o "append" X.env (eval o X.env) = eval o X.env := by rfl)
    (hfew : ((backTo cpos (starEach [e] X.env)).all (fun x => !x.1) && (backToKw cpos (keywordEach [] X.env)).all (fun x => x.1.isSome) && decide ([e].length + ([] : List Keyword).length + (if ([] : List Keyword).isEmpty then 0 else 1) < 30)) = true := by rfl)
    (hs : starEach [e] X.env = (false, eval e X.env) :: starEach [] X.env := by rfl) (hplain : (backTo cpos (starEach [] X.env)).any (·.1) = false := by rfl) (hline : (apos.endLine == cpos.line) = true := by rfl) :
    VE X c (.Call (.Attribute o "append" apos) [e] [] cpos) (wAppS wo w) := by
  obtain ⟨to, po, ko⟩ := ho
  obtain ⟨te, pe, ke⟩ := he
  refine ⟨_, pe_bm PySem.F.plainAttrs_list PySem.F.slot_list_append PySem.F.type_list_append mt_append po (pa_cons pe pa_nil hs) hbase hfew hline hs hplain, fun F H σ ρ tt tv Q P I h k => ?_⟩
  refine ko F H σ ρ tt tv _ _ I h fun v0 H0 F0 t0 ρ0 I0 q0 => ?_
  split at q0
  · rename_i xs
    obtain ⟨l, vs0, rfl, hs0, _, _⟩ := I0.opLst
    refine ⟨.inl ⟨rfl, vs0, hK ▸ hs0⟩, ke F0 H0 σ ρ0 _ _ _ _ I0 q0 fun v H1 F1 t ρ1 I1 q => ?_⟩
    have I1' : Sim c F1 H1 σ ρ1 ([t] ++ .lst true xs :: tt) ([v] ++ .ref l :: tv) := I1
    obtain ⟨l', ws, Gx, Gt, s1, hH, r1, r2, mk⟩ := I1'.mutS rfl
    cases s1
    refine ⟨l, ws, v, rfl, rfl, hH, by rw [← r1.length]; exact q.1, k _ _ _ _ _ (((mk _ _ _ _ (r1.append r2) (List.Sublist.refl _) (.refl _)).drop).pushG .non rfl) q.2⟩
  · exact q0.elim
/-- with no argument, the object not seen again -/
@[simp] def wMut0S (wo : WE) (ρ : Rho) (Q : T → Rho → Prop) : Prop := wo ρ fun t0 ρ0 => match t0 with
  | .lst true xs => Q .non ρ0
  | _ => False
theorem ve_revS {o : Expr} {wo : WE} (ho : VE X c o wo) (hK : X.K = c.K := by rfl)
    (hbase : attributeBase o "reverse" X.env (eval o X.env) = eval o X.env := by rfl) (hline : (apos.endLine == cpos.line) = true := by rfl) :
    VE X c (.Call (.Attribute o "reverse" apos) [] [] cpos) (wMut0S wo) := by
  obtain ⟨to, po, ko⟩ := ho
  refine ⟨_, pe_bm0 PySem.F.plainAttrs_list PySem.F.slot_list_reverse PySem.F.type_list_reverse mt_reverse po hbase hline, fun F H σ ρ tt tv Q P I h k => ?_⟩
  refine ko F H σ ρ tt tv _ _ I h fun v0 H0 F0 t0 ρ0 I0 q0 => ?_
  split at q0
  · rename_i xs
    have I1' : Sim c F0 H0 σ ρ0 ([] ++ .lst true xs :: tt) ([] ++ v0 :: tv) := I0
    obtain ⟨l', ws, Gx, Gt, rfl, hH, r1, r2, mk⟩ := I1'.mutS rfl
    obtain ⟨G', r', pm⟩ := r1.rev
    exact ⟨.inl ⟨rfl, ws, SqL.of hH⟩, l', ws, rfl, rfl, hH, k _ _ _ _ _ (((mk _ _ _ _ r' (List.sublist_append_left _ _) pm).drop).pushG .non rfl) q0⟩
  · exact q0.elim
theorem ve_clrS {o : Expr} {wo : WE} (ho : VE X c o wo) (hK : X.K = c.K := by rfl)
    (hbase : attributeBase o "clear" X.env (eval o X.env) = eval o X.env := by rfl) (hline : (apos.endLine == cpos.line) = true := by rfl) :
    VE X c (.Call (.Attribute o "clear" apos) [] [] cpos) (wMut0S wo) := by
  obtain ⟨to, po, ko⟩ := ho
  refine ⟨_, pe_bm0 PySem.F.plainAttrs_list PySem.F.slot_list_clear PySem.F.type_list_clear mt_clear po hbase hline, fun F H σ ρ tt tv Q P I h k => ?_⟩
  refine ko F H σ ρ tt tv _ _ I h fun v0 H0 F0 t0 ρ0 I0 q0 => ?_
  split at q0
  · rename_i xs
    have I1' : Sim c F0 H0 σ ρ0 ([] ++ .lst true xs :: tt) ([] ++ v0 :: tv) := I0
    obtain ⟨l', ws, Gx, Gt, rfl, hH, r1, r2, mk⟩ := I1'.mutS rfl
    exact ⟨.inl ⟨rfl, ws, SqL.of hH⟩, l', ws, rfl, rfl, hH, k _ _ _ _ _ (((mk [] [] [] [] .nil (List.nil_sublist _) (.refl _)).drop).pushG .non rfl) q0⟩
  · exact q0.elim
/-- x.extend(e), e a list that is just made or a name's -/
@[simp] def wExt (i : Nat) (w : WE) (ρ : Rho) (Q : T → Rho → Prop) : Prop := isLs ρ[i]? = true ∧ w ρ fun t ρ1 => match t with
  | .lst true ys => (match ρ1[i]? with
    | some (some (.lst true xs)) => xs.length + ys.length ≤ sizeLine ∧ Q .non (ρ1.set i (some (.lst true (xs ++ ys))))
    | _ => False)
  | _ => False
theorem ve_ext (i : Nat) {x : Str} (he : VE X c e w) (hN : X.N[i]? = some x := by rfl) (hv : Vis X.env.scope x := by first | exact Or.inl rfl | exact Or.inr (Or.inl rfl) | exact Or.inr (Or.inr rfl)) (hd : (x == ("__debug__" : Str)) = false := by decide)
    (hcd : (x == ("__classdict__" : Str)) = false := by decide)
    (hbase : attributeBase (.Name x p) "extend" X.env (eval (.Name x p) X.env) = eval (.Name x p) X.env := by rfl)
    (hfew : ((backTo cpos (starEach [e] X.env)).all (fun x => !x.1) && (backToKw cpos (keywordEach [] X.env)).all (fun x => x.1.isSome) && decide ([e].length + ([] : List Keyword).length + (if ([] : List Keyword).isEmpty then 0 else 1) < 30)) = true := by rfl)
    (hs : starEach [e] X.env = (false, eval e X.env) :: starEach [] X.env := by rfl) (hplain : (backTo cpos (starEach [] X.env)).any (·.1) = false := by rfl) (hline : (apos.endLine == cpos.line) = true := by rfl) :
    VE X c (.Call (.Attribute (.Name x p) "extend" apos) [e] [] cpos) (wExt i w) := by
  obtain ⟨te, pe, ke⟩ := he
  refine ⟨_, pe_bm PySem.F.plainAttrs_list PySem.F.slot_list_extend PySem.F.type_list_extend mt_extend (pe_var hN hv hd hcd) (pa_cons pe pa_nil hs) hbase hfew hline hs hplain, fun F H σ ρ tt tv Q P I h k => ?_⟩
  obtain ⟨h0, h⟩ := h
  obtain ⟨xs0, e0⟩ := isLs_eq h0
  obtain ⟨l, ws0, _, s0, hH0, _⟩ := I.lstAt e0
  refine ⟨.ref l, s0, .inl ⟨rfl, ws0, SqL.of hH0⟩, ke F H σ ρ tt tv _ _ I h fun v H1 F1 t ρ1 I1 q => ?_⟩
  split at q
  · rename_i ys
    obtain ⟨xs, e1, q⟩ := lst_of (P := fun xs => xs.length + ys.length ≤ sizeLine ∧ Q .non (ρ1.set i (some (.lst true (xs ++ ys))))) q
    obtain ⟨b, zs, rfl, hb, hlen, J⟩ := I1.opLstT
    obtain ⟨l', ws, Gx, Gt, s1, hH, r1, r2, mk⟩ := J.mutL hlen e1
    rw [s0] at s1
    cases s1
    refine ⟨l, b, ws, zs, rfl, rfl, hH, hb, by rw [← r1.length, ← hlen]; exact q.1, k _ _ _ _ _ ((mk _ _ _ _ (r1.append r2) (List.Sublist.refl _) (.refl _)).pushG .non rfl) q.2⟩
  · exact q.elim
/-! ### x[i] = e -/
@[simp] def gPut (i : Nat) (wi : WE) (t : T) (ρ : Rho) (Q : Rho → Prop) : Prop := isLs ρ[i]? = true ∧ wi ρ fun k ρ1 => match k with
  | .int j => (match ρ1[i]? with
    | some (some (.lst true xs)) => (match ixN xs.length j with | some n => Q (ρ1.set i (some (.lst true (xs.set n t)))) | none => False)
    | _ => False)
  | _ => False
theorem TrL.setAt {K : PySem.W.Frag} {F H : Hp} {t : T} {v : V} {Gt : List Addr} (ht : Tr K F H t v Gt) : ∀ {xs : List T} {vs : List V} {G : List Addr} (n : Nat), TrL K F H xs vs G → n < xs.length →
    ∃ G' P, TrL K F H (xs.set n t) (vs.set n v) G' ∧ P.Sublist (G ++ Gt) ∧ G'.Perm P
  | _, _, _, n, .nil, h => by simp at h
  | _, _, _, 0, .cons (G1 := Ga) (G2 := Gb) h r, _ => ⟨Gt ++ Gb, Gb ++ Gt, .cons ht r, (List.sublist_append_right Ga Gb).append_right Gt, List.perm_append_comm⟩
  | _, _, _, n + 1, .cons (G1 := Ga) (G2 := Gb) h r, hn => by
    obtain ⟨G', P, r', s, pm⟩ := TrL.setAt ht n r (by simpa using hn)
    refine ⟨Ga ++ G', Ga ++ P, .cons h r', ?_, pm.append_left _⟩
    rw [List.append_assoc]
    exact s.append_left Ga
theorem ixN_lt {n j : Nat} {k : Int} (h : ixN n k = some j) : j < n := by
  unfold ixN at h
  split at h <;> (try split at h) <;> simp at h <;> omega
theorem vg_put (i : Nat) {x : Str} {b : Expr} {wi : WE} (hb : VE X c b wi) (hN : X.N[i]? = some x := by rfl) (hv : Vis X.env.scope x := by first | exact Or.inl rfl | exact Or.inr (Or.inl rfl) | exact Or.inr (Or.inr rfl)) (hd : (x == ("__debug__" : Str)) = false := by decide)
    (hcd : (x == ("__classdict__" : Str)) = false := by decide) (ha : ∀ v, assign (.Subscript (.Name x p) b pos) X.env v = (do
      let o ← holding [v] (eval (.Name x p) X.env)
      let k ← holding [v, o] (eval b X.env)
      standAt pos
      holding [v, o, k] (setItem o k v)
      release [v, o, k] []) := by intro _; rfl) : VG X c (.Subscript (.Name x p) b pos) [] (gPut i wi) := by
  obtain ⟨tb, pb, kb⟩ := hb
  refine ⟨_, pg_sub (pe_var hN hv hd hcd) pb set_list ha, fun F H σ ρ tt tv t v Q P I h k => ?_⟩
  obtain ⟨h0, h⟩ := h
  obtain ⟨xs0, e0⟩ := isLs_eq h0
  obtain ⟨l, ws0, _, s0, hH0, _⟩ := I.lstAt e0
  refine ⟨.ref l, s0, kb F H σ ρ _ _ _ _ I h fun u H1 F1 t1 ρ1 I1 q => ?_⟩
  split at q
  · rename_i j
    have eu := I1.intTop
    subst eu
    obtain ⟨xs, e1, q⟩ := lst_of (P := fun xs => match ixN xs.length j with | some n => Q (ρ1.set i (some (.lst true (xs.set n t)))) | none => False) q
    split at q
    · rename_i n hn
      have I2 : Sim c F1 H1 σ ρ1 ([t] ++ tt) ([v] ++ tv) := I1.drop
      obtain ⟨l', ws, Gx, Gt, s1, hH, r1, r2, mk⟩ := I2.mutL rfl e1
      rw [s0] at s1
      cases s1
      have ht : Tr c.K F1 H1 t v Gt := by
        cases r2 with
        | cons a b =>
          cases b
          rw [List.append_nil]
          exact a
      obtain ⟨G', P', r', sub, pm⟩ := TrL.setAt ht n r1 (ixN_lt hn)
      refine ⟨l, ws, j, n, rfl, rfl, hH, by rw [← r1.length]; exact hn, k _ _ _ _ (mk _ _ _ _ r' sub pm) q fun _ _ => rfl⟩
    · exact q.elim
  · exact q.elim
end
end L3

namespace L3
open PySem L2 PySem.Spec PyProof.Rows
/-- what a block's names ask, as a check -/
def blkB (N : List Str) (sc scope : Scope) (ow : List (Str × Nat)) : Bool :=
  decide (scope.kind = .function) && scope.names.all (fun y => decide (scope.names.lookup y.1 = some y.2)) && ow.all (fun p => decide (N[p.2]? = some p.1)) &&
  scope.names.all (fun y => !decide (y.2 = .free) || (decide (sc.names.lookup y.1 = some .cell) || decide (sc.names.lookup y.1 = some .free))) &&
  scope.names.all (fun y => !(decide (y.2 = .local) || decide (y.2 = .cell)) || (decide (y.1 ∈ ow.map (·.1)) || decide (y.1 ∉ N)))
theorem blk_mk {N : List Str} {sc scope : Scope} {ow : List (Str × Nat)} (h : blkB N sc scope ow = true) : BlkOk N sc scope ow := by
  simp only [blkB, Bool.and_eq_true, List.all_eq_true, decide_eq_true_eq, Bool.or_eq_true, Bool.not_eq_true', decide_eq_false_iff_not, Bool.or_eq_false_iff] at h
  obtain ⟨⟨⟨⟨h1, h2⟩, h3⟩, h4⟩, h5⟩ := h
  refine ⟨h1, h2, h3, fun y hy e => ?_, fun y hy e => ?_⟩
  · rcases h4 y hy with z | z
    · exact absurd e z
    · exact z
  · rcases h5 y hy with z | z
    · rcases e with e | e
      · exact absurd e z.1
      · exact absurd e z.2
    · exact z
section
variable {c : Cst} {F H : Hp} {σ : L2.St} {ρ : Rho} {tt ts : List T} {tv vs : List V} {t : T} {v : V}
/-- the slots of a block's own names forgotten -/
@[simp] def wipR (ρ : Rho) : List Nat → Rho
  | [] => ρ
  | v :: vs => (wipR ρ vs).set v none
theorem wipe_set0 {σ : L2.St} {k : Nat} : ∀ js : List Nat, (wipe σ js).set k none = wipe (σ.set k none) js
  | [] => rfl
  | j :: js => by
    show ((wipe σ js).set j none).set k none = (wipe (σ.set k none) js).set j none
    rw [← wipe_set0 js]
    by_cases z : j = k
    · subst z; rfl
    · rw [List.set_comm _ _ z]
theorem wipe_idem {σ : L2.St} : ∀ js : List Nat, wipe (wipe σ js) js = wipe σ js
  | [] => rfl
  | j :: js => by
    show (wipe ((wipe σ js).set j none) js).set j none = (wipe σ js).set j none
    rw [← wipe_set0, wipe_idem js, List.set_set]
theorem wipR_none {j : Nat} : ∀ {js : List Nat} {ρ : Rho}, j ∈ js → ∀ t, (wipR ρ js)[j]? ≠ some (some t)
  | k :: ks, ρ, h, t, e => by
    unfold wipR at e
    by_cases z : k = j
    · subst z
      rw [List.getElem?_set] at e
      simp at e
    · rw [List.getElem?_set_ne z] at e
      obtain q | q := List.mem_cons.mp h
      · exact z q.symm
      · exact wipR_none q t e
theorem Sim.wips (I : Sim c F H σ ρ tt tv) : ∀ js : List Nat, (c.io = none ∨ ∀ j ∈ js, j ≠ 0) → Sim c F H (wipe σ js) (wipR ρ js) tt tv
  | [], _ => I
  | j :: js, h => by
    refine (Sim.wips I js (h.imp id fun k i hi => k i (List.mem_cons_of_mem _ hi))).wipe1 (h.imp id fun k => k j List.mem_cons_self)
theorem Live.other {K : PySem.W.Frag} {F H : Hp} : ∀ {ts : List (Option T)} {vs us : List (Option V)} {G : List Addr}, Live K F H ts vs G → us.length = vs.length → (∀ (j : Nat) (t : T), ts[j]? = some (some t) → us[j]? = vs[j]?) → Live K F H ts us G
  | _, _, us, _, .nil, hl, _ => by
    have e : us = [] := List.length_eq_zero_iff.mp hl
    subst e
    exact .nil
  | _, _, u :: us, _, .skip r, hl, h => .skip (Live.other r (by simpa using hl) fun j t e => by simpa using h (j + 1) t (by simpa using e))
  | _, _, u :: us, _, .cons (v := v) a r, hl, h => by
    have e : u = some v := by simpa using h 0 _ rfl
    subst e
    exact .cons a (Live.other r (by simpa using hl) fun j t e => by simpa using h (j + 1) t (by simpa using e))
  | _, _, [], _, .skip r, hl, _ => by simp at hl
  | _, _, [], _, .cons _ r, hl, _ => by simp at hl
/-- back to the content ahead of a block -/
theorem Sim.unwipe {js : List Nat} (I : Sim c F H (wipe σ js) ρ tt tv) (hn : ∀ j ∈ js, ∀ t, ρ[j]? ≠ some (some t)) (hio : c.io = none ∨ ∀ j ∈ js, j ≠ 0) : Sim c F H σ ρ tt tv := by
  refine I.re I.tl (fun G l => ⟨G, ?_, G, .refl _, List.Sublist.refl _⟩) fun p hp => ?_
  · refine l.other (by simp [wipe_length]) fun j t e => ?_
    have hl : (tt.map some).length = (tv.map some).length := by simp [I.tl]
    by_cases h : j < (tv.map some).length
    · rw [List.getElem?_append_left h, List.getElem?_append_left h]
    · have h2 : (tv.map some).length ≤ j := by omega
      rw [List.getElem?_append_right (by omega)] at e
      rw [List.getElem?_append_right h2, List.getElem?_append_right h2]
      rw [hl] at e
      refine (wipe_out fun hm => hn _ hm t e).symm
  · obtain ⟨a, t, b, d⟩ := I.iop p hp
    rcases hio with h | h
    · rw [h] at hp; cases hp
    · rw [wipe_out fun hm => h 0 hm rfl] at a
      exact ⟨a, t, b, d⟩
end
section
variable {X : Cx} {c : Cst} {e elt tg iter : Expr} {w we : WE} {pos : Pos}
/-! ### the conditions of a comprehension -/
def VTs (X : Cx) (c : Cst) (es : List Expr) (w : WT) : Prop :=
  ∃ te : TT, PTs X es te ∧ ∀ (F H : Hp) (σ : L2.St) (ρ : Rho) (tt : List T) (tv : List V) (Q : Bool → Rho → Prop) (P : Bool → Hp → Prop), Sim c F H σ ρ tt tv → w ρ Q →
    (∀ b H' F' ρ', Sim c F' H' σ ρ' tt tv → Q b ρ' → P b H') → te σ H P
@[simp] def wYes (ρ : Rho) (Q : Bool → Rho → Prop) : Prop := Q true ρ
theorem vts_nil : VTs X c [] wYes := ⟨_, pts_nil, fun F H σ ρ tt tv Q P I h k => k true H F ρ I h⟩
theorem vts_one {wt : WT} (h : VT X c e wt) : VTs X c [e] wt := by
  obtain ⟨te, pe, ke⟩ := h
  exact ⟨_, pts_one pe, ke⟩
/-- [elt for tg in iter if ..] -/
def wLc (js : List Nat) (wi : WI) (g : WG) (wt : WT) (we : WE) (ρ : Rho) (Q : T → Rho → Prop) : Prop := wi ρ fun items ρ1 => items.length ≤ sizeLine ∧ ∃ Pv : Nat → List T → Rho → Prop, Pv 0 [] (wipR ρ1 js) ∧
  (∀ i t acc ρ', items[i]? = some t → Pv i acc ρ' → g t ρ' fun ρ2 => wt ρ2 fun b ρ3 => if b = true then we ρ3 fun u ρ4 => Pv (i + 1) (acc ++ [u]) (wipR ρ4 js) else Pv (i + 1) acc (wipR ρ3 js)) ∧
  ∀ acc ρ', Pv items.length acc ρ' → Q (.lst true acc) ρ'
theorem lc_parts {ifs : List Expr} {scope : Scope} {ow : List (Str × Nat)} {wi : WI} {g : WG} {js : List Nat} {wt : WT} (hi : VI X c tg iter wi) 
    (hg : ∀ (s : Shared) (H : Hp) (C : Addr) (cl : List (Str × Addr)) (fp : List Addr), VG (X.blk s H scope (compEnvC scope cl C X.env) fp) c tg js g)
    (ht : ∀ (s : Shared) (H : Hp) (C : Addr) (cl : List (Str × Addr)) (fp : List Addr), VTs (X.blk s H scope (compEnvC scope cl C X.env) fp) c ifs wt)
    (he : ∀ (s : Shared) (H : Hp) (C : Addr) (cl : List (Str × Addr)) (fp : List Addr), VE (X.blk s H scope (compEnvC scope cl C X.env) fp) c elt we)
    (hio : c.io = none ∨ ∀ j ∈ ow.map (·.2), j ≠ 0) (hjs : ∀ j ∈ js, j ∈ ow.map (·.2)) :
    ∃ (ti : TI) (gU : TG) (tU : TT) (eU : TE), PI X tg iter ti ∧ (∀ (s : Shared) (H : Hp) (C : Addr) (cl : List (Str × Addr)) (fp : List Addr), PG (X.blk s H scope (compEnvC scope cl C X.env) fp) tg gU) ∧
      (∀ (s : Shared) (H : Hp) (C : Addr) (cl : List (Str × Addr)) (fp : List Addr), PTs (X.blk s H scope (compEnvC scope cl C X.env) fp) ifs tU) ∧
      (∀ (s : Shared) (H : Hp) (C : Addr) (cl : List (Str × Addr)) (fp : List Addr), PE (X.blk s H scope (compEnvC scope cl C X.env) fp) elt eU) ∧
      ∀ (F H : Hp) (σ : L2.St) (ρ : Rho) (tt : List T) (tv : List V) (Q : T → Rho → Prop) (P : VK), Sim c F H σ ρ tt tv → wLc (ow.map (·.2)) wi g wt we ρ Q → (∀ v H' F' t ρ', Sim c F' H' σ ρ' (t :: tt) (v :: tv) → Q t ρ' → P v H') → tLc ti gU tU eU (ow.map (·.2)) σ H P := by
  obtain ⟨ti, pi, ki⟩ := hi
  let gU : TG := fun v σ H P => ∀ s H0 C cl fp, (hg s H0 C cl fp).choose v σ H P
  let tU : TT := fun σ H P => ∀ s H0 C cl fp, (ht s H0 C cl fp).choose σ H P
  let eU : TE := fun σ H P => ∀ s H0 C cl fp, (he s H0 C cl fp).choose σ H P
  have pg : ∀ (s : Shared) (H : Hp) (C : Addr) (cl : List (Str × Addr)) (fp : List Addr), PG (X.blk s H scope (compEnvC scope cl C X.env) fp) tg gU := fun s H C cl fp => ⟨fun pins s' σ H' v u Q I r h => (hg s H C cl fp).choose_spec.1.run pins s' σ H' v u Q I r (h s H C cl fp)⟩
  have pt : ∀ (s : Shared) (H : Hp) (C : Addr) (cl : List (Str × Addr)) (fp : List Addr), PTs (X.blk s H scope (compEnvC scope cl C X.env) fp) ifs tU := fun s H C cl fp => ⟨fun pins s' σ H' Q I h => (ht s H C cl fp).choose_spec.1.run pins s' σ H' Q I (h s H C cl fp)⟩
  have pe : ∀ (s : Shared) (H : Hp) (C : Addr) (cl : List (Str × Addr)) (fp : List Addr), PE (X.blk s H scope (compEnvC scope cl C X.env) fp) elt eU := fun s H C cl fp => ⟨fun pins s' σ H' Q I h => (he s H C cl fp).choose_spec.1.run pins s' σ H' Q I (h s H C cl fp)⟩
  refine ⟨ti, gU, tU, eU, pi, pg, pt, pe, fun F H σ ρ tt tv Q P I h k => ki F H σ ρ tt tv _ _ I h fun J H1 F1 ρ1 items ls lv I1 hl wk q => ?_⟩
  obtain ⟨hz, Pv, h0, hstep, hend⟩ := q
  intro D hD
  let W : Nat → Nat → Hp → Prop := fun i m H => m = items.length - i ∧ i ≤ items.length ∧ ∃ F ρ' acc, acc.length ≤ i ∧ (∀ j ∈ ow.map (·.2), ∀ t, ρ'[j]? ≠ some (some t)) ∧ Sim c F H (wipe σ (ow.map (·.2))) ρ' (ls ++ .lst true acc :: tt) (lv ++ .ref D :: tv) ∧ Pv i acc ρ'
  have w0 : W 0 (items.length - 0) (upd H1 D (.lst [])) := by
    refine ⟨rfl, Nat.zero_le _, F1, wipR ρ1 (ow.map (·.2)), [], Nat.le_refl _, fun j hj => wipR_none hj, ?_, h0⟩
    have I2 : Sim c F1 H1 σ ρ1 ([] ++ (ls ++ tt)) ([] ++ (lv ++ tv)) := I1
    exact ((I2.newLst rfl hD).unmid hl).wips _ hio
  refine ⟨W, ⟨_, w0⟩, ?_⟩
  rintro i m H2 ⟨rfl, hi, F2, ρ2, acc, ha, hn, I2, p2⟩
  by_cases hlt : i < items.length
  · refine .inr ⟨wk.go i F2 H2 _ ρ2 _ _ hlt I2, fun H' => W (i + 1) (items.length - (i + 1)) H', fun H' h' => ⟨_, by omega, h'⟩, fun x H3 hy => ?_⟩
    obtain ⟨F3, t, et, I3⟩ := wk.yld i F2 H2 _ ρ2 _ _ x H3 hlt I2 hy
    intro s H0 C cl fp
    refine (hg s H0 C cl fp).choose_spec.2 F3 H3 _ ρ2 _ _ t x _ _ I3 (hstep i t acc ρ2 et p2) fun H4 F4 σ4 ρ4 I4 q4 hw => ?_
    have hw' : wipe σ4 (ow.map (·.2)) = wipe σ (ow.map (·.2)) := by
      rw [hw _ hjs, wipe_idem]
    refine ⟨hw', fun s H0 C cl fp => ?_⟩
    refine (ht s H0 C cl fp).choose_spec.2 F4 H4 σ4 ρ4 _ _ _ _ I4 q4 fun b H5 F5 ρ5 I5 q5 => ?_
    cases b with
    | true =>
      rw [if_pos rfl] at q5 ⊢
      intro s H0 C cl fp
      refine (he s H0 C cl fp).choose_spec.2 F5 H5 σ4 ρ5 _ _ _ _ I5 q5 fun y H6 F6 u ρ6 I6 q6 => ?_
      have J1 : Sim c F6 H6 σ4 ρ6 ((u :: ls) ++ .lst true acc :: tt) ((y :: lv) ++ .ref D :: tv) := I6
      have J2 := J1.mid (by simp [hl])
      have J3 : Sim c F6 H6 σ4 ρ6 ([u] ++ .lst true acc :: (ls ++ tt)) ([y] ++ .ref D :: (lv ++ tv)) := Sim.swap J2
      obtain ⟨D', ws, Gx, Gt, eD, hH, r1, r2, mk⟩ := J3.mutS rfl
      cases eD
      have M := mk _ _ _ _ (r1.append r2) (List.Sublist.refl _) (.refl _)
      have M2 := (M.unmid hl).wips (ow.map (·.2)) hio
      rw [hw'] at M2
      have hws := r1.length
      refine ⟨ws, hH, by omega, rfl, hlt, F6, _, acc ++ [u], ?_, fun j hj => wipR_none hj, M2, q6⟩
      rw [List.length_append]
      rw [List.length_singleton]
      omega
    | false =>
      rw [if_neg (by decide)] at q5 ⊢
      have M2 := I5.wips (ow.map (·.2)) hio
      rw [hw'] at M2
      exact ⟨rfl, hlt, F5, _, acc, by omega, fun j hj => wipR_none hj, M2, q5⟩
  · have ei : i = items.length := by omega
    subst ei
    exact .inl ⟨wk.stop _ F2 H2 _ ρ2 _ _ (Nat.le_refl _) I2, k _ _ _ _ _ ((I2.dropL hl).unwipe hn hio) (hend acc ρ2 p2)⟩
theorem ve_lc {ifs : List Expr} {scope : Scope} {ow : List (Str × Nat)} {wi : WI} {g : WG} {js : List Nat} {wt : WT} (hc : X.calm = true) (hN : X.N.Nodup) (hi : VI X c tg iter wi) (ok : BlkOk X.N X.env.scope scope ow)
    (hg : ∀ (s : Shared) (H : Hp) (C : Addr) (cl : List (Str × Addr)) (fp : List Addr), VG (X.blk s H scope (compEnvC scope cl C X.env) fp) c tg js g)
    (ht : ∀ (s : Shared) (H : Hp) (C : Addr) (cl : List (Str × Addr)) (fp : List Addr), VTs (X.blk s H scope (compEnvC scope cl C X.env) fp) c ifs wt)
    (he : ∀ (s : Shared) (H : Hp) (C : Addr) (cl : List (Str × Addr)) (fp : List Addr), VE (X.blk s H scope (compEnvC scope cl C X.env) fp) c elt we)
    (hio : c.io = none ∨ ∀ j ∈ ow.map (·.2), j ≠ 0 := by first | exact .inl rfl | exact .inr (by decide)) (hjs : ∀ j ∈ js, j ∈ ow.map (·.2) := by decide)
    (hs : ∀ x, foldedSetIterable iter X.env x = pure x := by intro _; rfl) :
    VE X c (.ListComp elt [⟨tg, iter, ifs, 0⟩] scope pos) (wLc (ow.map (·.2)) wi g wt we) := by
  obtain ⟨ti, gU, tU, eU, pi, pg, pt, pe, kk⟩ := lc_parts hi hg ht he hio hjs
  exact ⟨_, pe_lc hc hN pi ok pg pt pe hs, kk⟩
/-- name = [..] on one line -/
theorem vs_setLc (i : Nat) {x : Str} {py spos : Pos} {ifs : List Expr} {scope : Scope} {ow : List (Str × Nat)} {wi : WI} {g : WG} {js : List Nat} {wt : WT} (hc : X.calm = true) (hN : X.N.Nodup) (hi : VI X c tg iter wi) (ok : BlkOk X.N X.env.scope scope ow)
    (hg : ∀ (s : Shared) (H : Hp) (C : Addr) (cl : List (Str × Addr)) (fp : List Addr), VG (X.blk s H scope (compEnvC scope cl C X.env) fp) c tg js g)
    (ht : ∀ (s : Shared) (H : Hp) (C : Addr) (cl : List (Str × Addr)) (fp : List Addr), VTs (X.blk s H scope (compEnvC scope cl C X.env) fp) c ifs wt)
    (he : ∀ (s : Shared) (H : Hp) (C : Addr) (cl : List (Str × Addr)) (fp : List Addr), VE (X.blk s H scope (compEnvC scope cl C X.env) fp) c elt we)
    (hio : c.io = none ∨ ∀ j ∈ ow.map (·.2), j ≠ 0 := by first | exact .inl rfl | exact .inr (by decide)) (hjs : ∀ j ∈ js, j ∈ ow.map (·.2) := by decide)
    (hi0 : c.io = none ∨ i ≠ 0 := by first | exact .inl rfl | exact .inr (by decide)) (hx : X.N[i]? = some x := by rfl) (hxl : X.env.scope.names.lookup x = some .local := by rfl)
    (hsw : swapsWith (.ListComp elt [⟨tg, iter, ifs, 0⟩] scope pos) (some (.Name x py)) spos.line X.env = pure true := by rfl)
    (hs : ∀ x, foldedSetIterable iter X.env x = pure x := by intro _; rfl) :
    VS X c (.Assign [.Name x py] (.ListComp elt [⟨tg, iter, ifs, 0⟩] scope pos) spos) (fun E ρ => wLc (ow.map (·.2)) wi g wt we ρ fun t ρ1 => E.nx (ρ1.set i (some t))) := by
  obtain ⟨ti, gU, tU, eU, pi, pg, pt, pe, kk⟩ := lc_parts hi hg ht he hio hjs
  refine ⟨_, ps_setLc hc hN hx hxl hsw pi ok pg pt pe hs, fun F H σ ρ tt tv D E I m h => ?_⟩
  exact kk F H σ ρ tt tv _ _ I h fun v H1 F1 t ρ1 I1 q => m.nx F1 H1 _ _ (I1.store hi0) q
/-- the state of a comprehension that only computes: f on each item -/
def Pm (f : T → T) (items : List T) (ρ0 : Rho) : Nat → List T → Rho → Prop := fun i acc ρ => acc = (items.take i).map f ∧ ρ = ρ0
theorem Pm.zero {f : T → T} {items : List T} {ρ0 : Rho} : Pm f items ρ0 0 [] ρ0 := ⟨by simp, rfl⟩
theorem Pm.step {f : T → T} {items : List T} {ρ0 ρ : Rho} {i : Nat} {t u : T} {acc : List T} (et : items[i]? = some t) (h : Pm f items ρ0 i acc ρ) (hu : u = f t) : Pm f items ρ0 (i + 1) (acc ++ [u]) ρ0 := by
  refine ⟨?_, rfl⟩
  rw [h.1, hu, List.take_succ, et, List.map_append]
  rfl
theorem Pm.last {f : T → T} {items acc : List T} {ρ0 ρ : Rho} (h : Pm f items ρ0 items.length acc ρ) : acc = items.map f ∧ ρ = ρ0 := by
  refine ⟨?_, h.2⟩
  rw [h.1, List.take_length]
end
end L3

namespace L3
open PySem L2 PySem.Spec PyProof.Rows
section
variable {X : Cx} {c : Cst}
/-! ### isinstance(x, a built-in type) -/
@[simp] def tyN : T → Option String
  | .non => some "NoneType" | .bl _ => some "bool" | .int _ => some "int" | .str _ => some "str"
  | .lst _ _ => some "list" | .tup _ => some "tuple" | .dic _ _ _ => some "dict" | .fn _ => none | .ins _ _ _ _ => none | .exc _ => none
theorem Tr.tyX {K : PySem.W.Frag} {F H : Hp} (e : Ex F H) {t : T} {v : V} {G : List Addr} {n : String} (h : Tr K F H t v G) (hn : tyN t = some n) : TyX K H v (.type n) := by
  cases h with
  | non => cases hn; exact .base .non
  | bl b => cases hn; exact .base (.bl b)
  | int b => cases hn; exact .base (.int b)
  | str b => cases hn; exact .base (.str b)
  | fn v => cases hn
  | lstF hs r =>
    cases hn
    rcases hs with (hs | ⟨o, hs⟩) | ⟨o, its, n, hk, hc, _⟩
    · exact .base (.lst (e _ _ hs))
    · exact .base (.frz (e _ _ hs))
    · exact .kList hk hc
  | lstT hs r => cases hn; exact .base (.lst hs)
  | tup hs r =>
    cases hn
    rcases hs with (hs | ⟨o, hs⟩) | ⟨o, its, n, hk, hc, _⟩
    · exact .base (.tup (e _ _ hs))
    · exact .fTuple (e _ _ hs)
    · exact .kTuple hk hc
  | dicF hs r => cases hn; exact .base (.dK (e _ _ hs))
  | dicT hs r => cases hn; exact .base (.dK hs)
  | insF _ _ => cases hn
  | insT _ _ => cases hn
  | exc _ => cases hn
@[simp] def isiB (a : Option String) (b : String) : Option Bool := a.bind fun n => kitB n b
@[simp] def fIsi (ts : List T) (k : (T → Prop)) : Prop := match ts with
  | [t, .fn (.ty b)] => (match isiB (tyN t) b with | some r => k (.bl r) | none => False)
  | _ => False
theorem oA_isi : OpA c (rIsi c.K) fIsi := by
  intro F H σ ρ tt tv ts vs k P I hl h q
  unfold fIsi at h
  split at h
  · rename_i t b
    split at h
    · rename_i r hr
      obtain ⟨x, y, rfl⟩ := two_top hl
      obtain ⟨G, _, h1, _⟩ := Sim.top I
      obtain ⟨G2, _, h2, _⟩ := Sim.top (Sim.drop I)
      cases h2
      unfold isiB at hr
      cases hn : tyN t with
      | none => rw [hn] at hr; cases hr
      | some n =>
        rw [hn] at hr
        exact ⟨x, .ty b, .type n, .type b, r, rfl, .ty b, h1.tyX I.ex hn, kit_ty hr, q _ _ _ _ ((Sim.drop (Sim.drop I)).pushG (.bl r) rfl) h⟩
    · exact h.elim
  · exact h.elim
theorem ty_V (n : String) : RelV (.ty n) (.type n) := rfl

/-! ### repr -/
mutual
/-- a bound of the written text's length; ints of at most B digits -/
@[simp] def rl (B : Nat) : T → Nat
  | .non | .bl _ => 5
  | .int _ => B + 1
  | .str x => 10 * x.length + 2
  | .lst _ xs => rlL B xs + 3 | .tup xs => rlL B xs + 3
  | _ => 0
@[simp] def rlL (B : Nat) : List T → Nat
  | [] => 0
  | x :: xs => rl B x + 2 + rlL B xs
end
mutual
/-- plain data whose ints have at most B digits, not nested deeper than d -/
@[simp] def shw (B : Nat) : Nat → T → Bool
  | _, .non | _, .bl _ => true
  | _, .int i => decide (i.natAbs < 10 ^ B)
  | _, .str x => x.cps.toList.all fun k => decide (k < 16 ^ 8)
  | d + 1, .lst _ xs => shwL B d xs | d + 1, .tup xs => shwL B d xs
  | _, _ => false
@[simp] def shwL (B : Nat) : Nat → List T → Bool
  | _, [] => true
  | d, x :: xs => shw B d x && shwL B d xs
end
mutual
theorem shw_pyd (B : Nat) : ∀ (d : Nat) (t : T), shw B d t = true → pyd t = true
  | _, .non, _ | _, .bl _, _ | _, .int _, _ | _, .str _, _ => by simp [pyd]
  | d + 1, .lst _ xs, h => by simp only [pyd]; exact shwL_pyd B d xs (by simpa [shw] using h)
  | d + 1, .tup xs, h => by simp only [pyd]; exact shwL_pyd B d xs (by simpa [shw] using h)
  | 0, .lst _ _, h | 0, .tup _, h => by simp [shw] at h
  | 0, .fn _, h | 0, .dic _ _ _, h | 0, .ins _ _ _ _, h | 0, .exc _, h => by simp [shw] at h
  | _ + 1, .fn _, h | _ + 1, .dic _ _ _, h | _ + 1, .ins _ _ _ _, h | _ + 1, .exc _, h => by simp [shw] at h
theorem shwL_pyd (B : Nat) : ∀ (d : Nat) (ts : List T), shwL B d ts = true → pydL ts = true
  | _, [], _ => by simp [pydL]
  | d, x :: xs, h => by
    simp [shwL] at h
    simp [pydL, shw_pyd B d x h.1, shwL_pyd B d xs h.2]
end
theorem log2_of_lt {B n : Nat} (hB : B ≤ 575) (h : n < 10 ^ B) : n.log2 < 1920 := by
  by_cases z : n = 0
  · subst z; decide
  · rw [Nat.log2_lt z]
    refine Nat.lt_of_lt_of_le h (Nat.le_trans (Nat.pow_le_pow_right (by decide) hB) ?_)
    decide +kernel
mutual
theorem shw_ok (B : Nat) (hB : 1 ≤ B ∧ B ≤ 575) : ∀ (d : Nat) (t : T), shw B d t = true → (py t).showable = true ∧ (py t).hasDict = false ∧ (py t).depth ≤ d ∧ (py t).shown.length ≤ rl B t
  | _, .non, _ => by simp only [py, rl]; exact ⟨rfl, rfl, Nat.zero_le _, by decide⟩
  | _, .bl b, _ => by simp only [py, rl]; exact ⟨rfl, rfl, Nat.zero_le _, by cases b <;> decide⟩
  | _, .int i, h => by
    have h : i.natAbs < 10 ^ B := by simpa [shw] using h
    simp only [py, rl]
    refine ⟨by simp only [PyData.showable, decide_eq_true_eq]; exact log2_of_lt hB.2 h, rfl, Nat.zero_le _, ?_⟩
    simp only [PyData.shown]
    have e := int_text_length_le10 (a := i) hB.1 h
    show (Str.ofString (toString i)).length ≤ B + 1
    rw [PySem.ofString_length]
    exact e
  | _, .str x, h => by
    simp only [py, rl]
    refine ⟨rfl, rfl, Nat.zero_le _, ?_⟩
    simp only [PyData.shown]
    refine StrLaws.reprText_len x fun k hk => ?_
    have h : x.cps.toList.all (fun k => decide (k < 16 ^ 8)) = true := by simpa [shw] using h
    simpa using List.all_eq_true.mp h k hk
  | d + 1, .lst _ xs, h => by
    obtain ⟨h1, h2, h3, h4⟩ := shwL_ok B hB d xs (by simpa [shw] using h)
    have e := listText_len_le (PyData.shownAll (pyL xs))
    have e2 := PyData.shownAll_length (pyL xs)
    simp only [py, rl, PyData.showable, PyData.hasDict, PyData.depth, PyData.shown]
    exact ⟨h1, h2, by omega, by omega⟩
  | d + 1, .tup xs, h => by
    obtain ⟨h1, h2, h3, h4⟩ := shwL_ok B hB d xs (by simpa [shw] using h)
    have e := tupleText_len_le (PyData.shownAll (pyL xs))
    have e2 := PyData.shownAll_length (pyL xs)
    simp only [py, rl, PyData.showable, PyData.hasDict, PyData.depth, PyData.shown]
    exact ⟨h1, h2, by omega, by omega⟩
  | 0, .lst _ _, h | 0, .tup _, h => by simp [shw] at h
  | 0, .fn _, h | 0, .dic _ _ _, h | 0, .ins _ _ _ _, h | 0, .exc _, h => by simp [shw] at h
  | _ + 1, .fn _, h | _ + 1, .dic _ _ _, h | _ + 1, .ins _ _ _ _, h | _ + 1, .exc _, h => by simp [shw] at h
theorem shwL_ok (B : Nat) (hB : 1 ≤ B ∧ B ≤ 575) : ∀ (d : Nat) (ts : List T), shwL B d ts = true → PyData.showableAll (pyL ts) = true ∧ PyData.hasDictAll (pyL ts) = false ∧ PyData.depthAll (pyL ts) ≤ d ∧ ((PyData.shownAll (pyL ts)).map (·.length)).sum + 2 * (pyL ts).length ≤ rlL B ts
  | _, [], _ => by simp only [pyL, rlL]; exact ⟨rfl, rfl, Nat.zero_le _, by decide⟩
  | d, x :: xs, h => by
    have h : shw B d x = true ∧ shwL B d xs = true := by simpa [shwL] using h
    obtain ⟨a1, a2, a3, a4⟩ := shw_ok B hB d x h.1
    obtain ⟨b1, b2, b3, b4⟩ := shwL_ok B hB d xs h.2
    simp only [pyL, rlL, PyData.showableAll, PyData.hasDictAll, PyData.depthAll, PyData.shownAll, List.map_cons, List.sum_cons, List.length_cons]
    refine ⟨by rw [a1, b1]; rfl, by rw [a2, b2]; rfl, by omega, by omega⟩
end
/-- repr(x) of plain data -/
def rRepr (K : PySem.W.Frag) : List V → Hp → VK → Prop := fun xs H Q => ∃ x d, xs = [x] ∧ Dp K H x d ∧ d.showable = true ∧ d.hasDict = false ∧ d.depth ≤ 60 ∧ d.shown.length ≤ sizeLine ∧ Q (.str d.shown) H
theorem call_reprD (hg : X.A.guards = some []) (hu : X.A.units + 64 < cLine) : CallR X (.builtin "repr") (rRepr X.K) := by
  rintro pins s σ H xs us Q I r h
  obtain ⟨x, d, rfl, dp, h1, h2, h3, h4, q⟩ := h
  obtain ⟨u, eu, rx⟩ := vals1 r
  subst eu
  obtain ⟨as, rd⟩ := Dp.reads I d x u dp rx
  have fin : ∀ (v : Addr), u = .ref v → wpAny (model X.prog X.w) X.A (call (.builtin "repr") [u]) (EP X pins σ Q) X.xe s := fun v e => by
    subst e
    refine repr_of_reads' rd h1 (PyData.noDict_hsm h2) hg (by omega) (fun _ _ e => e) (fun h' u tk hk => ?_) h4
    exact ⟨.str _, H, I.kept hk, ⟨_, rfl⟩, q⟩
  cases rd with
  | none =>
    exact PySem.P.repr_of_none ⟨.str _, H, I.tok _, ⟨_, rfl⟩, q⟩
  | bool b => exact PySem.P.repr_of_bool ⟨.str _, H, I.tok _, ⟨_, rfl⟩, q⟩
  | int i t =>
    refine PySem.P.repr_of_int ?_ ⟨.str _, H, I.tok _, ⟨_, rfl⟩, q⟩
    simpa [PyData.showable] using h1
  | str x t => exact PySem.P.repr_of_str ⟨.str _, H, I.tok _, ⟨_, rfl⟩, q⟩ h4
  | list _ _ _ _ => exact fin _ rfl
  | tuple _ _ _ _ => exact fin _ rfl
  | dict _ _ _ _ _ => exact fin _ rfl
/-- repr(x) -/
@[simp] def fRepr (ts : List T) (k : (T → Prop)) : Prop := match ts with
  | [t] => (∃ B, 1 ≤ B ∧ B ≤ 575 ∧ shw B 60 t = true ∧ rl B t ≤ sizeLine) ∧ k (.str (py t).shown)
  | _ => False
theorem oA_repr : OpA c (rRepr c.K) fRepr := by
  intro F H σ ρ tt tv ts vs k P I hl h q
  unfold fRepr at h
  split at h
  · obtain ⟨v, rfl⟩ := one_top hl
    obtain ⟨G, _, h1, _⟩ := Sim.top I
    obtain ⟨⟨B, b1, b2, b3, b4⟩, h⟩ := h
    obtain ⟨s1, s2, s3, s4⟩ := shw_ok B ⟨b1, b2⟩ 60 _ b3
    exact ⟨v, _, rfl, h1.dp I.ex (shw_pyd B 60 _ b3), s1, s2, s3, by omega, q _ _ _ _ ((Sim.drop I).pushG (.str _) rfl) h⟩
  · exact h.elim
end
end L3

namespace L3
open PySem L2 PySem.Spec PyProof.Rows
section
variable {X : Cx} {c : Cst} {es : List Expr} {was : WA} {pos : Pos}
/-- nothing is raised -/
theorem takesN0 {X : Cx} : L2N.Takes X (fun _ _ _ _ => False) := fun u s2 q => by
  rcases q with ⟨_, _, _, _, _, _, _, _, _, _, _, _, _, _, _, _, bad⟩
  exact bad.elim
theorem Kn.zero (gd : X.A.guards = some []) (hK : X.K = c.K := by rfl) : Kn X c (fun _ _ _ _ => False) (fun _ _ => False) := ⟨gd, takesN0, Lk.none, hK⟩
@[simp] def isSm : Option (Option T) → Bool
  | some (some _) => true
  | _ => false
/-- a name's value ahead of other values; what it owns goes along once these are there -/
@[simp] def wLate (i : Nat) (was : WA) (ρ : Rho) (Q : List T → Rho → Prop) : Prop := isSm ρ[i]? = true ∧ was ρ fun ts ρ1 => match ρ1[i]? with
  | some (some t) => Q (t :: ts) (ρ1.set i none)
  | _ => False
theorem va_late (i : Nat) {x : Str} (hr : VA X c es was) (hi : c.io = none ∨ i ≠ 0 := by first | exact .inl rfl | exact .inr (by decide)) (hN : X.N[i]? = some x := by rfl) (hv : Vis X.env.scope x := by first | exact Or.inl rfl | exact Or.inr (Or.inl rfl) | exact Or.inr (Or.inr rfl)) (hd : (x == ("__debug__" : Str)) = false := by decide)
    (hcd : (x == ("__classdict__" : Str)) = false := by decide) (hs : starEach (.Name x pos :: es) X.env = (false, eval (.Name x pos) X.env) :: starEach es X.env := by rfl) : VA X c (.Name x pos :: es) (wLate i was) := by
  obtain ⟨tr, pr, kr⟩ := hr
  refine ⟨_, pa_cons (pe_var hN hv hd hcd) pr hs, fun F H σ ρ tt tv Q P I h k => ?_⟩
  obtain ⟨h0, h⟩ := h
  obtain ⟨t9, e9⟩ : ∃ t, ρ[i]? = some (some t) := by
    cases z : ρ[i]? with
    | none => rw [z] at h0; cases h0
    | some y =>
      cases y with
      | none => rw [z] at h0; cases h0
      | some t => exact ⟨t, rfl⟩
  obtain ⟨v9, s9⟩ := some_val I e9
  refine ⟨v9, s9, kr F H σ ρ _ _ _ _ I h fun vs H1 F1 ts ρ1 I1 hl q => ?_⟩
  obtain ⟨t, e1, q⟩ := slot_of (P := fun t => Q (t :: ts) (ρ1.set i none)) q
  obtain ⟨v, s1, J⟩ := I1.move e1 hi
  rw [s9] at s1
  cases s1
  exact k (v9 :: vs) H1 F1 (t :: ts) _ J (by simp [hl]) q
end
section
@[simp] theorem pick_nil {α : Type} (xs : List α) : pick [] xs = [] := rfl
@[simp] theorem pick_cons {α : Type} (i : Nat) (ix : List Nat) (xs : List α) : pick (i :: ix) xs = (match xs[i]? with | some x => x :: pick ix xs | none => pick ix xs) := by
  unfold pick
  rw [List.filterMap_cons]
  cases xs[i]? <;> rfl
@[simp] theorem stbL_ints (ns : List Int) : stbL (ns.map .int) = true := by rw [stbL_all]; simp [stb]
@[simp] theorem frL_ints (ns : List Int) : frL (ns.map .int) = ns.map .int := frL_stb _ (stbL_ints ns)
@[simp] theorem ffL_ints (ns : List Int) : ffL (ns.map .int) = true := by rw [ffL_all]; simp [ff]
/-- a branch -/
@[simp] theorem plnL_ints (d : Nat) : ∀ ns : List Int, plnL d (ns.map .int) = true
  | [] => by simp [plnL]
  | n :: ns => by simp [plnL, pln, plnL_ints d ns]
@[simp] theorem shwL_ints (B d : Nat) : ∀ ns : List Int, shwL B d (ns.map .int) = ns.all fun i => decide (i.natAbs < 10 ^ B)
  | [] => by simp [shwL]
  | n :: ns => by simp [shwL, shw, shwL_ints B d ns]
@[simp] theorem rlL_ints (B : Nat) : ∀ ns : List Int, rlL B (ns.map .int) = (B + 3) * ns.length
  | [] => by simp [rlL]
  | n :: ns => by
    simp only [List.map_cons, rlL, rl, rlL_ints B ns, List.length_cons, Nat.mul_succ]
    omega
@[simp] theorem teq_ii (i j : Int) : teq (.int i) (.int j) = decide (i = j) := by
  simp only [teq, py, PyData.eqv]
  exact Bool.beq_eq_decide_eq _ _
@[simp] theorem teq_bb (i j : Bool) : teq (.bl i) (.bl j) = decide (i = j) := by
  simp only [teq, py, PyData.eqv]
  exact Bool.beq_eq_decide_eq _ _
@[simp] theorem teq_ss (i j : Str) : teq (.str i) (.str j) = decide (i = j) := by
  simp only [teq, py, PyData.eqv]
  exact Bool.beq_eq_decide_eq _ _
@[simp] theorem teq_nn : teq .non .non = true := by simp only [teq, py, PyData.eqv]
@[simp] theorem teq_ll (o o2 : Bool) (xs ys : List T) : teq (.lst o xs) (.lst o2 ys) = teqL xs ys := by simp only [teq, teqL, py, PyData.eqv]
@[simp] theorem teq_tt (xs ys : List T) : teq (.tup xs) (.tup ys) = teqL xs ys := by simp only [teq, teqL, py, PyData.eqv]
@[simp] theorem teq_nl (o : Bool) (xs : List T) : teq .non (.lst o xs) = false := by simp only [teq, py, PyData.eqv]
@[simp] theorem teq_ln (o : Bool) (xs : List T) : teq (.lst o xs) .non = false := by simp only [teq, py, PyData.eqv]
@[simp] theorem teqL_nil : teqL [] [] = true := by simp only [teqL, pyL, PyData.eqvAll]
@[simp] theorem teqL_cons (x y : T) (xs ys : List T) : teqL (x :: xs) (y :: ys) = (teq x y && teqL xs ys) := by simp only [teqL, teq, pyL, PyData.eqvAll]
@[simp] theorem teqL_nc (y : T) (ys : List T) : teqL [] (y :: ys) = false := by simp only [teqL, pyL, PyData.eqvAll]
@[simp] theorem teqL_cn (y : T) (ys : List T) : teqL (y :: ys) [] = false := by simp only [teqL, pyL, PyData.eqvAll]
@[simp] theorem teqL_ints : ∀ ns ms : List Int, teqL (ns.map .int) (ms.map .int) = decide (ns = ms)
  | [], [] => by simp
  | [], m :: ms => by simp
  | n :: ns, [] => by simp
  | n :: ns, m :: ms => by
    rw [List.map_cons, List.map_cons, teqL_cons, teq_ii, teqL_ints ns ms]
    simp
@[simp] theorem teqL_ints0 (ns : List Int) : teqL (ns.map .int) [] = decide (ns = []) := teqL_ints ns []
@[simp] theorem teqL_0ints (ns : List Int) : teqL [] (ns.map .int) = decide (ns = []) := by
  rw [show ([] : List T) = ([] : List Int).map T.int from rfl, teqL_ints]
  cases ns <;> simp
@[simp] theorem own_l (o : Bool) (xs : List T) : own (.lst o xs) = o := rfl
@[simp] theorem own_d (o : Bool) (ks : List Key) (xs : List T) : own (.dic o ks xs) = o := rfl
@[simp] theorem own_o (o : Bool) (C : Addr) (ns : List Str) (xs : List T) : own (.ins o C ns xs) = o := rfl
@[simp] theorem own_i (i : Int) : own (.int i) = false := rfl
@[simp] theorem own_t (xs : List T) : own (.tup xs) = false := rfl
@[simp] theorem isStr_s (x : Str) : isStr (.str x) = true := rfl
@[simp] theorem isStr_i (i : Int) : isStr (.int i) = false := rfl
@[simp] theorem isStr_b (b : Bool) : isStr (.bl b) = false := rfl
@[simp] theorem isStr_n : isStr .non = false := rfl
@[simp] theorem isStr_l (o : Bool) (xs : List T) : isStr (.lst o xs) = false := rfl
@[simp] theorem isStr_t (xs : List T) : isStr (.tup xs) = false := rfl
@[simp] theorem isInts_ints (ns : List Int) : isInts (ns.map .int) = some ns := isInts_map ns
@[simp] theorem isBls_bls (bs : List Bool) : isBls (bs.map .bl) = some bs := isBls_map bs
@[simp] theorem kb_ii : kitB "int" "int" = some true := by decide +kernel
@[simp] theorem kb_ib : kitB "int" "bool" = some false := by decide +kernel
@[simp] theorem kb_bi : kitB "bool" "int" = some true := by decide +kernel
@[simp] theorem kb_bb : kitB "bool" "bool" = some true := by decide +kernel
@[simp] theorem kb_ni : kitB "NoneType" "int" = some false := by decide +kernel
@[simp] theorem kb_si : kitB "str" "int" = some false := by decide +kernel
@[simp] theorem kb_li : kitB "list" "int" = some false := by decide +kernel
@[simp] theorem kb_ti : kitB "tuple" "int" = some false := by decide +kernel
@[simp] theorem kb_di : kitB "dict" "int" = some false := by decide +kernel
@[simp] theorem kb_nl : kitB "NoneType" "list" = some false := by decide +kernel
@[simp] theorem kb_sl : kitB "str" "list" = some false := by decide +kernel
@[simp] theorem kb_ll : kitB "list" "list" = some true := by decide +kernel
@[simp] theorem kb_tl : kitB "tuple" "list" = some false := by decide +kernel
@[simp] theorem kb_dl : kitB "dict" "list" = some false := by decide +kernel
@[simp] theorem kb_il : kitB "int" "list" = some false := by decide +kernel
@[simp] theorem kb_bl : kitB "bool" "list" = some false := by decide +kernel
theorem ite_on {p : Prop} [d : Decidable p] {A B : Prop} (h1 : p → A) (h2 : ¬ p → B) : if p then A else B := by
  by_cases h : p
  · rw [if_pos h]; exact h1 h
  · rw [if_neg h]; exact h2 h
end

/-! ### a fresh object is handed in to be changed: f([..], ..) -/
section
variable {X : Cx} {c : Cst} {W : WX} {R : Addr → Rho → Prop} {k n : Nat} {f : Addr} {fd : FuncData} {ps : List Str} {g : G3} {x : Str} {p pos : Pos} {e : Expr} {es : List Expr} {wa : WE} {was : WA}
@[simp] def wCallIoS (n : Nat) (g : G3) (R : Addr → Rho → Prop) (wa : WE) (was : WA) (ρ : Rho) (Q : T → Rho → Prop) : Prop := wa ρ fun t0 ρ0 => own t0 = true ∧ was ρ0 fun ts ρ1 => ts.length + 1 = n ∧ g (t0 :: frL ts) (fun t _ => Q t ρ1) fun a _ => R a ρ1
theorem ve_callIoS {np : Nat} (D : Df X.prog X.w X.K X.mg X.base x k f fd ps n true g) (b : Bnd X.K fd ps np [] (List.range np)) (hr : Room k X.A) (kn : Kn X c W R) (he : VE X c e wa) (ha : VA X c es was)
    (hg : Gl X x := by rfl) (hdb : (x == ("__debug__" : Str)) = false := by decide) (hs : starEach (e :: es) X.env = (false, eval e X.env) :: starEach es X.env := by rfl) (hpl : (backTo pos (starEach es X.env)).any (·.1) = false := by rfl) (hnp : np = n := by rfl) :
    VE X c (.Call (.Name x p) (e :: es) [] pos) (wCallIoS n g R wa was) := by
  obtain ⟨te, pe, ke⟩ := he
  obtain ⟨ta, pa, ka⟩ := ha
  refine ⟨_, pe_callG D.G hr kn.gd hg D.mx D.kp b (fun σ => L2N.passAt kn.tk σ) (pa_cons pe pa hs) hdb hs hpl, fun F H σ ρ tt tv Q P I h k => ?_⟩
  refine ke F H σ ρ tt tv _ _ I h fun v0 H0 F0 t0 ρ0 I0 h0 => ?_
  obtain ⟨o0, h0⟩ := h0
  obtain ⟨G1, G2, r0, _⟩ := I0.top
  obtain ⟨p0, rfl⟩ := own_ref r0 o0
  refine ka F0 H0 σ ρ0 _ _ _ _ I0 h0 fun vs H1 F1 ts ρ1 I1 hl h1 => ?_
  obtain ⟨hn, h1⟩ := h1
  have hall : pick (List.range np) (V.ref p0 :: vs) = V.ref p0 :: vs := by
    have : (V.ref p0 :: vs).length = np := by rw [List.length_cons, ← hl, hn, hnp]
    rw [← this]
    exact pick_all _
  refine ⟨by rw [List.length_cons, ← hl, hn, hnp], ?_⟩
  rw [hall, kn.hK]
  have tl := I1.tl
  simp only [List.length_append, List.length_cons] at tl
  have J := I1.deep hl
  have J2 : Sim { c with io := none } F1 H1 ((V.ref p0 :: tv).map some ++ σ) ((t0 :: tt).map some ++ ρ1) (ts ++ []) (vs ++ []) := by simp only [List.append_nil]; exact J
  have ht : ∀ t1 : T, ((t0 :: tt).map some ++ ρ1).set 0 (some t1) = (t1 :: tt).map some ++ ρ1 := fun _ => rfl
  refine Sim.lowIo (c := { c with io := none }) (i := 0) J2 hl hn rfl rfl o0 h1 (fun t t1 F' H' v J q => ?_) fun a t1 F' H' J q => ?_
  · have M := Sim.undeep (us := [t]) (ws := [v]) (tt' := t1 :: tt) (tv' := V.ref p0 :: tv) I1 J (by simp only [List.length_cons]; omega)
    have M : Sim c F' H' σ ρ1 (t :: t1 :: tt) (v :: V.ref p0 :: tv) := M
    exact k _ _ _ _ _ M.drop2 q
  · have M := Sim.undeep (us := []) (ws := []) (tt' := t1 :: tt) (tv' := V.ref p0 :: tv) I1 J (by simp only [List.length_cons]; omega)
    have M : Sim c F' H' σ ρ1 (t1 :: tt) (V.ref p0 :: tv) := M
    exact kn.lk F' H' σ ρ1 tt tv a M.drop q
end
theorem CX_false {P : Program} {w : World} {H : Hp} {s s' : Shared} {e : Value} (h : L2N.CX P w [] H s (fun _ _ _ => False) e s') : False := by
  rcases h with ⟨_, _, _, _, _, _, _, _, _, _, _, _, z⟩
  exact z
/-- what the law's def is asked for -/
theorem want_low {K : PySem.W.Frag} {g : G3} {H : Hp} {a : Addr} {ns : List Int} (ho : Only H) (hS : SqL K H a (ns.map V.int)) (hg : g [.lst false (ns.map .int)] (fun t _ => t = .bl true) fun _ _ => False) : Low K 1 false g [.ref a] H (fun v _ => v = .bl true) fun _ _ _ => False := by
  refine ⟨H, [.lst false (ns.map .int)], [], Ex.refl H, TrL.one (.lstF hS .of_int), List.nodup_nil, by simp, rfl, ?_, _, _, hg, fun t t0 ht F' H' v p => ?_, fun a t0 h => h.elim⟩
  · show stbL [.lst false (ns.map .int)] = true
    simp [stbL, stb, stbL_ints]
  · subst ht
    obtain ⟨G', r, _, _⟩ := p.live
    have r2 : TrL K F' H' ([.bl true] ++ []) ([v] ++ []) G' := r
    cases r2 with
    | cons h _ => cases h; rfl
end L3

namespace L3
open PySem L2 PySem.Spec PyProof.Rows
/-! ### rules for plain proofs -/
section
variable {α : Type} {js : List Nat} {wi : WI} {g : WG} {we : WE} {wt : WT} {wb : WS} {ρ : Rho} {E : En} {Q : T → Rho → Prop}
/-- a comprehension that only computes -/
theorem lc_on (xs : List α) (emb f : α → T) (ρ1 : Rho) (h : ∀ K : List T → Rho → Prop, K (xs.map emb) ρ1 → wi ρ K) (hz : xs.length ≤ sizeLine)
    (step : ∀ x ∈ xs, ∀ K : T → Rho → Prop, (∀ ρ4, wipR ρ4 js = wipR ρ1 js → K (f x) ρ4) → g (emb x) (wipR ρ1 js) fun ρ2 => we ρ2 K) (hq : Q (.lst true (xs.map f)) (wipR ρ1 js)) : wLc js wi g wYes we ρ Q := by
  refine h _ ⟨by rw [List.length_map]; exact hz, fun i acc ρ' => acc = (xs.take i).map f ∧ ρ' = wipR ρ1 js, ⟨by simp, rfl⟩, ?_, ?_⟩
  · rintro i t acc ρ' et ⟨rfl, rfl⟩
    rw [List.getElem?_map] at et
    cases hx : xs[i]? with
    | none => rw [hx] at et; cases et
    | some x =>
      rw [hx] at et
      have e : emb x = t := Option.some.inj et
      subst e
      refine step x (List.mem_of_getElem? hx) _ fun ρ4 e4 => ⟨?_, e4⟩
      rw [List.take_succ, hx, List.map_append]
      rfl
  · rintro acc ρ' ⟨rfl, rfl⟩
    rw [List.length_map]
    rw [List.take_length]
    exact hq
/-- .. with a condition -/
theorem lcf_on (xs : List α) (emb f : α → T) (p : α → Bool) (ρ1 : Rho) (h : ∀ K : List T → Rho → Prop, K (xs.map emb) ρ1 → wi ρ K) (hz : xs.length ≤ sizeLine)
    (step : ∀ x ∈ xs, ∀ (K : T → Rho → Prop) (K2 : Rho → Prop), (p x = true → ∀ ρ4, wipR ρ4 js = wipR ρ1 js → K (f x) ρ4) → (p x = false → ∀ ρ4, wipR ρ4 js = wipR ρ1 js → K2 ρ4) →
      g (emb x) (wipR ρ1 js) fun ρ2 => wt ρ2 fun b ρ3 => if b = true then we ρ3 K else K2 ρ3)
    (hq : Q (.lst true ((xs.filter p).map f)) (wipR ρ1 js)) : wLc js wi g wt we ρ Q := by
  refine h _ ⟨by rw [List.length_map]; exact hz, fun i acc ρ' => acc = ((xs.take i).filter p).map f ∧ ρ' = wipR ρ1 js, ⟨by simp, rfl⟩, ?_, ?_⟩
  · rintro i t acc ρ' et ⟨rfl, rfl⟩
    rw [List.getElem?_map] at et
    cases hx : xs[i]? with
    | none => rw [hx] at et; cases et
    | some x =>
      rw [hx] at et
      have e : emb x = t := Option.some.inj et
      subst e
      have tk : xs.take (i + 1) = xs.take i ++ [x] := by rw [List.take_succ, hx]; rfl
      refine step x (List.mem_of_getElem? hx) _ _ (fun hp ρ4 e4 => ⟨?_, e4⟩) fun hp ρ4 e4 => ⟨?_, e4⟩
      · rw [tk, List.filter_append, List.map_append, List.filter_cons, if_pos hp]
        rfl
      · rw [tk, List.filter_append, List.filter_cons, if_neg (by rw [hp]; decide)]
        simp
  · rintro acc ρ' ⟨rfl, rfl⟩
    rw [List.length_map]
    rw [List.take_length]
    exact hq
/-- a for loop -/
theorem for_on (xs : List α) (emb : α → T) (ρ1 : Rho) (Pv : Nat → Rho → Prop) (h : ∀ K : List T → Rho → Prop, K (xs.map emb) ρ1 → wi ρ K) (h0 : Pv 0 ρ1)
    (step : ∀ i x, xs[i]? = some x → ∀ ρ', Pv i ρ' → g (emb x) ρ' fun ρ2 => wb { nx := Pv (i + 1), rt := E.rt, bk := E.nx, ct := Pv (i + 1) } ρ2) (hend : ∀ ρ', Pv xs.length ρ' → E.nx ρ') : wFor wi g wb E ρ := by
  refine h _ ⟨Pv, h0, fun i t ρ' et p => ?_, fun ρ' p => hend ρ' (by rw [List.length_map] at p; exact p)⟩
  rw [List.getElem?_map] at et
  cases hx : xs[i]? with
  | none => rw [hx] at et; cases et
  | some x =>
    rw [hx] at et
    have e : emb x = t := Option.some.inj et
    subst e
    exact step i x hx ρ' p
end
/-- lists of ints as trees -/
abbrev LI (o : Bool) (ns : List Int) : T := .lst o (ns.map .int)
theorem ziT_map {α β : Type} (f : α → T) (g : β → T) : ∀ (xs : List α) (ys : List β), ziT (xs.map f) (ys.map g) = (xs.zip ys).map fun p => .tup [f p.1, g p.2]
  | [], ys => by simp [ziT]
  | x :: xs, [] => by simp [ziT]
  | x :: xs, y :: ys => by simp [ziT, ziT_map f g xs ys]
theorem enT_map {α : Type} (f : α → T) : ∀ (k : Nat) (xs : List α), enT k (xs.map f) = (xs.zipIdx k).map fun p => .tup [.int (p.2 : Int), f p.1]
  | _, [] => by simp [enT]
  | k, x :: xs => by simp [enT, enT_map f (k + 1) xs]
theorem atI_ints {ns : List Int} {i : Int} : atI (ns.map T.int) i = (atI ns i).map T.int := by
  unfold atI
  rw [List.length_map]
  cases ixN ns.length i with
  | none => rfl
  | some j =>
    show (ns.map T.int)[j]? = (ns[j]?).map T.int
    rw [List.getElem?_map]
theorem fIx_ints (o : Bool) (ns : List Int) (i : Int) (k : T → Prop) : fIx (.lst o (ns.map .int)) (.int i) k = match atI ns i with | some x => k (.int x) | none => False := by
  unfold fIx
  simp only [atI_ints]
  cases atI ns i <;> rfl
theorem atI_neg1 {α : Type} {xs : List α} (h : xs ≠ []) : atI xs (-1) = xs[xs.length - 1]? := by
  have hl : 0 < xs.length := List.length_pos_iff.mpr h
  unfold atI ixN
  rw [if_neg (by omega), if_pos (by omega)]
  show xs[((xs.length : Int) + -1).toNat]? = _
  congr 1
  omega
theorem atI_at {α : Type} {xs : List α} {j : Nat} : atI xs (j : Int) = xs[j]? := by
  unfold atI ixN
  rw [if_pos (by omega)]
  by_cases h : j < xs.length
  · rw [if_pos (by omega)]
    show xs[(j : Int).toNat]? = _
    rw [Int.toNat_natCast]
  · rw [if_neg (by omega)]
    exact (List.getElem?_eq_none (by omega)).symm
theorem cutT_map {α β : Type} (f : α → β) (xs : List α) (lo hi : Option Int) : cutT (xs.map f) lo hi = (cutT xs lo hi).map f := by
  unfold cutT
  rw [List.length_map, List.map_take, List.map_drop]
@[simp] theorem cutT_ints (xs : List Int) (lo hi : Option Int) : cutT (xs.map T.int) lo hi = (cutT xs lo hi).map T.int := cutT_map _ _ _ _
@[simp] theorem atI_0 {α : Type} (x0 : α) (xs : List α) : atI (x0 :: xs) 0 = some x0 := by
  unfold atI ixN
  rw [if_pos (by decide), if_pos (by simp only [List.length_cons]; omega)]
  rfl
@[simp] theorem ixN_0 (n : Nat) : ixN (n + 1) 0 = some 0 := by
  unfold ixN
  rw [if_pos (by decide), if_pos (by omega)]
  rfl
@[simp] theorem atI_1 {α : Type} (x0 x1 : α) (xs : List α) : atI (x0 :: x1 :: xs) 1 = some x1 := by
  unfold atI ixN
  rw [if_pos (by decide), if_pos (by simp only [List.length_cons]; omega)]
  rfl
@[simp] theorem ixN_1 (n : Nat) : ixN (n + 2) 1 = some 1 := by
  unfold ixN
  rw [if_pos (by decide), if_pos (by omega)]
  rfl
@[simp] theorem atI_2 {α : Type} (x0 x1 x2 : α) (xs : List α) : atI (x0 :: x1 :: x2 :: xs) 2 = some x2 := by
  unfold atI ixN
  rw [if_pos (by decide), if_pos (by simp only [List.length_cons]; omega)]
  rfl
@[simp] theorem ixN_2 (n : Nat) : ixN (n + 3) 2 = some 2 := by
  unfold ixN
  rw [if_pos (by decide), if_pos (by omega)]
  rfl
@[simp] theorem atI_3 {α : Type} (x0 x1 x2 x3 : α) (xs : List α) : atI (x0 :: x1 :: x2 :: x3 :: xs) 3 = some x3 := by
  unfold atI ixN
  rw [if_pos (by decide), if_pos (by simp only [List.length_cons]; omega)]
  rfl
@[simp] theorem ixN_3 (n : Nat) : ixN (n + 4) 3 = some 3 := by
  unfold ixN
  rw [if_pos (by decide), if_pos (by omega)]
  rfl
@[simp] theorem atI_4 {α : Type} (x0 x1 x2 x3 x4 : α) (xs : List α) : atI (x0 :: x1 :: x2 :: x3 :: x4 :: xs) 4 = some x4 := by
  unfold atI ixN
  rw [if_pos (by decide), if_pos (by simp only [List.length_cons]; omega)]
  rfl
@[simp] theorem ixN_4 (n : Nat) : ixN (n + 5) 4 = some 4 := by
  unfold ixN
  rw [if_pos (by decide), if_pos (by omega)]
  rfl
@[simp] theorem atI_5 {α : Type} (x0 x1 x2 x3 x4 x5 : α) (xs : List α) : atI (x0 :: x1 :: x2 :: x3 :: x4 :: x5 :: xs) 5 = some x5 := by
  unfold atI ixN
  rw [if_pos (by decide), if_pos (by simp only [List.length_cons]; omega)]
  rfl
@[simp] theorem ixN_5 (n : Nat) : ixN (n + 6) 5 = some 5 := by
  unfold ixN
  rw [if_pos (by decide), if_pos (by omega)]
  rfl
@[simp] theorem atI_6 {α : Type} (x0 x1 x2 x3 x4 x5 x6 : α) (xs : List α) : atI (x0 :: x1 :: x2 :: x3 :: x4 :: x5 :: x6 :: xs) 6 = some x6 := by
  unfold atI ixN
  rw [if_pos (by decide), if_pos (by simp only [List.length_cons]; omega)]
  rfl
@[simp] theorem ixN_6 (n : Nat) : ixN (n + 7) 6 = some 6 := by
  unfold ixN
  rw [if_pos (by decide), if_pos (by omega)]
  rfl
@[simp] theorem atI_7 {α : Type} (x0 x1 x2 x3 x4 x5 x6 x7 : α) (xs : List α) : atI (x0 :: x1 :: x2 :: x3 :: x4 :: x5 :: x6 :: x7 :: xs) 7 = some x7 := by
  unfold atI ixN
  rw [if_pos (by decide), if_pos (by simp only [List.length_cons]; omega)]
  rfl
@[simp] theorem ixN_7 (n : Nat) : ixN (n + 8) 7 = some 7 := by
  unfold ixN
  rw [if_pos (by decide), if_pos (by omega)]
  rfl
theorem atI_in {xs : List Int} {d : Int} (h0 : 0 ≤ d) (h1 : d < xs.length) : ∃ v, v ∈ xs ∧ atI (xs.map T.int) d = some (.int v) := by
  obtain ⟨j, rfl⟩ : ∃ j : Nat, d = (j : Int) := ⟨d.toNat, by omega⟩
  have hl : j < xs.length := by omega
  refine ⟨xs[j], List.getElem_mem hl, ?_⟩
  rw [atI_at, List.getElem?_map, List.getElem?_eq_getElem hl]
  rfl
theorem lt4000 {x : Int} (h : x ≤ 2 ^ 200) : x < 2 ^ 4000 := Int.lt_of_le_of_lt h (by decide +kernel)
/-- a for loop, where what is walked is known -/
theorem for_ex {α : Type} {g : WG} {wb : WS} {NX : Rho → Prop} {RT : T → Rho → Prop} (xs : List α) (emb : α → T) (ρ1 : Rho) (Pv : Nat → Rho → Prop) (h0 : Pv 0 ρ1)
    (step : ∀ i x, xs[i]? = some x → ∀ ρ', Pv i ρ' → g (emb x) ρ' fun ρ2 => wb { nx := Pv (i + 1), rt := RT, bk := NX, ct := Pv (i + 1) } ρ2) (hend : ∀ ρ', Pv xs.length ρ' → NX ρ') :
    ∃ Pv : Nat → Rho → Prop, Pv 0 ρ1 ∧ (∀ i t ρ', (xs.map emb)[i]? = some t → Pv i ρ' → g t ρ' fun ρ2 => wb { nx := Pv (i + 1), rt := RT, bk := NX, ct := Pv (i + 1) } ρ2) ∧ ∀ ρ', Pv (xs.map emb).length ρ' → NX ρ' :=
  for_on (E := { nx := NX, rt := RT }) (wi := fun ρ Q => Q (xs.map emb) ρ) (ρ := ρ1) xs emb ρ1 Pv (fun _ h => h) h0 step hend
end L3

namespace L3
open PySem L2 PySem.Spec PyProof.Rows
section
variable {X : Cx} {c : Cst} {tg : Expr} {pos p : Pos}
/-! ### for over a list that a name owns and keeps -/
def wForO (i : Nat) (g : WG) (wb : WS) (E : En) (ρ : Rho) : Prop := match ρ[i]? with
  | some (some (.lst true xs)) => stbL xs = true ∧ ∀ a : Addr, ∃ Pv : Nat → Rho → Prop, Pv 0 (ρ.set i (some (.fn (.ref a)))) ∧ (∀ j ρ', Pv j ρ' → ρ'[i]? = some (some (.fn (.ref a)))) ∧
    (∀ j t ρ', xs[j]? = some t → Pv j ρ' → g t ρ' fun ρ2 => wb { nx := Pv (j + 1), rt := E.rt, bk := fun ρ' => ρ'[i]? = some (some (.fn (.ref a))) ∧ E.nx (ρ'.set i (some (.lst true xs))), ct := Pv (j + 1) } ρ2) ∧
    ∀ ρ', Pv xs.length ρ' → E.nx (ρ'.set i (some (.lst true xs)))
  | _ => False
/-- a name's list is moved onto the top; its bare value stays known -/
theorem Sim.lift {F H : Hp} {σ : L2.St} {ρ : Rho} {tt : List T} {tv : List V} {i : Nat} {t : T} (I : Sim c F H σ ρ tt tv) (h : ρ[i]? = some (some t)) (hi : c.io = none ∨ i ≠ 0) : ∃ v, σ[i]? = some (some v) ∧ Sim c F H σ (ρ.set i (some (.fn v))) (t :: tt) (v :: tv) := by
  obtain ⟨v, e, J⟩ := I.move h hi
  refine ⟨v, e, ?_⟩
  have J2 : Sim c F H σ (ρ.set i none) (.fn v :: t :: tt) (v :: v :: tv) := J.pushG (.fn v) rfl
  have J3 := J2.store (i := i) hi
  rw [List.set_set, set_same e] at J3
  exact J3
theorem Sim.lower {F H : Hp} {σ : L2.St} {ρ : Rho} {tt : List T} {tv : List V} {i : Nat} {t : T} {v : V} (I : Sim c F H σ ρ (t :: tt) (v :: tv)) (h : ρ[i]? = some (some (.fn v))) (hi : c.io = none ∨ i ≠ 0) : Sim c F H σ (ρ.set i (some t)) tt tv := by
  have hv : σ[i]? = some (some v) := by
    obtain ⟨v', e⟩ := some_val I h
    obtain ⟨G, l, _, _⟩ := I.live
    have h' : ((t :: tt).map some ++ ρ)[((t :: tt).map some).length + i]? = some (some (.fn v)) := by rw [ap_get]; exact h
    obtain ⟨v0, G1, G2, e1, q, _, _⟩ := l.take h'
    have hl : ((t :: tt).map some).length = ((v :: tv).map some).length := by simp [I.tl] <;> have := I.tl <;> simp at this <;> omega
    rw [hl, ap_get] at e1
    cases q
    exact e1
  have J := I.store (i := i) hi
  rw [set_same hv] at J
  exact J
theorem vs_forO (i : Nat) {x : Str} {body : List Stmt} {g : WG} {js : List Nat} {wb : WS} (hp : PassesOwn (model X.prog X.w) X.A X.env X.xe) (hc : X.calm = true) (hg : VG X c tg js g) (hb : VB X c body wb) (hK : X.K = c.K := by rfl)
    (hi : c.io = none ∨ i ≠ 0 := by first | exact .inl rfl | exact .inr (by decide)) (hN : X.N[i]? = some x := by rfl) (hv : Vis X.env.scope x := by first | exact Or.inl rfl | exact Or.inr (Or.inl rfl) | exact Or.inr (Or.inr rfl)) (hd : (x == ("__debug__" : Str)) = false := by decide)
    (hcd : (x == ("__classdict__" : Str)) = false := by decide) (hs : ∀ y, foldedSetIterable (.Name x p) X.env y = pure y := by intro _; rfl) : VS X c (.For tg (.Name x p) body [] pos) (wForO i g wb) := by
  obtain ⟨tg2, pg, kg⟩ := hg
  obtain ⟨tb, pb, kb⟩ := hb
  refine ⟨_, ps_for hp hc (pi_list (pe_var hN hv hd hcd)) pg pb hs, fun F H σ ρ tt tv D E I m h => ?_⟩
  unfold wForO at h
  split at h
  · rename_i xs e0
    obtain ⟨hst, h⟩ := h
    obtain ⟨v, sv, J⟩ := I.lift e0 hi
    obtain ⟨a, ws0, ev, hH0, hlen0, _⟩ := J.opLstT
    subst ev
    obtain ⟨Pv, h0, hkeep, hstep, hend⟩ := h a
    refine ⟨.ref a, sv, a, rfl, ⟨ws0, hK ▸ SqL.of hH0⟩, ?_⟩
    have look : ∀ {F' H' : Hp} {σ' : L2.St} {ρ' : Rho}, Sim c F' H' σ' ρ' (.lst true xs :: tt) (.ref a :: tv) → ∃ ws, SqL X.K H' a ws ∧ TrL c.K F' H' xs ws [] := fun I' => by
      obtain ⟨G1, G2, h1, _⟩ := I'.top
      cases h1 with
      | lstT hH hr =>
        have e := hr.stb_nil hst
        subst e
        exact ⟨_, hK ▸ SqL.of hH, hr⟩
    refine ⟨fun j n σ H => n = xs.length - j ∧ j ≤ xs.length ∧ ∃ F ρ, Sim c F H σ ρ (.lst true xs :: tt) (.ref a :: tv) ∧ Pv j ρ, ⟨xs.length, by simp, Nat.zero_le _, F, _, J, h0⟩, ?_⟩
    rintro j n σ2 H2 ⟨rfl, hj, F2, ρ2, I2, p2⟩
    obtain ⟨ws, hs2, hr2⟩ := look I2
    have hl2 := hr2.length
    by_cases hlt : j < xs.length
    · refine .inr ⟨⟨ws, _, hs2, List.getElem?_eq_getElem (by omega)⟩, fun σ' H' => ∃ F' ρ', Sim c F' H' σ' ρ' (.lst true xs :: tt) (.ref a :: tv) ∧ Pv (j + 1) ρ', fun σ' H' ⟨F', ρ', I', p'⟩ => ⟨xs.length - (j + 1), by omega, rfl, hlt, F', ρ', I', p'⟩, fun y H3 hy => ?_⟩
      obtain ⟨rfl, hy⟩ := hy
      obtain ⟨t, et, ht⟩ := hr2.at_ (hy ws hs2)
      refine kg F2 H3 σ2 ρ2 (.lst true xs :: tt) (.ref a :: tv) t y _ _ (I2.pushG ht rfl) (hstep j t ρ2 et p2) fun H4 F4 σ4 ρ4 I4 q4 _ => ?_
      refine kb F4 H4 σ4 ρ4 _ _ _ { nx := Pv (j + 1), rt := E.rt, bk := fun ρ' => ρ'[i]? = some (some (.fn (.ref a))) ∧ E.nx (ρ'.set i (some (.lst true xs))), ct := Pv (j + 1) } I4 ⟨fun F5 H5 σ5 ρ5 I5 q5 => ⟨F5, ρ5, I5, q5⟩, fun F5 H5 σ5 ρ5 t5 v5 I5 q5 => m.rt F5 H5 σ5 ρ5 t5 v5 I5.drop2 q5, fun F5 H5 σ5 ρ5 I5 q5 => m.nx F5 H5 σ5 _ (I5.lower q5.1 hi) q5.2, fun F5 H5 σ5 ρ5 I5 q5 => ⟨F5, ρ5, I5, q5⟩⟩ q4
    · have ei : j = xs.length := by omega
      subst ei
      exact .inl ⟨⟨ws, hs2, by omega⟩, m.nx F2 H2 σ2 _ (I2.lower (hkeep _ _ p2) hi) (hend ρ2 p2)⟩
  · exact h.elim
/-- the rule for it -/
theorem forO_on {α : Type} {i : Nat} {g : WG} {wb : WS} {E : En} {ρ : Rho} (xs : List α) (emb : α → T) (h : ρ[i]? = some (some (.lst true (xs.map emb)))) (hs : stbL (xs.map emb) = true) (Pv : Addr → Nat → Rho → Prop) (h0 : ∀ a, Pv a 0 (ρ.set i (some (.fn (.ref a)))))
    (hk : ∀ a j ρ', Pv a j ρ' → ρ'[i]? = some (some (.fn (.ref a))))
    (step : ∀ a j x, xs[j]? = some x → ∀ ρ', Pv a j ρ' → g (emb x) ρ' fun ρ2 => wb { nx := Pv a (j + 1), rt := E.rt, bk := fun ρ' => ρ'[i]? = some (some (.fn (.ref a))) ∧ E.nx (ρ'.set i (some (.lst true (xs.map emb)))), ct := Pv a (j + 1) } ρ2)
    (hend : ∀ a ρ', Pv a xs.length ρ' → E.nx (ρ'.set i (some (.lst true (xs.map emb))))) : wForO i g wb E ρ := by
  unfold wForO
  rw [h]
  refine ⟨hs, fun a => ⟨Pv a, h0 a, hk a, fun j t ρ' et p => ?_, fun ρ' p => hend a ρ' (by rw [List.length_map] at p; exact p)⟩⟩
  rw [List.getElem?_map] at et
  cases hx : xs[j]? with
  | none => rw [hx] at et; cases et
  | some x =>
    rw [hx] at et
    have e : emb x = t := Option.some.inj et
    subst e
    exact step a j x hx ρ' p
end
/-! ### a cut between statements: what holds there is said once -/
section
variable {X : Cx} {c : Cst} {st : Stmt} {sts : List Stmt} {wa wb : WS}
def wCut (a b : WS) (E : En) (ρ : Rho) : Prop := ∃ M : Rho → Prop, a { E with nx := M } ρ ∧ ∀ ρ', M ρ' → b E ρ'
theorem vb_cut (h1 : VS X c st wa) (h2 : VB X c sts wb) : VB X c (st :: sts) (wCut wa wb) := by
  obtain ⟨t1, p1, k1⟩ := h1
  obtain ⟨t2, p2, k2⟩ := h2
  refine ⟨_, pss_cons p1 p2, fun F H σ ρ tt tv D E I m h => ?_⟩
  obtain ⟨M, ha, hM⟩ := h
  exact k1 F H σ ρ tt tv _ { E with nx := M } I ⟨fun F H σ ρ J q => k2 F H σ ρ tt tv D E J m (hM ρ q), m.rt, m.bk, m.ct⟩ ha
end
/-- a comprehension, where what is walked is known -/
theorem lc_ex {α : Type} {js : List Nat} {g : WG} {we : WE} {QL : List T → Rho → Prop} (xs : List α) (emb f : α → T) (ρ1 : Rho) (hz : xs.length ≤ sizeLine)
    (step : ∀ x ∈ xs, ∀ K : T → Rho → Prop, (∀ ρ4, wipR ρ4 js = wipR ρ1 js → K (f x) ρ4) → g (emb x) (wipR ρ1 js) fun ρ2 => we ρ2 K) (hq : QL (xs.map f) (wipR ρ1 js)) :
    (xs.map emb).length ≤ sizeLine ∧ ∃ Pv : Nat → List T → Rho → Prop, Pv 0 [] (wipR ρ1 js) ∧
      (∀ i t acc ρ', (xs.map emb)[i]? = some t → Pv i acc ρ' → g t ρ' fun ρ2 => wYes ρ2 fun b ρ3 => if b = true then we ρ3 fun u ρ4 => Pv (i + 1) (acc ++ [u]) (wipR ρ4 js) else Pv (i + 1) acc (wipR ρ3 js)) ∧
      ∀ acc ρ', Pv (xs.map emb).length acc ρ' → QL acc ρ' := by
  refine lc_on (wi := fun ρ Q => Q (xs.map emb) ρ) (Q := fun t ρ => match t with | .lst true acc => QL acc ρ | _ => False) (ρ := ρ1) xs emb f ρ1 (fun _ h => h) hz step hq
end L3

namespace L3
open PySem L2 PySem.Spec PyProof.Rows
section
variable {X : Cx} {c : Cst}
/-! ### isinstance(x, T) and isinstance(x, (T, U, ..)) of built-in types -/
def rIsiS (K : PySem.W.Frag) : List V → Hp → VK → Prop := fun xs H Q => ∃ (x : V) (tp : Addr) (cs : List V) (t : Value) (us : List Value) (b : Bool), xs = [x, .ref tp] ∧ SqT K H tp cs ∧ Paired ClsV cs us ∧ TyX K H x t ∧ PySem.W.kitAny K t us = some b ∧ Q (.bl b) H
theorem call_isiS : CallR X (.builtin "isinstance") (rIsiS X.K) := by
  rintro pins s σ H _ us Q I r ⟨x, tp, cs, t, ws, b, rfl, known, types, kind, answer, next⟩
  cases r with
  | cons here more =>
    cases more with
    | cons second none_ =>
      cases none_
      cases second
      obtain ⟨_, Z, p, at_⟩ := kit_of I here kind
      obtain ⟨its, vals, ⟨⟨cl, di, da, slo⟩, obj, k1, cap, k2⟩, _⟩ := I.tuple known
      cases ClsV.all types vals
      simp only at k1 k2
      subst k1 k2
      refine PySem.W.kia_tup Z I.kIn p obj answer at_ fun tok => ?_
      exact ⟨.bl b, H, I.tok tok, rfl, next⟩
def rIsiA (K : PySem.W.Frag) : List V → Hp → VK → Prop := fun xs H Q => rIsi K xs H Q ∨ rIsiS K xs H Q
theorem call_isiA : CallR X (.builtin "isinstance") (rIsiA X.K) := by
  rintro pins s σ H xs us Q I r (h | h)
  · exact call_isi pins s σ H xs us Q I r h
  · exact call_isiS pins s σ H xs us Q I r h
/-- types as trees -/
@[simp] def tyL : List T → Option (List String)
  | [] => some []
  | .fn (.ty b) :: xs => (tyL xs).map (b :: ·)
  | _ :: _ => none
@[simp] def isiAny (a : Option String) : List String → Option Bool
  | [] => a.map fun _ => false
  | b :: bs => match isiB a b with
    | some true => some true
    | some false => isiAny a bs
    | none => none
@[simp] def fIsiA (ts : List T) (k : (T → Prop)) : Prop := match ts with
  | [t, .fn (.ty b)] => (match isiB (tyN t) b with | some r => k (.bl r) | none => False)
  | [t, .tup cs] => (match tyL cs with | some bs => (match isiAny (tyN t) bs with | some r => k (.bl r) | none => False) | none => False)
  | _ => False
theorem tyL_paired {K : PySem.W.Frag} {F H : Hp} : ∀ {cs : List T} {bs : List String} {vs : List V} {G : List Addr}, tyL cs = some bs → TrL K F H cs vs G → Paired ClsV vs (bs.map .type)
  | [], bs, _, _, h, .nil => by
    cases h
    exact .nil
  | .fn (.ty b) :: xs, bs, _, _, h, .cons h1 r => by
    cases h1
    unfold tyL at h
    cases z : tyL xs with
    | none => rw [z] at h; cases h
    | some ys =>
      rw [z] at h
      have e : b :: ys = bs := Option.some.inj h
      subst e
      exact .cons (.ty b) (tyL_paired z r)
theorem isiAny_kit {K : PySem.W.Frag} {n : String} : ∀ {bs : List String} {r : Bool}, isiAny (some n) bs = some r → PySem.W.kitAny K (.type n) (bs.map .type) = some r
  | [], r, h => by
    cases h
    rfl
  | b :: bs, r, h => by
    unfold isiAny at h
    have e1 : isiB (some n) b = kitB n b := rfl
    rw [e1] at h
    cases z : kitB n b with
    | none => rw [z] at h; cases h
    | some y =>
      rw [z] at h
      refine kitAny_cons (kit_ty z) (fun hy => ?_) fun hy => ?_
      · subst hy
        exact isiAny_kit h
      · subst hy
        exact (Option.some.inj h).symm
theorem oA_isiA : OpA c (rIsiA c.K) fIsiA := by
  intro F H σ ρ tt tv ts vs k P I hl h q
  unfold fIsiA at h
  split at h
  · rename_i t b
    exact .inl (oA_isi F H σ ρ tt tv [t, .fn (.ty b)] vs k P I hl h q)
  · rename_i t cs
    split at h
    · rename_i bs hbs
      split at h
      · rename_i r hr
        obtain ⟨x, y, rfl⟩ := two_top hl
        obtain ⟨G, _, h1, _⟩ := Sim.top I
        obtain ⟨a, us, rfl, hs, hlen, J⟩ := Sim.open_tup (Sim.drop I)
        cases hn : tyN t with
        | none =>
          rw [hn] at hr
          cases bs with
          | nil => simp [isiAny] at hr
          | cons b bs => simp [isiAny, isiB] at hr
        | some n =>
          rw [hn] at hr
          obtain ⟨G2, l2, _, _⟩ := J.live
          rw [List.map_append, List.map_append, List.append_assoc, List.append_assoc] at l2
          obtain ⟨Ga, Gb, _, q1, _⟩ := Live.to_trL hlen l2
          exact .inr ⟨x, a, us, .type n, bs.map .type, r, rfl, hs, tyL_paired hbs q1, h1.tyX I.ex hn, isiAny_kit hr, q _ _ _ _ ((Sim.drop (Sim.drop I)).pushG (.bl r) rfl) h⟩
      · exact h.elim
    · exact h.elim
  · exact h.elim
end
@[simp] theorem kb_it : kitB "int" "tuple" = some false := by decide +kernel
@[simp] theorem kb_bt : kitB "bool" "tuple" = some false := by decide +kernel
@[simp] theorem kb_nt : kitB "NoneType" "tuple" = some false := by decide +kernel
@[simp] theorem kb_st : kitB "str" "tuple" = some false := by decide +kernel
@[simp] theorem kb_lt : kitB "list" "tuple" = some false := by decide +kernel
@[simp] theorem kb_tt : kitB "tuple" "tuple" = some true := by decide +kernel
@[simp] theorem kb_dt : kitB "dict" "tuple" = some false := by decide +kernel
@[simp] theorem kb_nb : kitB "NoneType" "bool" = some false := by decide +kernel
@[simp] theorem kb_sb : kitB "str" "bool" = some false := by decide +kernel
@[simp] theorem kb_lb : kitB "list" "bool" = some false := by decide +kernel
@[simp] theorem kb_tb : kitB "tuple" "bool" = some false := by decide +kernel
@[simp] theorem kb_db : kitB "dict" "bool" = some false := by decide +kernel
@[simp] theorem kb_is : kitB "int" "str" = some false := by decide +kernel
@[simp] theorem kb_bs : kitB "bool" "str" = some false := by decide +kernel
@[simp] theorem kb_ns : kitB "NoneType" "str" = some false := by decide +kernel
@[simp] theorem kb_ss : kitB "str" "str" = some true := by decide +kernel
@[simp] theorem kb_ls : kitB "list" "str" = some false := by decide +kernel
@[simp] theorem kb_ts : kitB "tuple" "str" = some false := by decide +kernel
@[simp] theorem kb_ds : kitB "dict" "str" = some false := by decide +kernel
/-- a def's promise of nothing -/
theorem FnG.no {P : Program} {w : World} {K : PySem.W.Frag} {mg : Str → Option Value} {base : Heap} {C : CXT} {k : Nat} {f : Addr} {fd : FuncData} {ps : List Str} {n : Nat} {io : Bool} : FnG P w K mg base C k f fd ps (Low K n io fun _ _ _ => False) := by
  constructor
  · intro vs H Q E h
    obtain ⟨_, _, _, _, _, _, _, _, _, _, _, h, _⟩ := h
    exact h.elim
  · intro A outer s H args us vs Q E rm gd e0 bnd rel h
    obtain ⟨_, _, _, _, _, _, _, _, _, _, _, h, _⟩ := h
    exact h.elim
section
variable {X : Cx} {c : Cst} {e : Expr} {w : WE} {pos : Pos}
/-- xs[::-1] -/
@[simp] def fRevL (t : T) (k : T → Prop) : Prop := match t with | .lst _ xs => k (.lst true xs.reverse) | _ => False
theorem ve_revL {k : Nat} {p1 p2 p3 : Pos} (he : VE X c e w) (hK : X.K = c.K := by rfl) : VE X c (.Subscript e (.Slice none none (some (.UnaryOp .USub (.Constant (.int 1) k p1) p2)) p3) pos) (w1 fRevL w) := by
  obtain ⟨te, pe, ke⟩ := he
  refine ⟨_, pe_revL pe, fun F H σ ρ tt tv Q P I h k => ke F H σ ρ tt tv _ _ I h fun v H1 F1 t ρ1 I1 q => ?_⟩
  unfold fRevL at q
  split at q
  · rename_i o xs
    obtain ⟨a, vs, rfl, hs, hlen, J⟩ := I1.opLst
    refine ⟨a, vs, rfl, hK ▸ hs, fun p hp => ?_⟩
    have J2 : Sim c F1 H1 σ ρ1 (xs.reverse ++ tt) (vs.reverse ++ tv) := by
      have tl := J.tl
      refine J.re (by simpa using tl) (fun G l => ?_) J.iop
      rw [List.map_append, List.map_append, List.append_assoc, List.append_assoc] at l
      obtain ⟨G1, G2, rfl, q1, q2⟩ := Live.to_trL hlen l
      obtain ⟨G', r', pm⟩ := q1.rev
      refine ⟨G' ++ G2, ?_, G1 ++ G2, (pm.append_right _), List.Sublist.refl _⟩
      rw [List.map_append, List.map_append, List.append_assoc, List.append_assoc]
      exact Live.of_trL r' q2
    exact k _ _ _ _ _ (J2.newLst (by simp [hlen]) hp) q
  · exact q.elim
/-- a, b, d = x, y, z -/
@[simp] def wPar3 (i j l : Nat) (was : WA) (E : En) (ρ : Rho) : Prop := was ρ fun ts ρ1 => match ts with | [t, u, v] => E.nx (((ρ1.set i (some t)).set j (some u)).set l (some v)) | _ => False
theorem vs_par3 (i j l : Nat) {x y z : Str} {a b d : Expr} {was : WA} {px py pz pt : Pos} {kt k2 pt2} (hN : X.N.Nodup) (hc : X.calm = true) (ha : VA X c [a, b, d] was) (hi : c.io = none ∨ i ≠ 0 := by first | exact .inl rfl | exact .inr (by decide)) (hj : c.io = none ∨ j ≠ 0 := by first | exact .inl rfl | exact .inr (by decide)) (hl : c.io = none ∨ l ≠ 0 := by first | exact .inl rfl | exact .inr (by decide))
    (hx : X.N[i]? = some x := by rfl) (hy : X.N[j]? = some y := by rfl) (hz : X.N[l]? = some z := by rfl) (hij : i ≠ j := by decide) (hil : i ≠ l := by decide) (hjl : j ≠ l := by decide) (hlx : X.env.scope.names.lookup x = some .local := by rfl) (hly : X.env.scope.names.lookup y = some .local := by rfl) (hlz : X.env.scope.names.lookup z = some .local := by rfl)
    (hw : swappedStores [.Tuple [.Name x px, .Name y py, .Name z pz] kt pt] (.Tuple [a, b, d] k2 pt2) X.env = pure (some [x, y, z]) := by rfl)
    (hs : swapsWithSole [.Tuple [.Name x px, .Name y py, .Name z pz] kt pt] (.Tuple [a, b, d] k2 pt2) pos.line X.env = pure false := by rfl) :
    VS X c (.Assign [.Tuple [.Name x px, .Name y py, .Name z pz] kt pt] (.Tuple [a, b, d] k2 pt2) pos) (wPar3 i j l was) := by
  obtain ⟨ta, pa, ka⟩ := ha
  refine ⟨_, ps_par3 hc hN hx hy hz hij hil hjl hlx hly hlz pa hw hs, fun F H σ ρ tt tv D E I m h => ka F H σ ρ tt tv _ _ I h fun vs H1 F1 ts ρ1 I1 hlen q => ?_⟩
  match ts, vs, hlen, I1, q with
  | [t, u, s], [v, z, w], _, I1, q =>
    refine ⟨v, z, w, rfl, m.nx F1 H1 _ _ ?_ q⟩
    have J1 : Sim c F1 H1 _ _ (u :: s :: tt) (z :: w :: tv) := Sim.store (i := i) (t := t) (v := v) I1 hi
    exact (J1.store hj).store hl
end
/-! a - b: ints, bools -/
section
variable {X : Cx} {c : Cst}
def rSubB : R2 := fun x y H Q => ∃ p q : Bool, x = .bl p ∧ y = .bl q ∧ Q (.int (b2i p - b2i q)) H
theorem op_subB : OpR X (binaryOp .Sub) rSubB := by
  rintro pins s σ H _ _ v u Q I rx ry ⟨p, q, rfl, rfl, h⟩
  cases (show v = Value.bool p from rx)
  cases (show u = Value.bool q from ry)
  exact sub_bool ⟨.int _, H, I.tok _, ⟨_, rfl⟩, h⟩
theorem op_subA : OpR X (binaryOp .Sub) (fun x y H Q => rI0 (fun i j => .int (i - j)) x y H Q ∨ rSubB x y H Q) := op_sub.or op_subB
@[simp] def fSubA (a : T) (b : T) (k : T → Prop) : Prop := match a, b with
  | .int i, .int j => k (.int (i - j))
  | .bl p, .bl q => k (.int (b2i p - b2i q))
  | _, _ => False
@[simp] def fSubB (a : T) (b : T) (k : T → Prop) : Prop := match a, b with
  | .bl p, .bl q => k (.int (b2i p - b2i q))
  | _, _ => False
theorem o2_subB : Op2 c rSubB fSubB := by
  intro F H σ ρ tt tv a b x y k P I h q
  unfold fSubB at h
  split at h
  · obtain ⟨⟨_, h1⟩, _, h2⟩ := I.scal2
    cases h1
    cases h2
    exact ⟨_, _, rfl, rfl, q _ _ _ _ (I.drop.drop.pushG (.int _) rfl) h⟩
  · exact h.elim
theorem o2_subA : Op2 c (fun x y H Q => rI0 (fun i j => .int (i - j)) x y H Q ∨ rSubB x y H Q) fSubA := by
  refine Op2.or (f := fSub) (f' := fSubB) o2_sub o2_subB fun a b k h => ?_
  unfold fSubA at h
  split at h
  · exact .inl h
  · exact .inr h
  · exact h.elim
end
/-- a comprehension with a state -/
theorem lc_inv {α : Type} {js : List Nat} {wi : WI} {g : WG} {we : WE} {wt : WT} {ρ : Rho} {Q : T → Rho → Prop} (xs : List α) (emb : α → T) (ρ1 : Rho) (h : ∀ K : List T → Rho → Prop, K (xs.map emb) ρ1 → wi ρ K) (hz : xs.length ≤ sizeLine) (Pv : Nat → List T → Rho → Prop)
    (h0 : Pv 0 [] (wipR ρ1 js)) (step : ∀ i x acc ρ', xs[i]? = some x → Pv i acc ρ' → g (emb x) ρ' fun ρ2 => wt ρ2 fun b ρ3 => if b = true then we ρ3 fun u ρ4 => Pv (i + 1) (acc ++ [u]) (wipR ρ4 js) else Pv (i + 1) acc (wipR ρ3 js))
    (hend : ∀ acc ρ', Pv xs.length acc ρ' → Q (.lst true acc) ρ') : wLc js wi g wt we ρ Q := by
  refine h _ ⟨by rw [List.length_map]; exact hz, Pv, h0, fun i t acc ρ' et p => ?_, fun acc ρ' p => hend acc ρ' (by rwa [List.length_map] at p)⟩
  rw [List.getElem?_map] at et
  cases hx : xs[i]? with
  | none => rw [hx] at et; cases et
  | some x =>
    rw [hx] at et
    have e : emb x = t := Option.some.inj et
    subst e
    exact step i x acc ρ' hx p
/-- a loop over what is known, closed to simp -/
def Loop (g : WG) (wb : WS) (E : En) (items : List T) (ρ1 : Rho) : Prop := ∃ Pv : Nat → Rho → Prop, Pv 0 ρ1 ∧
  (∀ i t ρ', items[i]? = some t → Pv i ρ' → g t ρ' fun ρ2 => wb { nx := Pv (i + 1), rt := E.rt, bk := E.nx, ct := Pv (i + 1) } ρ2) ∧ ∀ ρ', Pv items.length ρ' → E.nx ρ'
theorem for_loop (wi : WI) (g : WG) (wb : WS) (E : En) (ρ : Rho) : wFor wi g wb E ρ = wi ρ (Loop g wb E) := rfl
theorem loop_on {α : Type} {g : WG} {wb : WS} {E : En} {ρ1 : Rho} (xs : List α) (emb : α → T) (Pv : Nat → Rho → Prop) (h0 : Pv 0 ρ1)
    (step : ∀ i x, xs[i]? = some x → ∀ ρ', Pv i ρ' → g (emb x) ρ' fun ρ2 => wb { nx := Pv (i + 1), rt := E.rt, bk := E.nx, ct := Pv (i + 1) } ρ2) (hend : ∀ ρ', Pv xs.length ρ' → E.nx ρ') : Loop g wb E (xs.map emb) ρ1 :=
  for_on (wi := fun ρ Q => Q (xs.map emb) ρ) (ρ := ρ1) xs emb ρ1 Pv (fun _ h => h) h0 step hend
/-- a comprehension over what is known, closed to simp -/
def LoopC (js : List Nat) (g : WG) (wt : WT) (we : WE) (Q : T → Rho → Prop) (items : List T) (ρ1 : Rho) : Prop := items.length ≤ sizeLine ∧ ∃ Pv : Nat → List T → Rho → Prop, Pv 0 [] (wipR ρ1 js) ∧
  (∀ i t acc ρ', items[i]? = some t → Pv i acc ρ' → g t ρ' fun ρ2 => wt ρ2 fun b ρ3 => if b = true then we ρ3 fun u ρ4 => Pv (i + 1) (acc ++ [u]) (wipR ρ4 js) else Pv (i + 1) acc (wipR ρ3 js)) ∧
  ∀ acc ρ', Pv items.length acc ρ' → Q (.lst true acc) ρ'
theorem lc_loop (js : List Nat) (wi : WI) (g : WG) (wt : WT) (we : WE) (ρ : Rho) (Q : T → Rho → Prop) : wLc js wi g wt we ρ Q = wi ρ (LoopC js g wt we Q) := rfl
theorem loopC_on {α : Type} {js : List Nat} {g : WG} {we : WE} {Q : T → Rho → Prop} {ρ1 : Rho} (xs : List α) (emb f : α → T) (hz : xs.length ≤ sizeLine)
    (step : ∀ x ∈ xs, ∀ K : T → Rho → Prop, (∀ ρ4, wipR ρ4 js = wipR ρ1 js → K (f x) ρ4) → g (emb x) (wipR ρ1 js) fun ρ2 => we ρ2 K) (hq : Q (.lst true (xs.map f)) (wipR ρ1 js)) : LoopC js g wYes we Q (xs.map emb) ρ1 :=
  lc_on (wi := fun ρ Q => Q (xs.map emb) ρ) (ρ := ρ1) xs emb f ρ1 (fun _ h => h) hz step hq
theorem loopC_inv {α : Type} {js : List Nat} {g : WG} {we : WE} {wt : WT} {Q : T → Rho → Prop} {ρ1 : Rho} (xs : List α) (emb : α → T) (hz : xs.length ≤ sizeLine) (Pv : Nat → List T → Rho → Prop)
    (h0 : Pv 0 [] (wipR ρ1 js)) (step : ∀ i x acc ρ', xs[i]? = some x → Pv i acc ρ' → g (emb x) ρ' fun ρ2 => wt ρ2 fun b ρ3 => if b = true then we ρ3 fun u ρ4 => Pv (i + 1) (acc ++ [u]) (wipR ρ4 js) else Pv (i + 1) acc (wipR ρ3 js))
    (hend : ∀ acc ρ', Pv xs.length acc ρ' → Q (.lst true acc) ρ') : LoopC js g wt we Q (xs.map emb) ρ1 :=
  lc_inv (wi := fun ρ Q => Q (xs.map emb) ρ) (ρ := ρ1) xs emb ρ1 (fun _ h => h) hz Pv h0 step hend
theorem range_get {n i x : Nat} (h : (List.range n)[i]? = some x) : i < n ∧ x = i := by
  have hi : i < n := by
    have := (List.getElem?_eq_some_iff.mp h).1
    simpa using this
  rw [List.getElem?_range hi] at h
  exact ⟨hi, (Option.some.inj h).symm⟩
/-- a list of ints, whoever owns it -/
def IsL (t : T) (ns : List Int) : Prop := ∃ o, t = .lst o (ns.map .int)
theorem isL_mk (o : Bool) (ns : List Int) : IsL (.lst o (ns.map .int)) ns := ⟨o, rfl⟩
/-! ### lists of ints read and cut -/
@[simp] theorem atI_last {α : Type} (xs : List α) (a : α) : atI (xs ++ [a]) (-1) = some a := by
  rw [atI_neg1 (by simp)]
  simp
@[simp] theorem atI_one {α : Type} (a : α) : atI [a] (-1) = some a := atI_last [] a
@[simp] theorem atI_last2 {α : Type} (xs : List α) (a b : α) : atI (xs ++ [a, b]) (-1) = some b := by
  have := atI_last (xs ++ [a]) b
  simpa using this
@[simp] theorem get_last2 {α : Type} (xs : List α) (a b : α) : (xs ++ [a, b])[xs.length + 1]? = some b := by
  rw [List.getElem?_append_right (by omega)]
  simp
@[simp] theorem dl_last2 {α : Type} (xs : List α) (a b : α) : (xs ++ [a, b]).dropLast = xs ++ [a] := by
  rw [List.dropLast_append_of_ne_nil (by simp)]
  rfl
theorem ffL_app (xs ys : List T) : ffL (xs ++ ys) = (ffL xs && ffL ys) := by rw [ffL_all, ffL_all, ffL_all, List.all_append]
theorem stbL_app (xs ys : List T) : stbL (xs ++ ys) = (stbL xs && stbL ys) := by rw [stbL_all, stbL_all, stbL_all, List.all_append]
theorem frL_app (xs ys : List T) : frL (xs ++ ys) = frL xs ++ frL ys := by rw [frL_map, frL_map, frL_map, List.map_append]
theorem plnL_all (d : Nat) : ∀ xs : List T, plnL d xs = xs.all (pln d)
  | [] => by simp [plnL]
  | x :: xs => by simp [plnL, plnL_all d xs]
theorem plnL_app (d : Nat) (xs ys : List T) : plnL d (xs ++ ys) = (plnL d xs && plnL d ys) := by rw [plnL_all, plnL_all, plnL_all, List.all_append]
theorem teqL_app_nil (xs ys : List T) (y : T) : teqL (xs ++ y :: ys) [] = false := by cases xs <;> simp
@[simp] theorem frL_rev (xs : List T) : frL xs.reverse = (frL xs).reverse := by rw [frL_map, frL_map, List.map_reverse]
@[simp] theorem stbL_rev (xs : List T) : stbL xs.reverse = stbL xs := by rw [stbL_all, stbL_all, List.all_reverse]
@[simp] theorem plnL_rev (d : Nat) (xs : List T) : plnL d xs.reverse = plnL d xs := by rw [plnL_all, plnL_all, List.all_reverse]
@[simp] theorem cutT_dl {α : Type} (xs : List α) (a : α) : cutT (xs ++ [a]) none (some (-1)) = xs := by
  unfold cutT
  have h : HT.sIx (xs ++ [a]).length (xs ++ [a]).length (some (-1)) = xs.length := by
    unfold HT.sIx
    simp
    omega
  rw [h, HT.sIx_none]
  simp
theorem cutT_pre {α : Type} (xs : List α) (j : Nat) : cutT xs none (some (j : Int)) = xs.take j := by
  unfold cutT
  rw [HT.sIx_nat, HT.sIx_none, List.drop_zero, Nat.sub_zero]
  by_cases h : j ≤ xs.length
  · rw [Nat.min_eq_left h]
  · have e : min j xs.length = xs.length := Nat.min_eq_right (by omega)
    rw [e, List.take_length, List.take_of_length_le (by omega)]
theorem cutT_suf {α : Type} (xs : List α) (j : Nat) : cutT xs (some (j : Int)) none = xs.drop j := by
  unfold cutT
  rw [HT.sIx_nat, HT.sIx_none]
  by_cases h : j ≤ xs.length
  · rw [Nat.min_eq_left h, List.take_of_length_le (by rw [List.length_drop]; exact Nat.le_refl _)]
  · have e1 : xs.drop j = [] := List.drop_of_length_le (by omega)
    rw [Nat.min_eq_right (by omega), e1, Nat.sub_self, List.take_zero]
theorem cutT_mid {α : Type} (xs : List α) (i j : Nat) : cutT xs (some (i : Int)) (some (j : Int)) = (xs.drop i).take (j - i) := by
  unfold cutT
  rw [HT.sIx_nat, HT.sIx_nat]
  by_cases h : i ≤ xs.length
  · rw [Nat.min_eq_left h]
    by_cases h2 : j ≤ xs.length
    · rw [Nat.min_eq_left h2]
    · rw [Nat.min_eq_right (by omega), List.take_of_length_le (by simp), List.take_of_length_le (by simp; omega)]
  · have e1 : xs.drop i = [] := List.drop_of_length_le (by omega)
    have e2 : xs.drop (min i xs.length) = [] := List.drop_of_length_le (by omega)
    rw [e1, e2, List.take_nil, List.take_nil]
theorem cutT_suf1 {α : Type} (xs : List α) (j : Nat) : cutT xs (some ((j : Int) + 1)) none = xs.drop (j + 1) := cutT_suf xs (j + 1)
theorem cutT_mid1 {α : Type} (xs : List α) (j : Nat) : cutT xs (some (j : Int)) (some ((j : Int) + 1)) = (xs.drop j).take 1 := by
  have := cutT_mid xs j (j + 1)
  rw [Nat.add_sub_cancel_left] at this
  exact this
theorem atI_add1 {α : Type} (xs : List α) (j : Nat) : atI xs ((j : Int) + 1) = xs[j + 1]? := atI_at (xs := xs) (j := j + 1)
theorem cutT_suf2 {α : Type} (xs : List α) (j : Nat) : cutT xs (some ((j : Int) + 2)) none = xs.drop (j + 2) := cutT_suf xs (j + 2)
theorem cutT_mid2 {α : Type} (xs : List α) (j : Nat) : cutT xs (some (j : Int)) (some ((j : Int) + 2)) = (xs.drop j).take 2 := by
  have := cutT_mid xs j (j + 2)
  rw [Nat.add_sub_cancel_left] at this
  exact this
theorem atI_add2 {α : Type} (xs : List α) (j : Nat) : atI xs ((j : Int) + 2) = xs[j + 2]? := atI_at (xs := xs) (j := j + 2)
theorem cutT_suf3 {α : Type} (xs : List α) (j : Nat) : cutT xs (some ((j : Int) + 3)) none = xs.drop (j + 3) := cutT_suf xs (j + 3)
theorem cutT_mid3 {α : Type} (xs : List α) (j : Nat) : cutT xs (some (j : Int)) (some ((j : Int) + 3)) = (xs.drop j).take 3 := by
  have := cutT_mid xs j (j + 3)
  rw [Nat.add_sub_cancel_left] at this
  exact this
theorem atI_add3 {α : Type} (xs : List α) (j : Nat) : atI xs ((j : Int) + 3) = xs[j + 3]? := atI_at (xs := xs) (j := j + 3)
theorem cutT_len {α : Type} (xs : List α) (lo hi : Option Int) : (cutT xs lo hi).length ≤ xs.length := by
  unfold cutT
  rw [List.length_take]
  rw [List.length_drop]
  omega
theorem cutT_two {α : Type} (xs : List α) {d : Int} (h0 : 0 ≤ d) : cutT xs none (some d) ++ cutT xs (some d) none = xs := by
  obtain ⟨k, rfl⟩ : ∃ k : Nat, d = (k : Int) := ⟨d.toNat, by omega⟩
  rw [cutT_pre, cutT_suf, List.take_append_drop]
theorem cutT_three {α : Type} (xs : List α) {d e : Int} (h0 : 0 ≤ d) (h1 : d ≤ e) : cutT xs none (some d) ++ cutT xs (some d) (some e) ++ cutT xs (some e) none = xs := by
  obtain ⟨k, rfl⟩ : ∃ k : Nat, d = (k : Int) := ⟨d.toNat, by omega⟩
  obtain ⟨l, rfl⟩ : ∃ l : Nat, e = (l : Int) := ⟨e.toNat, by omega⟩
  rw [cutT_pre, cutT_suf, cutT_mid]
  have e1 : xs.take k ++ (xs.drop k).take (l - k) = xs.take l := by
    have h := List.take_append_drop k (xs.take l)
    rw [List.take_take, Nat.min_eq_left (by omega), List.drop_take] at h
    exact h
  rw [e1, List.take_append_drop]
theorem cutT_mem {α : Type} {xs : List α} {lo hi : Option Int} {x : α} (h : x ∈ cutT xs lo hi) : x ∈ xs := by
  unfold cutT at h
  exact List.mem_of_mem_drop (List.mem_of_mem_take h)
theorem dl_ints (ns : List Int) : (ns.map T.int).dropLast = (ns.dropLast).map T.int := List.map_dropLast.symm
theorem take_sn {α : Type} {xs : List α} {i : Nat} {x : α} (h : xs[i]? = some x) : xs.take (i + 1) = xs.take i ++ [x] := by
  rw [List.take_succ, h]
  rfl
theorem drop_get {α : Type} {xs : List α} {i : Nat} {x : α} (h : xs[i]? = some x) : xs.drop i = x :: xs.drop (i + 1) := by
  have hi := (List.getElem?_eq_some_iff.mp h).1
  rw [List.drop_eq_getElem_cons hi]
  congr 1
  rw [List.getElem?_eq_getElem hi] at h
  exact Option.some.inj h
theorem log2_lt {n : Int} {k : Nat} (h0 : 0 ≤ n) (h : n < 2 ^ k) (hk : 0 < k) : n.natAbs.log2 < k := by
  by_cases z : n.natAbs = 0
  · rw [z]
    show 0 < k
    exact hk
  · rw [Nat.log2_lt z]
    have e : ((n.natAbs : Nat) : Int) = n := by omega
    have : ((n.natAbs : Nat) : Int) < ((2 ^ k : Nat) : Int) := by
      rw [e]
      simpa using h
    exact Int.ofNat_lt.mp this
theorem pow_ok {i j : Int} (hj : 0 ≤ j) (hj2 : j ≤ 1000) (h0 : 0 ≤ i) (h : i < 2 ^ 4000) : CPowW i j := by
  have h2 := log2_lt h0 h (by decide)
  refine ⟨hj, ?_⟩
  have a : (i.natAbs.log2 + 1 : Int) ≤ 4000 := by omega
  have b : (i.natAbs.log2 + 1 : Int) * j ≤ 4000 * j := Int.mul_le_mul_of_nonneg_right a hj
  omega
theorem log2_abs {n : Int} {k : Nat} (h0 : -(2 ^ k) < n) (h : n < 2 ^ k) (hk : 0 < k) : n.natAbs.log2 < k := by
  have := log2_lt (n := n.natAbs) (k := k) (by omega) (by omega) hk
  simpa using this
theorem mul_ok {i j : Int} (h0 : -(2 ^ 4000) < i) (h : i < 2 ^ 4000) (k0 : -(2 ^ 4000) < j) (k : j < 2 ^ 4000) : CMulW i j := by
  have h2 := log2_abs h0 h (by decide)
  have h3 := log2_abs k0 k (by decide)
  unfold CMulW
  omega
theorem div_ok {i j : Int} (h0 : 0 < j) (h : j < 2 ^ 4000) : CDivW i j := by
  have h2 := log2_lt (by omega) h (by decide)
  exact ⟨h0, by omega⟩
theorem two4000 : (2 : Int) ^ 2000 < 2 ^ 4000 := by decide +kernel
theorem lt4k {x : Int} (h : x ≤ 2 ^ 2000) : x < 2 ^ 4000 := Int.lt_of_le_of_lt h two4000
theorem gt4k {x : Int} (h : -(2 ^ 2000) ≤ x) : -(2 ^ 4000) < x := by
  have := two4000
  omega
theorem abs_ite (i : Int) : (if i < 0 then -i else i) = i.natAbs := by split <;> omega
end L3

namespace L3
open PySem L2 PySem.Spec PyProof.Rows
section
variable {X : Cx} {c : Cst} {x : Str} {p pos : Pos} {b e : Expr} {wi w : WE}
/-! ### xs[i] op= e -/
def rGetL : V → V → Hp → VK → Prop := fun o i H Q => ∃ p xs k v, o = .ref p ∧ i = .int k ∧ H p = some (.lst xs) ∧ atI xs k = some v ∧ Q v H
theorem get_list : PGet X rGetL := by
  rintro pins s σ H _ _ v u Q I rx ry ⟨a, vs, n, w, rfl, rfl, obj, item, next⟩
  cases rx
  obtain ⟨tok, rfl⟩ := ry
  obtain ⟨us, rel, plain, most⟩ := I.list (SqL.of (K := X.K) obj)
  obtain ⟨j, at_, there, _, low, high⟩ := atI_get item
  obtain ⟨z, ez, rz⟩ := rel.get there
  have same := rel.length
  have cap := line63
  have done : EP X pins σ Q z s := ⟨w, H, I, rz, next⟩
  rcases Int.lt_or_le n 0 with neg | pos
  · rw [seqIndex_neg neg low] at at_
    have place : us.toArray[(n + us.toArray.size).toNat]? = some z := by
      rw [List.size_toArray, ← same, Option.some.inj at_]
      simpa using ez
    exact wpAny_getItem_list_neg plain.isList neg (by rw [List.size_toArray] <;> omega) (by omega) place done
  · rw [seqIndex_of pos high] at at_
    have place : us.toArray[n.toNat]? = some z := by
      rw [Option.some.inj at_]
      simpa using ez
    exact wpAny_getItem_list plain.isList pos (by omega) place done
@[simp] def wAugI (i : Nat) (wi : WE) (fo : F2) (w : WE) (E : En) (ρ : Rho) : Prop := isLs ρ[i]? = true ∧ wi ρ fun k ρ1 => match k with
  | .int j => (match ρ1[i]? with
    | some (some (.lst true xs)) => (match ixN xs.length j with
      | some n => (match xs[n]? with
        | some t => stb t = true ∧ w ρ1 fun u ρ2 => fo t u fun r => (match ρ2[i]? with
          | some (some (.lst true ys)) => ixN ys.length j = some n ∧ E.nx (ρ2.set i (some (.lst true (ys.set n r))))
          | _ => False)
        | none => False)
      | none => False)
    | _ => False)
  | _ => False
theorem vs_augI (i : Nat) {op : Operator} {ti : TIp} {fo : F2} {tpos : Pos} (ho : PIp X op ti) (hr : Op2 c ti fo) (hb : VE X c b wi) (he : VE X c e w) (hN : X.N[i]? = some x := by rfl) (hv : Vis X.env.scope x := by first | exact Or.inl rfl | exact Or.inr (Or.inl rfl) | exact Or.inr (Or.inr rfl)) (hd : (x == ("__debug__" : Str)) = false := by decide)
    (hcd : (x == ("__classdict__" : Str)) = false := by decide)
    (ha : ∀ ov iv new, augStore b ov iv new = (do holding [new, ov, iv] (setItem ov iv new); release [new, ov, iv] []; pure .next) := by intros; rfl) :
    VS X c (.AugAssign (.Subscript (.Name x p) b tpos) op e pos) (wAugI i wi fo w) := by
  obtain ⟨tb, pb, kb⟩ := hb
  obtain ⟨te, pe, ke⟩ := he
  refine ⟨_, ps_augS (pe_var (i := i) hN hv hd hcd) pb get_list pe ho set_list ha, fun F H σ ρ tt tv D E I mm h => ?_⟩
  obtain ⟨h0, h⟩ := h
  obtain ⟨xs0, e0⟩ := isLs_eq h0
  obtain ⟨l, ws0, _, s0, hH0, _⟩ := I.lstAt e0
  refine ⟨.ref l, s0, kb F H σ ρ _ _ _ _ I h fun u H1 F1 t1 ρ1 I1 q => ?_⟩
  split at q
  · rename_i j
    have eu := I1.intTop
    subst eu
    obtain ⟨xs, e1, q⟩ := lst_of (P := fun xs => match ixN xs.length j with
      | some n => (match xs[n]? with
        | some t => stb t = true ∧ w ρ1 fun u ρ2 => fo t u fun r => (match ρ2[i]? with
          | some (some (.lst true ys)) => ixN ys.length j = some n ∧ E.nx (ρ2.set i (some (.lst true (ys.set n r))))
          | _ => False)
        | none => False)
      | none => False) q
    split at q
    · rename_i n hn
      split at q
      · rename_i t ht
        obtain ⟨hst, q⟩ := q
        have I2 : Sim c F1 H1 σ ρ1 tt tv := I1.drop
        obtain ⟨l', ws, G1, s1, hH, hF, r1, hlen⟩ := I2.lstAt e1
        rw [s0] at s1
        cases s1
        obtain ⟨y, Gy, hy, ty, _⟩ := r1.get ht
        have eg := ty.stb_nil hst
        subst eg
        have eat : atI ws j = some y := by
          unfold atI
          rw [hlen, hn]
          exact hy
        refine ⟨l, ws, j, y, rfl, rfl, hH, eat, ke F1 H1 σ ρ1 _ _ _ _ (I2.pushG ty rfl) q fun z H2 F2 t2 ρ2 I3 q2 => ?_⟩
        refine hr F2 H2 σ ρ2 tt tv _ _ _ _ _ _ I3 q2 fun y2 H3 F3 r2 I4 q3 => ?_
        obtain ⟨ys, e2, hix, q4⟩ := lst_of (P := fun ys => ixN ys.length j = some n ∧ E.nx (ρ2.set i (some (.lst true (ys.set n r2))))) q3
        have I5 : Sim c F3 H3 σ ρ2 ([r2] ++ tt) ([y2] ++ tv) := I4
        obtain ⟨l', ws', Gx, Gt, s1, hH', r1', r2', mk⟩ := I5.mutL rfl e2
        rw [s0] at s1
        cases s1
        have ht' : Tr c.K F3 H3 r2 y2 Gt := by
          cases r2' with
          | cons a b =>
            cases b
            rw [List.append_nil]
            exact a
        obtain ⟨G', P', r', sub, pm⟩ := TrL.setAt ht' n r1' (ixN_lt hix)
        exact ⟨l, ws', j, n, rfl, rfl, hH', by rw [← r1'.length]; exact hix, mm.nx _ _ _ _ (mk _ _ _ _ r' sub pm) q4⟩
      · exact q.elim
    · exact q.elim
  · exact q.elim
end
end L3

namespace L3
open PySem L2 PySem.Spec PyProof.Rows
/-! ### sorted(rows), rows a list of lists of ints -/
/-- which value stands for which row -/
def RowV (u : Value) (p : V × List Int) : Prop := RelV p.1 u
theorem each_rows {h : Heap} : ∀ {us : List Value} {ps : List (V × List Int)}, Vals (ps.map (·.1)) us → (∀ p ∈ ps, ∀ u, RelV p.1 u → ∃ as, Reads h u (.list (p.2.map .int)) as) → PySem.W.EachIs RowV us ps ∧ PySem.W.EachIs (fun u p => ∃ as, Reads h u (.list (p.2.map .int)) as) us ps
  | us, [], r, _ => by
    cases r
    exact ⟨.nil, .nil⟩
  | us, p :: ps, r, g => by
    cases r with
    | cons r1 r2 =>
      obtain ⟨a, b⟩ := each_rows r2 fun q m => g q (List.mem_cons_of_mem _ m)
      exact ⟨.cons r1 a, .cons (g p List.mem_cons_self _ r1) b⟩
theorem rows_back : ∀ {us : List Value} {ps : List (V × List Int)}, PySem.W.EachIs RowV us ps → Vals (ps.map (·.1)) us
  | _, _, .nil => .nil
  | _, _, .cons r t => .cons r (rows_back t)
theorem reads_ints {h : Heap} : ∀ {us : List Value} {ns : List Int}, IntsAre us ns → ReadsAll h us (ns.map .int) []
  | _, _, .nil => .nil
  | _, _, .cons n t r => .cons (as := []) (.int n t) (reads_ints r)
def rSortRows (K : PySem.W.Frag) : List V → Hp → VK → Prop := fun vs H Q => ∃ (a : Addr) (ps : List (V × List Int)), vs = [.ref a] ∧ SqL K H a (ps.map (·.1)) ∧ (∀ p ∈ ps, ∃ b, p.1 = .ref b ∧ SqL K H b (p.2.map V.int)) ∧
  ∀ d, H d = none → Q (.ref d) (upd H d (.lst ((ps.mergeSort fun p q => decide (p.2 ≤ q.2)).map (·.1))))
section
variable {X : Cx} {c : Cst}
theorem cr_sortRows (hu : X.A.units + 64 < cLine) : CallR X (.builtin "sorted") (rSortRows X.K) := by
  intro pins s σ0 H vs us Q I rel ask
  obtain ⟨a, ps, rfl, known, each, next⟩ := ask
  obtain ⟨items, vals, plain, room⟩ := I.list known
  obtain ⟨arg, rfl, argIs⟩ := vals1 rel
  cases argIs
  rw [List.length_map] at room
  obtain ⟨e1, e2⟩ := each_rows (h := s.heap) vals fun p m u is => by
    obtain ⟨b, e, hb⟩ := each p m
    rw [e] at is
    cases is
    obtain ⟨_, vals2, ⟨_, _, k1, k2, k3, k4⟩, _⟩ := I.list hb
    exact ⟨_, .list k1 k2 k4 (by simpa using reads_ints vals2.ints)⟩
  refine PySem.W.sorted_data (R := RowV) (enc := fun p : V × List Int => .list (p.2.map .int)) plain.isList e1 e2 (PySem.W.AllAlike.of fun p q => PySem.W.alike_ints _ _) (PySem.W.Sortable.others fun p => ⟨by simp, by simp⟩) room (fun p _ => ?_) fun out hl2 ho => ?_
  · show X.A.units + 2 + (PyData.depthAll (p.2.map .int) + 1) < cLine
    rw [PySem.W.depth_ints]
    omega
  · rw [PySem.W.dataLe_rows] at ho
    have fresh : H (s.heap.objs.size + 1) = none := I.hok.fresh (Nat.le_succ _)
    obtain ⟨n, hn⟩ := sortedAll_at s.heap items out.toArray
    refine ⟨.ref (s.heap.objs.size + 1), upd H (s.heap.objs.size + 1) (.lst ((ps.mergeSort fun p q => decide (p.2 ≤ q.2)).map (·.1))), I.laid (t' := s.toks) (fun b o e => sortedAll_old e) (Nat.le_succ _) ⟨?_, out, n, rows_back ho, hn⟩, rfl, next _ fresh⟩
    rw [List.length_map, List.length_mergeSort]
    exact room
/-- in rising order -/
abbrev srt (ps : List (List Int)) : List (List Int) := ps.mergeSort fun p q => decide (p ≤ q)
/-- a list of ints as an item -/
def isRow : T → Option (List Int)
  | .lst _ xs => isInts xs
  | _ => none
def isRows : List T → Option (List (List Int))
  | [] => some []
  | t :: ts => match isRow t, isRows ts with | some r, some rs => some (r :: rs) | _, _ => none
/-- an item that is a list of ints, with its owner's mark -/
abbrev rowT (p : Bool × List Int) : T := .lst p.1 (p.2.map .int)
theorem isRows_map : ∀ rs : List (List Int), isRows (rs.map fun r => .lst o (r.map .int)) = some rs
  | [] => rfl
  | r :: rs => by
    rw [List.map_cons, isRows, isRow, isInts_map, isRows_map rs]
theorem isRows_fr : ∀ {ts : List T} {rs : List (List Int)}, isRows ts = some rs → frL ts = rs.map fun r => T.lst false (r.map .int)
  | [], _, h => by
    cases h
    rfl
  | t :: ts, rs, h => by
    simp only [isRows] at h
    split at h
    · rename_i r rs2 h1 h2
      cases h
      cases t with
      | lst o xs =>
        have e := isInts_eq (show isInts xs = some r from h1)
        subst e
        rw [frL, isRows_fr h2, fr, frL_ints]
        rfl
      | _ => cases h1
    · cases h
theorem trl_rows {K : PySem.W.Frag} {F H : Hp} : ∀ {rs : List (List Int)} {vs : List V}, TrL K F H (rs.map fun r => T.lst false (r.map .int)) vs [] → ∃ ps : List (V × List Int), ps.map (·.1) = vs ∧ ps.map (·.2) = rs ∧ ∀ p ∈ ps, Tr K F H (.lst false (p.2.map .int)) p.1 []
  | [], _, h => by
    cases h
    exact ⟨[], rfl, rfl, by simp⟩
  | r :: rs, vs, h => by
    generalize hG : ([] : List Addr) = G at h
    cases h with
    | @cons x v xs vs G1 G2 h1 h2 =>
      obtain ⟨rfl, rfl⟩ := List.append_eq_nil_iff.mp hG.symm
      obtain ⟨ps, e1, e2, e3⟩ := trl_rows h2
      refine ⟨(v, r) :: ps, by rw [List.map_cons, e1], by rw [List.map_cons, e2], fun p m => ?_⟩
      rcases List.mem_cons.mp m with rfl | m
      · exact h1
      · exact e3 p m
theorem trl_of_rows {K : PySem.W.Frag} {F H : Hp} : ∀ {ps : List (V × List Int)}, (∀ p ∈ ps, Tr K F H (.lst false (p.2.map .int)) p.1 []) → TrL K F H ((ps.map (·.2)).map fun r => T.lst false (r.map .int)) (ps.map (·.1)) []
  | [], _ => .nil
  | p :: ps, h => .cons (G1 := []) (h p List.mem_cons_self) (trl_of_rows fun q m => h q (List.mem_cons_of_mem _ m))
theorem srt_map (ps : List (V × List Int)) : (ps.mergeSort fun p q => decide (p.2 ≤ q.2)).map (·.2) = srt (ps.map (·.2)) :=
  List.map_mergeSort fun _ _ _ _ => rfl
@[simp] def fSortRows (ts : List T) (k : T → Prop) : Prop := match ts with
  | [.lst _ xs] => match isRows xs with | some rs => k (.lst true ((srt rs).map fun r => .lst false (r.map .int))) | none => False
  | _ => False
theorem oA_sortRows : OpA c (rSortRows c.K) fSortRows := by
  intro F H σ ρ tt tv ts vs k P I hl h q
  unfold fSortRows at h
  split at h
  · split at h
    · rename_i rs hn
      obtain ⟨v, rfl⟩ := one_top hl
      obtain ⟨F1, ex, J⟩ := Sim.frz I
      rw [fr] at J
      obtain ⟨a, us, rfl, hs, ht⟩ := J.lstF
      rw [isRows_fr hn] at ht
      obtain ⟨ps, e1, e2, e3⟩ := trl_rows ht
      subst e1 e2
      refine ⟨a, ps, rfl, ex_l J.ex hs, fun p m => ?_, fun d hd => ?_⟩
      · have t := e3 p m
        generalize hx : p.1 = x at t
        cases t with
        | lstF hs2 hr2 =>
          obtain ⟨e, _⟩ := TrL.map_int hr2
          subst e
          exact ⟨_, rfl, ex_l J.ex hs2⟩
      · rw [← srt_map] at h
        exact q _ _ _ _ ((J.drop.pushL (trl_of_rows fun p m => e3 p (List.mem_mergeSort.mp m))).newLst (by simp) hd) h
    · exact h.elim
  · exact h.elim
end
end L3

namespace L3
open PySem L2 PySem.Spec PyProof.Rows
/-! ### dicts whose keys are ints and texts -/
/-- a tree as a key -/
def keyT : T → Option Key
  | .int i => some (.inl i)
  | .str x => some (.inr x)
  | _ => none
@[simp] theorem keyT_int (i : Int) : keyT (.int i) = some (.inl i) := rfl
@[simp] theorem keyT_str (x : Str) : keyT (.str x) = some (.inr x) := rfl
theorem key_tr {K : PySem.W.Frag} {F H : Hp} {t : T} {v : V} {G : List Addr} {k : Key} (h : Tr K F H t v G) (e : keyT t = some k) : v = kV k ∧ G = [] := by
  cases h with
  | int i => cases e; exact ⟨rfl, rfl⟩
  | str x => cases e; exact ⟨rfl, rfl⟩
  | _ => cases e
def hasK (ks : List Key) (k : Key) : Bool := ks.any fun j => decide (j = k)
theorem valV_mem {kvs : List (Key × V)} {k : Key} : (valV kvs k).isSome = hasK (kvs.map (·.1)) k := by
  rw [← valV_any, hasK, List.any_map]
  rfl
section
variable {X : Cx} {c : Cst} {a b e : Expr} {wa wb w : WE} {pos p : Pos}
/-- k in d, k not in d -/
def rInD (neg : Bool) : R2 := fun x y H Q => ∃ (d : Addr) (kvs : List (Key × V)) (k : Key), y = .ref d ∧ x = kV k ∧ Rd H d (.dK kvs) ∧ Q (.bl (hasK (kvs.map (·.1)) k != neg)) H
theorem op_inD (hu : X.A.units + 64 < cLine) : OpR X (compareOp .In) (rInD false) := by
  intro pins s0 σ H x y v u Q I is1 is2 ask
  obtain ⟨d, kvs, k, rfl, rfl, known, next⟩ := ask
  cases is2
  refine d_in (by omega) I (.inl ⟨kvs, k, known, rfl, rfl⟩) is1 fun s1 I1 => ⟨.bl (valV kvs k).isSome, H, I1, rfl, ?_⟩
  rw [valV_mem]
  simpa using next
theorem op_notInD (hu : X.A.units + 64 < cLine) : OpR X (compareOp .NotIn) (rInD true) := by
  intro pins s0 σ H x y v u Q I is1 is2 ask
  obtain ⟨d, kvs, k, rfl, rfl, known, next⟩ := ask
  cases is2
  refine d_notIn (by omega) I (.inl ⟨kvs, k, known, rfl, rfl⟩) is1 fun s1 I1 => ⟨.bl (!(valV kvs k).isSome), H, I1, rfl, ?_⟩
  rw [valV_mem]
  simpa using next
@[simp] def fInD (neg : Bool) (a b : T) (k : T → Prop) : Prop := match b with
  | .dic _ ks _ => (match keyT a with | some j => k (.bl (hasK ks j != neg)) | none => False)
  | _ => False
/-- a dict on top -/
theorem Sim.topDic {F H : Hp} {σ : L2.St} {ρ : Rho} {tt xs : List T} {tv : List V} {o : Bool} {ks : List Key} {v : V} (I : Sim c F H σ ρ (.dic o ks xs :: tt) (v :: tv)) : ∃ a kvs, v = .ref a ∧ kvs.map (·.1) = ks ∧ H a = some (.dK kvs) := by
  obtain ⟨_, _, top, _⟩ := I.top
  generalize hks : ks = ks2 at top
  cases top with
  | dicF known _ => exact ⟨_, _, rfl, rfl, I.ex _ _ known⟩
  | dicT known _ => exact ⟨_, _, rfl, rfl, known⟩
theorem o2_inD (neg : Bool) : Op2 c (rInD neg) (fInD neg) := by
  intro F H σ ρ tt tv a b x y k P I ask next
  unfold fInD at ask
  split at ask
  · split at ask
    · rename_i ks xs j hj
      obtain ⟨d, kvs, rfl, rfl, known⟩ := I.topDic
      obtain ⟨_, _, below, _⟩ := I.drop.top
      obtain ⟨rfl, _⟩ := key_tr below hj
      exact ⟨d, kvs, j, rfl, rfl, .inl known, next _ _ _ _ (I.drop.drop.pushG (.bl _) rfl) ask⟩
    · exact ask.elim
  · exact ask.elim
/-- len(d) -/
@[simp] def fLenD (ts : List T) (k : T → Prop) : Prop := match ts with
  | [.dic _ ks _] => k (.int ks.length)
  | _ => False
theorem oA_lenD : OpA c (fun xs H Q => ∃ a kvs, xs = [V.ref a] ∧ H a = some (.dK kvs) ∧ Q (.int kvs.length) H) fLenD := by
  intro F H σ ρ tt tv ts vs k P I hl ask next
  unfold fLenD at ask
  split at ask
  · obtain ⟨v, rfl⟩ := one_top hl
    obtain ⟨d, kvs, rfl, rfl, known⟩ := Sim.topDic I
    rw [List.length_map] at ask
    exact ⟨d, kvs, rfl, known, next _ _ _ _ ((Sim.drop I).pushG (.int _) rfl) ask⟩
  · exact ask.elim
/-- {} -/
@[simp] def wDic0 (ρ : Rho) (Q : T → Rho → Prop) : Prop := Q (.dic true [] []) ρ
theorem Sim.newDic {F H : Hp} {σ : L2.St} {ρ : Rho} {tt : List T} {tv : List V} {d : Addr} (I : Sim c F H σ ρ tt tv) (fresh : H d = none) : Sim c F (upd H d (.dK [])) σ ρ (.dic true [] [] :: tt) (.ref d :: tv) := by
  obtain ⟨G, l, nd, hg⟩ := I.live
  have J := I.grow (Ex.new (o := .dK []) fresh)
  have out : d ∉ G := fun z => by
    rcases l.there d z with ⟨_, q⟩ | ⟨_, q⟩ | ⟨_, _, _, q⟩ <;> (rw [fresh] at q; cases q)
  refine ⟨J.ex, J.fx, J.fn, J.keep, J.dom, by simp [I.tl], ⟨d :: G, ?_, List.nodup_cons.mpr ⟨out, nd⟩, fun g hm => ?_⟩, I.iop⟩
  · exact Live.cons (G1 := [d]) (Tr.dicT (kvs := []) upd_same .nil) (l.mono (Ex.refl F) fun g hm => upd_ne fun z => out (z ▸ hm))
  · rcases List.mem_cons.mp hm with rfl | hm
    · exact ⟨I.freshF fresh, .inl (I.fresh0 fresh)⟩
    · exact hg g hm
theorem ve_dic0 : VE X c (.Dict [] [] pos) wDic0 :=
  ⟨_, pe_dnewK, fun F H σ ρ tt tv Q P I ask next => fun d fresh => next _ _ _ _ _ (I.newDic fresh) ask⟩
/-- a dict that a name owns is changed -/
theorem Sim.mutD {F H : Hp} {σ : L2.St} {ρ : Rho} {tt ts : List T} {tv vs : List V} {i : Nat} {ks : List Key} {xs : List T} (I : Sim c F H σ ρ (ts ++ tt) (vs ++ tv)) (hlen : ts.length = vs.length) (h : ρ[i]? = some (some (.dic true ks xs))) :
    ∃ p kvs Gx Gt, σ[i]? = some (some (.ref p)) ∧ H p = some (.dK kvs) ∧ kvs.map (·.1) = ks ∧ TrL c.K F H xs (kvs.map (·.2)) Gx ∧ TrL c.K F H ts vs Gt ∧
      ∀ xs' kvs' G' P, TrL c.K F H xs' (kvs'.map (·.2)) G' → P.Sublist (Gx ++ Gt) → G'.Perm P → Sim c F (upd H p (.dK kvs')) σ (ρ.set i (some (.dic true (kvs'.map (·.1)) xs'))) tt tv := by
  have tl := I.tl
  simp only [List.length_append] at tl
  obtain ⟨G, l, nd, hg⟩ := I.live
  rw [List.map_append, List.map_append, List.append_assoc, List.append_assoc] at l
  obtain ⟨Gt, G2, rfl, q1, q2⟩ := Live.to_trL hlen l
  have h' : (tt.map some ++ ρ)[(tt.map some).length + i]? = some (some (.dic true ks xs)) := by rw [ap_get]; exact h
  obtain ⟨v, G1, G3, e1, q, l2, pm⟩ := q2.take h'
  have hl : (tt.map some).length = (tv.map some).length := by simp; omega
  rw [hl, ap_get] at e1
  rw [ap_set] at l2
  have hlt : i < ρ.length := (List.getElem?_eq_some_iff.mp h).1
  generalize hks : ks = ks2 at q
  cases q with
  | @dicT p _ kvs Gx hH hr =>
    refine ⟨p, kvs, Gx, Gt, e1, hH, rfl, hr, q1, fun xs' kvs' G' P r' sub pm' => ?_⟩
    have ndA : (Gt ++ (p :: Gx ++ G3)).Nodup := (List.Perm.append_left _ pm).nodup_iff.mp nd
    have hgA : ∀ g ∈ Gt ++ (p :: Gx ++ G3), F g = none ∧ (c.H0 g = none ∨ g ∈ c.G0) := fun g hm => hg g ((List.Perm.append_left _ pm).mem_iff.mpr hm)
    have ndB := List.nodup_append.mp ndA
    have ndC := List.nodup_append.mp ndB.2.1
    have pGx : p ∉ Gx := (List.nodup_cons.mp ndC.1).1
    have pGt : p ∉ Gt := fun z => ndB.2.2 p z p (by simp) rfl
    have pG3 : p ∉ G3 := fun z => ndC.2.2 p (by simp) p z rfl
    have pP : ∀ g ∈ G', g ≠ p := fun g hm z => by
      subst z
      rcases List.mem_append.mp (sub.subset (pm'.mem_iff.mp hm)) with k | k
      · exact pGx k
      · exact pGt k
    have r2 : TrL c.K F (upd H p (.dK kvs')) xs' (kvs'.map (·.2)) G' := r'.mono (Ex.refl F) fun g hm => upd_ne (pP g hm)
    have l3 : Live c.K F (upd H p (.dK kvs')) (tt.map some ++ ρ.set i none) (tv.map some ++ σ) G3 := l2.mono (Ex.refl F) fun g hm => upd_ne fun z => pG3 (z ▸ hm)
    obtain ⟨G4, q4, G5, pm4, s4⟩ := Live.put (.dicT upd_same r2) (i := (tt.map some).length + i) l3 (by simp [hlt])
    rw [ap_set, List.set_set] at q4
    rw [hl, ap_set, set_same e1] at q4
    have hH0 : c.H0 p = none ∨ p ∈ c.G0 := (hgA p (by simp)).2
    have hFp : F p = none := (hgA p (by simp)).1
    have ndP : ((p :: G') ++ G5).Nodup := by
      have w1 : ((p :: Gx ++ Gt) ++ G3).Nodup := by
        have : (Gt ++ (p :: Gx ++ G3)).Perm ((p :: Gx ++ Gt) ++ G3) := by
          rw [← List.append_assoc]
          exact List.perm_append_comm.append_right _
        exact this.nodup_iff.mp ndA
      have w2 : ((p :: P) ++ G5).Sublist ((p :: Gx ++ Gt) ++ G3) := (List.Sublist.cons_cons p sub).append s4
      have w3 := w1.sublist w2
      exact ((pm'.cons p).append_right _).nodup_iff.mpr w3
    refine ⟨fun a o e => ?_, I.fx, I.fn, fun b o e n => ?_, fun b e => ?_, by omega, ⟨G4, q4, pm4.nodup_iff.mpr ndP, fun g hm => ?_⟩, fun p' hp' => ?_⟩
    · have z : a ≠ p := fun z => by rw [z, hFp] at e; cases e
      rw [upd_ne z]; exact I.ex a o e
    · have z : b ≠ p := fun z => by
        subst z
        rcases hH0 with k | k
        · rw [k] at e; cases e
        · exact n k
      rw [upd_ne z]; exact I.keep b o e n
    · by_cases z : b = p
      · subst z; rw [upd_same]; exact fun z => by cases z
      · rw [upd_ne z]; exact I.dom b e
    · rcases List.mem_append.mp (pm4.mem_iff.mp hm) with k | k
      · rcases List.mem_cons.mp k with rfl | k
        · exact ⟨hFp, hH0⟩
        · rcases List.mem_append.mp (sub.subset (pm'.mem_iff.mp k)) with k | k
          · exact hgA g (by simp [k])
          · exact hgA g (by simp [k])
      · exact hgA g (by simp [s4.subset k])
    · obtain ⟨a, t0, b, d⟩ := I.iop p' hp'
      refine ⟨a, ?_⟩
      by_cases z : i = 0
      · subst z
        exact ⟨.dic true (kvs'.map (·.1)) xs', List.getElem?_set_self hlt, rfl⟩
      · exact ⟨t0, by rw [List.getElem?_set_ne z]; exact b, d⟩
/-- an owned dict on the way is changed -/
theorem Sim.mutSD {F H : Hp} {σ : L2.St} {ρ : Rho} {tt ts : List T} {tv vs : List V} {v : V} {ks : List Key} {xs : List T} (I : Sim c F H σ ρ (ts ++ .dic true ks xs :: tt) (vs ++ v :: tv)) (hlen : ts.length = vs.length) :
    ∃ p kvs Gx Gt, v = .ref p ∧ H p = some (.dK kvs) ∧ kvs.map (·.1) = ks ∧ TrL c.K F H xs (kvs.map (·.2)) Gx ∧ TrL c.K F H ts vs Gt ∧
      ∀ xs' kvs' G' P, TrL c.K F H xs' (kvs'.map (·.2)) G' → P.Sublist (Gx ++ Gt) → G'.Perm P → Sim c F (upd H p (.dK kvs')) σ ρ (.dic true (kvs'.map (·.1)) xs' :: tt) (.ref p :: tv) := by
  have tl := I.tl
  simp only [List.length_append, List.length_cons] at tl
  have J := I.deep hlen
  have J2 : Sim { c with io := none } F H ((v :: tv).map some ++ σ) ((T.dic true ks xs :: tt).map some ++ ρ) (ts ++ []) (vs ++ []) := by simp only [List.append_nil]; exact J
  obtain ⟨p, kvs, Gx, Gt, s1, hH, hks, r1, r2, mk⟩ := J2.mutD hlen (i := 0) (ks := ks) (xs := xs) rfl
  have ev : v = .ref p := by simpa using s1
  refine ⟨p, kvs, Gx, Gt, ev, hH, hks, r1, r2, fun xs' kvs' G' P r' sub pm => ?_⟩
  have M := mk xs' kvs' G' P r' sub pm
  have M2 : Sim { c with io := none } F (upd H p (.dK kvs')) ((V.ref p :: tv).map some ++ σ) ((T.dic true (kvs'.map (·.1)) xs' :: tt).map some ++ ρ) [] [] := by
    subst ev
    exact M
  exact Sim.undeep I M2 (by simp only [List.length_cons]; omega)
/-- {k: e} -/
@[simp] def wDic1 (wk we : WE) (ρ : Rho) (Q : T → Rho → Prop) : Prop := wk ρ fun t ρ1 => we ρ1 fun u ρ2 => match keyT t with
  | some j => Q (.dic true [j] [u]) ρ2
  | none => False
theorem ve_dic1 (hk : VE X c a wa) (he : VE X c b wb) : VE X c (.Dict [some a] [b] pos) (wDic1 wa wb) := by
  obtain ⟨ta, pa, ka⟩ := hk
  obtain ⟨tb, pb, kb⟩ := he
  refine ⟨_, pe_disp (pps_cons pa pb pps_nil) rfl rfl (by simp) (show (1 : Nat) ≤ 15 by decide), fun F H σ ρ tt tv Q P I ask next => fun d fresh => ?_⟩
  refine ka F _ σ ρ _ _ _ _ (I.newDic fresh) ask fun v1 H1 F1 t1 ρ1 I1 ask1 => ?_
  refine kb F1 H1 σ ρ1 _ _ _ _ I1 ask1 fun v2 H2 F2 t2 ρ2 I2 ask2 => ?_
  split at ask2
  · rename_i j hj
    obtain ⟨_, _, key, _⟩ := I2.drop.top
    obtain ⟨rfl, _⟩ := key_tr key hj
    have J : Sim c F2 H2 σ ρ2 ([t2] ++ .dic true [] [] :: tt) ([v2] ++ .ref d :: tv) := I2.drop2
    obtain ⟨p, kvs, Gx, Gt, ev, known, none_, r1, r2, mk⟩ := J.mutSD rfl
    cases ev
    obtain rfl := List.map_eq_nil_iff.mp none_
    have r3 : TrL c.K F2 H2 [t2] ([(j, v2)].map (·.2)) Gt := r2
    exact ⟨known, [(j, v2)], rfl, (show (1 : Nat) ≤ 15 by decide), next _ _ _ _ _ (mk [t2] [(j, v2)] Gt Gt r3 (List.sublist_append_right _ _) (.refl _)) ask2⟩
  · exact ask2.elim
/-- d[k] = e, k not there yet -/
@[simp] def isDi : Option (Option T) → Bool
  | some (some (.dic o _ _)) => o
  | _ => false
theorem isDi_eq {o : Option (Option T)} (h : isDi o = true) : ∃ ks xs, o = some (some (.dic true ks xs)) := by
  match o, h with
  | some (some (.dic true ks xs)), _ => exact ⟨ks, xs, rfl⟩
@[simp] def gPutD (i : Nat) (wi : WE) (t : T) (ρ : Rho) (Q : Rho → Prop) : Prop := isDi ρ[i]? = true ∧ wi ρ fun k ρ1 => match keyT k with
  | some j => (match ρ1[i]? with
    | some (some (.dic true ks xs)) => hasK ks j = false ∧ ks.length < sizeLine ∧ Q (ρ1.set i (some (.dic true (ks ++ [j]) (xs ++ [t]))))
    | _ => False)
  | none => False
theorem vg_putD (hu : X.A.units + 64 < cLine) (i : Nat) {x : Str} {b : Expr} {wi : WE} (hb : VE X c b wi) (hN : X.N[i]? = some x := by rfl) (hv : Vis X.env.scope x := by first | exact Or.inl rfl | exact Or.inr (Or.inl rfl) | exact Or.inr (Or.inr rfl)) (hd : (x == ("__debug__" : Str)) = false := by decide)
    (hcd : (x == ("__classdict__" : Str)) = false := by decide) (ha : ∀ v, assign (.Subscript (.Name x p) b pos) X.env v = (do
      let o ← holding [v] (eval (.Name x p) X.env)
      let k ← holding [v, o] (eval b X.env)
      standAt pos
      holding [v, o, k] (setItem o k v)
      release [v, o, k] []) := by intro _; rfl) : VG X c (.Subscript (.Name x p) b pos) [] (gPutD i wi) := by
  obtain ⟨tb, pb, kb⟩ := hb
  refine ⟨_, pg_sub (pe_var hN hv hd hcd) pb (set_dict (by omega)) ha, fun F H σ ρ tt tv t v Q P I ask next => ?_⟩
  obtain ⟨is, ask⟩ := ask
  obtain ⟨ks0, xs0, e0⟩ := isDi_eq is
  obtain ⟨l, kvs0, _, _, s0, _⟩ := Sim.mutD (ts := []) (vs := []) I rfl e0
  refine ⟨.ref l, s0, kb F H σ ρ _ _ _ _ I ask fun u H1 F1 t1 ρ1 I1 ask1 => ?_⟩
  split at ask1
  · rename_i j hj
    obtain ⟨_, _, key, _⟩ := I1.top
    obtain ⟨rfl, _⟩ := key_tr key hj
    split at ask1
    · rename_i ks xs e1
      obtain ⟨fresh, few, ask1⟩ := ask1
      have I2 : Sim c F1 H1 σ ρ1 ([t] ++ tt) ([v] ++ tv) := I1.drop
      obtain ⟨l2, kvs, Gx, Gt, s1, known, rfl, r1, r2, mk⟩ := I2.mutD rfl e1
      rw [s0] at s1
      cases s1
      have new : valV kvs j = none := by
        have e := valV_mem (kvs := kvs) (k := j)
        rw [fresh] at e
        simpa using e
      have out : putK kvs j v = kvs ++ [(j, v)] := putK_new v new
      have r3 : TrL c.K F1 H1 (xs ++ [t]) ((kvs ++ [(j, v)]).map (·.2)) (Gx ++ Gt) := by
        rw [List.map_append]
        exact r1.append r2
      have M := mk (xs ++ [t]) (kvs ++ [(j, v)]) _ _ r3 (List.Sublist.refl _) (.refl _)
      rw [List.map_append] at M
      rw [List.length_map] at few
      exact ⟨l, _, rfl, out ▸ DPut.k known few, next _ _ _ _ M ask1 fun _ _ => rfl⟩
    · exact ask1.elim
  · exact ask1.elim
end
end L3

namespace L3
open PySem L2 PySem.Spec PyProof.Rows
/-! ### the arguments of a call, by place and by name, as one row of values -/
section
variable {X : Cx} {pos : Pos} {e : Expr} {es : List Expr} {kws : List Keyword} {np : Nat} {ks : List Str} {t tk : TA}
/-- a call with es by place and kws by name, once its function is known -/
structure Ag (X : Cx) (pos : Pos) (es : List Expr) (kws : List Keyword) (np : Nat) (ks : List Str) (t : TA) : Prop where
  run : ∀ (f : Value) (first : List Value) (want : Value → Shared → Prop) (held : List (Addr × Obj)) (s : Shared) (σ : L2.St) (H : Hp) (Q : List V → Hp → Prop), PySem.W.keepIn X.K f = true → Inv X held σ H s → t σ H Q →
    (∀ (vs : List V) (H1 : Hp) (z : Shared) (us ws : List Value), Q vs H1 → Inv X held σ H1 z → Vals vs (us ++ ws) → us.length = np → ws.length = ks.length → wpAny (model X.prog X.w) X.A (call f (first ++ us) (ks.zip ws)) want X.xe z) →
    wpAny (model X.prog X.w) X.A (callWith pos f first (backTo pos (starEach es X.env)) (backToKw pos (keywordEach kws X.env))) want X.xe s
def tN (np : Nat) (t : TA) : TA := fun σ H Q => t σ H fun vs H1 => vs.length = np ∧ Q vs H1
def tTwo (np nk : Nat) (t tk : TA) : TA := fun σ H Q => t σ H fun vs H1 => tk σ H1 fun zs H2 => vs.length = np ∧ zs.length = nk ∧ Q (vs ++ zs) H2
theorem ag_none : Ag X pos [] [] 0 [] tNil := ⟨fun f first want held s σ H Q kp I ask go => PySem.W.callWith_K0 I.kIn kp (go [] H s [] [] ask I .nil rfl rfl)⟩
theorem ag_pos (ha : PA X (e :: es) t) (st : starEach (e :: es) X.env = (false, eval e X.env) :: starEach es X.env) (pl : (backTo pos (starEach es X.env)).any (·.1) = false) : Ag X pos (e :: es) [] np [] (tN np t) := by
  constructor
  intro f first want held s σ H Q kp I ask go
  refine PySem.W.callWith_K (h₀ := X.base) I.ok.mod.kin kp (thn (ha.run pos held s σ H _ I ask) fun us z got => ?_) st pl
  obtain ⟨vs, H1, J, rel, many, q⟩ := got
  exact ⟨J.kIn, go vs H1 z us [] q J (by rwa [List.append_nil]) (rel.length ▸ many) rfl⟩
theorem ag_kw (hk : PK X kws tk) (hall : (backToKw pos (keywordEach kws X.env)).all (·.1.isSome) = true) (hks : (backToKw pos (keywordEach kws X.env)).filterMap (·.1) = ks)
    (pl : ((backTo pos (starEach [] X.env)).any (·.1) || (backToKw pos (keywordEach kws X.env)).any (·.1.isNone)) = false) : Ag X pos [] kws 0 ks (tN ks.length tk) := by
  constructor
  intro f first want held s σ H Q kp I ask go
  refine PySem.W.callWith_KW0 (h₀ := X.base) I.ok.mod.kin kp hall (thn (hk.run pos held s σ H _ I ask) fun ws z got => ?_) pl
  obtain ⟨zs, H1, J, rel, many, q⟩ := got
  refine ⟨J.kIn, ?_⟩
  rw [hks]
  exact go zs H1 z [] ws q J rel rfl (rel.length ▸ many)
theorem ag_two (ha : PA X (e :: es) t) (hk : PK X kws tk) (st : starEach (e :: es) X.env = (false, eval e X.env) :: starEach es X.env) (hall : (backToKw pos (keywordEach kws X.env)).all (·.1.isSome) = true) (hks : (backToKw pos (keywordEach kws X.env)).filterMap (·.1) = ks)
    (pl : ((backTo pos (starEach (e :: es) X.env)).any (·.1) || (backToKw pos (keywordEach kws X.env)).any (·.1.isNone)) = false) : Ag X pos (e :: es) kws np ks (tTwo np ks.length t tk) := by
  constructor
  intro f first want held s σ H Q kp I ask go
  refine PySem.W.callWith_KW (h₀ := X.base) I.ok.mod.kin kp hall (thn (ha.run pos held s σ H _ I ask) fun us z got => ?_) pl st
  obtain ⟨vs, H1, J, rel, ask1⟩ := got
  refine thn (hk.run pos held z σ H1 _ J ask1) fun ws z2 got2 => ?_
  obtain ⟨zs, H2, J2, rel2, many, many2, q⟩ := got2
  refine ⟨J2.kIn, ?_⟩
  rw [hks]
  exact go _ H2 z2 us ws q J2 (rel.append rel2) (rel.length ▸ many) (rel2.length ▸ many2)
end
theorem pick_self {α : Type} (a : α) (xs : List α) : ∀ jx : List Nat, pick (0 :: jx.map (· + 1)) (a :: xs) = a :: pick jx xs
  | [] => rfl
  | j :: jx => by
    have ih := pick_self a xs jx
    unfold pick at ih ⊢
    rw [List.filterMap_cons] at ih ⊢
    simp only [List.getElem?_cons_zero, List.cons.injEq, true_and, List.map_cons] at ih ⊢
    rw [List.filterMap_cons, List.filterMap_cons, List.getElem?_cons_succ, ih]
/-! ### promises with guards kept: methods, instances made, properties -/
section
variable {X : Cx} {C : CXT} {k np : Nat} {f D : Addr} {fd : FuncData} {ps ks : List Str} {ix jx : List Nat} {sp : Sp} {E : L2.St → XK} {x m : Str} {p pos apos : Pos} {o : Expr} {es : List Expr} {kws : List Keyword} {t : TA} {ta : TE}
section
variable {held : List (Addr × Obj)} {σ : L2.St} {H : Hp} {s : Shared} {Q : VK}
/-- what a promise's end says where the call stands -/
def Went (X : Cx) (held : List (Addr × Obj)) (σ : L2.St) (Q : VK) : Result → Shared → Prop
  | .ok (.ret u), z => EP X held σ Q u z
  | .ok _, _ => False
  | .error y, z => X.xe y z
theorem went {r : Result} {z : Shared} (hx : PassesAt C X σ (E σ)) (I : Inv X held σ H s) (q : CR C X.stack X.prog X.w H s Q (E σ) r z) : Went X held σ Q r z := by
  match r, q with
  | .error y, q => exact hx held H s y z I q
  | .ok .next, q => exact q
  | .ok .brk, q => exact q
  | .ok .cont, q => exact q
  | .ok (.ret u), q => exact I.after q
theorem run_H {us ws : List Value} {vs : List V} (G : FnG X.prog X.w X.K X.mg X.base C k f fd ps sp) (rm : Room k X.A) (gd : X.A.guards = some []) (b : Bnd X.K fd ps np ks ix) (hx : PassesAt C X σ (E σ)) (I : Inv X held σ H s) (rel : Vals vs (us ++ ws)) (h1 : us.length = np) (h2 : ws.length = ks.length)
    (ask : sp (pick ix vs) H Q (E σ)) : wpAny (model X.prog X.w) X.A (call (.ref f) us (ks.zip ws)) (EP X held σ Q) X.xe s := by
  apply wpAny_call
  refine codeAny_mono (G.run X.A X.stack s H ⟨us, ks.zip ws⟩ _ _ Q (E σ) rm gd I.env0 (b s us ws I.kIn h1 h2) (vals_pick rel ix) ask) fun r z q => ?_
  have e := went hx I q
  match r, e with
  | .error _, e => exact e
  | .ok .next, e => exact e
  | .ok .brk, e => exact e
  | .ok .cont, e => exact e
  | .ok (.ret _), e => exact e
end
/-- what o.m(..) is, its object first -/
abbrev MethForm (X : Cx) (o : Expr) (m : Str) (es : List Expr) (kws : List Keyword) (apos pos : Pos) (pl : Sem Bool) : Prop :=
  eval (.Call (.Attribute o m apos) es kws pos) X.env = (do let ov ← eval o X.env; standAt apos.atName; let (f, first) ← holding [ov] (getMethod ov m pl); callWith pos f first (backTo pos (starEach es X.env)) (backToKw pos (keywordEach kws X.env)))
def tMethG (D : Addr) (m : Str) (sp : Sp) (jx : List Nat) (E : L2.St → XK) (ta : TE) (t : TA) : TE := fun σ H Q => ta σ H fun y H1 => ∃ a dx fs, y = .ref a ∧ H1 a = some (.ins D dx fs) ∧ fs.lookup m = none ∧ t σ H1 fun vs H2 => sp (.ref a :: pick jx vs) H2 Q (E σ)
theorem pe_methG {pl : Sem Bool} (ob : PE X o ta) (cl : Cls X.K D) (mt : Meth X.K D m f) (G : FnG X.prog X.w X.K X.mg X.base C k f fd ps sp) (rm : Room k X.A) (gd : X.A.guards = some []) (b : Bnd X.K fd ps (np + 1) ks (0 :: jx.map (· + 1))) (hx : ∀ σ, PassesAt C X σ (E σ)) (ag : Ag X pos es kws np ks t)
    (form : MethForm X o m es kws apos pos pl) : PE X (.Call (.Attribute o m apos) es kws pos) (tMethG D m sp jx E ta t) := by
  constructor
  intro held s σ H Q I ask
  refine PySem.W.methodCall_KW (pl := pl) (thn (ob.run held s σ H _ I ask) fun u z got => ?_) form
  obtain ⟨y, H1, J, rel, a, dx, fs, rfl, there, plain, ask1⟩ := got
  cases (show u = Value.ref a from rel)
  refine getmeth_ok J there cl mt plain (ag.run (.ref f) [.ref a] _ held z σ H1 _ mt.kp J ask1 fun vs H2 z2 us ws q J2 rel2 h1 h2 => ?_)
  exact run_H (us := .ref a :: us) (vs := .ref a :: vs) G rm gd b (hx σ) J2 (.cons rfl rel2) (by rw [List.length_cons, h1]) h2 (by rw [pick_self]; exact q)
/-- D(..): a new instance, which its __init__ fills -/
def tMakeG (D : Addr) (sp : Sp) (jx : List Nat) (E : L2.St → XK) (t : TA) : TE := fun σ H Q => t σ H fun vs H1 => ∀ i di, H1 i = none → H1 di = none → di ≠ i →
  sp (.ref i :: pick jx vs) (upd (upd H1 di (.own i)) i (.ins D di [])) (fun v H2 => v = .non ∧ Q (.ref i) H2) (E σ)
theorem pe_makeG (M : Mk X.K D f) (G : FnG X.prog X.w X.K X.mg X.base C k f fd ps sp) (rm : Room (k + 1) X.A) (gd : X.A.guards = some []) (gl : Gl X x) (mx : X.mg x = some (.ref D)) (b : Bnd X.K fd ps (np + 1) ks (0 :: jx.map (· + 1))) (hx : ∀ σ, PassesAt C X σ (E σ)) (ag : Ag X pos es kws np ks t)
    (nd : (x == ("__debug__" : Str)) = false) : PE X (.Call (.Name x p) es kws pos) (tMakeG D sp jx E t) := by
  constructor
  intro held s σ H Q I ask
  apply wpAny_Call_Name_kw
  apply ld_glob I gl mx _ nd
  refine ag.run (.ref D) [] _ held s σ H _ M.kp I ask fun vs H1 z us ws q J rel h1 h2 => ?_
  have low : z.heap.objs.size < z.heap.objs.size + 1 := Nat.lt_succ_self _
  have ask1 := q (z.heap.objs.size + 1) z.heap.objs.size (J.hok.fresh (Nat.le_of_lt low)) (J.hok.fresh (Nat.le_refl z.heap.objs.size)) (Nat.ne_of_lt low)
  have J2 := Inv.made (C := D) J
  have rel2 : Vals (V.ref (z.heap.objs.size + 1) :: vs) ((Value.ref (z.heap.objs.size + 1) :: us) ++ ws) := .cons rfl rel
  have bound := b { z with heap := (z.heap.push PySem.W.emptyDict).push (PySem.W.instObj D z.heap.objs.size) } (Value.ref (z.heap.objs.size + 1) :: us) ws J2.kIn (by rw [List.length_cons, h1]) h2
  rw [← pick_self] at ask1
  apply wpAny_call
  refine make_map (f := f) J.kIn M.makes M.init (beq_iff_eq.mp M.fn) ?_
  refine codeAny_mono (G.run _ X.stack _ _ ⟨Value.ref (z.heap.objs.size + 1) :: us, ks.zip ws⟩ _ _ _ (E σ) (rm.make D us (ks.zip ws)) gd (J2.env0.make D us (ks.zip ws)) bound (vals_pick rel2 _) ask1) fun r y got => ?_
  have ends := went (hx σ) J2 got
  match r, ends with
  | .error _, ends => exact ends
  | .ok .next, ends => exact ends
  | .ok .brk, ends => exact ends
  | .ok .cont, ends => exact ends
  | .ok (.ret _), ends =>
    obtain ⟨v, H2, J3, same, rfl, q2⟩ := ends
    exact ⟨same, .ref (z.heap.objs.size + 1), H2, J3, rfl, q2⟩
/-- o.p, a property: its getter, called on the object -/
def tPropG (D : Addr) (sp : Sp) (E : XK) (ta : TE) : TE := fun σ H Q => ta σ H fun y H1 => ∃ a dx fs, y = .ref a ∧ H1 a = some (.ins D dx fs) ∧ sp [.ref a] H1 Q E
theorem pe_propG {pp g : Addr} {E : XK} {fl : Str} (ob : PE X o ta) (cl : Cls X.K D) (pr : PropOf X.K D fl pp g) (G : FnG X.prog X.w X.K X.mg X.base C k g fd ps sp) (rm : Room (k + 1) X.A) (gd : X.A.guards = some []) (b : Bnd X.K fd ps 1 [] [0]) (hx : Passes C X.nox E)
    (base : attributeBase o fl X.env (eval o X.env) = eval o X.env) : PE X (.Attribute o fl pos) (tPropG D sp E ta) := by
  constructor
  intro held s σ H Q I ask
  refine attr_of base (thn (ob.run held s σ H _ I ask) fun u z got => ?_)
  obtain ⟨y, H1, J, rel, a, dx, fs, rfl, there, ask1⟩ := got
  cases (show u = Value.ref a from rel)
  obtain ⟨names, inst, _⟩ := ins_get J.hok there
  obtain ⟨od, isAt, _⟩ := inst.look
  obtain ⟨others, getter⟩ := pr.rec_
  have known : (PySem.W.clsIn X.K D).isSome = true := by
    obtain ⟨_, e, _⟩ := PySem.W.any_some cl.hd
    simp [e]
  have ways := PySem.W.plainGet_of (cl.get fl)
  have J2 := J.tok (z.toks + 1)
  refine PySem.W.get_bind J.kIn isAt ways.1 (PySem.W.findObj_data known pr.at_ pr.get pr.tak) ways.2 (wpAny_call (PySem.W.prop_get (s := { z with toks := z.toks + 1 }) J.kIn getter ?_))
  refine codeAny_mono (G.run X.A.in1 X.stack { z with toks := z.toks + 1 } H1 ⟨[.ref a], []⟩ _ [.ref a] _ E rm.in1 gd J2.env0.in1 (b { z with toks := z.toks + 1 } [.ref a] [] J2.kIn rfl rfl) (.cons rfl .nil) ask1) fun r y got => ?_
  match r, got with
  | .error er, got => exact (hx held σ H1 { z with toks := z.toks + 1 } er y (J2.wish _) got).elim
  | .ok .next, got => exact got.elim
  | .ok .brk, got => exact got.elim
  | .ok .cont, got => exact got.elim
  | .ok (.ret u), got =>
    obtain ⟨v, H2, J3, same, q⟩ := J2.after got
    have out := PySem.W.handedOut_of (handed_of same)
    exact wpAny_of_eq out ⟨v, H2, J3, same, q⟩
end
end L3

namespace L3
open PySem L2 PySem.Spec PyProof.Rows
/-! ### fields of trees -/
/-- where a field stands -/
@[simp] def fldI (f : Str) : List Str → Option Nat
  | [] => none
  | g :: r => if g = f then some 0 else (fldI f r).map (· + 1)
@[simp] def putN (f : Str) : List Str → List Str
  | [] => [f]
  | g :: r => if g = f then g :: r else g :: putN f r
@[simp] def putX (f : Str) (t : T) : List Str → List T → List T
  | [], xs => xs ++ [t]
  | g :: r, x :: xs => if g = f then t :: xs else x :: putX f t r xs
  | _ :: _, [] => []
theorem lookup_fldI {f : Str} : ∀ {fs : List (Str × V)} {j : Nat}, fldI f (fs.map (·.1)) = some j → fs.lookup f = (fs.map (·.2))[j]?
  | [], j, h => by simp at h
  | (g, x) :: r, j, h => by
    rw [List.map_cons] at h
    unfold fldI at h
    by_cases z : g = f
    · rw [if_pos z] at h
      cases h
      have hb : (f == g) = true := beq_iff_eq.mpr z.symm
      simp only [List.lookup, hb]
      rfl
    · rw [if_neg z] at h
      have hb : (f == g) = false := beq_eq_false_iff_ne.mpr fun e => z e.symm
      simp only [List.lookup, hb]
      cases hr : fldI f (r.map (·.1)) with
      | none => rw [hr] at h; cases h
      | some i =>
        rw [hr] at h
        have e : i + 1 = j := Option.some.inj h
        subst e
        rw [lookup_fldI hr]
        rfl
theorem lookup_none {f : Str} : ∀ {fs : List (Str × V)}, fldI f (fs.map (·.1)) = none → fs.lookup f = none
  | [], _ => rfl
  | (g, x) :: r, h => by
    rw [List.map_cons] at h
    unfold fldI at h
    by_cases z : g = f
    · rw [if_pos z] at h
      cases h
    · rw [if_neg z] at h
      have hb : (f == g) = false := beq_eq_false_iff_ne.mpr fun e => z e.symm
      simp only [List.lookup, hb]
      cases hr : fldI f (r.map (·.1)) with
      | none => exact lookup_none hr
      | some i => rw [hr] at h; cases h
theorem putN_eq {f : Str} {y : V} : ∀ {fs : List (Str × V)}, (putF f y fs).map (·.1) = putN f (fs.map (·.1))
  | [] => rfl
  | (g, x) :: r => by
    unfold putF
    rw [List.map_cons]
    unfold putN
    by_cases z : g = f
    · rw [if_pos z, if_pos z]
      rfl
    · rw [if_neg z, if_neg z, List.map_cons, putN_eq]
theorem TrL.putF {K : PySem.W.Frag} {F H : Hp} {f : Str} {t : T} {y : V} {Gt : List Addr} (ht : Tr K F H t y Gt) : ∀ {fs : List (Str × V)} {xs : List T} {Gx : List Addr}, TrL K F H xs (fs.map (·.2)) Gx →
    ∃ G' P, TrL K F H (putX f t (fs.map (·.1)) xs) ((L2.putF f y fs).map (·.2)) G' ∧ P.Sublist (Gx ++ Gt) ∧ G'.Perm P
  | [], _, _, .nil => ⟨Gt, Gt, TrL.one ht, List.Sublist.refl _, .refl _⟩
  | (g, x) :: r, _, _, .cons (x := z) (xs := xs) (G1 := G1) (G2 := G2) h q => by
    by_cases e : g = f
    · refine ⟨Gt ++ G2, G2 ++ Gt, ?_, ?_, List.perm_append_comm⟩
      · show TrL K F H (if g = f then t :: xs else z :: putX f t (r.map (·.1)) xs) ((if g = f then (g, y) :: r else (g, x) :: L2.putF f y r).map (·.2)) _
        rw [if_pos e, if_pos e]
        exact .cons ht q
      · rw [List.append_assoc]
        exact List.sublist_append_right _ _
    · obtain ⟨G', P, q', s, pm⟩ := TrL.putF ht (f := f) q
      refine ⟨G1 ++ G', G1 ++ P, ?_, ?_, pm.append_left _⟩
      · show TrL K F H (if g = f then t :: xs else z :: putX f t (r.map (·.1)) xs) ((if g = f then (g, y) :: r else (g, x) :: L2.putF f y r).map (·.2)) _
        rw [if_neg e, if_neg e]
        exact .cons h q'
      · rw [List.append_assoc]
        exact s.append_left _
section
variable {c : Cst} {F H : Hp} {σ : L2.St} {ρ : Rho} {tt ts xs : List T} {tv vs : List V} {t : T} {v : V} {o : Bool} {D : Addr} {ns : List Str}
/-- an instance on top is laid open -/
theorem Sim.opIns (I : Sim c F H σ ρ (.ins o D ns xs :: tt) (v :: tv)) : ∃ a dx fs, v = .ref a ∧ H a = some (.ins D dx fs) ∧ fs.map (·.1) = ns ∧ xs.length = (fs.map (·.2)).length ∧ Sim c F H σ ρ (xs ++ tt) (fs.map (·.2) ++ tv) := by
  obtain ⟨G, l, nd, hg⟩ := I.live
  have tl := I.tl
  cases l with
  | cons h q =>
    cases h with
    | @insF a C dx _ fs G1 hs hr =>
      refine ⟨a, dx, fs, rfl, I.ex _ _ hs, rfl, hr.length, I.ex, I.fx, I.fn, I.keep, I.dom, ?_, ⟨_, ?_, nd, hg⟩, I.iop⟩
      · simp only [List.length_cons, List.length_append] at tl ⊢
        have := hr.length
        omega
      · rw [List.map_append, List.map_append, List.append_assoc, List.append_assoc]
        exact Live.of_trL hr q
    | @insT a C dx _ fs G1 hs hr =>
      refine ⟨a, dx, fs, rfl, hs, rfl, hr.length, I.ex, I.fx, I.fn, I.keep, I.dom, ?_, ⟨_, ?_, (List.nodup_cons.mp nd).2, fun g hm => hg g (List.mem_cons_of_mem _ hm)⟩, I.iop⟩
      · simp only [List.length_cons, List.length_append] at tl ⊢
        have := hr.length
        omega
      · rw [List.map_append, List.map_append, List.append_assoc, List.append_assoc]
        exact Live.of_trL hr q
/-- an instance that a name owns is changed: its new fields are made of its old ones and of what lies on top -/
theorem Sim.mutI {i : Nat} (I : Sim c F H σ ρ (ts ++ tt) (vs ++ tv)) (hlen : ts.length = vs.length) (h : ρ[i]? = some (some (.ins true D ns xs))) :
    ∃ p dx fs Gx Gt, σ[i]? = some (some (.ref p)) ∧ H p = some (.ins D dx fs) ∧ fs.map (·.1) = ns ∧ TrL c.K F H xs (fs.map (·.2)) Gx ∧ TrL c.K F H ts vs Gt ∧
      ∀ xs' fs' G' P, TrL c.K F H xs' (fs'.map (·.2)) G' → P.Sublist (Gx ++ Gt) → G'.Perm P → Sim c F (upd H p (.ins D dx fs')) σ (ρ.set i (some (.ins true D (fs'.map (·.1)) xs'))) tt tv := by
  have tl := I.tl
  simp only [List.length_append] at tl
  obtain ⟨G, l, nd, hg⟩ := I.live
  rw [List.map_append, List.map_append, List.append_assoc, List.append_assoc] at l
  obtain ⟨Gt, G2, rfl, q1, q2⟩ := Live.to_trL hlen l
  have h' : (tt.map some ++ ρ)[(tt.map some).length + i]? = some (some (.ins true D ns xs)) := by rw [ap_get]; exact h
  obtain ⟨v, G1, G3, e1, q, l2, pm⟩ := q2.take h'
  have hl : (tt.map some).length = (tv.map some).length := by simp; omega
  rw [hl, ap_get] at e1
  rw [ap_set] at l2
  have hlt : i < ρ.length := (List.getElem?_eq_some_iff.mp h).1
  cases q with
  | @insT p _ dx _ fs Gx hH hr =>
    refine ⟨p, dx, fs, Gx, Gt, e1, hH, rfl, hr, q1, fun xs' fs' G' P r' sub pm' => ?_⟩
    have ndA : (Gt ++ (p :: Gx ++ G3)).Nodup := (List.Perm.append_left _ pm).nodup_iff.mp nd
    have hgA : ∀ g ∈ Gt ++ (p :: Gx ++ G3), F g = none ∧ (c.H0 g = none ∨ g ∈ c.G0) := fun g hm => hg g ((List.Perm.append_left _ pm).mem_iff.mpr hm)
    have ndB := List.nodup_append.mp ndA
    have ndC := List.nodup_append.mp ndB.2.1
    have pGx : p ∉ Gx := (List.nodup_cons.mp ndC.1).1
    have pGt : p ∉ Gt := fun z => ndB.2.2 p z p (by simp) rfl
    have pG3 : p ∉ G3 := fun z => ndC.2.2 p (by simp) p z rfl
    have pP : ∀ g ∈ G', g ≠ p := fun g hm z => by
      subst z
      rcases List.mem_append.mp (sub.subset (pm'.mem_iff.mp hm)) with k | k
      · exact pGx k
      · exact pGt k
    have r2 : TrL c.K F (upd H p (.ins D dx fs')) xs' (fs'.map (·.2)) G' := r'.mono (Ex.refl F) fun g hm => upd_ne (pP g hm)
    have l3 : Live c.K F (upd H p (.ins D dx fs')) (tt.map some ++ ρ.set i none) (tv.map some ++ σ) G3 := l2.mono (Ex.refl F) fun g hm => upd_ne fun z => pG3 (z ▸ hm)
    obtain ⟨G4, q4, G5, pm4, s4⟩ := Live.put (.insT upd_same r2) (i := (tt.map some).length + i) l3 (by simp [hlt])
    rw [ap_set, List.set_set] at q4
    rw [hl, ap_set, set_same e1] at q4
    have hH0 : c.H0 p = none ∨ p ∈ c.G0 := (hgA p (by simp)).2
    have hFp : F p = none := (hgA p (by simp)).1
    have ndP : ((p :: G') ++ G5).Nodup := by
      have w1 : ((p :: Gx ++ Gt) ++ G3).Nodup := by
        have : (Gt ++ (p :: Gx ++ G3)).Perm ((p :: Gx ++ Gt) ++ G3) := by
          rw [← List.append_assoc]
          exact List.perm_append_comm.append_right _
        exact this.nodup_iff.mp ndA
      have w2 : ((p :: P) ++ G5).Sublist ((p :: Gx ++ Gt) ++ G3) := (List.Sublist.cons_cons p sub).append s4
      have w3 := w1.sublist w2
      exact ((pm'.cons p).append_right _).nodup_iff.mpr w3
    refine ⟨fun a o e => ?_, I.fx, I.fn, fun b o e n => ?_, fun b e => ?_, by omega, ⟨G4, q4, pm4.nodup_iff.mpr ndP, fun g hm => ?_⟩, fun p' hp' => ?_⟩
    · have z : a ≠ p := fun z => by rw [z, hFp] at e; cases e
      rw [upd_ne z]; exact I.ex a o e
    · have z : b ≠ p := fun z => by
        subst z
        rcases hH0 with k | k
        · rw [k] at e; cases e
        · exact n k
      rw [upd_ne z]; exact I.keep b o e n
    · by_cases z : b = p
      · subst z; rw [upd_same]; exact fun z => by cases z
      · rw [upd_ne z]; exact I.dom b e
    · rcases List.mem_append.mp (pm4.mem_iff.mp hm) with k | k
      · rcases List.mem_cons.mp k with rfl | k
        · exact ⟨hFp, hH0⟩
        · rcases List.mem_append.mp (sub.subset (pm'.mem_iff.mp k)) with k | k
          · exact hgA g (by simp [k])
          · exact hgA g (by simp [k])
      · exact hgA g (by simp [s4.subset k])
    · obtain ⟨a, t0, b, d⟩ := I.iop p' hp'
      refine ⟨a, ?_⟩
      by_cases z : i = 0
      · subst z
        exact ⟨.ins true D (fs'.map (·.1)) xs', List.getElem?_set_self hlt, rfl⟩
      · exact ⟨t0, by rw [List.getElem?_set_ne z]; exact b, d⟩
/-- a value on top becomes one more name's content, and back -/
theorem Sim.toEnd (I : Sim c F H σ ρ (t :: tt) (v :: tv)) : Sim c F H (σ ++ [some v]) (ρ ++ [some t]) tt tv := by
  obtain ⟨G, l, nd, hg⟩ := I.live
  have tl := I.tl
  simp only [List.length_cons] at tl
  have hl := I.len
  have l' : Live c.K F H (some t :: ((tt.map some ++ ρ) ++ [])) (some v :: ((tv.map some ++ σ) ++ [])) G := by
    iterate 2 rw [List.append_nil]
    exact l
  obtain ⟨G', pm, q⟩ := Live.mid' (by simp; omega) l'
  refine ⟨I.ex, I.fx, I.fn, I.keep, I.dom, by omega, ⟨G', by simpa [List.append_assoc] using q, pm.nodup_iff.mp nd, fun g hm => hg g (pm.mem_iff.mpr hm)⟩, fun p hp => ?_⟩
  obtain ⟨a, t0, b, d⟩ := I.iop p hp
  have h0 : 0 < σ.length := (List.getElem?_eq_some_iff.mp a).1
  have h1 : 0 < ρ.length := (List.getElem?_eq_some_iff.mp b).1
  exact ⟨by rw [List.getElem?_append_left h0]; exact a, t0, by rw [List.getElem?_append_left h1]; exact b, d⟩
theorem Sim.ofEnd (I : Sim c F H (σ ++ [some v]) (ρ ++ [some t]) tt tv) (hlen : ρ.length = σ.length) (hio : c.io = none ∨ 0 < σ.length) : Sim c F H σ ρ (t :: tt) (v :: tv) := by
  obtain ⟨G, l, nd, hg⟩ := I.live
  have tl := I.tl
  have l' : Live c.K F H ((tt.map some ++ ρ) ++ some t :: []) ((tv.map some ++ σ) ++ some v :: []) G := by simpa [List.append_assoc] using l
  obtain ⟨G', pm, q⟩ := Live.mid (by simp; omega) l'
  iterate 2 rw [List.append_nil] at q
  refine ⟨I.ex, I.fx, I.fn, I.keep, I.dom, by simp only [List.length_cons]; omega, ⟨G', q, pm.nodup_iff.mp nd, fun g hm => hg g (pm.mem_iff.mpr hm)⟩, fun p hp => ?_⟩
  obtain ⟨a, t0, b, d⟩ := I.iop p hp
  have h0 : 0 < σ.length := by
    rcases hio with h | h
    · rw [h] at hp; cases hp
    · exact h
  have h1 : 0 < ρ.length := by omega
  exact ⟨by rwa [List.getElem?_append_left h0] at a, t0, by rwa [List.getElem?_append_left h1] at b, d⟩
end
end L3

namespace L3
open PySem L2 PySem.Spec PyProof.Rows
theorem CX_nox {P : Program} {w : World} {l : List Env} {H : Hp} {s s' : Shared} {e : Value} (h : L2N.CX P w l H s (fun _ _ _ => False) e s') : False := by
  rcases h with ⟨_, _, _, _, _, _, _, _, _, _, _, _, no⟩
  exact no
section
variable {X : Cx} {c : Cst} {W : WX} {R : Addr → Rho → Prop} {k n np : Nat} {f D : Addr} {fd : FuncData} {ps : List Str} {g : G3} {x m fl : Str} {p pos apos pos' : Pos} {e o : Expr} {es : List Expr} {was : WA} {w : WE}
/-! ### o.f -/
@[simp] def wFld (D : Addr) (fl : Str) (w : WE) (ρ : Rho) (Q : T → Rho → Prop) : Prop := w ρ fun t ρ1 => match t with
  | .ins _ D' ns xs => D' = D ∧ (match fldI fl ns with | some j => (match xs[j]? with | some u => Q u ρ1 | none => False) | none => False)
  | _ => False
theorem ve_fld (he : VE X c e w) (cl : Cls X.K D) (na : NoAttr X.K D fl) (hb : attributeBase e fl X.env (eval e X.env) = eval e X.env := by rfl) : VE X c (.Attribute e fl pos) (wFld D fl w) := by
  obtain ⟨te, pe, ke⟩ := he
  refine ⟨_, pe_fld pe hb, fun F H σ ρ tt tv Q P I h k => ke F H σ ρ tt tv _ _ I h fun v H1 F1 t ρ1 I1 q => ?_⟩
  split at q
  · rename_i oo D' ns xs
    obtain ⟨rfl, q⟩ := q
    obtain ⟨a, dx, fs, rfl, ha, hns, hl, J⟩ := I1.opIns
    split at q
    · rename_i j hj
      split at q
      · rename_i u hu
        have hjl := (List.getElem?_eq_some_iff.mp hu).1
        obtain ⟨y, hy⟩ : ∃ y, (fs.map (·.2))[j]? = some y := ⟨_, List.getElem?_eq_getElem (by omega)⟩
        rw [← hns] at hj
        exact ⟨a, _, dx, fs, y, rfl, ha, cl, na, (lookup_fldI hj).trans hy, k _ _ _ _ _ (J.keepAt hl hu hy) q⟩
      · exact q.elim
    · exact q.elim
  · exact q.elim
/-! ### x.f = e, x.f op= e -/
@[simp] def wSetF (i : Nat) (D : Addr) (fl : Str) (w : WE) (E : En) (ρ : Rho) : Prop := w ρ fun t ρ1 => match ρ1[i]? with
  | some (some (.ins true D' ns xs)) => D' = D ∧ xs.length < 1000 ∧ E.nx (ρ1.set i (some (.ins true D (putN fl ns) (putX fl t ns xs))))
  | _ => False
theorem ins_of {ρ : Rho} {i : Nat} {P : Addr → List Str → List T → Prop} (h : match ρ[i]? with | some (some (.ins true D' ns xs)) => P D' ns xs | _ => False) : ∃ D' ns xs, ρ[i]? = some (some (.ins true D' ns xs)) ∧ P D' ns xs := by
  split at h
  · exact ⟨_, _, _, by assumption, h⟩
  · exact h.elim
theorem vs_setF (i : Nat) {xn : Str} {pn : Pos} (he : VE X c e w) (cl : Cls X.K D) (na : NoAttr X.K D fl) (hN : X.N[i]? = some xn := by rfl) (hv : Vis X.env.scope xn := by first | exact Or.inl rfl | exact Or.inr (Or.inl rfl) | exact Or.inr (Or.inr rfl)) (hd : (xn == ("__debug__" : Str)) = false := by decide)
    (hcd : (xn == ("__classdict__" : Str)) = false := by decide) (hs : swapsWith e (some (.Attribute (.Name xn pn) fl pos')) pos.line X.env = pure false := by rfl) :
    VS X c (.Assign [.Attribute (.Name xn pn) fl pos'] e pos) (wSetF i D fl w) := by
  obtain ⟨te, pe, ke⟩ := he
  refine ⟨_, ps_fld (pe_var (i := i) hN hv hd hcd) pe hs, fun F H σ ρ tt tv DD E I mm h => ke F H σ ρ tt tv _ _ I h fun v H1 F1 t ρ1 I1 q => ?_⟩
  obtain ⟨D', ns, xs, e0, rfl, hlen, q⟩ := ins_of (P := fun D' ns xs => D' = D ∧ xs.length < 1000 ∧ E.nx (ρ1.set i (some (.ins true D (putN fl ns) (putX fl t ns xs))))) q
  have I2 : Sim c F1 H1 σ ρ1 ([t] ++ tt) ([v] ++ tv) := I1
  obtain ⟨a, dx, fs, Gx, Gt, s1, hH, hns, r1, r2, mk⟩ := I2.mutI rfl e0
  obtain ⟨Gt', ht, eG⟩ : ∃ G, Tr c.K F1 H1 t v G ∧ Gt = G := by
    cases r2 with
    | cons h q =>
      cases q
      exact ⟨_, h, List.append_nil _⟩
  subst eG
  obtain ⟨G', P, r', sub, pm⟩ := TrL.putF (f := fl) ht r1
  have J := mk _ _ _ _ r' sub pm
  rw [putN_eq, hns] at J
  have hfl : fs.length < 1000 := by
    have h1 := r1.length
    rw [List.length_map] at h1
    omega
  exact ⟨.ref a, s1, a, _, dx, fs, rfl, hH, cl, na, hfl, mm.nx _ _ _ _ J q⟩
@[simp] def wAugF (i : Nat) (D : Addr) (fl : Str) (fo : F2) (w : WE) (E : En) (ρ : Rho) : Prop := match ρ[i]? with
  | some (some (.ins true D' ns xs)) => D' = D ∧ (match fldI fl ns with
    | some j => (match xs[j]? with
      | some u => stb u = true ∧ w ρ fun t ρ1 => fo u t fun r => (match ρ1[i]? with
        | some (some (.ins true D2 ns2 xs2)) => D2 = D ∧ xs2.length < 1000 ∧ E.nx (ρ1.set i (some (.ins true D (putN fl ns2) (putX fl r ns2 xs2))))
        | _ => False)
      | none => False)
    | none => False)
  | _ => False
theorem vs_augF (i : Nat) {xn : Str} {pn : Pos} {op : Operator} {r : R2} {fo : F2} (ho : OpR X (inplaceOp op) r) (hr : Op2 c r fo) (he : VE X c e w) (cl : Cls X.K D) (na : NoAttr X.K D fl) (hN : X.N[i]? = some xn := by rfl) (hv : Vis X.env.scope xn := by first | exact Or.inl rfl | exact Or.inr (Or.inl rfl) | exact Or.inr (Or.inr rfl)) (hd : (xn == ("__debug__" : Str)) = false := by decide)
    (hcd : (xn == ("__classdict__" : Str)) = false := by decide) : VS X c (.AugAssign (.Attribute (.Name xn pn) fl pos') op e pos) (wAugF i D fl fo w) := by
  obtain ⟨te, pe, ke⟩ := he
  refine ⟨_, ps_fldaug (rd := r) (pe_var (i := i) hN hv hd hcd) pe (fun pins s σ H x y u v Q I rx ry h => ho pins s σ H x y u v Q I rx ry h), fun F H σ ρ tt tv DD E I mm h => ?_⟩
  obtain ⟨D', ns, xs, e0, rfl, h⟩ := ins_of (P := fun D' ns xs => D' = D ∧ (match fldI fl ns with
    | some j => (match xs[j]? with
      | some u => stb u = true ∧ w ρ fun t ρ1 => fo u t fun r => (match ρ1[i]? with
        | some (some (.ins true D2 ns2 xs2)) => D2 = D ∧ xs2.length < 1000 ∧ E.nx (ρ1.set i (some (.ins true D (putN fl ns2) (putX fl r ns2 xs2))))
        | _ => False)
      | none => False)
    | none => False)) h
  obtain ⟨a, dx, fs, Gx, Gt, s1, hH, hns, r1, _, _⟩ := Sim.mutI (ts := []) (vs := []) I rfl e0
  split at h
  · rename_i j hj
    split at h
    · rename_i u hu
      obtain ⟨hst, h⟩ := h
      obtain ⟨y, Gy, hy, ty, _⟩ := r1.get hu
      have eg := ty.stb_nil hst
      subst eg
      rw [← hns] at hj
      refine ⟨.ref a, s1, a, _, dx, fs, y, rfl, hH, cl, na, (lookup_fldI hj).trans hy, ke F H σ ρ _ _ _ _ (I.pushG ty rfl) h fun z H1 F1 t ρ1 I1 q => ?_⟩
      refine hr F1 H1 σ ρ1 tt tv _ _ _ _ _ _ I1 q fun y2 H2 F2 r2 I2 q2 => ?_
      obtain ⟨D2, ns2, xs2, e2, rfl, hlen, q3⟩ := ins_of (P := fun D2 ns2 xs2 => D2 = _ ∧ xs2.length < 1000 ∧ E.nx (ρ1.set i (some (.ins true _ (putN fl ns2) (putX fl r2 ns2 xs2))))) q2
      have I3 : Sim c F2 H2 σ ρ1 ([r2] ++ tt) ([y2] ++ tv) := I2
      obtain ⟨a', dx', fs', Gx', Gt', s1', hH', hns', r1', r2', mk⟩ := I3.mutI rfl e2
      rw [s1] at s1'
      cases s1'
      obtain ⟨G3, ht, eG⟩ : ∃ G, Tr c.K F2 H2 r2 y2 G ∧ Gt' = G := by
        cases r2' with
        | cons h q =>
          cases q
          exact ⟨_, h, List.append_nil _⟩
      subst eG
      obtain ⟨G', P, r', sub, pm⟩ := TrL.putF (f := fl) ht r1'
      have J := mk _ _ _ _ r' sub pm
      rw [putN_eq, hns'] at J
      have hfl : fs'.length < 1000 := by
        have h1 := r1'.length
        rw [List.length_map] at h1
        omega
      exact ⟨dx', fs', hH', hfl, mm.nx _ _ _ _ J q3⟩
    · exact h.elim
  · exact h.elim
/-! ### the arguments of a call as one row of trees -/
def VAg (X : Cx) (c : Cst) (pos : Pos) (es : List Expr) (kws : List Keyword) (np : Nat) (ks : List Str) (was : WA) : Prop :=
  ∃ t : TA, Ag X pos es kws np ks t ∧ ∀ (F H : Hp) (σ : L2.St) (ρ : Rho) (tt : List T) (tv : List V) (Q : List T → Rho → Prop) (P : List V → Hp → Prop), Sim c F H σ ρ tt tv → was ρ Q →
    (∀ vs H' F' ts ρ', Sim c F' H' σ ρ' (ts ++ tt) (vs ++ tv) → ts.length = vs.length → Q ts ρ' → P vs H') → t σ H P
@[simp] def wN (np : Nat) (was : WA) (ρ : Rho) (Q : List T → Rho → Prop) : Prop := was ρ fun ts ρ1 => ts.length = np ∧ Q ts ρ1
@[simp] def wTwo (np nk : Nat) (was wks : WA) (ρ : Rho) (Q : List T → Rho → Prop) : Prop := was ρ fun ts ρ1 => wks ρ1 fun us ρ2 => ts.length = np ∧ us.length = nk ∧ Q (ts ++ us) ρ2
theorem vag_none : VAg X c pos [] [] 0 [] wNil := ⟨_, ag_none, fun F H σ ρ tt tv Q P I h k => k [] H F [] ρ I rfl h⟩
theorem vag_pos (np : Nat) (ha : VA X c (e :: es) was) (st : starEach (e :: es) X.env = (false, eval e X.env) :: starEach es X.env := by rfl) (pl : (backTo pos (starEach es X.env)).any (·.1) = false := by rfl) : VAg X c pos (e :: es) [] np [] (wN np was) := by
  obtain ⟨ta, pa, ka⟩ := ha
  exact ⟨_, ag_pos pa st pl, fun F H σ ρ tt tv Q P I h k => ka F H σ ρ tt tv _ _ I h fun vs H1 F1 ts ρ1 I1 hl q => ⟨hl ▸ q.1, k vs H1 F1 ts ρ1 I1 hl q.2⟩⟩
theorem vag_kw {kws : List Keyword} {ks : List Str} (hk : VK2 X c kws was) (hall : (backToKw pos (keywordEach kws X.env)).all (·.1.isSome) = true := by rfl) (hks : (backToKw pos (keywordEach kws X.env)).filterMap (·.1) = ks := by rfl)
    (pl : ((backTo pos (starEach [] X.env)).any (·.1) || (backToKw pos (keywordEach kws X.env)).any (·.1.isNone)) = false := by rfl) : VAg X c pos [] kws 0 ks (wN ks.length was) := by
  obtain ⟨ta, pa, ka⟩ := hk
  exact ⟨_, ag_kw pa hall hks pl, fun F H σ ρ tt tv Q P I h k => ka F H σ ρ tt tv _ _ I h fun vs H1 F1 ts ρ1 I1 hl q => ⟨hl ▸ q.1, k vs H1 F1 ts ρ1 I1 hl q.2⟩⟩
theorem vag_two (np : Nat) {wks : WA} {kws : List Keyword} {ks : List Str} (ha : VA X c (e :: es) was) (hk : VK2 X c kws wks) (st : starEach (e :: es) X.env = (false, eval e X.env) :: starEach es X.env := by rfl)
    (hall : (backToKw pos (keywordEach kws X.env)).all (·.1.isSome) = true := by rfl) (hks : (backToKw pos (keywordEach kws X.env)).filterMap (·.1) = ks := by rfl)
    (pl : ((backTo pos (starEach (e :: es) X.env)).any (·.1) || (backToKw pos (keywordEach kws X.env)).any (·.1.isNone)) = false := by rfl) : VAg X c pos (e :: es) kws np ks (wTwo np ks.length was wks) := by
  obtain ⟨ta, pa, ka⟩ := ha
  obtain ⟨tb, pb, kb⟩ := hk
  refine ⟨_, ag_two pa pb st hall hks pl, fun F H σ ρ tt tv Q P I h k => ka F H σ ρ tt tv _ _ I h fun vs H1 F1 ts ρ1 I1 hl q => kb F1 H1 σ ρ1 _ _ _ _ I1 q fun us H2 F2 tus ρ2 I2 hl2 q2 => ?_⟩
  exact ⟨hl ▸ q2.1, hl2 ▸ q2.2.1, k _ H2 F2 _ ρ2 (Sim.exch I2 hl2 hl) (by simp [hl, hl2]) q2.2.2⟩
/-- what lies on top, frozen and picked -/
theorem Sim.picked {F H : Hp} {σ : L2.St} {ρ : Rho} {tt ts : List T} {tv vs : List V} (I : Sim c F H σ ρ (ts ++ tt) (vs ++ tv)) (hl : ts.length = vs.length) (jx : List Nat) : ∃ F', Sim c F' H σ ρ (pick jx (frL ts) ++ tt) (pick jx vs ++ tv) ∧ (pick jx (frL ts)).length = (pick jx vs).length := by
  obtain ⟨F', _, J, r⟩ := sim_pick I hl jx
  exact ⟨F', J.pushL r, r.length⟩
theorem frL_pick (ts : List T) (jx : List Nat) : frL (pick jx (frL ts)) = pick jx (frL ts) := frL_stb _ (stbL_pick jx)
/-! ### o.m(..), nothing handed in to be changed -/
@[simp] def wMeth (D : Addr) (m : Str) (n : Nat) (jx : List Nat) (g : G3) (R : Addr → Rho → Prop) (w : WE) (was : WA) (ρ : Rho) (Q : T → Rho → Prop) : Prop := w ρ fun t ρ1 => match t with
  | .ins oo D' ns xs => (D' = D ∧ fldI m ns = none) ∧ was ρ1 fun ts ρ2 => (pick jx (frL ts)).length + 1 = n ∧ g (fr (.ins oo D' ns xs) :: pick jx (frL ts)) (fun r _ => Q r ρ2) fun a _ => R a ρ2
  | _ => False
/-- what is known of a method of the class at D -/
structure Mf (X : Cx) (D : Addr) (m : Str) (k : Nat) (f : Addr) (fd : FuncData) (ps : List Str) (n : Nat) (io : Bool) (g : G3) : Prop where
  G : FnG X.prog X.w X.K X.mg X.base (L2N.CX X.prog X.w) k f fd ps (Low X.K n io g)
  cl : Cls X.K D
  mt : Meth X.K D m f
theorem ve_meth {np : Nat} {ks : List Str} {jx : List Nat} {kws : List Keyword} {pl : Sem Bool} (M : Mf X D m k f fd ps n false g) (b : Bnd X.K fd ps (np + 1) ks (0 :: jx.map (· + 1))) (hr : Room k X.A) (kn : Kn X c W R) (he : VE X c o w) (ha : VAg X c pos es kws np ks was)
    (form : MethForm X o m es kws apos pos pl := by rfl) : VE X c (.Call (.Attribute o m apos) es kws pos) (wMeth D m n jx g R w was) := by
  obtain ⟨te, pe, ke⟩ := he
  obtain ⟨ta, pa, ka⟩ := ha
  refine ⟨_, pe_methG (pl := pl) pe M.cl M.mt M.G hr kn.gd b (fun σ => L2N.passAt kn.tk σ) pa form, fun F H σ ρ tt tv Q P I h kk => ke F H σ ρ tt tv _ _ I h fun v H1 F1 t ρ1 I1 q => ?_⟩
  split at q
  · rename_i oo D' ns xs
    obtain ⟨⟨rfl, hm⟩, q⟩ := q
    obtain ⟨a, dx, fs, rfl, there, hns, hl, J⟩ := I1.opIns
    rw [← hns] at hm
    refine ⟨a, dx, fs, rfl, there, lookup_none hm, ka F1 H1 σ ρ1 _ _ _ _ I1 q fun vs H2 F2 ts ρ2 I2 hl2 q2 => ?_⟩
    obtain ⟨F3, I3, hl3⟩ := I2.picked hl2 jx
    have I4 : Sim c F3 H2 σ ρ2 ((.ins oo D' ns xs :: pick jx (frL ts)) ++ tt) ((.ref a :: pick jx vs) ++ tv) := I3.mid hl3
    rw [kn.hK]
    refine I4.low (by simp [hl3]) q2.1 ?_ (fun t t0 F' H' v J q => kk _ _ _ _ _ J q) fun a t0 F' H' J q => kn.lk F' H' σ ρ2 tt tv a J q
    have e : frL (.ins oo D' ns xs :: pick jx (frL ts)) = fr (.ins oo D' ns xs) :: pick jx (frL ts) := by rw [frL, frL_pick]
    rw [e]
    exact q2.2
  · exact q.elim
/-! ### x.m(..), what x holds handed in to be changed -/
@[simp] def isIns (D : Addr) (m : Str) : Option (Option T) → Prop
  | some (some (.ins true D' ns _)) => D' = D ∧ fldI m ns = none
  | _ => False
@[simp] def wMethIo (n i : Nat) (D : Addr) (m : Str) (jx : List Nat) (g : G3) (R : Addr → Rho → Prop) (was : WA) (ρ : Rho) (Q : T → Rho → Prop) : Prop := isIns D m ρ[i]? ∧ was ρ fun ts ρ1 => match ρ1[i]? with
  | some (some t0) => own t0 = true ∧ (pick jx (frL ts)).length + 1 = n ∧ g (t0 :: pick jx (frL ts)) (fun t t1 => Q t (ρ1.set i (some t1))) fun a t1 => R a (ρ1.set i (some t1))
  | _ => False
theorem ve_methIo (i : Nat) {xn : Str} {pn : Pos} {np : Nat} {ks : List Str} {jx : List Nat} {kws : List Keyword} {pl : Sem Bool} (M : Mf X D m k f fd ps n true g) (b : Bnd X.K fd ps (np + 1) ks (0 :: jx.map (· + 1))) (hr : Room k X.A) (kn : Kn X c W R) (ha : VAg X c pos es kws np ks was)
    (hN : X.N[i]? = some xn := by rfl) (hv : Vis X.env.scope xn := by first | exact Or.inl rfl | exact Or.inr (Or.inl rfl) | exact Or.inr (Or.inr rfl)) (hd : (xn == ("__debug__" : Str)) = false := by decide) (hcd : (xn == ("__classdict__" : Str)) = false := by decide)
    (form : MethForm X (.Name xn pn) m es kws apos pos pl := by rfl) : VE X c (.Call (.Attribute (.Name xn pn) m apos) es kws pos) (wMethIo n i D m jx g R was) := by
  obtain ⟨ta, pa, ka⟩ := ha
  refine ⟨_, pe_methG (pl := pl) (pe_var (i := i) hN hv hd hcd) M.cl M.mt M.G hr kn.gd b (fun σ => L2N.passAt kn.tk σ) pa form, fun F H σ ρ tt tv Q P I h kk => ?_⟩
  obtain ⟨h0, h⟩ := h
  obtain ⟨D', ns, xs, e0, rfl, hm⟩ : ∃ D' ns xs, ρ[i]? = some (some (.ins true D' ns xs)) ∧ D' = D ∧ fldI m ns = none := by
    match z : ρ[i]?, h0 with
    | some (some (.ins true D' ns xs)), h0 => exact ⟨D', ns, xs, rfl, h0.1, h0.2⟩
  obtain ⟨a, dx, fs, Gx, Gt, s1, hH, hns, r1, _, _⟩ := Sim.mutI (ts := []) (vs := []) I rfl e0
  rw [← hns] at hm
  refine ⟨.ref a, s1, a, dx, fs, rfl, hH, lookup_none hm, ka F H σ ρ tt tv _ _ I h fun vs H1 F1 ts ρ1 I1 hl q => ?_⟩
  obtain ⟨t0, e2, o2, hn, hg2⟩ := slot_of (P := fun t0 => own t0 = true ∧ (pick jx (frL ts)).length + 1 = n ∧ g (t0 :: pick jx (frL ts)) (fun t t1 => Q t (ρ1.set i (some t1))) fun a t1 => R a (ρ1.set i (some t1))) q
  obtain ⟨F2, I2, hl2⟩ := I1.picked hl jx
  rw [kn.hK]
  rw [← frL_pick] at hg2
  exact I2.lowIo hl2 hn s1 e2 o2 hg2 (fun t t1 F' H' v J q => kk _ _ _ _ _ J q) fun a t1 F' H' J q => kn.lk F' H' σ _ tt tv a J q
/-! ### o.p, a property -/
@[simp] def wProp (D : Addr) (g : G3) (w : WE) (ρ : Rho) (Q : T → Rho → Prop) : Prop := w ρ fun t ρ1 => match t with
  | .ins oo D' ns xs => D' = D ∧ g [fr (.ins oo D' ns xs)] (fun r _ => Q r ρ1) fun _ _ => False
  | _ => False
theorem ve_prop {pp : Addr} (cl : Cls X.K D) (hp : PropOf X.K D fl pp f) (G : FnG X.prog X.w X.K X.mg X.base (L2N.CX X.prog X.w) k f fd ps (Low X.K 1 false g)) (b : Bnd X.K fd ps 1 [] [0]) (hr : Room (k + 1) X.A) (gd : X.A.guards = some []) (he : VE X c o w) (hK : X.K = c.K := by rfl)
    (hab : attributeBase o fl X.env (eval o X.env) = eval o X.env := by rfl) : VE X c (.Attribute o fl pos) (wProp D g w) := by
  obtain ⟨te, pe, ke⟩ := he
  refine ⟨_, pe_propG (E := fun _ _ _ => False) pe cl hp G hr gd b (fun pins σ H s er s' I h => CX_nox h) hab, fun F H σ ρ tt tv Q P I h k => ke F H σ ρ tt tv _ _ I h fun v H1 F1 t ρ1 I1 q => ?_⟩
  split at q
  · rename_i oo D' ns xs
    obtain ⟨rfl, q⟩ := q
    obtain ⟨a, dx, fs, rfl, ha, hns, hl, J⟩ := I1.opIns
    have I2 : Sim c F1 H1 σ ρ1 ([.ins oo D' ns xs] ++ tt) ([.ref a] ++ tv) := I1
    refine ⟨a, dx, fs, rfl, ha, ?_⟩
    rw [hK]
    have := I2.low (E := fun _ _ _ => False) (n := 1) (g := g) (Q := P) (q := fun r _ => Q r ρ1) (R := fun _ _ => False) rfl rfl (by simpa using q) (fun t t0 F' H' v J q => k _ _ _ _ _ J q) fun a t0 F' H' J q => q
    exact this
  · exact q.elim
end
end L3

namespace L3
open PySem L2 PySem.Spec PyProof.Rows
section
variable {c : Cst} {F H : Hp} {σ : L2.St} {ρ : Rho} {tt ts xs : List T} {tv vs : List V} {t : T} {v : V} {D : Addr}
/-- a new instance on top -/
theorem Sim.newIns {p dx : Addr} (I : Sim c F H σ ρ tt tv) (hp : H p = none) (hd : H dx = none) (hne : dx ≠ p) : Sim c F (upd (upd H dx (.own p)) p (.ins D dx [])) σ ρ (.ins true D [] [] :: tt) (.ref p :: tv) := by
  have hp2 : (upd H dx (.own p)) p = none := by rw [upd_ne hne.symm]; exact hp
  have e1 : Ex H (upd H dx (.own p)) := Ex.new (o := .own p) hd
  have e2 : Ex (upd H dx (.own p)) (upd (upd H dx (.own p)) p (.ins D dx [])) := Ex.new (o := .ins D dx []) hp2
  have J := I.grow (e1.trans e2)
  obtain ⟨G, l, nd, hg⟩ := I.live
  have hpG : p ∉ G := fun z => by
    rcases l.there p z with ⟨_, h⟩ | ⟨_, h⟩ | ⟨_, _, _, h⟩ <;> (rw [hp] at h; cases h)
  have k : ∀ g ∈ G, (upd (upd H dx (.own p)) p (.ins D dx [])) g = H g := fun g hm => by
    have n1 : g ≠ p := fun z => hpG (z ▸ hm)
    have n2 : g ≠ dx := fun z => by
      rcases l.there g hm with ⟨_, h⟩ | ⟨_, h⟩ | ⟨_, _, _, h⟩ <;> (rw [z, hd] at h; cases h)
    rw [upd_ne n1, upd_ne n2]
  refine ⟨J.ex, J.fx, J.fn, J.keep, J.dom, by simp [I.tl], ⟨p :: G, ?_, List.nodup_cons.mpr ⟨hpG, nd⟩, fun g hm => ?_⟩, I.iop⟩
  · exact Live.cons (G1 := [p]) (.insT (fs := []) (dx := dx) upd_same .nil) (l.mono (Ex.refl F) k)
  · rcases List.mem_cons.mp hm with rfl | hm
    · exact ⟨I.freshF hp, .inl (I.fresh0 hp)⟩
    · exact hg g hm
end
section
variable {X : Cx} {c : Cst} {W : WX} {R : Addr → Rho → Prop} {k n np : Nat} {f D : Addr} {fd : FuncData} {ps : List Str} {g : G3} {x m fl : Str} {p pos apos pos' : Pos} {e o : Expr} {es : List Expr} {was wks : WA} {w : WE} {kws : List Keyword} {ks : List Str}
/-! ### C(..) -/
@[simp] def wMake (D : Addr) (n : Nat) (jx : List Nat) (g : G3) (R : Addr → Rho → Prop) (was : WA) (ρ : Rho) (Q : T → Rho → Prop) : Prop := was ρ fun ts ρ1 => (pick jx (frL ts)).length + 1 = n ∧ g (.ins true D [] [] :: pick jx (frL ts)) (fun t t1 => t = .non ∧ Q t1 ρ1) fun a _ => R a ρ1
theorem Sim.non_top {F H : Hp} {σ : L2.St} {ρ : Rho} {tt : List T} {tv : List V} {v : V} (I : Sim c F H σ ρ (.non :: tt) (v :: tv)) : v = .non := by
  obtain ⟨_, _, h, _⟩ := I.top
  cases h
  rfl
/-- what C asks, once its arguments lie on top -/
theorem Sim.lowMake {F H : Hp} {σ : L2.St} {ρ : Rho} {tt ts : List T} {tv vs : List V} {E : XK} {Q : VK} {qq : T → Prop} {RR : Addr → Prop} {p dx : Addr} (I : Sim c F H σ ρ (ts ++ tt) (vs ++ tv)) (hl : ts.length = vs.length) (hn : ts.length + 1 = n) (hp : H p = none) (hd : H dx = none) (hne : dx ≠ p)
    (h : g (.ins true D [] [] :: frL ts) (fun t t1 => t = .non ∧ qq t1) fun a _ => RR a)
    (hq : ∀ t1 F' H', Sim c F' H' σ ρ (t1 :: tt) (.ref p :: tv) → qq t1 → Q (.ref p) H') (hR : ∀ a F' H', Sim c F' H' σ ρ tt tv → RR a → E (.ref a) none H') :
    Low c.K n true g (.ref p :: vs) (upd (upd H dx (.own p)) p (.ins D dx [])) (fun v H3 => v = .non ∧ Q (.ref p) H3) E := by
  have J := (I.newIns (D := D) hp hd hne).toEnd
  have hlen := I.len
  have e1 : (σ ++ [some (V.ref p)])[ρ.length]? = some (some (.ref p)) := by rw [List.getElem?_append_right (by omega)]; simp [hlen]
  have e2 : (ρ ++ [some (T.ins true D [] [])])[ρ.length]? = some (some (.ins true D [] [])) := by rw [List.getElem?_append_right (by omega)]; simp
  have set1 : ∀ t1 : T, (ρ ++ [some (T.ins true D [] [])]).set ρ.length (some t1) = ρ ++ [some t1] := fun t1 => by
    rw [List.set_append_right _ _ (Nat.le_refl _), Nat.sub_self]
    rfl
  have hio : c.io = none ∨ 0 < σ.length := by
    cases z : c.io with
    | none => exact .inl rfl
    | some q => exact .inr (List.getElem?_eq_some_iff.mp (I.iop q z).1).1
  refine J.lowIo (ts := ts) hl hn e1 e2 rfl h (fun t t1 F' H' v K q => ?_) fun a t1 F' H' K q => ?_
  · obtain ⟨rfl, q⟩ := q
    have ev := K.non_top
    subst ev
    have K2 := K.drop
    rw [set1] at K2
    exact ⟨rfl, hq t1 F' H' (K2.ofEnd hlen.symm hio) q⟩
  · rw [set1] at K
    exact hR a F' H' (K.ofEnd hlen.symm hio).drop q
/-- a class of the text, with its __init__ -/
structure Kf (X : Cx) (D : Addr) (x : Str) (k : Nat) (f : Addr) (fd : FuncData) (ps : List Str) (n : Nat) (g : G3) : Prop where
  G : FnG X.prog X.w X.K X.mg X.base (L2N.CX X.prog X.w) k f fd ps (Low X.K n true g)
  mk_ : Mk X.K D f
  mx : X.mg x = some (.ref D)
theorem ve_make {ks : List Str} {jx : List Nat} {kws : List Keyword} (M : Kf X D x k f fd ps n g) (b : Bnd X.K fd ps (np + 1) ks (0 :: jx.map (· + 1))) (hr : Room (k + 1) X.A) (kn : Kn X c W R) (ha : VAg X c pos es kws np ks was) (hg : Gl X x := by rfl) (hdb : (x == ("__debug__" : Str)) = false := by decide) :
    VE X c (.Call (.Name x p) es kws pos) (wMake D n jx g R was) := by
  obtain ⟨ta, pa, ka⟩ := ha
  refine ⟨_, pe_makeG M.mk_ M.G hr kn.gd hg M.mx b (fun σ => L2N.passAt kn.tk σ) pa hdb, fun F H σ ρ tt tv Q P I h kk => ka F H σ ρ tt tv _ _ I h fun vs H1 F1 ts ρ1 I1 hl q i di hi hdi hne => ?_⟩
  obtain ⟨F2, I2, hl2⟩ := I1.picked hl jx
  have q2 := q.2
  rw [← frL_pick] at q2
  rw [kn.hK]
  exact I2.lowMake (qq := fun t1 => Q t1 ρ1) (RR := fun a => R a ρ1) hl2 q.1 hi hdi hne q2 (fun t1 F' H' J z => kk _ _ _ _ _ J z) fun a F' H' J z => kn.lk F' H' σ ρ1 tt tv a J z
end
end L3

namespace L3
open PySem L2 PySem.Spec PyProof.Rows
/-! ### statements where nothing is on the way (a def's own level) -/
def VS0 (X : Cx) (c : Cst) (st : Stmt) (w : WS) : Prop :=
  ∃ ts : TS, PS X st ts ∧ ∀ (F H : Hp) (σ : L2.St) (ρ : Rho) (D : Ends) (E : En), Sim c F H σ ρ [] [] → Mt c D E [] [] → w E ρ → ts D σ H
def VB0 (X : Cx) (c : Cst) (sts : List Stmt) (w : WS) : Prop :=
  ∃ ts : TS, PSs X sts ts ∧ ∀ (F H : Hp) (σ : L2.St) (ρ : Rho) (D : Ends) (E : En), Sim c F H σ ρ [] [] → Mt c D E [] [] → w E ρ → ts D σ H
section
variable {X : Cx} {c : Cst} {st : Stmt} {sts : List Stmt} {wa wb : WS}
theorem vs0_of (h : VS X c st wa) : VS0 X c st wa := by
  obtain ⟨ts, ps, k⟩ := h
  exact ⟨ts, ps, fun F H σ ρ D E I m h => k F H σ ρ [] [] D E I m h⟩
theorem vb0_of (h : VB X c sts wa) : VB0 X c sts wa := by
  obtain ⟨ts, ps, k⟩ := h
  exact ⟨ts, ps, fun F H σ ρ D E I m h => k F H σ ρ [] [] D E I m h⟩
theorem vb0_one (h : VS0 X c st wa) : VB0 X c [st] wa := by
  obtain ⟨t1, p1, k1⟩ := h
  exact ⟨_, pss_one p1, k1⟩
theorem vb0_cons (h1 : VS0 X c st wa) (h2 : VB0 X c sts wb) : VB0 X c (st :: sts) (wSeq wa wb) := by
  obtain ⟨t1, p1, k1⟩ := h1
  obtain ⟨t2, p2, k2⟩ := h2
  exact ⟨_, pss_cons p1 p2, fun F H σ ρ D E I m h => k1 F H σ ρ _ { E with nx := wb E } I ⟨fun F H σ ρ J q => k2 F H σ ρ D E J m q, m.rt, m.bk, m.ct⟩ h⟩
end
section
variable {P : Program} {mg : Str → Option Value} {w : World} {base : Heap} {K : PySem.W.Frag}
/-- the rule for a def, whose body may hold a try -/
theorem fn30 {x qual : Str} {st : Stmt} {f : Addr} {fd : FuncData} {N ps : List Str} {k n : Nat} {io : Bool} {g : G3} (F : Fun K x qual st f fd) (S : FnScope N ps (defScope st)) (hn : ps.length = n)
    (hbody : ∀ (cdv : Value) (A : Around) (outer : List Env) (s : Shared) (F0 H : Hp) (G : List Addr) (vs : List V) (E : XK) (ts : List T) (Q : T → T → Prop) (R : Addr → T → Prop),
      Room k (A.deeper (envOfC qual (defScope st) s.heap.objs.size f cdv)) → A.guards = some [] → ts.length = n → g ts Q R →
      L2N.Takes (cxOf (L2N.CX P w) P w K mg base N qual (defScope st) f cdv A outer s H E) (WO E) → Lk (cstOf K io F0 H G vs) (fun a ρ => R a (ioR io ρ)) (WO E) →
      ∃ wb, VB0 (cxOf (L2N.CX P w) P w K mg base N qual (defScope st) f cdv A outer s H E) (cstOf K io F0 H G vs) (defBody st) wb ∧ wb { nx := fun ρ => Q .non (ioR io ρ), rt := fun t ρ => Q t (ioR io ρ) } (start3 N.length ts)) :
    FnG P w K mg base (L2N.CX P w) (k + 1) f fd ps (Low K n io g) := by
  refine fnG_of F S (fun vs H Q E h => ?_) (fun cdv A outer s H vs Q E hr gd h => ?_)
  · obtain ⟨F0, ts, G, _, r, _, _, hl, _⟩ := h
    rw [← r.length, hl, hn]
  · obtain ⟨F0, ts, G, ex, r, nd, hG, hl, ao, q, R, hg, hq, hR⟩ := h
    have lk : Lk (cstOf K io F0 H G vs) (fun a ρ => R a (ioR io ρ)) (WO E) := fun F' H' σ ρ tt tv a I h => by
      have J : Sim (cstOf K io F0 H G vs) F' H' σ ρ (tt ++ []) (tv ++ []) := by simpa using I
      have J2 : Sim (cstOf K io F0 H G vs) F' H' σ ρ [] [] := J.dropL I.tl
      exact hR _ _ h F' H' (post_of (rt := []) (rv := []) ao r rfl J2)
    obtain ⟨wb, ⟨tb, pb, kb⟩, hw⟩ := hbody cdv A outer s F0 H G vs E ts q R hr gd hl hg (L2N.takes_of rfl rfl rfl rfl) lk
    refine ⟨tb, pb, kb F0 H (start N vs) (start3 N.length ts) _ _ (sim_start ex r nd hG ao) ⟨fun F' H' σ ρ I h => ?_, fun F' H' σ ρ t v I h => ?_, fun _ _ _ _ _ (h : False) => h.elim, fun _ _ _ _ _ (h : False) => h.elim⟩ hw⟩
    · exact hq _ _ h F' H' .non (post_of ao r rfl (I.pushG .non rfl))
    · exact hq _ _ h F' H' v (post_of ao r rfl I)
end
section
variable {X : Cx} {c : Cst}
theorem raises_w {K : PySem.W.Frag} {C : Addr} (h1 : PySem.W.subIn K (.ref C) (.type "BaseException") = some true) (h2 : PySem.W.typeIn K (.ref C) = some (.type "type")) (X : Cx) (hK : X.K = K) : Raises X (.ref C) := by
  subst hK
  exact raises_own h1 h2
end
section
variable {X : Cx} {c : Cst} {W : WX} {R : Addr → Rho → Prop} {k n : Nat} {f D : Addr} {fd : FuncData} {ps : List Str} {g : G3} {m : Str} {pos apos : Pos} {e o : Expr} {es : List Expr} {was : WA} {w : WE}
/-! ### a method called on a value on the way, which is dropped -/
@[simp] def wMethIoS (n : Nat) (D : Addr) (m : Str) (jx : List Nat) (g : G3) (R : Addr → Rho → Prop) (w : WE) (was : WA) (ρ : Rho) (Q : T → Rho → Prop) : Prop := w ρ fun t ρ1 => match t with
  | .ins true D' ns xs => (D' = D ∧ fldI m ns = none) ∧ was ρ1 fun ts ρ2 => (pick jx (frL ts)).length + 1 = n ∧ g (.ins true D' ns xs :: pick jx (frL ts)) (fun r _ => Q r ρ2) fun a _ => R a ρ2
  | _ => False
theorem ve_methIoS {np : Nat} {ks : List Str} {jx : List Nat} {kws : List Keyword} {pl : Sem Bool} (M : Mf X D m k f fd ps n true g) (b : Bnd X.K fd ps (np + 1) ks (0 :: jx.map (· + 1))) (hr : Room k X.A) (kn : Kn X c W R) (he : VE X c o w) (ha : VAg X c pos es kws np ks was)
    (form : MethForm X o m es kws apos pos pl := by rfl) : VE X c (.Call (.Attribute o m apos) es kws pos) (wMethIoS n D m jx g R w was) := by
  obtain ⟨te, pe, ke⟩ := he
  obtain ⟨ta, pa, ka⟩ := ha
  refine ⟨_, pe_methG (pl := pl) pe M.cl M.mt M.G hr kn.gd b (fun σ => L2N.passAt kn.tk σ) pa form, fun F H σ ρ tt tv Q P I h kk => ke F H σ ρ tt tv _ _ I h fun v H1 F1 t ρ1 I1 q => ?_⟩
  split at q
  · rename_i D' ns xs
    obtain ⟨⟨rfl, hm⟩, q⟩ := q
    obtain ⟨a, dx, fs, rfl, there, hns, hl, _⟩ := I1.opIns
    rw [← hns] at hm
    refine ⟨a, dx, fs, rfl, there, lookup_none hm, ka F1 H1 σ ρ1 _ _ _ _ I1 q fun vs H2 F2 ts ρ2 I2 hl2 q2 => ?_⟩
    obtain ⟨F3, I3, hl3⟩ := I2.picked hl2 jx
    have I4 : Sim c F3 H2 σ ρ2 (.ins true D' ns xs :: (pick jx (frL ts) ++ tt)) (.ref a :: (pick jx vs ++ tv)) := I3.mid hl3
    have J := I4.toEnd
    have hlr := I2.len
    have e1 : (σ ++ [some (V.ref a)])[ρ2.length]? = some (some (.ref a)) := by
      rw [hlr.symm]
      simp
    have e2 : (ρ2 ++ [some (T.ins true D' ns xs)])[ρ2.length]? = some (some (.ins true D' ns xs)) := by simp
    have set1 : ∀ t1 : T, (ρ2 ++ [some (T.ins true D' ns xs)]).set ρ2.length (some t1) = ρ2 ++ [some t1] := fun t1 => by
      rw [List.set_append_right _ _ (Nat.le_refl _), Nat.sub_self]
      rfl
    have first : c.io = none ∨ 0 < σ.length := by
      cases z : c.io with
      | none => exact .inl rfl
      | some q => exact .inr (List.getElem?_eq_some_iff.mp (I.iop q z).1).1
    have q3 := q2.2
    rw [← frL_pick] at q3
    rw [kn.hK]
    refine J.lowIo hl3 q2.1 e1 e2 rfl q3 (fun t t1 F' H' v K q => ?_) fun a t1 F' H' K q => ?_
    · rw [set1] at K
      exact kk _ _ _ _ _ (K.ofEnd hlr.symm first).drop q
    · rw [set1] at K
      exact kn.lk F' H' σ ρ2 tt tv a (K.ofEnd hlr.symm first).drop q
  · exact q.elim
end
/-- an error of the class at C is caught by «except S» -/
theorem exm_of {K : PySem.W.Frag} {C S : Addr} (base : PySem.W.subIn K (.ref S) (.type "BaseException") = some true) (cls : PySem.W.isClsIn K S = true) (plain : PySem.W.typeIn K (.ref S) = some (.type "type")) (under : PySem.W.subIn K (.ref C) (.ref S) = some true) : PySem.W.exmOne K (.ref C) (.ref S) = some true := by
  have known : (PySem.W.clsIn K S).isSome = true := cls
  simp [PySem.W.exmOne, PySem.W.kitCls, base, known, plain, under]
end L3

namespace L3
open PySem L2 PySem.Spec PyProof.Rows
/-! ### an instance called; == by the class's own __eq__ -/
section
variable {X : Cx} {C : CXT} {k np : Nat} {f D : Addr} {fd : FuncData} {ps : List Str} {jx : List Nat} {sp : Sp} {E : L2.St → XK} {pos : Pos} {fe e : Expr} {es : List Expr} {tf : TE} {t : TA}
def tCallI (D : Addr) (sp : Sp) (np : Nat) (jx : List Nat) (E : L2.St → XK) (tf : TE) (t : TA) : TE := fun σ H Q => tf σ H fun y H1 => ∃ a, y = V.ref a ∧ t σ H1 fun vs H2 => vs.length = np ∧ (∃ dx fs, H2 a = some (.ins D dx fs)) ∧ sp (.ref a :: pick jx vs) H2 Q (E σ)
theorem pe_callI (hf : PE X fe tf) (ca : StX.CallO X.K D f) (G : FnG X.prog X.w X.K X.mg X.base C k f fd ps sp) (rm : Room k X.A) (gd : X.A.guards = some []) (b : Bnd X.K fd ps (np + 1) [] (0 :: jx.map (· + 1))) (hx : ∀ σ, PassesAt C X σ (E σ)) (ha : PA X (e :: es) t)
    (same : eval (.Call fe (e :: es) [] pos) X.env = (do callWith pos (← eval fe X.env) [] (backTo pos (starEach (e :: es) X.env)) (backToKw pos (keywordEach [] X.env))))
    (he : starEach (e :: es) X.env = (false, eval e X.env) :: starEach es X.env) (pl : (backTo pos (starEach es X.env)).any (·.1) = false) : PE X (.Call fe (e :: es) [] pos) (tCallI D sp np jx E tf t) := by
  constructor
  intro held s σ H Q I ask
  refine Call_ (thn (hf.run held s σ H _ I ask) fun u z got => ?_) same
  obtain ⟨y, H1, J, rel, a, rfl, ask1⟩ := got
  cases (show u = Value.ref a from rel)
  refine StX.callO_with (thn (ha.run pos held z σ H1 _ J ask1) fun us z2 got2 => ?_) he pl
  obtain ⟨vs, H2, J2, rel2, many, there, ask2⟩ := got2
  obtain ⟨ox, od, at_, plain⟩ := StX.insC_at J2 (.inr there)
  refine ⟨⟨D, ox, od, at_, plain⟩, ?_⟩
  apply wpAny_call
  refine PySem.W.kco_code J2.kIn at_ plain ca.at_ ca.fn ca.fi ?_
  have rel3 : Vals (V.ref a :: vs) ((Value.ref a :: us) ++ []) := by
    rw [List.append_nil]
    exact .cons rfl rel2
  have bound := b z2 (Value.ref a :: us) [] J2.kIn (by rw [List.length_cons, ← rel2.length, many]) rfl
  refine codeAny_mono (G.run X.A X.stack z2 H2 ⟨Value.ref a :: us, []⟩ _ _ Q (E σ) rm gd J2.env0 bound (vals_pick rel3 _) (by rw [pick_self]; exact ask2)) fun r y q => ?_
  have ends := went (hx σ) J2 q
  match r, ends with
  | .error _, ends => exact ends
  | .ok .next, ends => exact ends
  | .ok .brk, ends => exact ends
  | .ok .cont, ends => exact ends
  | .ok (.ret _), ends => exact ends
/-- a == b by the own __eq__ of D -/
def rOwnEq (D : Addr) (sp : Sp) : R2 := fun x y H Q => ∃ (a b dx dy : Addr) (fs gs : List (Str × V)), x = .ref a ∧ y = .ref b ∧ H a = some (.ins D dx fs) ∧ H b = some (.ins D dy gs) ∧ sp [.ref a, .ref b] H Q fun _ _ _ => False
theorem op_ownEq (mt : Meth X.K D "__eq__" f) (G : FnG X.prog X.w X.K X.mg X.base (L2N.CX X.prog X.w) k f fd ps sp) (rm : Room k X.A) (gd : X.A.guards = some []) (bnd : Bnd X.K fd ps 2 [] [0, 1]) : OpR X (compareOp .Eq) (rOwnEq D sp) := by
  intro held s σ H x y v u Q I is1 is2 ask
  obtain ⟨a, b, dx, dy, fs, gs, rfl, rfl, h1, h2, ask⟩ := ask
  cases is1
  cases is2
  obtain ⟨_, inst1, _⟩ := ins_get I.hok h1
  obtain ⟨_, inst2, _⟩ := ins_get I.hok h2
  obtain ⟨od1, at1, _⟩ := inst1.look
  obtain ⟨od2, at2, _⟩ := inst2.look
  obtain ⟨m, frame⟩ := I.fr
  refine PySem.W.cmp_K (op := .Eq) (tb := .ref D) rm.units0 frame I.ok.mod.kin at1 at2.type (by simp [PySem.W.notFirst]) mt.at_ mt.fn ?_
  have run := run_H (us := [.ref a, .ref b]) (ws := []) (vs := [.ref a, .ref b]) (ks := []) (ix := [0, 1]) (E := fun _ _ _ _ => False) (σ := σ) (held := held) (Q := Q) G rm gd bnd (fun pins H s er s' J q => (CX_nox q).elim) I (.cons rfl (.cons rfl .nil)) rfl rfl ask
  refine wpAny_mono run (fun w z got => ?_) fun _ _ z => z
  cases w <;> first | exact got | (obtain ⟨r, H1, J, rel, q⟩ := got; cases r <;> first | (obtain ⟨_, e⟩ := rel; cases e; done) | (cases rel; done))
end
section
variable {X : Cx} {c : Cst} {W : WX} {R : Addr → Rho → Prop} {k n : Nat} {f D : Addr} {fd : FuncData} {ps : List Str} {g : G3} {pos : Pos} {fe e : Expr} {es : List Expr} {was : WA} {w : WE}
@[simp] def wCallI (D : Addr) (n np : Nat) (jx : List Nat) (g : G3) (R : Addr → Rho → Prop) (w : WE) (was : WA) (ρ : Rho) (Q : T → Rho → Prop) : Prop := w ρ fun t ρ1 => match t with
  | .ins oo D' ns xs => D' = D ∧ was ρ1 fun ts ρ2 => ts.length = np ∧ (pick jx (frL ts)).length + 1 = n ∧ g (fr (.ins oo D' ns xs) :: pick jx (frL ts)) (fun r _ => Q r ρ2) fun a _ => R a ρ2
  | _ => False
theorem fnIn_of {x qual : Str} {st : Stmt} {K : PySem.W.Frag} (F : Fun K x qual st f fd) : PySem.W.fnIn K f = true := by
  obtain ⟨_, _, _, _, _, _, _, _, _, _, lk, _⟩ := F.ex
  unfold PySem.W.fnIn
  rw [lk]
theorem ve_callI {np : Nat} {jx : List Nat} (M : Mf X D "__call__" k f fd ps n false g) (fi : PySem.W.fnIn X.K f = true) (b : Bnd X.K fd ps (np + 1) [] (0 :: jx.map (· + 1))) (hr : Room k X.A) (kn : Kn X c W R) (ho : VE X c fe w) (ha : VA X c (e :: es) was)
    (same : eval (.Call fe (e :: es) [] pos) X.env = (do callWith pos (← eval fe X.env) [] (backTo pos (starEach (e :: es) X.env)) (backToKw pos (keywordEach [] X.env))) := by rfl)
    (he : starEach (e :: es) X.env = (false, eval e X.env) :: starEach es X.env := by rfl) (pl : (backTo pos (starEach es X.env)).any (·.1) = false := by rfl) : VE X c (.Call fe (e :: es) [] pos) (wCallI D n np jx g R w was) := by
  obtain ⟨te, pe, ke⟩ := ho
  obtain ⟨ta, pa, ka⟩ := ha
  refine ⟨_, pe_callI (np := np) pe ⟨M.mt.at_, M.mt.fn, fi⟩ M.G hr kn.gd b (fun σ => L2N.passAt kn.tk σ) pa same he pl, fun F H σ ρ tt tv Q P I ask next => ke F H σ ρ tt tv _ _ I ask fun v H1 F1 t ρ1 I1 q => ?_⟩
  split at q
  · rename_i oo D' ns xs
    obtain ⟨rfl, q⟩ := q
    obtain ⟨a, _, _, rfl, _, _, _, _⟩ := I1.opIns
    refine ⟨a, rfl, ka F1 H1 σ ρ1 _ _ _ _ I1 q fun vs H2 F2 ts ρ2 I2 hl2 q2 => ?_⟩
    obtain ⟨F3, I3, hl3⟩ := I2.picked hl2 jx
    obtain ⟨a2, dx, fs, ea, there, _, _, _⟩ := (I2.mid hl2).opIns
    cases ea
    have I4 : Sim c F3 H2 σ ρ2 ((.ins oo D' ns xs :: pick jx (frL ts)) ++ tt) ((.ref a :: pick jx vs) ++ tv) := I3.mid hl3
    rw [kn.hK]
    refine ⟨hl2 ▸ q2.1, ⟨dx, fs, there⟩, I4.low (by simp [hl3]) q2.2.1 ?_ (fun t t0 F' H' v J q => next _ _ _ _ _ J q) fun a t0 F' H' J q => kn.lk F' H' σ ρ2 tt tv a J q⟩
    have e : frL (.ins oo D' ns xs :: pick jx (frL ts)) = fr (.ins oo D' ns xs) :: pick jx (frL ts) := by rw [frL, frL_pick]
    rw [e]
    exact q2.2.2
  · exact q.elim
@[simp] def fOwnEq (D : Addr) (g : G3) (a b : T) (k : T → Prop) : Prop := match a, b with
  | .ins o1 D1 n1 x1, .ins o2 D2 n2 x2 => (D1 = D ∧ D2 = D) ∧ g [fr (.ins o1 D1 n1 x1), fr (.ins o2 D2 n2 x2)] (fun r _ => k r) fun _ _ => False
  | _, _ => False
theorem o2_ownEq : Op2 c (rOwnEq D (Low c.K 2 false g)) (fOwnEq D g) := by
  intro F H σ ρ tt tv a b x y k P I ask next
  unfold fOwnEq at ask
  split at ask
  · rename_i o1 D1 n1 x1 o2 D2 n2 x2
    obtain ⟨⟨rfl, rfl⟩, ask⟩ := ask
    obtain ⟨b, dy, gs, rfl, h2, _, _, _⟩ := I.opIns
    obtain ⟨a, dx, fs, rfl, h1, _, _, _⟩ := I.swap.opIns
    have J : Sim c F H σ ρ ([.ins o1 D2 n1 x1, .ins o2 D2 n2 x2] ++ tt) ([.ref a, .ref b] ++ tv) := I.swap
    have low := J.low (E := fun _ _ _ => False) (n := 2) (g := g) (Q := P) (q := fun r _ => k r) (R := fun _ _ => False) rfl rfl (by simpa using ask) (fun t t0 F' H' v J q => next _ _ _ _ J q) fun a t0 F' H' J q => q
    exact ⟨a, b, dx, dy, fs, gs, rfl, rfl, h1, h2, low⟩
  · exact ask.elim
end
end L3

namespace L3
open PySem L2 PySem.Spec PyProof.Rows
/-! ### isinstance(x, an own class) of an instance of this very class; a class as a value -/
section
variable {X : Cx} {c : Cst}
theorem ve_cls {x : Str} {a : Addr} {pos : Pos} (hm : X.mg x = some (.ref a)) (hg : Gl X x := by rfl) (hd : (x == ("__debug__" : Str)) = false := by decide +kernel) : VE X c (.Name x pos) (wC (.fn (.ref a))) := ve_gval (v := .ref a) hg hm rfl hd
def rIsiOwn (C : Addr) : List V → Hp → VK → Prop := fun xs H Q => ∃ a dx fs, xs = [.ref a, .ref C] ∧ H a = some (.ins C dx fs) ∧ Q (.bl true) H
theorem call_isiOwn {C : Addr} (ic : C8.InsC X.K C) : CallR X (.builtin "isinstance") (rIsiOwn C) := C8.call_isC ic
@[simp] def fIsiOwn (C : Addr) (ts : List T) (k : T → Prop) : Prop := match ts with
  | [.ins _ D _ _, .fn (.ref E)] => (D = C ∧ E = C) ∧ k (.bl true)
  | _ => False
theorem oA_isiOwn {C : Addr} : OpA c (rIsiOwn C) (fIsiOwn C) := by
  intro F H σ ρ tt tv ts vs k P I hl ask next
  unfold fIsiOwn at ask
  split at ask
  · rename_i o D ns xs E
    obtain ⟨⟨q1, q2⟩, ask⟩ := ask
    obtain ⟨vx, vy, rfl⟩ := two_top hl
    obtain ⟨G, _, h1, _⟩ := Sim.top (Sim.drop I)
    cases h1
    have J : Sim c F H σ ρ (.ins o D ns xs :: .fn (.ref E) :: tt) (vx :: .ref E :: tv) := I
    obtain ⟨a, dx, fs, ea, there, _, _, _⟩ := J.opIns
    cases ea
    subst q1 q2
    exact ⟨a, dx, fs, rfl, there, next _ _ _ _ ((Sim.drop (Sim.drop I)).pushG (.bl true) rfl) ask⟩
  · exact ask.elim
end
end L3

namespace L3
open PySem L2 PySem.Spec PyProof.Rows
/-! ### + and * of the class's own, != through the own == -/
section
variable {prog : Program} {w : World} {A : Around} {E : Value → Shared → Prop} {s : Shared} {K : PySem.W.Frag} {x D f : Addr} {b : Value} {ox : Obj} {od : Option Obj}
theorem boundNe {Q : Option Value → Shared → Prop} (here : K.In s.heap) (inst : PySem.W.InstAt s.heap x ox D od) (hn : PySem.W.findIn K (.ref D) "__ne__" = some (some (.builtin "object.__ne__")))
    (go : wpAny (model prog w) A (call (.builtin "object.__ne__") [.ref x, b]) (fun v => Q (some v)) E s) : wpAny (model prog w) A (callSpecialIfBound? (.ref x) "__ne__" [b]) Q E s := by
  simp only [bindSpecialIfBound?, callSpecialIfBound?]
  refine wpAny_holding (wpAny_bind (wpAny_bind (wpAny_bind (inst.type.here ((PySem.W.looks_findIn here hn).here ?_)))))
  simp only [F.cmp_object.ne.bind]
  apply wpAny_bind
  refine wpAny_askSetting (wpAny_ite ?_)
  have last : wpAny (model prog w) A (call (.builtin "object.__ne__") ([.ref x] ++ [b]) >>= fun v => pure (some v)) Q E s := wpAny_bind (wpAny_mono go (fun _ _ z => wpAny_pure z) fun _ _ z => z)
  split
  · exact wpAny_bind (wpAny_pure (wpAny_pure last))
  · exact wpAny_tryCatch (wpAny_bind (wpAny_pure (wpAny_pure last)))
theorem slotNe {Q : Unit → Shared → Prop} (here : K.In s.heap) (inst : PySem.W.InstAt s.heap x ox D od) (ho : PySem.W.mroIn K D (.type "object") = some true) (q : Q () s) : wpAny (model prog w) A (checkBuiltinCall "object.__ne__" ⟨[.ref x, b], []⟩) Q E s := by
  simp only [checkBuiltinCall, F.cmpKind_ne, F.cmpSplit_ne]
  refine wpAny_bind ?_
  unfold isInstance
  refine wpAny_bind (inst.type.here ((PySem.W.looks_mroIn here ho).here ?_))
  simp only [Bool.false_eq_true, Bool.not_true, if_false]
  have args := F.cmpArgs_ne (.ref x) b
  unfold argsOk at args
  cases sig : Manifest.signature? "object.__ne__" with
  | none => exact wpAny_pure q
  | some g =>
    rw [sig] at args
    have same : Bind.checkArgs "object.__ne__" g ⟨[.ref x, b], []⟩ = pure () := args
    show wpAny _ A (Bind.checkArgs "object.__ne__" g ⟨[.ref x, b], []⟩) Q E _
    rw [same]
    exact wpAny_pure q
theorem objNe {Q : Fin → Shared → Prop} (here : K.In s.heap) (inst : PySem.W.InstAt s.heap x ox D od) (he : PySem.W.findIn K (.ref D) "__eq__" = some (some (.ref f))) (hf : PySem.W.isFn K (.ref f) = true) (room : A.units < cLine)
    (own : wpAny (model prog w) A (call (.ref f) [.ref x, b]) (fun v s' => ∃ r, v = .bool r ∧ Q (.done (.ret (.bool (!r)))) s') E s) : wpAny (model prog w) A (Builtin.«object.__ne__» ⟨[.ref x, b], []⟩) Q E s := by
  have eq : wpAny (model prog w) A (callSpecialIfBound? (.ref x) "__eq__" [b]) (fun v s' => ∃ r, v = some (.bool r) ∧ Q (.done (.ret (.bool (!r)))) s') E s :=
    PySem.W.ifBound_K here inst he hf (wpAny_mono own (fun v s' got => by
      obtain ⟨r, rfl, q⟩ := got
      exact ⟨r, rfl, q⟩) fun _ _ z => z)
  obtain ⟨hh, gg, dd, tt, oo⟩ := s
  show wpAny (model prog w) A (Builtin.«object.__ne__» ⟨[.ref x, b], []⟩) Q E ⟨hh, gg, dd, tt, oo⟩
  simp only [Builtin.«object.__ne__»]
  repeat (first
    | with_reducible refine wpAny_cRoomFor room ?_
    | (refine wpAny_bind (m := callSpecialIfBound? (.ref x) (Str.ofString "__eq__") [b]) (wpAny_mono eq (fun v s' got => by
        obtain ⟨r, rfl, q⟩ := got
        repeat (first | exact q | exact wpAny_pure q | exact wpAny_truthy_bool q | (refine wpAny_bind (m := truthy (.bool _)) (wpAny_truthy_bool ?_)) | wp_step)) fun _ _ z => z))
    | wp_step)
theorem tryNe {Q : Option Value → Shared → Prop} (here : K.In s.heap) (inst : PySem.W.InstAt s.heap x ox D od) (hn : PySem.W.findIn K (.ref D) "__ne__" = some (some (.builtin "object.__ne__"))) (ho : PySem.W.mroIn K D (.type "object") = some true)
    (he : PySem.W.findIn K (.ref D) "__eq__" = some (some (.ref f))) (hf : PySem.W.isFn K (.ref f) = true) (room : A.units + 1 < cLine)
    (own : wpAny (model prog w) A.in1 (call (.ref f) [.ref x, b]) (fun v s' => ∃ r, v = .bool r ∧ Q (some (.bool (!r))) s') E s) : wpAny (model prog w) A (tryCompare (.ref x) "__ne__" b) Q E s := by
  unfold tryCompare
  refine wpAny_bind (boundNe here inst hn (wpAny_call (codeAny_call_builtin F.cmp_object.ne.plain F.cmpEntry_ne (slotNe here inst ho (objNe (A := A.in1) here inst he hf room (wpAny_mono own (fun v s' got => ?_) fun _ _ z => z))))))
  obtain ⟨r, rfl, q⟩ := got
  first | exact ⟨r, rfl, wpAny_pure q⟩ | exact ⟨r, rfl, wpAny_pure (wpAny_pure q)⟩ | exact ⟨r, rfl, q⟩
theorem cmpNe {Q : Value → Shared → Prop} (here : K.In s.heap) (inst : PySem.W.InstAt s.heap x ox D od) (hb : PySem.W.Looks (model prog w) s.heap (typeOf b) (.ref D)) (hn : PySem.W.findIn K (.ref D) "__ne__" = some (some (.builtin "object.__ne__"))) (ho : PySem.W.mroIn K D (.type "object") = some true)
    (he : PySem.W.findIn K (.ref D) "__eq__" = some (some (.ref f))) (hf : PySem.W.isFn K (.ref f) = true) (room : A.units + 1 < cLine)
    (own : wpAny (model prog w) A.in1 (call (.ref f) [.ref x, b]) (fun v s' => ∃ r, v = .bool r ∧ Q (.bool (!r)) s') E s) : wpAny (model prog w) A (compareOp .NotEq (.ref x) b) Q E s := by
  show wpAny (model prog w) A (richCompare .NotEq (.ref x) b) Q E s
  unfold richCompare
  simp only [oneThing_ref]
  refine wpAny_holding (wpAny_bind (wpAny_cRoomFor (Nat.lt_of_succ_lt room) ?_))
  rw [cmpInfo_NotEq]
  refine wpAny_bind (inst.type.here (wpAny_bind (hb.here ?_)))
  rw [show (Value.ref D != Value.ref D) = false from by simp]
  simp only [if_false, Bool.false_eq_true]
  apply wpAny_bind
  apply wpAny_pure
  simp only [if_false, Bool.false_eq_true]
  refine wpAny_bind (tryNe here inst hn ho he hf room (wpAny_mono own (fun v s' got => ?_) fun _ _ z => z))
  obtain ⟨r, rfl, q⟩ := got
  exact ⟨r, rfl, wpAny_pure q⟩
end
section
variable {X : Cx} {c : Cst} {D f : Addr} {fd : FuncData} {ps : List Str} {sp : Sp} {k : Nat}
/-- a + b by the own __add__ of D -/
theorem op_ownAdd (mt : Meth X.K D "__add__" f) (sf : PySem.W.selfFirst X.K D = true) (G : FnG X.prog X.w X.K X.mg X.base (L2N.CX X.prog X.w) k f fd ps sp) (rm : Room k X.A) (gd : X.A.guards = some []) (bnd : Bnd X.K fd ps 2 [] [0, 1]) : OpR X (binaryOp .Add) (rOwnEq D sp) := by
  intro held s σ H x y v u Q I is1 is2 ask
  obtain ⟨a, b, dx, dy, fs, gs, rfl, rfl, h1, h2, ask⟩ := ask
  cases is1
  cases is2
  obtain ⟨_, inst1, _⟩ := ins_get I.hok h1
  obtain ⟨_, inst2, _⟩ := ins_get I.hok h2
  obtain ⟨od1, at1, _⟩ := inst1.look
  obtain ⟨od2, at2, _⟩ := inst2.look
  obtain ⟨m, frame⟩ := I.fr
  refine PySem.W.binop_K (op := .Add) frame I.ok.mod.kin at1 at2.type sf mt.at_ mt.fn ?_
  have run := run_H (us := [.ref a, .ref b]) (ws := []) (vs := [.ref a, .ref b]) (ks := []) (ix := [0, 1]) (E := fun _ _ _ _ => False) (σ := σ) (held := held) (Q := Q) G rm gd bnd (fun pins H s er s' J q => (CX_nox q).elim) I (.cons rfl (.cons rfl .nil)) rfl rfl ask
  refine wpAny_mono run (fun w z got => ?_) fun _ _ z => z
  cases w <;> first | exact got | (obtain ⟨r, H1, J, rel, q⟩ := got; cases r <;> first | (obtain ⟨_, e⟩ := rel; cases e; done) | (cases rel; done))
/-- a * n by the own __mul__ of D -/
def rOwnMul (D : Addr) (sp : Sp) : R2 := fun x y H Q => ∃ (a dx : Addr) (n : Int) (fs : List (Str × V)), x = .ref a ∧ y = .int n ∧ H a = some (.ins D dx fs) ∧ sp [.ref a, .int n] H Q fun _ _ _ => False
theorem op_ownMul {fo ro : Option Value} (mt : Meth X.K D "__mul__" f) (sf : PySem.W.selfFirst X.K D = true) (hr : PySem.W.findIn X.K (.ref D) "__rmul__" = some none) (h1 : PySem.W.findIn X.K (.type "int") "__mul__" = some fo) (h2 : PySem.W.findIn X.K (.type "int") "__rmul__" = some ro)
    (G : FnG X.prog X.w X.K X.mg X.base (L2N.CX X.prog X.w) k f fd ps sp) (rm : Room k X.A) (gd : X.A.guards = some []) (bnd : Bnd X.K fd ps 2 [] [0, 1]) : OpR X (binaryOp .Mult) (rOwnMul D sp) := by
  intro held s σ H x y v u Q I is1 is2 ask
  obtain ⟨a, dx, n, fs, rfl, rfl, there, ask⟩ := ask
  cases is1
  obtain ⟨t, is2⟩ := is2
  cases is2
  obtain ⟨_, inst, _⟩ := ins_get I.hok there
  obtain ⟨od, at1, _⟩ := inst.look
  obtain ⟨m, frame⟩ := I.fr
  refine PySem.W.ksp_binT (op := .Mult) (T := "int") frame I.ok.mod.kin at1 rfl sf mt.at_ mt.fn hr (.inl rfl) h1 h2 rfl ?_
  have run := run_H (us := [.ref a, .int n t]) (ws := []) (vs := [.ref a, .int n]) (ks := []) (ix := [0, 1]) (E := fun _ _ _ _ => False) (σ := σ) (held := held) (Q := Q) G rm gd bnd (fun pins H s er s' J q => (CX_nox q).elim) I (.cons rfl (.cons ⟨t, rfl⟩ .nil)) rfl rfl ask
  refine wpAny_mono run (fun w z got => ?_) fun _ _ z => z
  cases w <;> first | exact got | (obtain ⟨r, H1, J, rel, q⟩ := got; cases r <;> first | (obtain ⟨_, e⟩ := rel; cases e; done) | (cases rel; done))
@[simp] def fOwnMul (D : Addr) (g : G3) (a b : T) (k : T → Prop) : Prop := match a, b with
  | .ins o1 D1 n1 x1, .int n => D1 = D ∧ g [fr (.ins o1 D1 n1 x1), .int n] (fun r _ => k r) fun _ _ => False
  | _, _ => False
theorem o2_ownMul {g : G3} : Op2 c (rOwnMul D (Low c.K 2 false g)) (fOwnMul D g) := by
  intro F H σ ρ tt tv a b x y k P I ask next
  unfold fOwnMul at ask
  split at ask
  · rename_i o1 D1 n1 x1 n
    obtain ⟨e1, ask⟩ := ask
    subst e1
    obtain ⟨Gn, _, hn, _⟩ := Sim.top I
    cases hn
    obtain ⟨a, dx, fs, rfl, there, _, _, _⟩ := I.swap.opIns
    have J : Sim c F H σ ρ ([.ins o1 D1 n1 x1, .int n] ++ tt) ([.ref a, .int n] ++ tv) := I.swap
    have low := J.low (E := fun _ _ _ => False) (n := 2) (g := g) (Q := P) (q := fun r _ => k r) (R := fun _ _ => False) rfl rfl (by simpa using ask) (fun t t0 F' H' v J q => next _ _ _ _ J q) fun a t0 F' H' J q => q
    exact ⟨a, dx, n, fs, rfl, rfl, there, low⟩
  · exact ask.elim
/-- a != b through the own __eq__ of D -/
def rOwnNe (D : Addr) (sp : Sp) : R2 := fun x y H Q => ∃ (a b dx dy : Addr) (fs gs : List (Str × V)), x = .ref a ∧ y = .ref b ∧ H a = some (.ins D dx fs) ∧ H b = some (.ins D dy gs) ∧ sp [.ref a, .ref b] H (fun v H1 => ∃ r, v = .bl r ∧ Q (.bl (!r)) H1) fun _ _ _ => False
theorem op_ownNe (mt : Meth X.K D "__eq__" f) (hn : PySem.W.findIn X.K (.ref D) "__ne__" = some (some (.builtin "object.__ne__"))) (ho : PySem.W.mroIn X.K D (.type "object") = some true) (G : FnG X.prog X.w X.K X.mg X.base (L2N.CX X.prog X.w) k f fd ps sp)
    (rm : Room (k + 1) X.A) (gd : X.A.guards = some []) (bnd : Bnd X.K fd ps 2 [] [0, 1]) : OpR X (compareOp .NotEq) (rOwnNe D sp) := by
  intro held s σ H x y v u Q I is1 is2 ask
  obtain ⟨a, b, dx, dy, fs, gs, rfl, rfl, h1, h2, ask⟩ := ask
  cases is1
  cases is2
  obtain ⟨_, inst1, _⟩ := ins_get I.hok h1
  obtain ⟨_, inst2, _⟩ := ins_get I.hok h2
  obtain ⟨od1, at1, _⟩ := inst1.look
  obtain ⟨od2, at2, _⟩ := inst2.look
  have run : wpAny (model X.prog X.w) X.A.in1 (call (.ref f) [.ref a, .ref b]) (EP X held σ fun v H1 => ∃ r, v = .bl r ∧ Q (.bl (!r)) H1) X.xe s := by
    apply wpAny_call
    have rel : Vals [V.ref a, V.ref b] [Value.ref a, Value.ref b] := .cons rfl (.cons rfl .nil)
    refine codeAny_mono (G.run X.A.in1 X.stack s H ⟨[.ref a, .ref b], []⟩ _ _ (fun v H1 => ∃ r, v = .bl r ∧ Q (.bl (!r)) H1) (fun _ _ _ => False) rm.in1 gd I.env0.in1 (bnd s [.ref a, .ref b] [] I.kIn rfl rfl) rel ask) fun r z q => ?_
    match r, q with
    | .error y, q => exact (CX_nox q).elim
    | .ok .next, q => exact q.elim
    | .ok .brk, q => exact q.elim
    | .ok .cont, q => exact q.elim
    | .ok (.ret u), q => exact I.after q
  refine cmpNe I.kIn at1 at2.type hn ho mt.at_ mt.fn (by have := rm.un; omega) (wpAny_mono run (fun w z got => ?_) fun _ _ z => z)
  obtain ⟨r, H1, J, rel, g, rfl, q⟩ := got
  cases rel
  exact ⟨g, rfl, .bl (!g), H1, J, rfl, q⟩
@[simp] def fOwnNe (D : Addr) (g : G3) (a b : T) (k : T → Prop) : Prop := match a, b with
  | .ins o1 D1 n1 x1, .ins o2 D2 n2 x2 => (D1 = D ∧ D2 = D) ∧ g [fr (.ins o1 D1 n1 x1), fr (.ins o2 D2 n2 x2)] (fun r _ => ∃ q, r = .bl q ∧ k (.bl (!q))) fun _ _ => False
  | _, _ => False
theorem o2_ownNe {g : G3} : Op2 c (rOwnNe D (Low c.K 2 false g)) (fOwnNe D g) := by
  intro F H σ ρ tt tv a b x y k P I ask next
  unfold fOwnNe at ask
  split at ask
  · rename_i o1 D1 n1 x1 o2 D2 n2 x2
    obtain ⟨⟨rfl, rfl⟩, ask⟩ := ask
    obtain ⟨b, dy, gs, rfl, h2, _, _, _⟩ := I.opIns
    obtain ⟨a, dx, fs, rfl, h1, _, _, _⟩ := I.swap.opIns
    have J : Sim c F H σ ρ ([.ins o1 D2 n1 x1, .ins o2 D2 n2 x2] ++ tt) ([.ref a, .ref b] ++ tv) := I.swap
    have low := J.low (E := fun _ _ _ => False) (n := 2) (g := g) (Q := fun v H1 => ∃ r, v = .bl r ∧ P (.bl (!r)) H1) (q := fun r _ => ∃ q, r = .bl q ∧ k (.bl (!q))) (R := fun _ _ => False) rfl rfl (by simpa using ask) (fun t t0 F' H' v J q => by
      obtain ⟨r, rfl, q⟩ := q
      obtain ⟨Gn, _, hv, _⟩ := Sim.top J
      cases hv
      exact ⟨r, rfl, next _ _ _ _ (J.drop.pushG (.bl (!r)) rfl) q⟩) fun a t0 F' H' J q => q
    exact ⟨a, b, dx, dy, fs, gs, rfl, rfl, h1, h2, low⟩
  · exact ask.elim
end
/-! ### a part of a tuple -/
section
variable {X : Cx} {c : Cst} {e : Expr} {w : WE} {pos : Pos}
theorem Sim.opTup {F H : Hp} {σ : L2.St} {ρ : Rho} {tt xs : List T} {tv : List V} {v : V} (I : Sim c F H σ ρ (.tup xs :: tt) (v :: tv)) : ∃ a vs, v = .ref a ∧ SqT c.K H a vs ∧ xs.length = vs.length ∧ Sim c F H σ ρ (xs ++ tt) (vs ++ tv) := by
  obtain ⟨G, l, nd, hg⟩ := I.live
  have tl := I.tl
  cases l with
  | cons h q =>
    cases h with
    | @tup a _ vs G1 hs hr =>
      have many := hr.length
      refine ⟨a, vs, rfl, ex_t I.ex hs, many, I.ex, I.fx, I.fn, I.keep, I.dom, ?_, ⟨_, ?_, nd, hg⟩, I.iop⟩
      · simp only [List.length_cons, List.length_append] at tl ⊢
        omega
      · rw [List.map_append, List.map_append, List.append_assoc, List.append_assoc]
        exact Live.of_trL hr q
/-- is t[lo:hi] less than the whole -/
def partB (n : Nat) (lo hi : Option Int) : Bool := !(HT.sIx n 0 lo == 0 && HT.sIx n n hi == n)
@[simp] def fSlT (t : T) (lo hi : Option Int) (k : T → Prop) : Prop := match t with
  | .tup xs => partB xs.length lo hi = true ∧ k (.tup (cutT xs lo hi))
  | _ => False
@[simp] def wSlT (wa : WE) (wl wh : WO2) (ρ : Rho) (Q : T → Rho → Prop) : Prop := wa ρ fun t ρ1 => wl ρ1 fun lo ρ2 => wh ρ2 fun hi ρ3 => fSlT t lo hi fun r => Q r ρ3
theorem ve_sliceT {lo hi : Option Expr} {wl wh : WO2} {p2 : Pos} (he : VE X c e w) (hlo : VO X c lo wl) (hhi : VO X c hi wh) (hK : X.K = c.K := by rfl) : VE X c (.Subscript e (.Slice lo hi none p2) pos) (wSlT w wl wh) := by
  obtain ⟨te, pe, ke⟩ := he
  obtain ⟨tl, pl, kl⟩ := hlo
  obtain ⟨th, ph, kh⟩ := hhi
  refine ⟨_, pe_slice sl_tup pe pl ph, fun F H σ ρ tt tv Q P I ask next => ?_⟩
  refine ke F H σ ρ tt tv _ _ I ask fun v H1 F1 t ρ1 I1 q => ?_
  refine kl F1 H1 σ ρ1 _ _ _ _ I1 q fun lo H2 F2 ρ2 I2 q => ?_
  refine kh F2 H2 σ ρ2 _ _ _ _ I2 q fun hi H3 F3 ρ3 I3 q => ?_
  unfold fSlT at q
  split at q
  · obtain ⟨l, vs, rfl, hs, many, J⟩ := I3.opTup
    obtain ⟨part, q⟩ := q
    refine ⟨l, vs, rfl, hK ▸ hs, fun whole => ?_, fun p hp => ?_⟩
    · unfold partB at part
      rw [many, whole.1, whole.2] at part
      simp at part
    · obtain ⟨J2, e2⟩ := J.cut lo hi many
      exact next _ _ _ _ _ (J2.newTup e2 hp) q
  · exact q.elim
end
end L3

namespace L3
open PySem L2 PySem.Spec PyProof.Rows
/-! ### the items of a fresh list are frozen, the list itself stays owned -/
section
variable {X : Cx} {c : Cst} {e : Expr} {w : WE} {pos p : Pos} {tg : Expr}
theorem Sim.items {F H : Hp} {σ : L2.St} {ρ : Rho} {tt xs : List T} {tv : List V} {v : V} (I : Sim c F H σ ρ (.lst true xs :: tt) (v :: tv)) : ∃ F', Sim c F' H σ ρ (.lst true (frL xs) :: tt) (v :: tv) := by
  obtain ⟨G, l, nd, hg⟩ := I.live
  have tl := I.tl
  cases l with
  | @cons _ _ Ga _ _ Gb h q =>
    cases h with
    | @lstT a _ vs G1 hs hr =>
      have nd1 := List.nodup_append.mp nd
      have nda := List.nodup_cons.mp nd1.1
      have free : ∀ g ∈ G1, F g = none := fun g hm => (hg g (List.mem_append_left _ (List.mem_cons_of_mem _ hm))).1
      have eF : Ex F (fz F H G1) := fz_ex free
      refine ⟨fz F H G1, fz_le I.ex, I.fx.trans eF, fun b h1 h2 h3 => ?_, I.keep, I.dom, by simpa using tl, ⟨a :: Gb, ?_, ?_, fun g hm => ?_⟩, I.iop⟩
      · rw [fz_out fun z => ((hg b (List.mem_append_left _ (List.mem_cons_of_mem _ z))).2.elim h1 h3)]
        exact I.fn b h1 h2 h3
      · have q2 := q.mono eF (H' := H) fun _ _ => rfl
        have item := hr.frz eF H fun g hm => fz_in hm
        exact Live.cons (G1 := [a]) (.lstT hs item) q2
      · exact List.nodup_cons.mpr ⟨fun z => nd1.2.2 a List.mem_cons_self a z rfl, nd1.2.1⟩
      · rcases List.mem_cons.mp hm with z | z
        · subst z
          refine ⟨?_, (hg g (List.mem_append_left _ List.mem_cons_self)).2⟩
          rw [fz_out nda.1]
          exact (hg g (List.mem_append_left _ List.mem_cons_self)).1
        · refine ⟨?_, (hg g (List.mem_append_right _ z)).2⟩
          rw [fz_out fun y => nd1.2.2 g (List.mem_cons_of_mem _ y) g z rfl]
          exact (hg g (List.mem_append_right _ z)).1
@[simp] def wItems (w : WE) (ρ : Rho) (Q : T → Rho → Prop) : Prop := w ρ fun t ρ1 => match t with
  | .lst true xs => Q (.lst true (frL xs)) ρ1
  | _ => False
theorem ve_items (he : VE X c e w) : VE X c e (wItems w) := by
  obtain ⟨te, pe, ke⟩ := he
  refine ⟨te, pe, fun F H σ ρ tt tv Q P I ask next => ke F H σ ρ tt tv _ _ I ask fun v H1 F1 t ρ1 I1 q => ?_⟩
  split at q
  · obtain ⟨F2, I2⟩ := I1.items
    exact next _ _ _ _ _ I2 q
  · exact q.elim
/-! ### for i, x in enumerate(name): the name owns the list and keeps it -/
def wForOE (i : Nat) (g : WG) (wb : WS) (E : En) (ρ : Rho) : Prop := match ρ[i]? with
  | some (some (.lst true xs)) => stbL xs = true ∧ ∀ a : Addr, ∃ Pv : Nat → Rho → Prop, Pv 0 (ρ.set i (some (.fn (.ref a)))) ∧ (∀ j ρ', Pv j ρ' → ρ'[i]? = some (some (.fn (.ref a)))) ∧
    (∀ j t ρ', xs[j]? = some t → Pv j ρ' → g (.tup [.int (j : Int), t]) ρ' fun ρ2 => wb { nx := Pv (j + 1), rt := E.rt, bk := fun ρ' => ρ'[i]? = some (some (.fn (.ref a))) ∧ E.nx (ρ'.set i (some (.lst true xs))), ct := Pv (j + 1) } ρ2) ∧
    ∀ ρ', Pv xs.length ρ' → E.nx (ρ'.set i (some (.lst true xs)))
  | _ => False
theorem vs_forOE (i : Nat) {x : Str} {body : List Stmt} {g : WG} {js : List Nat} {wb : WS} {elts : List Expr} {kk : Nat} {tpos pn pos2 : Pos} (hm : X.mg "enumerate" = none) (hp : PassesOwn (model X.prog X.w) X.A X.env X.xe) (hc : X.calm = true) (hg : VG X c (.Tuple elts kk tpos) js g) (hb : VB X c body wb) (hK : X.K = c.K := by rfl)
    (gl : Gl X "enumerate" := by rfl) (hi : c.io = none ∨ i ≠ 0 := by first | exact .inl rfl | exact .inr (by decide)) (hN : X.N[i]? = some x := by rfl) (hv : Vis X.env.scope x := by first | exact Or.inl rfl | exact Or.inr (Or.inl rfl) | exact Or.inr (Or.inr rfl)) (hd : (x == ("__debug__" : Str)) = false := by decide)
    (hcd : (x == ("__classdict__" : Str)) = false := by decide) (one : starEach [.Name x pn] X.env = [(false, eval (.Name x pn) X.env)] := by rfl) (hs : ∀ y, foldedSetIterable (.Call (.Name "enumerate" p) [.Name x pn] [] pos) X.env y = pure y := by intro _; rfl) : VS X c (.For (.Tuple elts kk tpos) (.Call (.Name "enumerate" p) [.Name x pn] [] pos) body [] pos2) (wForOE i g wb) := by
  obtain ⟨tg2, pg, kg⟩ := hg
  obtain ⟨tb, pb, kb⟩ := hb
  refine ⟨_, ps_for hp hc (pi_enum gl hm (pa_cons (pe_var hN hv hd hcd) pa_nil one) one) pg pb hs, fun F H σ ρ tt tv D E I m ask => ?_⟩
  unfold wForOE at ask
  split at ask
  · rename_i xs e0
    obtain ⟨hst, ask⟩ := ask
    obtain ⟨v, sv, J⟩ := I.lift e0 hi
    obtain ⟨a, ws0, ev, hH0, hlen0, _⟩ := J.opLstT
    subst ev
    obtain ⟨Pv, h0, hkeep, hstep, hend⟩ := ask a
    refine ⟨.ref a, sv, a, ws0, rfl, hK ▸ SqL.of hH0, ?_⟩
    have look : ∀ {F' H' : Hp} {σ' : L2.St} {ρ' : Rho}, Sim c F' H' σ' ρ' (.lst true xs :: tt) (.ref a :: tv) → ∃ ws, SqL X.K H' a ws ∧ TrL c.K F' H' xs ws [] := fun I' => by
      obtain ⟨G1, G2, h1, _⟩ := I'.top
      cases h1 with
      | lstT hH hr =>
        have none := hr.stb_nil hst
        subst none
        exact ⟨_, hK ▸ SqL.of hH, hr⟩
    refine ⟨fun j n σ H => n = xs.length - j ∧ j ≤ xs.length ∧ ∃ F ρ, Sim c F H σ ρ (.lst true xs :: tt) (.ref a :: tv) ∧ Pv j ρ, ⟨xs.length, by simp, Nat.zero_le _, F, _, J, h0⟩, ?_⟩
    rintro j n σ2 H2 ⟨rfl, hj, F2, ρ2, I2, p2⟩
    obtain ⟨ws, hs2, hr2⟩ := look I2
    have hl2 := hr2.length
    by_cases hlt : j < xs.length
    · refine .inr ⟨⟨ws, _, hs2, List.getElem?_eq_getElem (by omega)⟩, fun σ' H' => ∃ F' ρ', Sim c F' H' σ' ρ' (.lst true xs :: tt) (.ref a :: tv) ∧ Pv (j + 1) ρ', fun σ' H' ⟨F', ρ', I', p'⟩ => ⟨xs.length - (j + 1), by omega, rfl, hlt, F', ρ', I', p'⟩, fun y H3 hy => ?_⟩
      obtain ⟨T0, x0, rfl, hT, rfl, hy⟩ := hy
      obtain ⟨t, et, ht⟩ := hr2.at_ (hy ws hs2)
      have J1 : Sim c F2 H2 σ2 ρ2 ([.int (j : Int), t] ++ (.lst true xs :: tt)) ([.int (j : Int), x0] ++ (.ref a :: tv)) := Sim.pushG (Sim.pushG I2 ht rfl) (.int _) rfl
      refine kg _ _ σ2 ρ2 (.lst true xs :: tt) (.ref a :: tv) (.tup [.int (j : Int), t]) _ _ _ (J1.newTup rfl hT) (hstep j t ρ2 et p2) fun H4 F4 σ4 ρ4 I4 q4 _ => ?_
      refine kb F4 H4 σ4 ρ4 _ _ _ { nx := Pv (j + 1), rt := E.rt, bk := fun ρ' => ρ'[i]? = some (some (.fn (.ref a))) ∧ E.nx (ρ'.set i (some (.lst true xs))), ct := Pv (j + 1) } I4 ⟨fun F5 H5 σ5 ρ5 I5 q5 => ⟨F5, ρ5, I5, q5⟩, fun F5 H5 σ5 ρ5 t5 v5 I5 q5 => m.rt F5 H5 σ5 ρ5 t5 v5 I5.drop2 q5, fun F5 H5 σ5 ρ5 I5 q5 => m.nx F5 H5 σ5 _ (I5.lower q5.1 hi) q5.2, fun F5 H5 σ5 ρ5 I5 q5 => ⟨F5, ρ5, I5, q5⟩⟩ q4
    · have ei : j = xs.length := by omega
      subst ei
      exact .inl ⟨⟨ws, hs2, by omega⟩, m.nx F2 H2 σ2 _ (I2.lower (hkeep _ _ p2) hi) (hend ρ2 p2)⟩
  · exact ask.elim
theorem forOE_on {α : Type} {i : Nat} {g : WG} {wb : WS} {E : En} {ρ : Rho} (xs : List α) (emb : α → T) (own : ρ[i]? = some (some (.lst true (xs.map emb)))) (still : stbL (xs.map emb) = true) (Pv : Addr → Nat → Rho → Prop) (first : ∀ a, Pv a 0 (ρ.set i (some (.fn (.ref a)))))
    (keep : ∀ a j ρ', Pv a j ρ' → ρ'[i]? = some (some (.fn (.ref a))))
    (step : ∀ a j x, xs[j]? = some x → ∀ ρ', Pv a j ρ' → g (.tup [.int (j : Int), emb x]) ρ' fun ρ2 => wb { nx := Pv a (j + 1), rt := E.rt, bk := fun ρ' => ρ'[i]? = some (some (.fn (.ref a))) ∧ E.nx (ρ'.set i (some (.lst true (xs.map emb)))), ct := Pv a (j + 1) } ρ2)
    (last : ∀ a ρ', Pv a xs.length ρ' → E.nx (ρ'.set i (some (.lst true (xs.map emb))))) : wForOE i g wb E ρ := by
  unfold wForOE
  rw [own]
  refine ⟨still, fun a => ⟨Pv a, first a, keep a, fun j t ρ' et q => ?_, fun ρ' q => last a ρ' (by rw [List.length_map] at q; exact q)⟩⟩
  rw [List.getElem?_map] at et
  cases hx : xs[j]? with
  | none => rw [hx] at et; cases et
  | some x =>
    rw [hx] at et
    have same : emb x = t := Option.some.inj et
    subst same
    exact step a j x hx ρ' q
end
/-! ### == of two fresh lists of instances, by the own == -/
section
variable {X : Cx} {c : Cst} {D f : Addr} {fd : FuncData} {ps : List Str} {sp : Sp} {k : Nat}
/-- two instances that are seen to be equal in every later heap -/
def EqI (D : Addr) (sp : Sp) (H : Hp) (x y : V) : Prop := ∃ (p q dx dy : Addr) (fs gs : List (Str × V)), x = .ref p ∧ y = .ref q ∧ H p = some (.ins D dx fs) ∧ H q = some (.ins D dy gs) ∧ ∀ H1, Ext H H1 → sp [.ref p, .ref q] H1 (fun v H2 => v = .bl true ∧ Ext H1 H2) fun _ _ _ => False
def rEqI (D : Addr) (sp : Sp) : R2 := fun x y H Q => ∃ (a b : Addr) (xs ys : List V), x = .ref a ∧ y = .ref b ∧ H a = some (.lst xs) ∧ H b = some (.lst ys) ∧ xs.length = ys.length ∧ (∀ (i : Nat) v w, xs[i]? = some v → ys[i]? = some w → EqI D sp H v w) ∧ ∀ H', Ext H H' → Q (.bl true) H'
theorem op_eqI (mt : Meth X.K D "__eq__" f) (G : FnG X.prog X.w X.K X.mg X.base (L2N.CX X.prog X.w) k f fd ps sp) (rm : Room (k + 1) X.A) (gd : X.A.guards = some []) (bnd : Bnd X.K fd ps 2 [] [0, 1]) : OpR X (compareOp .Eq) (rEqI D sp) := by
  intro held s σ H x y v u Q I is1 is2 ask
  obtain ⟨a, b, xs, ys, rfl, rfl, ha, hb, many, all, fin⟩ := ask
  cases is1
  cases is2
  show wpAny (model X.prog X.w) X.A (richCompare .Eq (.ref a) (.ref b)) (EP X held σ Q) X.xe s
  refine wpAny_mono (GQ.rc_listG (N := xs.length) (Q := fun r s' => r = .bool true ∧ LoopI X held σ H s') rm.units0 (fun _ s' => LoopI X held σ H s') (fun i s' q => ?_) (fun s' q => ⟨rfl, q⟩) ⟨H, I, Ext.rfl'⟩) (fun r s' got => ?_) fun _ _ z => z
  · obtain ⟨H1, I1, e1⟩ := q
    obtain ⟨_, its, n1, r1, o1⟩ := I1.hok a _ (e1 _ _ ha)
    obtain ⟨_, its2, n2, r2, o2⟩ := I1.hok b _ (e1 _ _ hb)
    refine ⟨its.toArray, its2.toArray, n1, n2, o1, o2, by rw [List.size_toArray, ← r1.length], by rw [List.size_toArray, ← r2.length, many], fun h1 h2 => ?_⟩
    have k1 : i < xs.length := by rw [r1.length]; simpa using h1
    have k2 : i < ys.length := by omega
    obtain ⟨w1, g1, m1⟩ := r1.get (List.getElem?_eq_getElem k1)
    obtain ⟨w2, g2, m2⟩ := r2.get (List.getElem?_eq_getElem k2)
    have f1 : its.toArray[i] = w1 := by
      have : its[i]? = some its.toArray[i] := by simp
      rw [this] at g1
      exact Option.some.inj g1
    have f2 : its2.toArray[i] = w2 := by
      have : its2[i]? = some its2.toArray[i] := by simp
      rw [this] at g2
      exact Option.some.inj g2
    rw [f1, f2]
    obtain ⟨p, q, dx, dy, fs, gs, ex, ey, hp, hq, run⟩ := all i _ _ (List.getElem?_eq_getElem k1) (List.getElem?_eq_getElem k2)
    rw [ex] at m1
    rw [ey] at m2
    cases m1
    cases m2
    by_cases hpq : p = q
    · subst hpq
      exact SeqAt.EqAt.same (A := X.A.in1) (s := s') (.ref p) X.prog X.w X.xe _ ⟨rfl, H1, I1, e1⟩
    · refine GQ.eqBool_refG hpq ?_
      obtain ⟨_, inst1, _⟩ := ins_get I1.hok (e1 _ _ hp)
      obtain ⟨_, inst2, _⟩ := ins_get I1.hok (e1 _ _ hq)
      obtain ⟨od1, at1, _⟩ := inst1.look
      obtain ⟨od2, at2, _⟩ := inst2.look
      obtain ⟨m, frame⟩ := I1.fr
      refine PySem.W.cmp_K (op := .Eq) (tb := .ref D) rm.in1.units0 frame I1.ok.mod.kin at1 at2.type (by simp [PySem.W.notFirst]) mt.at_ mt.fn ?_
      apply wpAny_call
      have rel : Vals [V.ref p, V.ref q] [Value.ref p, Value.ref q] := .cons rfl (.cons rfl .nil)
      refine codeAny_mono (G.run X.A.in1 X.stack s' H1 ⟨[.ref p, .ref q], []⟩ _ _ (fun v H2 => v = .bl true ∧ Ext H1 H2) (fun _ _ _ => False) rm.in1 gd I1.env0.in1 (bnd s' [.ref p, .ref q] [] I1.kIn rfl rfl) rel (run H1 e1)) fun r z got => ?_
      match r, got with
      | .error _, got => exact (CX_nox got).elim
      | .ok .next, got => exact got.elim
      | .ok .brk, got => exact got.elim
      | .ok .cont, got => exact got.elim
      | .ok (.ret w), got =>
        obtain ⟨r, H2, J, m3, er, grown⟩ := I1.after got
        subst er
        cases m3
        exact ⟨true, rfl, rfl, H2, J, e1.trans grown⟩
  · obtain ⟨rfl, H1, I1, e1⟩ := got
    exact ⟨.bl true, H1, I1, rfl, fin H1 e1⟩
@[simp] def fEqI (D : Addr) (g : G3) (a b : T) (k : T → Prop) : Prop := match a, b with
  | .lst true xs, .lst true ys => xs.length = ys.length ∧ (∀ (i : Nat) t u, xs[i]? = some t → ys[i]? = some u → ∃ o1 n1 x1 o2 n2 x2, t = .ins o1 D n1 x1 ∧ u = .ins o2 D n2 x2 ∧ g [fr t, fr u] (fun r _ => r = .bl true) fun _ _ => False) ∧ k (.bl true)
  | _, _ => False
theorem o2_eqI {g : G3} : Op2 c (rEqI D (Low c.K 2 false g)) (fEqI D g) := by
  intro F H σ ρ tt tv a b x y k P I ask next
  unfold fEqI at ask
  split at ask
  · rename_i xs ys
    obtain ⟨many, all, ask⟩ := ask
    obtain ⟨pb, us, rfl, hb, lenb, J1⟩ := I.opLstT
    obtain ⟨F1, e1, J2, r1⟩ := J1.takeFrz lenb
    obtain ⟨pa, vs, rfl, ha, lena, J3⟩ := J2.opLstT
    obtain ⟨F2, e2, J4, r2⟩ := J3.takeFrz lena
    have r1 : TrL c.K F2 H (frL ys) us [] := r1.mono e2 fun _ _ => rfl
    refine ⟨pa, pb, vs, us, rfl, rfl, ha, hb, by omega, fun i v w hv hw => ?_, fun H' grown => next _ _ _ _ ((J4.grow grown).pushG (.bl true) rfl) ask⟩
    have li : i < xs.length := by
      have := (List.getElem?_eq_some_iff.mp hv).1
      omega
    obtain ⟨o1, n1, x1, o2, n2, x2, et, eu, same⟩ := all i _ _ (List.getElem?_eq_getElem li) (List.getElem?_eq_getElem (by omega : i < ys.length))
    obtain ⟨tv1, ev, trv⟩ := r2.at_ hv
    obtain ⟨tw1, ew, trw⟩ := r1.at_ hw
    rw [frL_map, List.getElem?_map, List.getElem?_eq_getElem li] at ev
    rw [frL_map, List.getElem?_map, List.getElem?_eq_getElem (by omega : i < ys.length)] at ew
    have ev := Option.some.inj ev
    have ew := Option.some.inj ew
    rw [ev, ew] at same
    rw [et] at ev
    rw [eu] at ew
    have tr2 : TrL c.K F2 H [tv1, tw1] [v, w] [] := .cons (G1 := []) (G2 := []) trv (.cons (G1 := []) (G2 := []) trw .nil)
    have keep1 := trv
    have keep2 := trw
    rw [← ev] at keep1
    rw [← ew] at keep2
    simp only [fr] at keep1 keep2
    cases keep1 with
    | @insF p1 _ dx _ fs _ h1 _ =>
      cases keep2 with
      | @insF p2 _ dy _ gs _ h2 _ =>
        refine ⟨p1, p2, dx, dy, fs, gs, rfl, rfl, J4.ex _ _ h1, J4.ex _ _ h2, fun H1 grown => ?_⟩
        refine ⟨F2, [tv1, tw1], [], fun b o z => grown b o (J4.ex b o z), tr2.mono (Ex.refl _) (fun _ z => nomatch z), List.nodup_nil, fun _ z => (nomatch z), rfl, ?_, fun r _ => r = .bl true, fun _ _ => False, same, fun t t0 et F' H' v post => ?_, fun _ _ z => z.elim⟩
        · show stbL [tv1, tw1] = true
          rw [← ev, ← ew]
          simp [stbL, stb_fr]
          exact ⟨stbL_frL _, stbL_frL _⟩
        · subst et
          refine ⟨?_, fun b o z => post.keep b o z (by simp)⟩
          obtain ⟨_, live, _⟩ := post.live
          cases live with
          | cons h _ => cases h; rfl
  · exact ask.elim
end
end L3

namespace L3
open PySem L2 PySem.Spec PyProof.Rows
/-! ### xs[:] = ys, two names of lists; f(k=e, x=object) with the object handed in to be changed -/
section
variable {w : World} {prog : Program} {s : Shared} {A : Around} {E : Value → Shared → Prop}
theorem whole_bounds (n : Nat) : sliceBounds none none none n = ((0 : Int), (n : Int), 1) := by
  simp only [sliceBounds, Option.getD_none, show (1 : Int) > 0 by decide, if_true]
theorem setItem_whole {p q k : Addr} {olds news : Array Value} {m1 m2 : Nat} {lo hi : Value} {Q : Unit → Shared → Prop}
    (at1 : s.heap.get? p = some { cls := .type "list", data := .seq olds m1 }) (at2 : s.heap.get? q = some { cls := .type "list", data := .seq news m2 }) (apart : p ≠ q)
    (isS : s.heap.IsSliceOf k lo hi .none) (noLo : IsPart lo none) (noHi : IsPart hi none) (fits : olds.size + news.size ≤ sizeLine)
    (next : Q () { s with heap := s.heap.update p (Obj.mapSeq fun xs => xs.extract 0 0 ++ news ++ xs.extract olds.size xs.size) }) :
    wpAny (model prog w) A (setItem (.ref p) (.ref k) (.ref q)) Q E s := by
  have list1 : s.heap.IsList p olds := PySem.IsL.isList at1
  have list2 : s.heap.IsList q news := PySem.IsL.isList at2
  obtain ⟨ob, here, cls_, data_⟩ := id isS
  have kind : s.TypeIs (.ref k) "slice" := ⟨ob, here, cls_⟩
  have other : Builtin.List.listSameRef (.ref p) (.ref q) = false := beq_eq_false_iff_ne.mpr apart
  have room : ((fun xs : Array Value => xs.extract 0 0 ++ news ++ xs.extract olds.size xs.size) olds).size ≤ sizeLine + 1 := by
    rw [Array.size_append, Array.size_append, Array.size_extract, Array.size_extract]
    omega
  have top : (max (0 : Int) (olds.size : Int)).toNat = olds.size := by omega
  unfold setItem
  apply wpAny_holding
  refine wpAny_bind (m := sequenceKey _ _ _) (wpAny_sequenceKey list1.typeIs (by decide) ?_)
  apply wpAny_bind
  refine wpAny_callSpecial?_slot (name := Str.ofString "__setitem__") list1.typeIs slot_list_setitem ?_
  refine wpAny_call_entry slot_list_setitem list1.typeIs entry_list_setitem ?_ (args_list_setitem _ _ _)
  show wpAny _ _ (Builtin.List.listSubscript? (.ref k) >>= _) _ _ s
  apply wpAny_bind
  delta Builtin.List.listSubscript?
  apply wpAny_bind
  refine wpAny_specialOf kind slice_no_index ?_
  simp only [if_true, Option.isNone_none]
  apply wpAny_pure
  show wpAny _ _ (typeOf (.ref k) >>= _) _ _ s
  refine wpAny_bind (m := typeOf (.ref k)) (wpAny_typeOf kind ?_)
  first
    | rw [if_neg (show ¬ ((Value.type "slice" != Value.type "slice") = true) by decide)]
    | refine PySem.W.KFB.if_not (show (Value.type "slice" != Value.type "slice") = false by decide) ?_
  rw [listSliceParts_eq]
  refine wpAny_bind (wpAny_bind (wpAny_field here data_ (x := .none) rfl (wpAny_bind (wpAny_listPart IsPart.none ?_))))
  rw [if_neg (show ¬ ((rawPart none == rawInt 0) = true) from Bool.false_ne_true)]
  refine wpAny_bind (wpAny_field here data_ (x := lo) rfl (wpAny_bind (wpAny_listPart noLo ?_)))
  refine wpAny_bind (wpAny_field here data_ (x := hi) rfl (wpAny_bind (wpAny_listPart noHi (wpAny_pure ?_))))
  first
    | (simp only [other, Bool.false_eq_true, if_false]; done)
    | (dsimp only; rw [if_neg (show ¬ (Builtin.List.listSameRef (.ref p) (.ref q) = true) by rw [other]; exact Bool.false_ne_true)])
    | refine PySem.W.KFB.if_not other ?_
  refine wpAny_bind (m := Builtin.List.listAllItems (.ref q) "must assign iterable to extended slice") ?_
  delta Builtin.List.listAllItems
  refine wpAny_bind (m := typeOf (.ref q)) (wpAny_typeOf list2.typeIs ?_)
  first | apply PySem.W.KFB.if_so (by decide) | rw [if_pos (by decide)]
  unfold Builtin.List.listItems
  refine wpAny_bind (wpAny_seqItems at2 rfl (wpAny_pure ?_))
  refine wpAny_bind (wpAny_bind (wpAny_seqItems at1 rfl (wpAny_pure ?_)))
  refine wpAny_bind (wpAny_of_eq ((sliceIndices_raw none none none olds.size (by simp)).trans (congrArg (pure : Int × Int × Int → Sem (Int × Int × Int)) (whole_bounds olds.size))) ?_)
  show wpAny _ _ (ite (((1 : Int) == 1) = true) _ _) _ _ s
  rw [if_pos (show ((1 : Int) == 1) = true by decide)]
  apply wpAny_bind
  apply wpAny_rule
  first
    | refine PySem.W.KFB.if_not (L2.notLongL fits) ?_
    | simp only [L2.notLongL fits, Bool.false_eq_true, if_false]
  show wpAny _ _ (updateSeq p (fun xs => xs.extract 0 ((0 : Int)).toNat ++ news ++ xs.extract (max (0 : Int) (olds.size : Int)).toNat xs.size) >>= _) _ _ s
  rw [top]
  refine wpAny_bind (m := updateSeq _ _) (wpAny_updateSeq (hz := Nat.le_trans (Nat.le_add_right _ _) fits) (_hz' := room) at1 rfl ?_)
  apply wpAny_bind
  apply wpAny_letGo
  first
    | exact wpAny_pure ⟨.none, rfl, wpAny_pure next⟩
    | exact wpAny_bind (wpAny_pure (wpAny_pure ⟨.none, rfl, wpAny_pure next⟩))
theorem splice_whole (us vs : List Value) : us.toArray.extract 0 0 ++ vs.toArray ++ us.toArray.extract us.toArray.size us.toArray.size = vs.toArray := by
  apply Array.toList_inj.mp
  simp
end
section
variable {X : Cx} {c : Cst} {F H : Hp} {σ : L2.St} {ρ : Rho} {tt : List T} {tv : List V} {i j : Nat} {xs ys : List T}
/-- o[:] = v, by values -/
def gWhole (to : TE) : TG := fun v σ H Q => to σ H fun o H1 => ∃ (p q : Addr) (as bs : List V), o = .ref p ∧ v = .ref q ∧ p ≠ q ∧ H1 p = some (.lst as) ∧ H1 q = some (.lst bs) ∧ as.length + bs.length ≤ sizeLine ∧ Q σ (upd H1 p (.lst bs))
theorem pg_whole {o : Expr} {to : TE} {sp pos : Pos} (ho : PE X o to)
    (form : ∀ v, assign (.Subscript o (.Slice none none none sp) pos) X.env v = (do
      let l ← holding [v] (eval o X.env)
      let k ← holding [v, l] (eval (.Slice none none none sp) X.env)
      standAt pos
      holding [v, l, k] (setItem l k v)
      release [k, v, l] []) := by intro _; rfl) : PG X (.Subscript o (.Slice none none none sp) pos) (gWhole to) := by
  constructor
  intro pins s σ H v u Q I rel ask
  rw [form]
  refine wpAny_bind (m := holding [u] (eval o X.env)) (wpAny_holding (thn (ho.run pins s σ H _ I ask) fun w s1 got => ?_))
  obtain ⟨x, H1, I1, rel1, p, q, as, bs, rfl, rfl, ne, h1, h2, fits, next⟩ := got
  cases rel1
  cases rel
  apply wpAny_bind
  apply wpAny_holding
  apply wpAny_Slice
  rw [evalPart_none]
  refine wpAny_pure (wpAny_pure (wpAny_pure ?_))
  have I2 : Inv X pins σ H1 { s1 with heap := s1.heap.push { cls := .type "slice", data := .fields #[.none, .none, .none] } } := I1.kept (t' := s1.toks) fun b ob there => Heap.get?_push_of_some _ there
  obtain ⟨_, its1, n1, r1, _, e1⟩ := I2.lstM h1
  obtain ⟨z2, its2, n2, r2, _, e2⟩ := I2.lstM h2
  have l1 := r1.length
  have l2 := r2.length
  refine wpAny_bind (wpAny_standAt (wpAny_bind (wpAny_holding (setItem_whole e1 e2 ne (Heap.IsSliceOf.new ..) .none .none ?_ ?_))))
  · rw [List.size_toArray, List.size_toArray, ← l1, ← l2]
    exact fits
  · have J := I2.lset (f := fun xs => xs.extract 0 0 ++ its2.toArray ++ xs.extract its1.toArray.size xs.size) (its' := its2) (t' := s1.toks) h1 e1 (splice_whole its1 its2) r2 z2
    exact wpAny_release ⟨σ, _, J, next⟩
theorem Sim.apart2 (I : Sim c F H σ ρ tt tv) (hi : ρ[i]? = some (some (.lst true xs))) (hj : ρ[j]? = some (some (.lst true ys))) (ne : i ≠ j) :
    ∃ p q, σ[i]? = some (some (.ref p)) ∧ σ[j]? = some (some (.ref q)) ∧ p ≠ q := by
  obtain ⟨G, l, nd, hg⟩ := I.live
  have at1 : (tt.map some ++ ρ)[(tt.map some).length + i]? = some (some (.lst true xs)) := by rw [ap_get]; exact hi
  obtain ⟨v, G1, G2, e1, q1, l2, pm⟩ := l.take at1
  have at2 : ((tt.map some ++ ρ).set ((tt.map some).length + i) none)[(tt.map some).length + j]? = some (some (.lst true ys)) := by
    rw [ap_set, ap_get, List.getElem?_set_ne ne]
    exact hj
  obtain ⟨w, G3, G4, e2, q2, _, pm2⟩ := l2.take at2
  have hl : (tt.map some).length = (tv.map some).length := by simp [I.tl]
  rw [hl, ap_get] at e1 e2
  cases q1 with
  | @lstT p _ ws Gx h1 r1 =>
    cases q2 with
    | @lstT q _ zs Gy h2 r2 =>
      refine ⟨p, q, e1, e2, fun z => ?_⟩
      subst z
      have nd2 : ((p :: Gx) ++ ((p :: Gy) ++ G4)).Nodup := ((pm.trans (pm2.append_left _)).nodup_iff).mp nd
      exact (List.nodup_append.mp nd2).2.2 p (by simp) p (by simp) rfl
theorem Sim.pushAll : ∀ {ts : List T} {vs : List V}, TrL c.K F H ts vs [] → ∀ {tt : List T} {tv : List V}, Sim c F H σ ρ tt tv → Sim c F H σ ρ (ts ++ tt) (vs ++ tv)
  | [], _, h, _, _, I => by
    cases h
    exact I
  | t :: ts, _, h, _, _, I => by
    generalize hG : ([] : List Addr) = G at h
    cases h with
    | cons h1 h2 =>
      have n := List.append_eq_nil_iff.mp hG.symm
      have h2' := h2
      rw [n.2] at h2'
      exact (Sim.pushAll h2' I).pushG h1 n.1
/-- the list in slot i gets the items of the list in slot j -/
@[simp] def wAll (i j : Nat) (E : En) (ρ : Rho) : Prop := match ρ[i]?, ρ[j]? with
  | some (some (.lst true xs)), some (some (.lst true ys)) => stbL ys = true ∧ xs.length + ys.length ≤ sizeLine ∧ E.nx (ρ.set i (some (.lst true ys)))
  | _, _ => False
theorem vs_all (i j : Nat) {x y : Str} {px py sp ps pos : Pos} (ne : i ≠ j := by decide) (hx : X.N[i]? = some x := by rfl) (hy : X.N[j]? = some y := by rfl) (hK : X.K = c.K := by rfl)
    (vx : Vis X.env.scope x := by first | exact Or.inl rfl | exact Or.inr (Or.inl rfl) | exact Or.inr (Or.inr rfl)) (vy : Vis X.env.scope y := by first | exact Or.inl rfl | exact Or.inr (Or.inl rfl) | exact Or.inr (Or.inr rfl))
    (dx : (x == ("__debug__" : Str)) = false := by decide) (dy : (y == ("__debug__" : Str)) = false := by decide) (cx : (x == ("__classdict__" : Str)) = false := by decide) (cy : (y == ("__classdict__" : Str)) = false := by decide)
    (form : ∀ v, assign (.Subscript (.Name x px) (.Slice none none none sp) ps) X.env v = (do
      let l ← holding [v] (eval (.Name x px) X.env)
      let k ← holding [v, l] (eval (.Slice none none none sp) X.env)
      standAt ps
      holding [v, l, k] (setItem l k v)
      release [k, v, l] []) := by intro _; rfl)
    (hs : swapsWithSole [.Subscript (.Name x px) (.Slice none none none sp) ps] (.Name y py) pos.line X.env = pure false := by rfl) (hw : swappedStores [.Subscript (.Name x px) (.Slice none none none sp) ps] (.Name y py) X.env = pure none := by rfl)
    (h1 : (assignEach [.Subscript (.Name x px) (.Slice none none none sp) ps] X.env).map (·.2) = [assign (.Subscript (.Name x px) (.Slice none none none sp) ps) X.env] := by rfl) :
    VS X c (.Assign [.Subscript (.Name x px) (.Slice none none none sp) ps] (.Name y py) pos) (wAll i j) := by
  refine ⟨_, ps_asg (pe_var hy vy dy cy) (pg_whole (pe_var hx vx dx cx) form) hs hw h1, fun F H σ ρ tt tv D E I m ask => ?_⟩
  unfold wAll at ask
  split at ask
  · rename_i xs ys e1 e2
    obtain ⟨still, fits, next⟩ := ask
    obtain ⟨p, q, s1, s2, apart⟩ := I.apart2 e1 e2 ne
    obtain ⟨q', zs, G2, s2', hq, _, r2, len2⟩ := I.lstAt e2
    rw [s2] at s2'
    cases s2'
    have none2 := TrL.stb_nil r2 still
    subst none2
    have J := Sim.pushAll r2 I
    obtain ⟨p', ws, Gx, Gt, s1', hp, r1, _, mk⟩ := J.mutL len2.symm e1
    rw [s1] at s1'
    cases s1'
    refine ⟨.ref q, s2, .ref p, s1, p, q, ws, zs, rfl, rfl, apart, hp, hq, ?_, m.nx _ _ _ _ (mk ys zs [] [] r2 (List.nil_sublist _) (.refl _)) next⟩
    rw [← r1.length, len2]
    exact fits
  · exact ask.elim
end
section
variable {X : Cx} {c : Cst} {W : WX} {R : Addr → Rho → Prop} {k n : Nat} {f : Addr} {fd : FuncData} {ps : List Str} {g : G3} {x : Str} {p pos : Pos} {was : WA}
/-- f(k = e, x = object): the object, which is named last, is handed in to be changed, then dropped -/
@[simp] def wCallIoK (g : G3) (R : Addr → Rho → Prop) (was : WA) (ρ : Rho) (Q : T → Rho → Prop) : Prop := was ρ fun ts ρ1 => match ts with
  | [t, t0] => own t0 = true ∧ g [t0, fr t] (fun r _ => Q r ρ1) fun a _ => R a ρ1
  | _ => False
theorem ve_callIoK {ks : List Str} {kws : List Keyword} (D : Df X.prog X.w X.K X.mg X.base x k f fd ps 2 true g) (b : Bnd X.K fd ps 0 ks [1, 0]) (hr : Room k X.A) (kn : Kn X c W R) (ha : VK2 X c kws was) (two : ks.length = 2 := by rfl) (hg : Gl X x := by rfl) (hdb : (x == ("__debug__" : Str)) = false := by decide)
    (hall : (backToKw pos (keywordEach kws X.env)).all (·.1.isSome) = true := by rfl) (hks : (backToKw pos (keywordEach kws X.env)).filterMap (·.1) = ks := by rfl) (hpl : ((backTo pos (starEach [] X.env)).any (·.1) || (backToKw pos (keywordEach kws X.env)).any (·.1.isNone)) = false := by rfl) :
    VE X c (.Call (.Name x p) [] kws pos) (wCallIoK g R was) := by
  obtain ⟨ta, pa, ka⟩ := ha
  refine ⟨_, pe_callGK0 D.G hr kn.gd hg D.mx D.kp b (fun σ => L2N.passAt kn.tk σ) pa hall hks hdb hpl, fun F H σ ρ tt tv Q P I ask next => ka F H σ ρ tt tv _ _ I ask fun vs H1 F1 ts ρ1 I1 many q => ?_⟩
  split at q
  · rename_i t t0
    obtain ⟨v, v0, rfl⟩ := two_top many
    obtain ⟨o0, q⟩ := q
    have J : Sim c F1 H1 σ ρ1 (t0 :: ([t] ++ tt)) (v0 :: ([v] ++ tv)) := Sim.mid (ts := [t]) (vs := [v]) I1 rfl
    obtain ⟨_, _, r0, _⟩ := J.top
    obtain ⟨a, rfl⟩ := own_ref r0 o0
    refine ⟨two.symm, ?_⟩
    have turned : pick [1, 0] [v, V.ref a] = [V.ref a, v] := rfl
    rw [turned, kn.hK]
    have K := J.toEnd
    have hlr := I1.len
    have e1 : (σ ++ [some (V.ref a)])[ρ1.length]? = some (some (.ref a)) := by
      rw [hlr.symm]
      simp
    have e2 : (ρ1 ++ [some t0])[ρ1.length]? = some (some t0) := by simp
    have put : ∀ t1 : T, (ρ1 ++ [some t0]).set ρ1.length (some t1) = ρ1 ++ [some t1] := fun t1 => by
      rw [List.set_append_right _ _ (Nat.le_refl _), Nat.sub_self]
      rfl
    have first : c.io = none ∨ 0 < σ.length := by
      cases z : c.io with
      | none => exact .inl rfl
      | some y => exact .inr (List.getElem?_eq_some_iff.mp (I1.iop y z).1).1
    refine K.lowIo (ts := [t]) (vs := [v]) rfl rfl e1 e2 o0 q (fun r t1 F' H' u M q => ?_) fun b t1 F' H' M q => ?_
    · rw [put] at M
      exact next _ _ _ _ _ (M.ofEnd hlr.symm first).drop q
    · rw [put] at M
      exact kn.lk F' H' σ ρ1 tt tv b (M.ofEnd hlr.symm first).drop q
  · exact q.elim
end
section
variable {X : Cx} {c : Cst} {F H : Hp} {σ : L2.St} {ρ : Rho} {tt : List T} {tv : List V} {i n : Nat} {xs : List T} {t : T} {v : V} {p pos apos cpos : Pos} {wb w : WE} {e : Expr}
/-! ### x[b].append(e), x[b].reverse(), the list x[b] still the name's -/
theorem Sim.putBack (I : Sim c F H σ ρ (t :: tt) (v :: tv)) (h : ρ[i]? = some (some (.lst true xs))) (hn : xs[n]? = some (.fn v)) : Sim c F H σ (ρ.set i (some (.lst true (xs.set n t)))) tt tv := by
  have I1 : Sim c F H σ ρ ([t] ++ tt) ([v] ++ tv) := I
  obtain ⟨a, ws, Gx, Gt, _, hH, r1, r2, mk⟩ := I1.mutL rfl h
  obtain ⟨u, _, eu, hu, _⟩ := r1.get hn
  cases hu
  have lt := (List.getElem?_eq_some_iff.mp hn).1
  cases r2 with
  | @cons _ _ _ _ Ga Gb hh rest =>
    cases rest
    rw [List.append_nil] at mk
    obtain ⟨G', P, r', sub, pm⟩ := TrL.setAt hh n r1 lt
    have K := mk _ _ _ _ r' sub pm
    have back : upd H a (.lst (ws.set n v)) = H := by
      have stay : ws.set n v = ws := by
        apply List.ext_getElem?
        intro k
        by_cases z : n = k
        · subst z
          rw [List.getElem?_set_self (List.getElem?_eq_some_iff.mp eu).1, eu]
        · rw [List.getElem?_set_ne z]
      funext b
      by_cases z : b = a
      · rw [z, upd_same, stay, hH]
      · rw [upd_ne z]
    rw [back] at K
    exact K
/-- the list at x[b], taken out -/
@[simp] def wIn (i : Nat) (wb : WE) (ρ : Rho) (Q : List T → List T → Nat → V → Rho → Prop) : Prop := isLs ρ[i]? = true ∧ wb ρ fun k ρ1 => match k with
  | .int j => (match ρ1[i]? with
    | some (some (.lst true xs)) => (match ixN xs.length j with
      | some n => (match xs[n]? with
        | some (.lst true ys) => ∀ v, Q xs ys n v (ρ1.set i (some (.lst true (xs.set n (.fn v)))))
        | _ => False)
      | none => False)
    | _ => False)
  | _ => False
@[simp] def wAppIn (i : Nat) (wb w : WE) (ρ : Rho) (Q : T → Rho → Prop) : Prop := wIn i wb ρ fun xs ys n v ρ1 => w ρ1 fun t ρ2 => ρ2[i]? = some (some (.lst true (xs.set n (.fn v)))) ∧ ys.length < sizeLine ∧ Q .non (ρ2.set i (some (.lst true (xs.set n (.lst true (ys ++ [t]))))))
@[simp] def wRevIn (i : Nat) (wb : WE) (ρ : Rho) (Q : T → Rho → Prop) : Prop := wIn i wb ρ fun xs ys n _ ρ1 => Q .non (ρ1.set i (some (.lst true (xs.set n (.lst true ys.reverse)))))
theorem fn_there (hn : n < xs.length) : (xs.set n (.fn v))[n]? = some (.fn v) := List.getElem?_set_self hn
theorem ve_appIn (i : Nat) {x : Str} {b : Expr} (hb : VE X c b wb) (he : VE X c e w) (hK : X.K = c.K := by rfl) (hs : PlainIx b := by exact fun _ _ => rfl) (hN : X.N[i]? = some x := by rfl) (hv : Vis X.env.scope x := by first | exact Or.inl rfl | exact Or.inr (Or.inl rfl) | exact Or.inr (Or.inr rfl)) (hd : (x == ("__debug__" : Str)) = false := by decide)
    (hcd : (x == ("__classdict__" : Str)) = false := by decide)
    (hbase : attributeBase (.Subscript (.Name x p) b pos) "append" X.env (eval (.Subscript (.Name x p) b pos) X.env) = eval (.Subscript (.Name x p) b pos) X.env := by rfl)
    (hfew : ((backTo cpos (starEach [e] X.env)).all (fun x => !x.1) && (backToKw cpos (keywordEach [] X.env)).all (fun x => x.1.isSome) && decide ([e].length + ([] : List Keyword).length + (if ([] : List Keyword).isEmpty then 0 else 1) < 30)) = true := by rfl)
    (one : starEach [e] X.env = (false, eval e X.env) :: starEach [] X.env := by rfl) (hplain : (backTo cpos (starEach [] X.env)).any (·.1) = false := by rfl) (hline : (apos.endLine == cpos.line) = true := by rfl) :
    VE X c (.Call (.Attribute (.Subscript (.Name x p) b pos) "append" apos) [e] [] cpos) (wAppIn i wb w) := by
  obtain ⟨tb, pb, kb⟩ := hb
  obtain ⟨te, pe, ke⟩ := he
  refine ⟨_, pe_bm PySem.F.plainAttrs_list PySem.F.slot_list_append PySem.F.type_list_append mt_append (pe_ix ix_seq (pe_var hN hv hd hcd) pb hs) (pa_cons pe pa_nil one) hbase hfew hline one hplain, fun F H σ ρ tt tv Q P I ask next => ?_⟩
  obtain ⟨h0, ask⟩ := ask
  obtain ⟨xs0, e0⟩ := isLs_eq h0
  obtain ⟨l0, ws0, _, s0, hH0, _⟩ := I.lstAt e0
  refine ⟨.ref l0, s0, kb F H σ ρ tt tv _ _ I ask fun u H1 F1 t1 ρ1 I1 q => ?_⟩
  split at q
  · rename_i j
    have eu := I1.intTop
    subst eu
    split at q
    · rename_i xs e1
      split at q
      · rename_i n hn
        split at q
        · rename_i ys hy
          obtain ⟨a, ws, v, ea, hh, ew, many, J⟩ := I1.drop.takeAt e1 (xs := xs) rfl hy
          rw [s0] at ea
          cases ea
          have there : atI ws j = some v := by
            unfold atI
            rw [← many, hn]
            exact ew
          have J : Sim c F1 H1 σ (ρ1.set i (some (.lst true (xs.set n (.fn v))))) (.lst true ys :: tt) (v :: tv) := J
          have seq : SqL c.K H1 l0 ws := by
            rcases hh with ⟨o, _, known, _⟩ | ⟨bad, _⟩
            · exact known
            · cases bad
          obtain ⟨b0, vs0, rfl, hs0, _, _⟩ := J.opLst
          rw [hK]
          refine .inl ⟨l0, ws, j, _, rfl, rfl, seq, there, .inl ⟨rfl, vs0, hs0⟩, ke F1 H1 σ _ _ _ _ _ J (q _) fun v2 H2 F2 t ρ2 I2 q2 => ?_⟩
          obtain ⟨e2, room, q2⟩ := q2
          have I3 : Sim c F2 H2 σ ρ2 ([t] ++ .lst true ys :: tt) ([v2] ++ .ref b0 :: tv) := I2
          obtain ⟨l', zs, Gx, Gt, s1, hH, r1, r2, mk⟩ := I3.mutS rfl
          cases s1
          have K := (mk _ _ _ _ (r1.append r2) (List.Sublist.refl _) (.refl _)).putBack e2 (fn_there (List.getElem?_eq_some_iff.mp hy).1)
          rw [List.set_set] at K
          exact ⟨b0, zs, v2, rfl, rfl, hH, by rw [← r1.length]; exact room, next _ _ _ _ _ (K.pushG .non rfl) q2⟩
        · exact q.elim
      · exact q.elim
    · exact q.elim
  · exact q.elim
theorem ve_revIn (i : Nat) {x : Str} {b : Expr} (hb : VE X c b wb) (hK : X.K = c.K := by rfl) (hs : PlainIx b := by exact fun _ _ => rfl) (hN : X.N[i]? = some x := by rfl) (hv : Vis X.env.scope x := by first | exact Or.inl rfl | exact Or.inr (Or.inl rfl) | exact Or.inr (Or.inr rfl)) (hd : (x == ("__debug__" : Str)) = false := by decide)
    (hcd : (x == ("__classdict__" : Str)) = false := by decide)
    (hbase : attributeBase (.Subscript (.Name x p) b pos) "reverse" X.env (eval (.Subscript (.Name x p) b pos) X.env) = eval (.Subscript (.Name x p) b pos) X.env := by rfl) (hline : (apos.endLine == cpos.line) = true := by rfl) :
    VE X c (.Call (.Attribute (.Subscript (.Name x p) b pos) "reverse" apos) [] [] cpos) (wRevIn i wb) := by
  obtain ⟨tb, pb, kb⟩ := hb
  refine ⟨_, pe_bm0 PySem.F.plainAttrs_list PySem.F.slot_list_reverse PySem.F.type_list_reverse mt_reverse (pe_ix ix_seq (pe_var hN hv hd hcd) pb hs) hbase hline, fun F H σ ρ tt tv Q P I ask next => ?_⟩
  obtain ⟨h0, ask⟩ := ask
  obtain ⟨xs0, e0⟩ := isLs_eq h0
  obtain ⟨l0, ws0, _, s0, hH0, _⟩ := I.lstAt e0
  refine ⟨.ref l0, s0, kb F H σ ρ tt tv _ _ I ask fun u H1 F1 t1 ρ1 I1 q => ?_⟩
  split at q
  · rename_i j
    have eu := I1.intTop
    subst eu
    split at q
    · rename_i xs e1
      split at q
      · rename_i n hn
        split at q
        · rename_i ys hy
          obtain ⟨a, ws, v, ea, hh, ew, many, J⟩ := I1.drop.takeAt e1 (xs := xs) rfl hy
          rw [s0] at ea
          cases ea
          have there : atI ws j = some v := by
            unfold atI
            rw [← many, hn]
            exact ew
          have J : Sim c F1 H1 σ (ρ1.set i (some (.lst true (xs.set n (.fn v))))) ([] ++ .lst true ys :: tt) ([] ++ v :: tv) := J
          have seq : SqL c.K H1 l0 ws := by
            rcases hh with ⟨o, _, known, _⟩ | ⟨bad, _⟩
            · exact known
            · cases bad
          obtain ⟨l', zs, Gx, Gt, rfl, hH, r1, r2, mk⟩ := J.mutS rfl
          obtain ⟨G', r', pm⟩ := r1.rev
          have at_i : (ρ1.set i (some (.lst true (xs.set n (.fn (.ref l'))))))[i]? = some (some (.lst true (xs.set n (.fn (.ref l'))))) := List.getElem?_set_self (List.getElem?_eq_some_iff.mp e1).1
          have K := (mk _ _ _ _ r' (List.sublist_append_left _ _) pm).putBack at_i (fn_there (List.getElem?_eq_some_iff.mp hy).1)
          rw [List.set_set, List.set_set] at K
          have done := q (.ref l')
          dsimp only at done
          rw [List.set_set] at done
          rw [hK]
          exact .inl ⟨l0, ws, j, _, rfl, rfl, seq, there, .inl ⟨rfl, zs, SqL.of hH⟩, l', zs, rfl, rfl, hH, next _ _ _ _ _ (K.pushG .non rfl) done⟩
        · exact q.elim
      · exact q.elim
    · exact q.elim
  · exact q.elim
end
end L3

/-! where an exception is handled: iteration, unpacking, comprehensions, a helper that is asked of the error -/
namespace L3
open PySem L2 PySem.Spec PyProof.Rows

section
variable {A : Around} {st : Shared} {prog : Program} {w : World} {E : Value → Shared → Prop}
/-- a list'st iterator ends there -/
theorem end_listH {x1 cur src : Addr} {i : Nat} {items : Array Value} {Q : Option Value → Shared → Prop} (hot : HotX.HotAt A x1 st.heap) (off : x1 ≠ cur) (isCur : st.heap.IsListIter cur src i) (seq : st.heap.IsList src items) (out : items[i]? = none)
    (k : ∀ h', (∀ b o, b ≠ cur → st.heap.get? b = some o → h'.get? b = some o) → Q none { st with heap := h' }) : wpAny (model prog w) A (pyNext (.ref cur)) Q E st := by
  obtain ⟨oi, ei, ci, di⟩ := id isCur
  obtain ⟨ol, el, _, nl, dl⟩ := seq
  obtain ⟨hh, o1, vs1, e1, d1, c1⟩ := hot
  unfold pyNext
  refine wpAny_bind (wpAny_attempt (wpAny_callSpecial?_slot (name := Str.ofString "__next__") isCur.typeIs slot_listiter_next (wpAny_call_entry slot_listiter_next isCur.typeIs entry_listiter_next ?_ (args_listiter_next _))))
  show wpAny _ _ (field (.ref cur) 0 >>= _) _ _ st
  refine wpAny_bind (wpAny_field ei di (x := .ref src) rfl ?_)
  show wpAny _ _ (if (Value.ref src == Value.none) = true then _ else _) _ _ st
  rw [if_neg (show ¬ ((Value.ref src == Value.none) = true) from fun z => by cases z)]
  show wpAny _ _ (field (.ref cur) 1 >>= _) _ _ st
  refine wpAny_bind (wpAny_field ei di (x := .int i 0) rfl ?_)
  show wpAny _ _ (seqItems? (.ref src) >>= _) _ _ st
  refine wpAny_bind (wpAny_seqItems el dl ?_)
  simp only [Int.toNat_natCast, out]
  refine wpAny_bind (wpAny_rule (wpAny_bind (wpAny_setField ei di (by simp) ?_)))
  change wpAny _ _ (newExc (.type "StopIteration") [] >>= _) _ _ _
  apply wpAny_bind
  simp only [newExc, newTuple]
  apply wpAny_bind
  refine wpAny_newObj_type ?args (by size_fits)
  apply wpAny_bind (m := firstArgMember _ _)
  refine wpAny_of_eq (a := Value.none) (by first | rfl | (simp only [firstArgMember]; rfl)) ?none_
  refine wpAny_newObj_type ?made (by size_fits)
  have up1 := (Heap.get?_update_other st.heap (Obj.mapFields (·.setIfInBounds 0 Value.none)) (Ne.symm off)).trans e1
  refine HotX.raiseNew_hot ⟨hh, o1, vs1, Heap.get?_push_of_some _ (Heap.get?_push_of_some _ up1), d1, c1⟩ (Nat.ne_of_lt (Heap.lt_size (Heap.get?_push_of_some _ up1))) (Heap.get?_push_size _ rfl) rfl (by first | (simp; done) | (simp; omega) | (simp only [Array.size_append]; simp; omega)) ?_
  refine wpAny_bind (wpAny_isInstance (T := "StopIteration") (b := true) ⟨_, Heap.get?_update_self _ (Heap.get?_push_size _ rfl) rfl, rfl⟩ isSubtype_stop (wpAny_pure (k _ fun b o off e => ?_)))
  have up := Heap.get?_push_of_some { cls := .type "tuple", data := .seq #[] } ((Heap.get?_update_other st.heap (Obj.mapFields (·.setIfInBounds 0 Value.none)) (Ne.symm off)).trans e)
  rw [Heap.get?_update_other _ _ (Nat.ne_of_gt (Heap.lt_size up))]
  exact Heap.get?_push_of_some _ up
/-- a tuple'st -/
theorem end_tupH {x1 cur src : Addr} {i : Nat} {items : Array Value} {Q : Option Value → Shared → Prop} (hot : HotX.HotAt A x1 st.heap) (off : x1 ≠ cur) (isCur : st.heap.IsTupleIter cur src i) (seq : st.heap.IsTuple src items) (out : items[i]? = none)
    (k : ∀ h', (∀ b o, b ≠ cur → st.heap.get? b = some o → h'.get? b = some o) → Q none { st with heap := h' }) : wpAny (model prog w) A (pyNext (.ref cur)) Q E st := by
  obtain ⟨oi, ei, ci, di⟩ := id isCur
  obtain ⟨ol, el, _, nl, dl⟩ := seq
  obtain ⟨hh, o1, vs1, e1, d1, c1⟩ := hot
  unfold pyNext
  refine wpAny_bind (wpAny_attempt (wpAny_callSpecial?_slot (name := Str.ofString "__next__") isCur.typeIs F.slot_tuple_iterator_next (wpAny_call_entry F.slot_tuple_iterator_next isCur.typeIs F.entry_tuple_iterator_next ?_ (F.args_tuple_iterator_next_1 _))))
  show wpAny _ _ (field (.ref cur) 0 >>= _) _ _ st
  refine wpAny_bind (wpAny_field ei di (x := .ref src) rfl ?_)
  show wpAny _ _ (if (Value.ref src == Value.none) = true then _ else _) _ _ st
  rw [if_neg (show ¬ ((Value.ref src == Value.none) = true) from fun z => by cases z)]
  show wpAny _ _ (field (.ref cur) 1 >>= _) _ _ st
  refine wpAny_bind (wpAny_field ei di (x := .int i 0) rfl ?_)
  show wpAny _ _ (seqItems? (.ref src) >>= _) _ _ st
  refine wpAny_bind (wpAny_seqItems el dl ?_)
  simp only [Int.toNat_natCast, out]
  refine wpAny_bind (wpAny_rule (wpAny_bind (wpAny_setField ei di (by simp) ?_)))
  change wpAny _ _ (newExc (.type "StopIteration") [] >>= _) _ _ _
  apply wpAny_bind
  simp only [newExc, newTuple]
  apply wpAny_bind
  refine wpAny_newObj_type ?args (by size_fits)
  apply wpAny_bind (m := firstArgMember _ _)
  refine wpAny_of_eq (a := Value.none) (by first | rfl | (simp only [firstArgMember]; rfl)) ?none_
  refine wpAny_newObj_type ?made (by size_fits)
  have up1 := (Heap.get?_update_other st.heap (Obj.mapFields (·.setIfInBounds 0 Value.none)) (Ne.symm off)).trans e1
  refine HotX.raiseNew_hot ⟨hh, o1, vs1, Heap.get?_push_of_some _ (Heap.get?_push_of_some _ up1), d1, c1⟩ (Nat.ne_of_lt (Heap.lt_size (Heap.get?_push_of_some _ up1))) (Heap.get?_push_size _ rfl) rfl (by first | (simp; done) | (simp; omega) | (simp only [Array.size_append]; simp; omega)) ?_
  refine wpAny_bind (wpAny_isInstance (T := "StopIteration") (b := true) ⟨_, Heap.get?_update_self _ (Heap.get?_push_size _ rfl) rfl, rfl⟩ isSubtype_stop (wpAny_pure (k _ fun b o off e => ?_)))
  have up := Heap.get?_push_of_some { cls := .type "tuple", data := .seq #[] } ((Heap.get?_update_other st.heap (Obj.mapFields (·.setIfInBounds 0 Value.none)) (Ne.symm off)).trans e)
  rw [Heap.get?_update_other _ _ (Nat.ne_of_gt (Heap.lt_size up))]
  exact Heap.get?_push_of_some _ up
/-- a tuple taken apart there -/
theorem apartH {x1 t : Addr} {items : Array Value} {Q : List Value → Shared → Prop} (hot : HotX.HotAt A x1 st.heap) (tup : st.heap.IsTuple t items)
    (k : ∀ h', (∀ b o, st.heap.get? b = some o → h'.get? b = some o) → Q items.toList { st with heap := h' }) : wpAny (model prog w) A (unpackItems (.ref t) items.size none) Q E st := by
  have low : ∀ {b : Addr} {o : Obj}, st.heap.get? b = some o → b ≠ st.heap.objs.size := fun e => Nat.ne_of_lt (Heap.lt_size e)
  have tn : t ≠ st.heap.objs.size := by
    obtain ⟨_, e, _⟩ := tup
    exact low e
  have x1n : x1 ≠ st.heap.objs.size := by
    obtain ⟨_, _, _, e, _⟩ := hot
    exact low e
  unfold unpackItems
  refine wpAny_bind ?_
  unfold notIterableAtAll
  refine wpAny_bind (wpAny_specialOf tup.typeIs F.slot_tuple_iter.lookup (wpAny_pure ?_))
  rw [if_neg (by decide)]
  refine wpAny_bind (wpAny_holding (wpAny_pyIter_tuple tup (wpAny_bind (wpAny_holding (wpAny_draw_tuple tn items.size 0 _ _ ⟨_, Heap.get?_push_size _ rfl, rfl, rfl⟩ (tup.push _) (by omega) fun h1 st1 sb1 => ?_)))))
  have all : List.take items.size (List.drop 0 items.toList) = items.toList := by simp [List.take_of_length_le]
  rw [all, if_neg (by simp)]
  have up : ∀ b o, st.heap.get? b = some o → h1.get? b = some o := fun b o e => sb1.extBut b o (low e) (Heap.get?_push_of_some _ e)
  obtain ⟨hh, o1, vs1, e1, d1, c1⟩ := hot
  refine wpAny_bind (wpAny_holding (end_tupH ⟨hh, o1, vs1, up _ _ e1, d1, c1⟩ x1n st1 ((tup.push _).extBut sb1.extBut tn) (by simp) fun h2 k2 => ?_))
  rw [if_neg (by simp)]
  exact wpAny_pure (k h2 fun b o e => k2 b o (low e) (up b o e))
end

section
variable {X : Cx} {s : Shared} {H : Hp} {σ : L2.St} {pins : List (Addr × Obj)}
theorem hot_take (hot : L2H.HotC X) (I : Inv X pins σ H s) : ∃ p, p ∈ X.pn ∧ HotX.HotAt X.A p.1 s.heap := by
  obtain ⟨p, ⟨hh, vs, e, z⟩, hp⟩ := hot
  exact ⟨p, hp, hh, p.2, vs, (I.pin p (List.mem_append_left _ hp)).1, e, z⟩
/-- a, b, .. = a tuple, there -/
theorem pg_tupH {es : List Expr} {kk : Nat} {pos : Pos} {t : TGs} {n : Nat} (hot : L2H.HotC X) (many : PGs X es t) (hn : (assignEach es X.env).length = n) (nostar : (assignEach es X.env).findIdx? (·.1) = none) : PG X (.Tuple es kk pos) (gTup X.K n t) := by
  constructor
  intro pins s σ H v u Q I r ask
  obtain ⟨a, xs, rfl, hq, hl, ask⟩ := ask
  cases r
  obtain ⟨its, rv, tup, _⟩ := I.tuple hq
  obtain ⟨p, _, at_⟩ := hot_take hot I
  have len : (assignEach es X.env).length = its.toArray.size := by simp [hn, ← hl, rv.length]
  rw [arm_assign_Tuple]
  apply wpAny_bind
  apply wpAny_standAt
  unfold unpack
  rw [len, nostar]
  refine wpAny_bind (wpAny_holding (apartH at_ tup fun h' k => ?_))
  exact many.run pins _ σ H xs _ Q (I.kept (t' := s.toks) k) (by simpa using rv) ask
end

/-- a comprehension's block, where what is pinned stays so -/
abbrev blkP (X : Cx) (s : Shared) (H : Hp) (scope : Scope) (cenv : Env) (fp : List Addr) : Cx := (X.blk s H scope cenv fp).tr X.pn fun _ _ => False
theorem blkP_hot {X : Cx} (hot : L2H.HotC X) (s : Shared) (H : Hp) (scope : Scope) (cenv : Env) (fp : List Addr) : L2H.HotC (blkP X s H scope cenv fp) := hot

section
variable {X : Cx} {pins : List (Addr × Obj)} {s : Shared} {σ : L2.St} {H : Hp} {Q : VK} {elt tg iter : Expr} {ifs : List Expr} {scope : Scope} {ow : List (Str × Nat)} {pos pos' : Pos} {te0 : TE} {g : TG} {tt : TT} {te : TE} {use : Option (Value → Sem Unit)} {Qf : Value → Shared → Prop}
/-- a comprehension over a list, there -/
theorem lc_runH (hot : L2H.HotC X) (nd : X.N.Nodup) (I : Inv X pins σ H s) (src : PE X iter te0) (ok : BlkOk X.N X.env.scope scope ow)
    (hg : ∀ (s : Shared) (H : Hp) (C : Addr) (cl : List (Str × Addr)) (fp : List Addr), PG (blkP X s H scope (compEnvC scope cl C X.env) fp) tg g)
    (ht : ∀ (s : Shared) (H : Hp) (C : Addr) (cl : List (Str × Addr)) (fp : List Addr), PTs (blkP X s H scope (compEnvC scope cl C X.env) fp) ifs tt)
    (he : ∀ (s : Shared) (H : Hp) (C : Addr) (cl : List (Str × Addr)) (fp : List Addr), PE (blkP X s H scope (compEnvC scope cl C X.env) fp) elt te)
    (plain : ∀ x, foldedSetIterable iter X.env x = pure x) (ask : tLc (iList X.K te0) g tt te (ow.map (·.2)) σ H Q)
    (post : ∀ box C s' m H', Inv X pins σ H' s' → Q (.ref box) H' → s'.heap.Ns C m → FpOk X pins H' C → compPost (model X.prog X.w) X.A X.xe use Qf (.ref box) C (.ok .next) s') :
    wpAny (model X.prog X.w) X.A (comprehension (.ListComp elt [⟨tg, iter, ifs, 0⟩] scope pos) scope X.env pos' (newList []) false (eval iter X.env) use) (fun v s' => Qf v s') X.xe s := by
  have shut : ∀ y ∈ scope.names, y.2 = .free → ∃ b, X.env.cells.lookup y.1 = some b := fun y hy e => (ok.free y hy e).elim (fun z => I.ok.has _ (.inl z)) fun z => I.ok.has _ (.inr z)
  refine wpAny_comprehension_free (use := use) rfl plain (closure_ok shut) ok.kind (fun y hy e => by rw [ok.uniq y hy, e]) (thn (src.run pins s σ H _ I ask) fun xv u1 got => ?_)
  obtain ⟨xa, H2, I1, rx, l, ex, ⟨xs, hq⟩, q⟩ := got
  subst ex
  cases rx
  obtain ⟨its, rv, pl, _⟩ := I1.list hq
  refine wpAny_pyIter_list pl.isList ?_
  generalize ho : ({ cls := .type "list_iterator", data := .fields #[.ref l, .int 0 0] } : Obj) = oit
  have push1 : ∀ b o, u1.heap.get? b = some o → (u1.heap.push oit).get? b = some o := fun b o e => Heap.get?_push_of_some _ e
  generalize hit : u1.heap.objs.size = cur
  have st2 : (u1.heap.push oit).IsListIter cur l 0 := by
    rw [← hit, ← ho]
    refine ⟨_, Heap.get?_push_size _ rfl, ?_, ?_⟩ <;> rfl
  have f2 : FpOk X pins H2 cur := I1.fpOk (Nat.le_of_eq hit) (I1.hok.fresh (Nat.le_of_eq hit))
  have I2 : Inv X pins σ H2 { u1 with heap := u1.heap.push oit, toks := u1.toks } := I1.kept push1
  generalize hs2 : ({ u1 with heap := u1.heap.push oit } : Shared) = u2
  have I2 : Inv X pins σ H2 u2 := by
    rw [← hs2]
    exact I2
  have st2 : u2.heap.IsListIter cur l 0 := by
    rw [← hs2]
    exact st2
  refine wpAny_newObj_type (newEnv_comp ?_) (Nat.zero_le _)
  generalize hD : u2.heap.objs.size = box
  have noBox : H2 box = none := I2.hok.fresh (Nat.le_of_eq hD)
  obtain ⟨W, ⟨m0, w0⟩, step_⟩ := q box noBox
  generalize hol : ({ cls := .type "list", data := .seq ([] : List Value).toArray } : Obj) = onew
  have e3 : (u2.heap.push onew).get? box = some onew := by
    rw [← hD]
    exact Heap.get?_push_size _ (by rw [← hol]; rfl)
  generalize hs3 : ({ u2 with heap := u2.heap.push onew } : Shared) = u3
  have h3 : u3.heap = u2.heap.push onew := by rw [← hs3]
  have I3 : Inv X pins σ (upd H2 box (.lst [])) u3 := by
    rw [← hs3]
    refine I2.laid (t' := u2.toks) (fun b o e => Heap.get?_push_of_some _ e) (Nat.le_of_eq hD) ⟨Nat.zero_le _, [], 0, .nil, ?_⟩
    rw [e3, ← hol]
  have itlt : cur < u2.heap.objs.size := by
    obtain ⟨_, e, _⟩ := st2
    exact Heap.lt_size e
  have nD : cur ≠ box := by
    rw [← hD]
    exact Nat.ne_of_lt itlt
  have st3 : u3.heap.IsListIter cur l 0 := by
    obtain ⟨o, e, r⟩ := st2
    exact ⟨o, by rw [h3]; exact Heap.get?_push_of_some _ e, r⟩
  have f3 : FpOk X pins (upd H2 box (.lst [])) cur := ⟨by rw [upd_ne nD]; exact f2.1, f2.2⟩
  have all3 : ∀ b ∈ [cur], FpOk X pins (upd H2 box (.lst [])) b ∧ b < u3.heap.objs.size := fun b hb => by
    have e := List.mem_singleton.mp hb
    subst e
    exact ⟨f3, by rw [h3, Heap.size_push]; exact Nat.lt_succ_of_lt itlt⟩
  have I4 := block_start I3 ok nd all3
  have pg := hg u3 (upd H2 box (.lst [])) u3.heap.objs.size (cellsFrom (u3.heap.objs.size + 1) scope.names (cloFrom X.env.cells scope.names [])) [cur]
  have pt := ht u3 (upd H2 box (.lst [])) u3.heap.objs.size (cellsFrom (u3.heap.objs.size + 1) scope.names (cloFrom X.env.cells scope.names [])) [cur]
  have pe := he u3 (upd H2 box (.lst [])) u3.heap.objs.size (cellsFrom (u3.heap.objs.size + 1) scope.names (cloFrom X.env.cells scope.names [])) [cur]
  show codeAny _ _ (.compStart (.ListComp elt [⟨tg, iter, ifs, 0⟩] scope pos) 0 (.ref cur) (.ref box) (compEnvC scope (cellsFrom (u3.heap.objs.size + 1) scope.names (cloFrom X.env.cells scope.names [])) u3.heap.objs.size X.env)) (compPost (model X.prog X.w) X.A X.xe use Qf (.ref box) u3.heap.objs.size) { u3 with heap := pushCells (u3.heap.push { cls := .type "dict", data := .dict #[] }) scope.names }
  generalize hce : compEnvC scope (cellsFrom (u3.heap.objs.size + 1) scope.names (cloFrom X.env.cells scope.names [])) u3.heap.objs.size X.env = inner at I4 pg pt pe ⊢
  have cL : inner.locals = u3.heap.objs.size := by
    subst hce
    rfl
  generalize hH3 : upd H2 box (.lst []) = H3 at I3 I4 pg pt pe w0 f3
  generalize hs4 : ({ u3 with heap := pushCells (u3.heap.push { cls := .type "dict", data := .dict #[] }) scope.names } : Shared) = u4 at I4 ⊢
  have up4 : ∀ b o, u3.heap.get? b = some o → u4.heap.get? b = some o := fun b o e => by
    rw [← hs4]
    exact pushCells_keeps _ _ _ _ (Heap.get?_push_of_some _ e)
  have st4 : u4.heap.IsListIter cur l 0 := by
    obtain ⟨o, e, r⟩ := st3
    exact ⟨o, up4 _ _ e, r⟩
  -- what is pinned is pinned in the block
  have I4p : Inv (X.blk u3 H3 scope inner [cur]) X.pn (wipe σ (ow.map (·.2))) H3 u4 := I4.pins_of fun p hp => by
    obtain ⟨z1, z2, z3, z4, z5⟩ := I3.pin p (List.mem_append_left _ hp)
    refine ⟨up4 _ _ z1, z2, ?_, fun hm => (List.mem_cons.mp (I3.stkSub p.1 hm)).elim z3 z4, z5⟩
    show p.1 ≠ inner.locals
    rw [cL]
    exact Nat.ne_of_lt (Heap.lt_size z1)
  have I5 : Inv (blkP X u3 H3 scope inner [cur]) [] (wipe σ (ow.map (·.2))) H3 u4 := I4p.toTry _
  have hotB : L2H.HotC (blkP X u3 H3 scope inner [cur]) := hot
  have offp : ∀ p ∈ X.pn, p.1 ≠ cur := fun p hp => f3.2.2.2.2.2 p (List.mem_append_left _ hp)
  have stat : ∀ {σ' : L2.St} {H' : Hp} {s' : Shared}, Inv (blkP X u3 H3 scope inner [cur]) [] σ' H' s' → H' cur = none → FpOk (blkP X u3 H3 scope inner [cur]) [] H' cur := fun {σ' H' s'} J hn =>
    ⟨hn, (J.ok.exf cur (by simp)).1, J.ok.exfs cur (by simp), .inl (by simp), fun x c e => (J.ok.exf cur (by simp)).2 x c e, fun p hp => offp p (by simpa using hp)⟩
  have loop : codeAny (model X.prog X.w) X.A (.compLoop (.ListComp elt [⟨tg, iter, ifs, 0⟩] scope pos) 0 (.ref cur) (.ref box) inner) (compPost (model X.prog X.w) X.A X.xe use Qf (.ref box) u3.heap.objs.size) u4 := by
    refine compLoop_any (fun n s' => ∃ i H', Inv (blkP X u3 H3 scope inner [cur]) [] (wipe σ (ow.map (·.2))) H' s' ∧ s'.heap.IsListIter cur l i ∧ H' cur = none ∧ W i n H') ?_ m0 ⟨0, H3, I5, st4, f3.1, w0⟩
    rintro n u5 ⟨i, H5, J5, st5, n5, w5⟩
    obtain ⟨g0, g1, g2, g3, g4, g5⟩ := stat J5 n5
    rcases step_ i n H5 w5 with ⟨⟨ys, hy, short⟩, fin⟩ | ⟨⟨ys, y, hy, hyi⟩, Nx, hNx, step⟩
    · obtain ⟨us, rus, plu, _⟩ := J5.list hy
      obtain ⟨p, hp, at_⟩ := hot_take hotB J5
      have ul := rus.length
      refine thnF (Q := fun r u6 => r = none ∧ Inv (blkP X u3 H3 scope inner [cur]) [] (wipe σ (ow.map (·.2))) H5 u6) (end_listH (A := X.A) (E := fun _ _ => False) at_ (offp p hp) st5 plu.isList (by simp; omega) fun h' k => ⟨rfl, J5.turned (t' := u5.toks) k g0 g1 g3 g4 g5⟩) fun r u6 z => ?_
      obtain ⟨rfl, J6⟩ := z
      have back : Inv X pins σ H5 u6 := I3.call' (ch := [cur]) J6.os J6.base J6.hok J6.bare fun b hb => by
        have e := List.mem_singleton.mp hb
        subst e
        exact ⟨f3.2.2.2.1, f3.2.1, f3.2.2.2.2.1, f3.2.2.2.2.2⟩
      have nC : H5 u3.heap.objs.size = none := by
        have z : H5 inner.locals = none := J6.free
        rwa [cL] at z
      obtain ⟨m, hn, _⟩ := J6.loc
      have hn : u6.heap.Ns inner.locals _ := hn
      rw [cL] at hn
      exact post box u3.heap.objs.size u6 m H5 back fin hn (I3.fpOk (Nat.le_refl _) nC)
    · obtain ⟨us, rus, plu, _⟩ := J5.list hy
      obtain ⟨u, hu, ru⟩ := rus.get hyi
      refine thnF (Q := fun r u6 => ∃ u, r = some u ∧ wpAny (model X.prog X.w) X.A (letOwnedTupleGo tg (.ref cur) u) (fun _ u7 => ∃ x, Inv (blkP X u3 H3 scope inner [cur]) [] (wipe σ (ow.map (·.2))) H5 u7 ∧ RelV x u ∧ (∀ ys, SqL X.K H5 l ys → ys[i]? = some x) ∧ u7.heap.IsListIter cur l (i + 1)) (fun _ _ => False) u6) (wpAny_pyNext_list_item st5 plu.isList (x := u) (by simpa using hu) fun h' st6 sb => ?_) fun r u6 z => ?_
      · have J6 : Inv (blkP X u3 H3 scope inner [cur]) [] (wipe σ (ow.map (·.2))) H5 { u5 with heap := h', toks := u5.toks } := J5.turned (fun b o hb e => (sb.2 b hb).trans e) g0 g1 g3 g4 g5
        obtain ⟨o6, e6, c6, d6⟩ := id st6
        exact ⟨u, rfl, go_of (s := { u5 with heap := h' }) e6 c6 d6 (by decide) ⟨y, J6, ru, fun zs hz => by rw [J5.list_inj hz hy]; exact hyi, st6⟩⟩
      · obtain ⟨u', rfl, z⟩ := z
        refine thnF z fun _ u7 got => ?_
        obtain ⟨x, J7, r7, y7, st7⟩ := got
        have pin7 : ∀ b ∈ [cur], ∃ o, u7.heap.get? b = some o ∧ ∀ v, o.data ≠ .cell v := fun b hb => by
          have e := List.mem_singleton.mp hb
          subst e
          obtain ⟨o, e, _, d⟩ := st7
          exact ⟨o, e, fun v z => nomatch d.symm.trans z⟩
        have J7' := J7.pinned (fp := [cur]) (fun b hb => by
          have e := List.mem_singleton.mp hb
          subst e
          exact stat J7 n5) pin7
        refine thnF (pg.run _ u7 _ H5 x u' _ J7' r7 (step x H5 ⟨rfl, y7⟩)) fun _ u8 z => ?_
        obtain ⟨σ8, H8, J8, hw8, q8⟩ := z
        refine thnF (pt.run _ u8 σ8 H8 _ J8 q8) fun b u9 z => ?_
        obtain ⟨H9, J9, q9⟩ := z
        have again : ∀ {s' : Shared} {H' : Hp}, Inv (blkP X u3 H3 scope inner [cur]) ([] ++ pinsAt [cur] u7.heap) σ8 H' s' → Nx H' → ∃ m, m < n ∧ ∃ i H', Inv (blkP X u3 H3 scope inner [cur]) [] (wipe σ (ow.map (·.2))) H' s' ∧ s'.heap.IsListIter cur l i ∧ H' cur = none ∧ W i m H' := fun {s' H'} J nx => by
          obtain ⟨m', less, w'⟩ := hNx H' nx
          obtain ⟨o, e, r⟩ := st7
          have z := J.pin (cur, o) (List.mem_append_right _ (List.mem_append_right _ (mem_pinsAt (by simp) e)))
          have same : (wipe σ (ow.map (·.2))).length = σ8.length := by rw [← hw8, wipe_length]
          refine ⟨m', less, i + 1, H', (J.unpinned (pins := [])).weak same (fun j v e => ?_), ⟨o, z.1, r⟩, z.2.1, w'⟩
          rw [← hw8] at e
          exact (wipe_some e).1
        cases b with
        | false =>
          rw [if_neg (by decide)] at q9 ⊢
          exact again J9 q9
        | true =>
          rw [if_pos rfl] at q9 ⊢
          refine thnF (pe.run _ u9 σ8 H9 _ J9 q9) fun z u10 got => ?_
          obtain ⟨yv, H10, J10, r10, acc, hD10, room, nx⟩ := got
          exact app_ok (X := blkP X u3 H3 scope inner [cur]) J10 hD10 room r10 fun u11 J11 => again J11 nx
  exact codeAny_compStart_list loop (wpAny_pyIter_listiter st4 loop)
/-- .. as a value -/
theorem pe_lcH (hot : L2H.HotC X) (nd : X.N.Nodup) (src : PE X iter te0) (ok : BlkOk X.N X.env.scope scope ow)
    (hg : ∀ (s : Shared) (H : Hp) (C : Addr) (cl : List (Str × Addr)) (fp : List Addr), PG (blkP X s H scope (compEnvC scope cl C X.env) fp) tg g)
    (ht : ∀ (s : Shared) (H : Hp) (C : Addr) (cl : List (Str × Addr)) (fp : List Addr), PTs (blkP X s H scope (compEnvC scope cl C X.env) fp) ifs tt)
    (he : ∀ (s : Shared) (H : Hp) (C : Addr) (cl : List (Str × Addr)) (fp : List Addr), PE (blkP X s H scope (compEnvC scope cl C X.env) fp) elt te)
    (plain : ∀ x, foldedSetIterable iter X.env x = pure x) : PE X (.ListComp elt [⟨tg, iter, ifs, 0⟩] scope pos) (tLc (iList X.K te0) g tt te (ow.map (·.2))) := by
  constructor
  intro pins s σ H Q I ask
  rw [eval_ListComp]
  refine lc_runH hot nd I src ok hg ht he plain ask fun D C s' m H' J q hn f => ⟨m, hn, fun h'' sb => ?_⟩
  obtain ⟨g0, g1, g2, g3, g4, g5⟩ := f
  exact ⟨.ref D, H', J.turned (t' := s'.toks) (fun b o hb e => (sb.2 b hb).trans e) g0 g1 g3 g4 g5, rfl, q⟩
/-- name = [..] on one line, there -/
theorem ps_setLcH {i : Nat} {x : Str} {py spos : Pos} (hot : L2H.HotC X) (nd : X.N.Nodup) (named : X.N[i]? = some x) (loc : X.env.scope.names.lookup x = some .local) (swap : swapsWith (.ListComp elt [⟨tg, iter, ifs, 0⟩] scope pos) (some (.Name x py)) spos.line X.env = pure true) (src : PE X iter te0) (ok : BlkOk X.N X.env.scope scope ow)
    (hg : ∀ (s : Shared) (H : Hp) (C : Addr) (cl : List (Str × Addr)) (fp : List Addr), PG (blkP X s H scope (compEnvC scope cl C X.env) fp) tg g)
    (ht : ∀ (s : Shared) (H : Hp) (C : Addr) (cl : List (Str × Addr)) (fp : List Addr), PTs (blkP X s H scope (compEnvC scope cl C X.env) fp) ifs tt)
    (he : ∀ (s : Shared) (H : Hp) (C : Addr) (cl : List (Str × Addr)) (fp : List Addr), PE (blkP X s H scope (compEnvC scope cl C X.env) fp) elt te)
    (plain : ∀ x, foldedSetIterable iter X.env x = pure x) :
    PS X (.Assign [.Name x py] (.ListComp elt [⟨tg, iter, ifs, 0⟩] scope pos) spos) (tAsg (tLc (iList X.K te0) g tt te (ow.map (·.2))) (gName i)) := by
  constructor
  intro pins s σ H D I ask
  rw [exec_Assign_Name_used _ _ _ _ swap]
  apply wpAny_bind
  apply wpAny_standAt
  apply wpAny_bind
  show wpAny _ X.A (do let _ ← comprehension (.ListComp elt [⟨tg, iter, ifs, 0⟩] scope pos) scope X.env (firstIterPos [⟨tg, iter, ifs, 0⟩] pos) (newList []) false (eval iter X.env) (some (assign (.Name x py) X.env))) _ _ s
  have ask : tLc (iList X.K te0) g tt te (ow.map (·.2)) σ H (fun y H1 => gName i y σ H1 D.nx) := ask
  refine wpAny_bind (thn (lc_runH (Qf := fun _ s' => SP X pins D .next s') hot nd I src ok hg ht he plain ask fun L C s' m H' J q hn f => ?_) fun _ s' hq => wpAny_pure (wpAny_pure hq))
  show wpAny _ _ (assign (.Name x py) X.env (.ref L)) _ _ _
  obtain ⟨g0, g1, g2, g3, g4, g5⟩ := f
  refine wpAny_assign_Name (store_ok2 (v := V.ref L) J nd named (.inl loc) rfl (fun s2 J2 ⟨a, sb, ha⟩ => ?_) (.inr loc))
  have apart : C ≠ a := ha.elim (fun z => by rw [z]; exact g1) fun z e => g4 x a z e.symm
  exact ⟨m, hn.sameBut sb apart, fun h3 sb3 => ⟨_, H', J2.turned (t' := s2.toks) (fun b o hb e => (sb3.2 b hb).trans e) g0 g1 g3 g4 g5, q⟩⟩
end
section
variable {X : Cx} {c : Cst} {tg iter e elt : Expr} {w : WE} {wi : WI} {g : WG} {js : List Nat} {wt : WT} {we : WE} {ow : List (Str × Nat)} {scope : Scope} {pos : Pos}
/-- a list that is gone through, told by what it is -/
def VIH (X : Cx) (c : Cst) (iter : Expr) (wi : WI) : Prop :=
  ∃ te0 : TE, PE X iter te0 ∧ ∀ (F H : Hp) (σ : L2.St) (ρ : Rho) (tt : List T) (tv : List V) (Q : List T → Rho → Prop) (R : It → Hp → Prop), Sim c F H σ ρ tt tv → wi ρ Q →
    (∀ J H' F' ρ' items ls lv, Sim c F' H' σ ρ' (ls ++ tt) (lv ++ tv) → ls.length = lv.length → Wk c J ls lv items → Q items ρ' → R J H') → iList X.K te0 σ H R
theorem vih_list (he : VE X c e w) (hK : X.K = c.K := by rfl) : VIH X c e (wiL w) := by
  obtain ⟨te, pe, ke⟩ := he
  refine ⟨te, pe, fun F H σ ρ tt tv Q R I h k => ke F H σ ρ tt tv _ _ I h fun v H1 F1 t ρ1 I1 q => ?_⟩
  cases t with
  | lst o xs =>
    obtain ⟨F2, _, J⟩ := I1.frz
    have J : Sim c F2 H1 σ ρ1 (.lst false (frL xs) :: tt) (v :: tv) := by simpa only [fr] using J
    obtain ⟨a, vs, rfl, hs, hr⟩ := J.lstF
    refine ⟨a, rfl, ⟨vs, hK ▸ ex_l J.ex hs⟩, ?_⟩
    rw [hK]
    refine k (Itl c.K a) H1 F2 ρ1 (frL xs) [.lst false (frL xs)] [.ref a] J rfl (wk_list hs hr fun F' H' σ' ρ' tt' tv' I' => ?_) q
    obtain ⟨a', ws, e, h1, h2⟩ := I'.lstF
    cases e
    exact ⟨ws, ex_l I'.ex h1, h2⟩
  | _ => exact (show False from q).elim
theorem lc_partsB {B : Shared → Hp → Addr → List (Str × Addr) → List Addr → Cx} {ti : TI} {ifs : List Expr} {scope : Scope} {ow : List (Str × Nat)} {wi : WI} {g : WG} {js : List Nat} {wt : WT} (ki : ∀ (F H : Hp) (σ : L2.St) (ρ : Rho) (tt : List T) (tv : List V) (Q : List T → Rho → Prop) (R : It → Hp → Prop), Sim c F H σ ρ tt tv → wi ρ Q →
      (∀ J H' F' ρ' items ls lv, Sim c F' H' σ ρ' (ls ++ tt) (lv ++ tv) → ls.length = lv.length → Wk c J ls lv items → Q items ρ' → R J H') → ti σ H R)
    (hg : ∀ (s : Shared) (H : Hp) (C : Addr) (cl : List (Str × Addr)) (fp : List Addr), VG (B s H C cl fp) c tg js g)
    (ht : ∀ (s : Shared) (H : Hp) (C : Addr) (cl : List (Str × Addr)) (fp : List Addr), VTs (B s H C cl fp) c ifs wt)
    (he : ∀ (s : Shared) (H : Hp) (C : Addr) (cl : List (Str × Addr)) (fp : List Addr), VE (B s H C cl fp) c elt we)
    (hio : c.io = none ∨ ∀ j ∈ ow.map (·.2), j ≠ 0) (hjs : ∀ j ∈ js, j ∈ ow.map (·.2)) :
    ∃ (gU : TG) (tU : TT) (eU : TE), (∀ (s : Shared) (H : Hp) (C : Addr) (cl : List (Str × Addr)) (fp : List Addr), PG (B s H C cl fp) tg gU) ∧
      (∀ (s : Shared) (H : Hp) (C : Addr) (cl : List (Str × Addr)) (fp : List Addr), PTs (B s H C cl fp) ifs tU) ∧
      (∀ (s : Shared) (H : Hp) (C : Addr) (cl : List (Str × Addr)) (fp : List Addr), PE (B s H C cl fp) elt eU) ∧
      ∀ (F H : Hp) (σ : L2.St) (ρ : Rho) (tt : List T) (tv : List V) (Q : T → Rho → Prop) (P : VK), Sim c F H σ ρ tt tv → wLc (ow.map (·.2)) wi g wt we ρ Q → (∀ v H' F' t ρ', Sim c F' H' σ ρ' (t :: tt) (v :: tv) → Q t ρ' → P v H') → tLc ti gU tU eU (ow.map (·.2)) σ H P := by
  let gU : TG := fun v σ H P => ∀ s H0 C cl fp, (hg s H0 C cl fp).choose v σ H P
  let tU : TT := fun σ H P => ∀ s H0 C cl fp, (ht s H0 C cl fp).choose σ H P
  let eU : TE := fun σ H P => ∀ s H0 C cl fp, (he s H0 C cl fp).choose σ H P
  have pg : ∀ (s : Shared) (H : Hp) (C : Addr) (cl : List (Str × Addr)) (fp : List Addr), PG (B s H C cl fp) tg gU := fun s H C cl fp => ⟨fun pins s' σ H' v u Q I r h => (hg s H C cl fp).choose_spec.1.run pins s' σ H' v u Q I r (h s H C cl fp)⟩
  have pt : ∀ (s : Shared) (H : Hp) (C : Addr) (cl : List (Str × Addr)) (fp : List Addr), PTs (B s H C cl fp) ifs tU := fun s H C cl fp => ⟨fun pins s' σ H' Q I h => (ht s H C cl fp).choose_spec.1.run pins s' σ H' Q I (h s H C cl fp)⟩
  have pe : ∀ (s : Shared) (H : Hp) (C : Addr) (cl : List (Str × Addr)) (fp : List Addr), PE (B s H C cl fp) elt eU := fun s H C cl fp => ⟨fun pins s' σ H' Q I h => (he s H C cl fp).choose_spec.1.run pins s' σ H' Q I (h s H C cl fp)⟩
  refine ⟨gU, tU, eU, pg, pt, pe, fun F H σ ρ tt tv Q P I h k => ki F H σ ρ tt tv _ _ I h fun J H1 F1 ρ1 items ls lv I1 hl wk q => ?_⟩
  obtain ⟨hz, Pv, h0, hstep, hend⟩ := q
  intro D hD
  let W : Nat → Nat → Hp → Prop := fun i m H => m = items.length - i ∧ i ≤ items.length ∧ ∃ F ρ' acc, acc.length ≤ i ∧ (∀ j ∈ ow.map (·.2), ∀ t, ρ'[j]? ≠ some (some t)) ∧ Sim c F H (wipe σ (ow.map (·.2))) ρ' (ls ++ .lst true acc :: tt) (lv ++ .ref D :: tv) ∧ Pv i acc ρ'
  have w0 : W 0 (items.length - 0) (upd H1 D (.lst [])) := by
    refine ⟨rfl, Nat.zero_le _, F1, wipR ρ1 (ow.map (·.2)), [], Nat.le_refl _, fun j hj => wipR_none hj, ?_, h0⟩
    have I2 : Sim c F1 H1 σ ρ1 ([] ++ (ls ++ tt)) ([] ++ (lv ++ tv)) := I1
    exact ((I2.newLst rfl hD).unmid hl).wips _ hio
  refine ⟨W, ⟨_, w0⟩, ?_⟩
  rintro i m H2 ⟨rfl, hi, F2, ρ2, acc, ha, hn, I2, p2⟩
  by_cases hlt : i < items.length
  · refine .inr ⟨wk.go i F2 H2 _ ρ2 _ _ hlt I2, fun H' => W (i + 1) (items.length - (i + 1)) H', fun H' h' => ⟨_, by omega, h'⟩, fun x H3 hy => ?_⟩
    obtain ⟨F3, t, et, I3⟩ := wk.yld i F2 H2 _ ρ2 _ _ x H3 hlt I2 hy
    intro s H0 C cl fp
    refine (hg s H0 C cl fp).choose_spec.2 F3 H3 _ ρ2 _ _ t x _ _ I3 (hstep i t acc ρ2 et p2) fun H4 F4 σ4 ρ4 I4 q4 hw => ?_
    have hw' : wipe σ4 (ow.map (·.2)) = wipe σ (ow.map (·.2)) := by
      rw [hw _ hjs, wipe_idem]
    refine ⟨hw', fun s H0 C cl fp => ?_⟩
    refine (ht s H0 C cl fp).choose_spec.2 F4 H4 σ4 ρ4 _ _ _ _ I4 q4 fun b H5 F5 ρ5 I5 q5 => ?_
    cases b with
    | true =>
      rw [if_pos rfl] at q5 ⊢
      intro s H0 C cl fp
      refine (he s H0 C cl fp).choose_spec.2 F5 H5 σ4 ρ5 _ _ _ _ I5 q5 fun y H6 F6 u ρ6 I6 q6 => ?_
      have J1 : Sim c F6 H6 σ4 ρ6 ((u :: ls) ++ .lst true acc :: tt) ((y :: lv) ++ .ref D :: tv) := I6
      have J2 := J1.mid (by simp [hl])
      have J3 : Sim c F6 H6 σ4 ρ6 ([u] ++ .lst true acc :: (ls ++ tt)) ([y] ++ .ref D :: (lv ++ tv)) := Sim.swap J2
      obtain ⟨D', ws, Gx, Gt, eD, hH, r1, r2, mk⟩ := J3.mutS rfl
      cases eD
      have M := mk _ _ _ _ (r1.append r2) (List.Sublist.refl _) (.refl _)
      have M2 := (M.unmid hl).wips (ow.map (·.2)) hio
      rw [hw'] at M2
      have hws := r1.length
      refine ⟨ws, hH, by omega, rfl, hlt, F6, _, acc ++ [u], ?_, fun j hj => wipR_none hj, M2, q6⟩
      rw [List.length_append]
      rw [List.length_singleton]
      omega
    | false =>
      rw [if_neg (by decide)] at q5 ⊢
      have M2 := I5.wips (ow.map (·.2)) hio
      rw [hw'] at M2
      exact ⟨rfl, hlt, F5, _, acc, by omega, fun j hj => wipR_none hj, M2, q5⟩
  · have ei : i = items.length := by omega
    subst ei
    exact .inl ⟨wk.stop _ F2 H2 _ ρ2 _ _ (Nat.le_refl _) I2, k _ _ _ _ _ ((I2.dropL hl).unwipe hn hio) (hend acc ρ2 p2)⟩
theorem ve_lcH {ifs : List Expr} (hot : L2H.HotC X) (nd : X.N.Nodup) (hi : VIH X c iter wi) (ok : BlkOk X.N X.env.scope scope ow)
    (hg : ∀ (s : Shared) (H : Hp) (C : Addr) (cl : List (Str × Addr)) (fp : List Addr), VG (blkP X s H scope (compEnvC scope cl C X.env) fp) c tg js g)
    (ht : ∀ (s : Shared) (H : Hp) (C : Addr) (cl : List (Str × Addr)) (fp : List Addr), VTs (blkP X s H scope (compEnvC scope cl C X.env) fp) c ifs wt)
    (he : ∀ (s : Shared) (H : Hp) (C : Addr) (cl : List (Str × Addr)) (fp : List Addr), VE (blkP X s H scope (compEnvC scope cl C X.env) fp) c elt we)
    (hio : c.io = none ∨ ∀ j ∈ ow.map (·.2), j ≠ 0 := by first | exact .inl rfl | exact .inr (by decide)) (hjs : ∀ j ∈ js, j ∈ ow.map (·.2) := by decide)
    (plain : ∀ x, foldedSetIterable iter X.env x = pure x := by intro _; rfl) :
    VE X c (.ListComp elt [⟨tg, iter, ifs, 0⟩] scope pos) (wLc (ow.map (·.2)) wi g wt we) := by
  obtain ⟨te0, pe0, ki⟩ := hi
  obtain ⟨gU, tU, eU, pg, pt, pe, kk⟩ := lc_partsB (scope := scope) ki hg ht he hio hjs
  exact ⟨_, pe_lcH hot nd pe0 ok pg pt pe plain, kk⟩
theorem vs_setLcH (i : Nat) {x : Str} {py spos : Pos} {ifs : List Expr} (hot : L2H.HotC X) (nd : X.N.Nodup) (hi : VIH X c iter wi) (ok : BlkOk X.N X.env.scope scope ow)
    (hg : ∀ (s : Shared) (H : Hp) (C : Addr) (cl : List (Str × Addr)) (fp : List Addr), VG (blkP X s H scope (compEnvC scope cl C X.env) fp) c tg js g)
    (ht : ∀ (s : Shared) (H : Hp) (C : Addr) (cl : List (Str × Addr)) (fp : List Addr), VTs (blkP X s H scope (compEnvC scope cl C X.env) fp) c ifs wt)
    (he : ∀ (s : Shared) (H : Hp) (C : Addr) (cl : List (Str × Addr)) (fp : List Addr), VE (blkP X s H scope (compEnvC scope cl C X.env) fp) c elt we)
    (hio : c.io = none ∨ ∀ j ∈ ow.map (·.2), j ≠ 0 := by first | exact .inl rfl | exact .inr (by decide)) (hjs : ∀ j ∈ js, j ∈ ow.map (·.2) := by decide)
    (hi0 : c.io = none ∨ i ≠ 0 := by first | exact .inl rfl | exact .inr (by decide)) (named : X.N[i]? = some x := by rfl) (loc : X.env.scope.names.lookup x = some .local := by rfl)
    (swap : swapsWith (.ListComp elt [⟨tg, iter, ifs, 0⟩] scope pos) (some (.Name x py)) spos.line X.env = pure true := by rfl)
    (plain : ∀ x, foldedSetIterable iter X.env x = pure x := by intro _; rfl) :
    VS X c (.Assign [.Name x py] (.ListComp elt [⟨tg, iter, ifs, 0⟩] scope pos) spos) (fun E ρ => wLc (ow.map (·.2)) wi g wt we ρ fun t ρ1 => E.nx (ρ1.set i (some t))) := by
  obtain ⟨te0, pe0, ki⟩ := hi
  obtain ⟨gU, tU, eU, pg, pt, pe, kk⟩ := lc_partsB (scope := scope) ki hg ht he hio hjs
  refine ⟨_, ps_setLcH hot nd named loc swap pe0 ok pg pt pe plain, fun F H σ ρ tt tv D E I m h => ?_⟩
  exact kk F H σ ρ tt tv _ _ I h fun v H1 F1 t ρ1 I1 q => m.nx F1 H1 _ _ (I1.store hi0) q
/-- a, b, .. = a tuple of that length, there -/
theorem vg_tupH {tgs : List Expr} {gs : WGs} {kk n : Nat} (hot : L2H.HotC X) (many : VGs X c tgs js gs) (hK : X.K = c.K := by rfl)
    (hn : (assignEach tgs X.env).length = n := by rfl) (nostar : (assignEach tgs X.env).findIdx? (·.1) = none := by rfl) : VG X c (.Tuple tgs kk pos) js (gT n gs) := by
  obtain ⟨t1, p1, k1⟩ := many
  refine ⟨_, pg_tupH hot p1 hn nostar, fun F H σ ρ tt tv t v Q P I h k => ?_⟩
  cases t with
  | tup ts =>
    obtain ⟨a, vs, rfl, hs, hl, J⟩ := I.open_tup
    exact ⟨a, vs, rfl, hK ▸ hs, by rw [← hl]; exact h.1, k1 F H σ ρ tt ts tv vs Q P J hl h.2 k⟩
  | _ => exact (show False from h).elim
end
end L3

/-! a helper that is handed the error which is being handled; try with a name -/
namespace L3
open PySem L2 PySem.Spec PyProof.Rows

/-! ### isinstance of the error that is handled -/
def rIsX (K : PySem.W.Frag) (D a : Addr) : List V → Hp → VK → Prop := fun xs H Q =>
  (∃ (y : V) (u : Value) (b : Bool), xs = [.ref a, y] ∧ ClsV y u ∧ PySem.W.kitOne K (.ref D) u = some b ∧ Q (.bl b) H) ∨
  ∃ (tp : Addr) (ys : List V) (us : List Value) (b : Bool), xs = [.ref a, .ref tp] ∧ SqT K H tp ys ∧ Paired ClsV ys us ∧ PySem.W.kitAny K (.ref D) us = some b ∧ Q (.bl b) H
section
variable {X : Cx} {c : Cst} {p : Addr × Obj} {D a : Addr} {b : Bool}
theorem call_isX (hp : p ∈ X.pn) (cls : ExcC X.K D) (zn : L2N.Zn (.ref D) none p.2) (fl : ∃ vs, p.2.data = .fields vs) : CallR X (.builtin "isinstance") (rIsX X.K D p.1) := by
  intro pins s σ H xs us Q I r ask
  obtain ⟨at_, _⟩ := I.pin p (List.mem_append_left _ hp)
  have inst : PySem.W.InstAt s.heap p.1 p.2 D none := by
    obtain ⟨vs, hv⟩ := fl
    obtain ⟨a, ⟨oc, od, oda, osl⟩⟩ := p
    obtain ⟨h1, h2, _⟩ := zn
    dsimp only at h1 h2 hv at_
    subst h1 h2 hv
    exact ⟨at_, rfl, rfl, trivial⟩
  have Z := PySem.W.handS_kitx_exc (x := p.1) (ox := p.2) cls.hg cls.hk cls.hs cls.hd cls.ha cls.hn cls.ht cls.hm
  rcases ask with ⟨y, u, b, rfl, kind, answer, next⟩ | ⟨tp, ys, ws, b, rfl, known, types, answer, next⟩
  · cases r with
    | cons here more =>
      cases more with
      | cons second none_ =>
        cases none_
        cases here
        cases kind.eq second
        exact PySem.W.kia_one Z I.kIn inst answer (fun z => nomatch z) fun tok => ⟨.bl b, H, I.tok tok, rfl, next⟩
  · cases r with
    | cons here more =>
      cases more with
      | cons second none_ =>
        cases none_
        cases here
        cases second
        obtain ⟨its, vals, ⟨⟨cl, di, da, slo⟩, obj, k1, cap, k2⟩, _⟩ := I.tuple known
        cases ClsV.all types vals
        simp only at k1 k2
        subst k1 k2
        exact PySem.W.kia_tup Z I.kIn inst obj answer (fun z => nomatch z) fun tok => ⟨.bl b, H, I.tok tok, rfl, next⟩
/-- isinstance(e, cv), the answer known -/
@[simp] def fIsX (v : V) (cv : T) (b : Bool) (ts : List T) (k : T → Prop) : Prop := ts = [.fn v, cv] ∧ k (.bl b)
theorem oA_isX1 {C : Addr} (answer : PySem.W.kitOne c.K (.ref D) (.ref C) = some b) : OpA c (rIsX c.K D a) (fIsX (.ref a) (.fn (.ref C)) b) := by
  intro F H σ ρ tt tv ts vs k P I hl h q
  obtain ⟨rfl, h⟩ := h
  obtain ⟨x, y, rfl⟩ := two_top hl
  obtain ⟨_, _, t1, _⟩ := Sim.top I
  cases t1
  obtain ⟨_, _, t2, _⟩ := Sim.top (Sim.drop I)
  cases t2
  exact .inl ⟨_, _, b, rfl, .own C, answer, q _ _ _ _ ((Sim.drop (Sim.drop I)).pushG (.bl b) rfl) h⟩
theorem oA_isXt {n : String} (answer : PySem.W.kitOne c.K (.ref D) (.type n) = some b) : OpA c (rIsX c.K D a) (fIsX (.ref a) (.fn (.ty n)) b) := by
  intro F H σ ρ tt tv ts vs k P I hl h q
  obtain ⟨rfl, h⟩ := h
  obtain ⟨x, y, rfl⟩ := two_top hl
  obtain ⟨_, _, t1, _⟩ := Sim.top I
  cases t1
  obtain ⟨_, _, t2, _⟩ := Sim.top (Sim.drop I)
  cases t2
  exact .inl ⟨_, _, b, rfl, .ty n, answer, q _ _ _ _ ((Sim.drop (Sim.drop I)).pushG (.bl b) rfl) h⟩
theorem trL_cls {K : PySem.W.Frag} {F H : Hp} : ∀ {cs : List Addr} {vs : List V} {G : List Addr}, TrL K F H (cs.map fun C => .fn (.ref C)) vs G → Paired ClsV vs (cs.map .ref)
  | [], _, _, .nil => .nil
  | C :: cs, _, _, .cons h r => by
    cases h
    exact .cons (.own C) (trL_cls r)
theorem oA_isXs {cs : List Addr} (answer : PySem.W.kitAny c.K (.ref D) (cs.map .ref) = some b) : OpA c (rIsX c.K D a) (fIsX (.ref a) (.tup (cs.map fun C => .fn (.ref C))) b) := by
  intro F H σ ρ tt tv ts vs k P I hl h q
  obtain ⟨rfl, h⟩ := h
  obtain ⟨x, y, rfl⟩ := two_top hl
  obtain ⟨_, _, t1, _⟩ := Sim.top I
  cases t1
  obtain ⟨tp, us, rfl, hs, hlen, J⟩ := Sim.open_tup (Sim.drop I)
  obtain ⟨G2, l2, _, _⟩ := J.live
  rw [List.map_append, List.map_append, List.append_assoc, List.append_assoc] at l2
  obtain ⟨Ga, Gb, _, q1, _⟩ := Live.to_trL hlen l2
  exact .inr ⟨tp, us, _, b, rfl, hs, trL_cls q1, answer, q _ _ _ _ ((Sim.drop (Sim.drop I)).pushG (.bl b) rfl) h⟩
end

/-! ### the helper's promise -/
/-- what a helper promises that is handed the error which is being handled, by the error's class -/
structure FnX (P : Program) (w : World) (K : PySem.W.Frag) (mg : Str → Option Value) (base : Heap) (C : CXT) (k : Nat) (f : Addr) (fd : FuncData) (y : Str) (sp : Value → Sp) : Prop where
  run : ∀ (A : Around) (outer : List Env) (s : Shared) (H : Hp) (args : Args) (Q : VK) (E : XK) (p : Addr × Obj) (cls : Value), L2H.RoomH k A → A.guards = some [] → L2H.Hot1 A p → L2N.Zn cls none p.2 → (∃ vs, p.2.data = .fields vs) → L2H.PinOk outer H s p →
    Env0 P w K mg base A outer s H → BindsTo s fd args ([y].zip [Value.ref p.1]) → sp cls [.ref p.1] H Q E → codeAny (model P w) A (.call (.ref f) args) (CR C outer P w H s Q E) s
section
variable {P : Program} {w : World} {K : PySem.W.Frag} {mg : Str → Option Value} {base : Heap} {k : Nat} {f : Addr} {fd : FuncData} {x y qual : Str} {st : Stmt} {N : List Str}
theorem fnX_of {C : CXT} {sp : Value → Sp} (F : Fun K x qual st f fd) (S : FnScope N [y] (defScope st))
    (hb : ∀ (cdv : Value) (A : Around) (outer : List Env) (s : Shared) (H : Hp) (Q : VK) (E : XK) (p : Addr × Obj) (cls : Value), L2H.RoomH k (A.deeper (envOfC qual (defScope st) s.heap.objs.size f cdv)) → A.guards = some [] → L2H.Hot1 A p → L2N.Zn cls none p.2 → (∃ vs, p.2.data = .fields vs) → sp cls [.ref p.1] H Q E →
      ∃ t, PSs (L2H.cxH C P w K mg base N qual (defScope st) f cdv A outer s H E p) (defBody st) t ∧ t { nx := fun _ H' => Q .non H', rt := Q } (start N [.ref p.1]) H) : FnX P w K mg base C (k + 1) f fd y sp := by
  obtain ⟨oc, od, kV, doc, pm, an, cdv, ct, osl, rfl, lk, hcode⟩ := F.ex
  constructor
  intro A outer s H args Q E p cls rm gd hot zn fl pin e0 bnd ask
  have stays : ∀ b o, base.get? b = some o → s.heap.get? b = some o := fun b o e => (e0.bs b o e).1
  have inK := e0.mod.kin.keeps stays
  have kinds : ∀ z ∈ [y].zip [Value.ref p.1], (defScope st).names.lookup z.1 = some .local ∨ ((defScope st).names.lookup z.1 = some .cell ∧ ((cellsFrom (s.heap.objs.size + 1) (defScope st).names []).lookup z.1).isSome = true) := by
    intro z hz
    have e : z.1 = y := by
      have q : z = (y, Value.ref p.1) := by simpa using hz
      rw [q]
    rw [e]
    rcases S.par y (by simp) with q | q
    · exact .inl q
    · refine .inr ⟨q, ?_⟩
      exact PySem.W.cellsFrom_some _ _ _ (.inl q)
  refine codeAny_call_function rm.depth (inK _ _ lk) rfl S.co S.gen rfl (PySem.W.codeRec_of inK hcode) (bnd _ _ _ _ (wpAny_newFunctionEnv_cells S.kind kinds fun env henv s1 q => ?_))
  subst henv
  refine ⟨(e0.mod.nolimit.keeps stays).keeps q.toInCall.keep, codeAny_func ?_⟩
  obtain ⟨t, pt, z⟩ := hb cdv A outer s H Q E p cls (rm.deeper _) gd hot zn fl ask
  have J : Inv (L2H.cxH C P w K mg base N qual (defScope st) f cdv A outer s H E p) [] (start N [.ref p.1]) H s1 := L2H.inv_startH S pin e0 rfl (.cons rfl .nil) q
  refine wpAny_mono (pt.run [] s1 (start N [.ref p.1]) H _ J z) (fun fl s2 z => ?_) fun _ _ z => z
  cases fl with
  | ret u =>
    obtain ⟨v, σ', H', I, rv, z⟩ := z
    exact ⟨v, H', I.os, I.bare, I.base, I.hok, rv, z⟩
  | next =>
    obtain ⟨σ', H', I, z⟩ := z
    exact ⟨.non, H', I.os, I.bare, I.base, I.hok, rfl, z⟩
  | brk => obtain ⟨_, _, _, bad⟩ := z; exact False.elim bad
  | cont => obtain ⟨_, _, _, bad⟩ := z; exact False.elim bad
/-- THE RULE for such a helper: its body over trees -/
theorem fn3X {g : Value → G3} (F : Fun K x qual st f fd) (S : FnScope N [y] (defScope st)) (one : ∀ cls ts Q R, g cls ts Q R → ∃ v, ts = [.fn v])
    (body : ∀ (cdv : Value) (A : Around) (outer : List Env) (s : Shared) (F0 H : Hp) (E : XK) (p : Addr × Obj) (cls : Value) (Q : T → T → Prop) (R : Addr → T → Prop),
      L2H.RoomH k (A.deeper (envOfC qual (defScope st) s.heap.objs.size f cdv)) → A.guards = some [] → L2H.Hot1 A p → L2N.Zn cls none p.2 → (∃ vs, p.2.data = .fields vs) → g cls [.fn (.ref p.1)] Q R →
      ∃ wb, VB (L2H.cxH (L2N.CX P w) P w K mg base N qual (defScope st) f cdv A outer s H E p) (cstOf K false F0 H [] [.ref p.1]) (defBody st) wb ∧ wb { nx := fun _ => Q .non .non, rt := fun t _ => Q t .non } (start3 N.length [.fn (.ref p.1)])) :
    FnX P w K mg base (L2N.CX P w) (k + 1) f fd y (fun cls => Low K 1 false (g cls)) := by
  refine fnX_of F S fun cdv A outer s H Q E p cls hr gd hot zn fl ask => ?_
  obtain ⟨F0, ts, G, ex, r, nd, hG, hl, ao, q, R, hg, hq, _⟩ := ask
  obtain ⟨v, rfl⟩ := one cls ts q R hg
  have known : v = .ref p.1 ∧ G = [] := by
    cases r with
    | cons h1 h2 =>
      cases h1
      cases h2
      exact ⟨rfl, rfl⟩
  obtain ⟨rfl, rfl⟩ := known
  obtain ⟨wb, ⟨tb, pb, kb⟩, hw⟩ := body cdv A outer s F0 H E p cls q R hr gd hot zn fl hg
  refine ⟨tb, pb, kb F0 H (start N [.ref p.1]) (start3 N.length [.fn (.ref p.1)]) [] [] _ _ (sim_start ex r nd hG ao) ⟨fun F' H' σ ρ I h => ?_, fun F' H' σ ρ t v I h => ?_, fun _ _ _ _ _ (h : False) => h.elim, fun _ _ _ _ _ (h : False) => h.elim⟩ hw⟩
  · exact hq _ _ h F' H' .non (post_of ao r rfl (I.pushG .non rfl))
  · exact hq _ _ h F' H' v (post_of ao r rfl I)
end

/-! ### the helper called -/
section
variable {X : Cx} {c : Cst} {k : Nat} {f : Addr} {fd : FuncData} {x y nm : Str} {p : Addr × Obj} {cls : Value} {g : Value → G3} {pos pc pn : Pos} {e : Expr} {ta : TA}
theorem pe_callX {sp : Value → Sp} (D : FnX X.prog X.w X.K X.mg X.base (L2N.CX X.prog X.w) k f fd y sp) (mx : X.mg x = some (.ref f)) (kp : PySem.W.keepIn X.K (.ref f) = true) (rm : L2H.RoomH k X.A) (gd : X.A.guards = some []) (hot : L2H.Hot1 X.A p) (hp : p ∈ X.pn) (zn : L2N.Zn cls none p.2) (fl : ∃ vs, p.2.data = .fields vs)
    (b : Bnd X.K fd [y] 1 [] [0]) (ha : PA X [e] ta) (gl : Gl X x) (nd : (x == ("__debug__" : Str)) = false) (he : starEach [e] X.env = (false, eval e X.env) :: starEach [] X.env) (hpl : (backTo pos (starEach [] X.env)).any (·.1) = false) :
    PE X (.Call (.Name x pc) [e] [] pos) (fun σ H Q => ta σ H fun vs H1 => vs = [.ref p.1] ∧ sp cls [.ref p.1] H1 Q fun _ _ _ => False) := by
  constructor
  intro pins s σ H Q I h
  apply wpAny_Call_Name_kw
  apply ld_glob I gl mx _ nd
  apply PySem.W.callWith_K (h₀ := X.base) I.ok.mod.kin kp _ he hpl
  refine thn (ha.run pos pins s σ H _ I h) fun us s1 ⟨vs, H1, J, r, hv, q⟩ => ⟨J.kIn, ?_⟩
  subst hv
  obtain ⟨u1, u2⟩ : ∃ u, us = [u] ∧ u = Value.ref p.1 := by
    cases r with
    | cons here more =>
      cases more
      exact ⟨_, rfl, here⟩
  obtain ⟨rfl, rfl⟩ := u2
  obtain ⟨z1, z2, z3, z4, z5⟩ := J.pin p (List.mem_append_left _ hp)
  have pin : L2H.PinOk X.stack H1 s1 p := ⟨z1, z2, fun hm => (List.mem_cons.mp (J.stkSub p.1 hm)).elim z3 z4, z5⟩
  refine wpAny_call (codeAny_mono (D.run X.A X.stack s1 H1 ⟨[.ref p.1], []⟩ Q _ p cls rm gd hot zn fl pin J.env0 (b s1 [.ref p.1] [] J.kIn rfl rfl) q) fun z s2 q => ?_)
  cases z with
  | error y => exact (CX_nox q).elim
  | ok flow =>
    cases flow with
    | ret u => exact J.after q
    | next => exact q.elim
    | brk => exact q.elim
    | cont => exact q.elim
/-- h(e), e the error that is handled, in slot i -/
@[simp] def wCallX (i : Nat) (v : V) (g : G3) (ρ : Rho) (Q : T → Rho → Prop) : Prop := ρ[i]? = some (some (.fn v)) ∧ g [.fn v] (fun t _ => Q t ρ) fun _ _ => False
theorem ve_callX (i : Nat) (D : FnX X.prog X.w X.K X.mg X.base (L2N.CX X.prog X.w) k f fd y fun cls => Low X.K 1 false (g cls)) (mx : X.mg x = some (.ref f)) (kp : PySem.W.keepIn X.K (.ref f) = true) (rm : L2H.RoomH k X.A) (gd : X.A.guards = some []) (hot : L2H.Hot1 X.A p) (hp : p ∈ X.pn) (zn : L2N.Zn cls none p.2) (fl : ∃ vs, p.2.data = .fields vs)
    (b : Bnd X.K fd [y] 1 [] [0]) (hK : X.K = c.K := by rfl) (hN : X.N[i]? = some nm := by rfl) (hv : Vis X.env.scope nm := by first | exact Or.inl rfl | exact Or.inr (Or.inl rfl) | exact Or.inr (Or.inr rfl)) (hd : (nm == ("__debug__" : Str)) = false := by decide) (hcd : (nm == ("__classdict__" : Str)) = false := by decide)
    (gl : Gl X x := by rfl) (nd : (x == ("__debug__" : Str)) = false := by decide) (one : starEach [.Name nm pn] X.env = [(false, eval (.Name nm pn) X.env)] := by rfl) (he : starEach [.Name nm pn] X.env = (false, eval (.Name nm pn) X.env) :: starEach [] X.env := by rfl) (hpl : (backTo pos (starEach [] X.env)).any (·.1) = false := by rfl) :
    VE X c (.Call (.Name x pc) [.Name nm pn] [] pos) (wCallX i (.ref p.1) (g cls)) := by
  obtain ⟨ta, pa, ka⟩ := va_cons (X := X) (c := c) (ve_var (pos := pn) i hN hv hd hcd) va_nil one
  refine ⟨_, pe_callX D mx kp rm gd hot hp zn fl b pa gl nd he hpl, fun F H σ ρ tt tv Q P I h kk => ?_⟩
  obtain ⟨here, ask⟩ := h
  refine ka F H σ ρ tt tv (fun ts ρ1 => ts = [.fn (.ref p.1)] ∧ ρ1 = ρ) _ I (by simp [here]) fun vs H1 F1 ts ρ1 I1 hl q => ?_
  obtain ⟨rfl, rfl⟩ := q
  obtain ⟨v, rfl⟩ : ∃ v, vs = [v] := by
    match vs, hl with
    | [v], _ => exact ⟨v, rfl⟩
  obtain ⟨_, _, t1, _⟩ := Sim.top I1
  cases t1
  refine ⟨rfl, ?_⟩
  rw [hK]
  exact I1.low rfl rfl (by simpa using ask) (fun t t0 F' H' v J q => kk _ _ _ _ _ J q) fun _ _ _ _ _ bad => False.elim bad
end

/-- the promise by the class's number -/
def gCls (cl : Nat → Option Addr) (g : Nat → G3) : Value → G3 := fun cls ts Q R => ∃ n D, cl n = some D ∧ cls = .ref D ∧ (∃ v, ts = [.fn v]) ∧ g n ts Q R
theorem gCls_one {cl : Nat → Option Addr} {g : Nat → G3} {cls : Value} {ts : List T} {Q : T → T → Prop} {R : Addr → T → Prop} (h : gCls cl g cls ts Q R) : ∃ v, ts = [.fn v] := by
  obtain ⟨_, _, _, _, h, _⟩ := h
  exact h
theorem hotC_of {X : Cx} {p : Addr × Obj} (h : L2H.Hot1 X.A p) (hp : p ∈ X.pn) : L2H.HotC X := ⟨p, h, hp⟩
theorem hot1_of {A : Around} {a : Addr} {oe : Obj} {cls : Value} {d : Option Addr} (zn : L2N.Zn cls d oe) (fl : ∃ vs, oe.data = .fields vs) : L2H.Hot1 (A.mark (some (.ref a))) (a, oe) := by
  obtain ⟨vs, hv⟩ := fl
  exact ⟨rfl, vs, hv, zn.2.2 vs hv⟩
theorem roomX {k : Nat} {A : Around} {h : Option Value} (r : Room k A) : L2H.RoomH k (A.mark h) := ⟨r.dp, r.un⟩
theorem unitsX {k : Nat} {A : Around} (r : L2H.RoomH k A) : A.units + 64 < cLine := by
  have := r.un
  omega
section
variable {X : Cx} {c : Cst} {k : Nat} {f : Addr} {fd : FuncData} {x y nm : Str} {a D : Addr} {oe : Obj} {n : Nat} {cl : Nat → Option Addr} {g : Nat → G3} {pos pc pn : Pos}
/-- .. in an except clause's suite -/
theorem ve_askX (i : Nat) (F : FnX X.prog X.w X.K X.mg X.base (L2N.CX X.prog X.w) k f fd y fun cls => Low X.K 1 false (gCls cl g cls)) (mx : X.mg x = some (.ref f)) (kp : PySem.W.keepIn X.K (.ref f) = true) (rm : L2H.RoomH k X.A) (gd : X.A.guards = some []) (hot : L2H.Hot1 X.A (a, oe)) (hp : (a, oe) ∈ X.pn) (hn : cl n = some D) (zn : L2N.Zn (.ref D) none oe) (fl : ∃ vs, oe.data = .fields vs)
    (b : Bnd X.K fd [y] 1 [] [0]) (hK : X.K = c.K := by rfl) (hN : X.N[i]? = some nm := by rfl) (hv : Vis X.env.scope nm := by first | exact Or.inl rfl | exact Or.inr (Or.inl rfl) | exact Or.inr (Or.inr rfl)) (hd : (nm == ("__debug__" : Str)) = false := by decide) (hcd : (nm == ("__classdict__" : Str)) = false := by decide)
    (gl : Gl X x := by rfl) (nd : (x == ("__debug__" : Str)) = false := by decide) (one : starEach [.Name nm pn] X.env = [(false, eval (.Name nm pn) X.env)] := by rfl) (he : starEach [.Name nm pn] X.env = (false, eval (.Name nm pn) X.env) :: starEach [] X.env := by rfl) (hpl : (backTo pos (starEach [] X.env)).any (·.1) = false := by rfl) :
    VE X c (.Call (.Name x pc) [.Name nm pn] [] pos) (wCallX i (.ref a) (g n)) := by
  obtain ⟨te, pe, ke⟩ := ve_callX (c := c) (pn := pn) (pc := pc) (pos := pos) i F mx kp rm gd hot hp (cls := .ref D) zn fl b hK hN hv hd hcd gl nd one he hpl
  exact ⟨te, pe, fun F H σ ρ tt tv Q P I h kk => ke F H σ ρ tt tv Q P I ⟨h.1, n, D, hn, rfl, ⟨_, rfl⟩, h.2⟩ kk⟩
end

/-! ### try: body; except S as n: suite -/
/-- cl: the classes that may come, by number; i: the name's slot -/
@[simp] def wTryA (cl : Nat → Option Addr) (i : Nat) (wb : (Addr → Rho → Prop) → WS) (ws : Nat → V → WS) (E : En) (ρ : Rho) : Prop :=
  wb (fun D ρ' => ∃ n, cl n = some D ∧ ∀ v, ws n v { nx := fun ρ2 => E.nx (ρ2.set i none), rt := E.rt, bk := fun ρ2 => E.bk (ρ2.set i none), ct := fun ρ2 => E.ct (ρ2.set i none) } (ρ'.set i (some (.fn v)))) E ρ
section
variable {X : Cx} {c : Cst} {pos pos' np : Pos} {x nm : Str} {body suite : List Stmt} {b0 : Stmt} {cv : Value} {i : Nat}
theorem vs0_tryAs {cl : Nat → Option Addr} {wb : (Addr → Rho → Prop) → WS} {ws : Nat → V → WS} (hs : X.stack = X.env :: X.outer) (hf : X.env.frame = some X.env.locals) (nd : X.N.Nodup) (hi : X.N[i]? = some nm) (loc : X.env.kindOf nm = some .local) (hc : Names X x cv) (hcl : ∀ n D, cl n = some D → PySem.W.exmOne X.K (.ref D) cv = some true)
    (hb : ∀ (W : WX) (R : Addr → Rho → Prop) (pn : List (Addr × Obj)) (xe : Value → Shared → Prop), L2N.Takes (X.tr pn xe) W → PassesOwn (model X.prog X.w) X.A X.env xe → Lk c R W → VB (X.tr pn xe) c body (wb R))
    (hsu : ∀ (a : Addr) (oe : Obj) (n : Nat) (D : Addr) (pn : List (Addr × Obj)), cl n = some D → L2N.Zn (.ref D) none oe → (∃ vs, oe.data = .fields vs) → VB (X.suite a ((a, oe) :: pn)) c (b0 :: suite) (ws n (.ref a))) (i0 : c.io = none ∨ i ≠ 0) :
    VS0 X c (.Try body [.ExceptHandler (some (.Name x np)) (some nm) (b0 :: suite) pos'] [] [] pos) (wTryA cl i wb ws) := by
  let tb : WX → TS := fun W D σ H => ∃ (R : Addr → Rho → Prop) (lk : Lk c R W), ∀ (pn : List (Addr × Obj)) (xe : Value → Shared → Prop) (tk : L2N.Takes (X.tr pn xe) W) (po : PassesOwn (model X.prog X.w) X.A X.env xe), (hb W R pn xe tk po lk).choose D σ H
  let ts : Addr → Value → Option Addr → TS := fun a cls d E σ H => ∀ (oe : Obj) (pn : List (Addr × Obj)) (zn : L2N.Zn cls d oe) (fl : ∃ vs, oe.data = .fields vs), ∃ (n : Nat) (D : Addr) (hn : cl n = some D) (zn' : L2N.Zn (.ref D) none oe), (hsu a oe n D pn hn zn' fl).choose E σ H
  refine ⟨_, L2N.ps_try_as (Wout := fun _ _ _ _ => False) (tb := tb) (ts := ts) hs hf nd hi loc hc takesN0 (fun W pn xe tk po => ⟨fun pins s σ H D I h => ?_⟩) (fun a oe cls d pn hz hv => ⟨fun pins s σ H E I h => ?_⟩), fun F H σ ρ D E I m h => ?_⟩
  · obtain ⟨R, lk, h⟩ := h
    exact (hb W R pn xe tk po lk).choose_spec.1.run pins s σ H D I (h pn xe tk po)
  · obtain ⟨n, D, hn, zn', h⟩ := h oe pn hz hv
    exact (hsu a oe n D pn hn zn' hv).choose_spec.1.run pins s σ H E I h
  · generalize hR : (fun (D : Addr) (ρ' : Rho) => ∃ n, cl n = some D ∧ ∀ v, ws n v { nx := fun ρ2 => E.nx (ρ2.set i none), rt := E.rt, bk := fun ρ2 => E.bk (ρ2.set i none), ct := fun ρ2 => E.ct (ρ2.set i none) } (ρ'.set i (some (.fn v)))) = R0
    have lk : Lk c R0 (wAs X.K cv i ts (fun _ _ _ _ => False) D) := fun F' H' σ' ρ' tt tv C J r => by
      rw [← hR] at r
      obtain ⟨n, hn, r⟩ := r
      have J2 : Sim c F' H' σ' ρ' (tt ++ []) (tv ++ []) := by simpa using J
      have J3 : Sim c F' H' σ' ρ' [] [] := J2.dropL J.tl
      refine ⟨true, hcl n C hn, fun _ a _ oe pn zn fl => ⟨n, C, hn, zn, ?_⟩, fun z => by cases z⟩
      refine (hsu a oe n C pn hn zn fl).choose_spec.2 F' H' _ _ [] [] _ _ ((J3.pushG (.fn (.ref a)) rfl).store i0) ⟨fun F2 H2 σ2 ρ2 K q => ?_, fun F2 H2 σ2 ρ2 t v K q => ?_, fun F2 H2 σ2 ρ2 K q => ?_, fun F2 H2 σ2 ρ2 K q => ?_⟩ (r (.ref a))
      · exact m.nx F2 H2 _ _ (K.wipe1 i0) q
      · exact m.rt F2 H2 _ _ t v K q
      · exact m.bk F2 H2 _ _ (K.wipe1 i0) q
      · exact m.ct F2 H2 _ _ (K.wipe1 i0) q
    unfold wTryA at h
    rw [hR] at h
    exact ⟨R0, lk, fun pn xe tk po => (hb _ R0 pn xe tk po lk).choose_spec.2 F H σ ρ [] [] D E I m h⟩
end
end L3

/-! errors as values: made, asked (the variant of the layer with T.exc alone) -/
namespace L3
open PySem L2 PySem.Spec PyProof.Rows
section
variable {c : Cst} {F H : Hp} {σ : L2.St} {ρ : Rho} {tt : List T} {tv : List V} {C p : Addr}
/-- a new error at p -/
theorem Sim.newExc (I : Sim c F H σ ρ tt tv) (fresh : H p = none) : Sim c (upd F p (ExO (.ref C) p)) (upd H p (ExO (.ref C) p)) σ ρ (.exc C :: tt) (.ref p :: tv) := by
  have tl := I.tl
  obtain ⟨G, l, nd, hg⟩ := I.live
  have out : p ∉ G := fun z => by
    rcases l.there p z with ⟨_, h⟩ | ⟨_, h⟩ | ⟨_, _, _, h⟩ <;> (rw [fresh] at h; cases h)
  have k : ∀ g ∈ G, upd H p (ExO (.ref C) p) g = H g := fun g hm => upd_ne fun z => out (z ▸ hm)
  have fp := I.freshF fresh
  have h0 := I.fresh0 fresh
  have eF : Ex F (upd F p (ExO (.ref C) p)) := Ex.new fp
  have eH : Ex H (upd H p (ExO (.ref C) p)) := Ex.new fresh
  refine ⟨fun a o e => ?_, I.fx.trans eF, fun b h1 h2 h3 => ?_, fun b o h n => eH b o (I.keep b o h n), fun b h z => I.dom b h (eH.back z), by simp only [List.length_cons]; omega, ⟨G, ?_, nd, fun g hm => ?_⟩, I.iop⟩
  · by_cases z : a = p
    · subst z; rw [upd_same] at e ⊢; exact e
    · rw [upd_ne z] at e ⊢; exact I.ex a o e
  · have apart : b ≠ p := fun z => h1 (z ▸ h0)
    rw [upd_ne apart]
    exact I.fn b h1 h2 h3
  · exact Live.cons (G1 := []) (.exc upd_same) (l.mono eF k)
  · have apart : g ≠ p := fun z => out (z ▸ hm)
    rw [upd_ne apart]
    exact hg g hm
end
section
variable {X : Cx} {c : Cst} {C : Addr} {x : Str} {p pos : Pos} {e : Expr} {w : WE}
/-- C(e), an error made as a value -/
@[simp] def wMkExc (C : Addr) (w : WE) (ρ : Rho) (Q : T → Rho → Prop) : Prop := w ρ fun _ ρ1 => Q (.exc C) ρ1
theorem ve_mkExc {bmB : List Value} {B newId initId : String} (base : ExcBaseFacts B newId initId bmB) (q : PySem.W.excIn X.K C bmB newId = true) (gC : X.mg x = some (.ref C)) (kC : PySem.W.keepIn X.K (.ref C) = true) (he : VE X c e w) (gl : Gl X x := by rfl)
    (one : starEach [e] X.env = (false, eval e X.env) :: starEach [] X.env := by rfl) (nd : (x == ("__debug__" : Str)) = false := by decide) : VE X c (.Call (.Name x p) [e] [] pos) (wMkExc C w) := by
  obtain ⟨te, pe, ke⟩ := he
  exact ⟨_, pe_exc1 base q gC kC gl pe one nd, fun F H σ ρ tt tv Q P I h k => ke F H σ ρ tt tv _ _ I h fun v H1 F1 t ρ1 I1 q a fresh => k _ _ _ _ _ (Sim.newExc I1.drop fresh) q⟩
/-- isinstance(e, cv), e an error that is a value -/
def rIsC (K : PySem.W.Frag) : List V → Hp → VK → Prop := fun xs H Q => ∃ (a D : Addr) (y : V) (u : Value) (b : Bool), xs = [.ref a, y] ∧ H a = some (ExO (.ref D) a) ∧ ExcC K D ∧ ClsV y u ∧ PySem.W.kitOne K (.ref D) u = some b ∧ Q (.bl b) H
theorem call_isC : CallR X (.builtin "isinstance") (rIsC X.K) := by
  intro pins s σ H xs us Q I r ask
  obtain ⟨a, D, y, u, b, rfl, there, cls, kind, answer, next⟩ := ask
  obtain ⟨⟨oe, vs, at_, ⟨h1, h2⟩, hv, _⟩, _, _⟩ := I.hok a _ there
  have inst : PySem.W.InstAt s.heap a oe D none := by
    obtain ⟨oc, od, odat, osl⟩ := oe
    dsimp only at h1 h2 hv
    subst h1 h2 hv
    exact ⟨at_, rfl, rfl, trivial⟩
  cases r with
  | cons here more =>
    cases more with
    | cons second none_ =>
      cases none_
      cases here
      cases kind.eq second
      exact PySem.W.kia_one (PySem.W.handS_kitx_exc (x := a) (ox := oe) cls.hg cls.hk cls.hs cls.hd cls.ha cls.hn cls.ht cls.hm) I.kIn inst answer (fun z => nomatch z) fun tok => ⟨.bl b, H, I.tok tok, rfl, next⟩
@[simp] def fIsC (cl : Nat → Option Addr) (cv : T) (ans : Nat → Bool) (ts : List T) (k : T → Prop) : Prop := ∃ n D, cl n = some D ∧ ts = [.exc D, cv] ∧ k (.bl (ans n))
theorem oA_isC1 {cl : Nat → Option Addr} {ans : Nat → Bool} {C : Addr} (answer : ∀ n D, cl n = some D → PySem.W.kitOne c.K (.ref D) (.ref C) = some (ans n)) (cls : ∀ n D, cl n = some D → ExcC c.K D) : OpA c (rIsC c.K) (fIsC cl (.fn (.ref C)) ans) := by
  intro F H σ ρ tt tv ts vs k P I hl h q
  obtain ⟨n, D, hn, rfl, h⟩ := h
  obtain ⟨x, y, rfl⟩ := two_top hl
  obtain ⟨_, _, t1, _⟩ := Sim.top I
  obtain ⟨_, _, t2, _⟩ := Sim.top (Sim.drop I)
  cases t1 with
  | exc there =>
    cases t2
    exact ⟨_, D, _, _, _, rfl, I.ex _ _ there, cls n D hn, .own C, answer n D hn, q _ _ _ _ ((Sim.drop (Sim.drop I)).pushG (.bl (ans n)) rfl) h⟩
theorem oA_isCt {cl : Nat → Option Addr} {ans : Nat → Bool} {m : String} (answer : ∀ n D, cl n = some D → PySem.W.kitOne c.K (.ref D) (.type m) = some (ans n)) (cls : ∀ n D, cl n = some D → ExcC c.K D) : OpA c (rIsC c.K) (fIsC cl (.fn (.ty m)) ans) := by
  intro F H σ ρ tt tv ts vs k P I hl h q
  obtain ⟨n, D, hn, rfl, h⟩ := h
  obtain ⟨x, y, rfl⟩ := two_top hl
  obtain ⟨_, _, t1, _⟩ := Sim.top I
  obtain ⟨_, _, t2, _⟩ := Sim.top (Sim.drop I)
  cases t1 with
  | exc there =>
    cases t2
    exact ⟨_, D, _, _, _, rfl, I.ex _ _ there, cls n D hn, .ty m, answer n D hn, q _ _ _ _ ((Sim.drop (Sim.drop I)).pushG (.bl (ans n)) rfl) h⟩
end
section
variable {c : Cst}
/-- b in xs, a list of bools -/
@[simp] def fInB (a b : T) (k : T → Prop) : Prop := match a, b with
  | .bl i, .lst _ xs => (match isBls xs with | some bs => k (.bl (bs.contains i)) | none => False)
  | _, _ => False
theorem trL_bls {K : PySem.W.Frag} {F H : Hp} : ∀ {bs : List Bool} {vs : List V} {G : List Addr}, TrL K F H (bs.map .bl) vs G → vs = bs.map .bl
  | [], _, _, .nil => rfl
  | b :: bs, _, _, .cons h r => by
    cases h
    rw [trL_bls r]
    rfl
theorem inV_bls (i : Bool) : ∀ bs : List Bool, inV (.bl i) (bs.map V.bl) = bs.contains i
  | [] => rfl
  | b :: bs => by
    have ih := inV_bls i bs
    unfold inV at ih ⊢
    rw [List.map_cons, List.any_cons, ih, List.contains_cons]
    cases i <;> cases b <;> rfl
theorem bls_flat (bs : List Bool) : (bs.map V.bl).all flatV = true := by
  rw [List.all_eq_true]
  intro v hv
  obtain ⟨b, _, rfl⟩ := List.mem_map.mp hv
  rfl
theorem o2_inB : Op2 c (rIn c.K false) fInB := by
  intro F H σ ρ tt tv a b x y k P I ask next
  unfold fInB at ask
  split at ask
  · rename_i i o xs
    split at ask
    · rename_i bs hb
      have same := isBls_eq hb
      subst same
      obtain ⟨p, vs, rfl, seq, hlen, J⟩ := I.opLst
      obtain ⟨G2, l2, _, _⟩ := J.live
      rw [List.map_append, List.map_append, List.append_assoc, List.append_assoc] at l2
      obtain ⟨Ga, Gb, _, q1, _⟩ := Live.to_trL hlen l2
      have ev := trL_bls q1
      subst ev
      obtain ⟨_, _, t2, _⟩ := Sim.top (Sim.drop I)
      cases t2
      exact ⟨p, _, rfl, .inl seq, rfl, bls_flat bs, by rw [inV_bls]; exact next _ _ _ _ (I.drop.drop.pushG (.bl _) rfl) ask⟩
    · exact ask.elim
  · exact ask.elim
end
/-! ### a text of one sign, so many times: some text -/
theorem cps_rep (a : Array Nat) : ∀ (m : Nat) (acc : Array Nat), ((List.replicate m a).foldl (· ++ ·) acc).size = acc.size + m * a.size
  | 0, acc => by simp
  | m + 1, acc => by
    rw [List.replicate_succ, List.foldl_cons, cps_rep a m, Array.size_append, Nat.succ_mul]
    omega
section
variable {X : Cx} {c : Cst}
def rMulS : R2 := fun x y H Q => ∃ (z : Str) (n : Int), x = .str z ∧ y = .int n ∧ (z.length = 1 ∧ 0 ≤ n ∧ n ≤ 1000) ∧ ∀ r, Q (.str r) H
theorem op_mulS : OpR X (binaryOp .Mult) rMulS := by
  intro pins s σ H x y v u Q I rx ry ask
  obtain ⟨z, n, rfl, rfl, ⟨one, n0, n1⟩, next⟩ := ask
  obtain ⟨t, rfl⟩ := rx
  obtain ⟨t2, rfl⟩ := ry
  refine PySem.P.mul_str (by rw [decide_eq_false (by omega), decide_eq_false (by omega)]; rfl) (fun h1 _ => ?_) (fun h1 _ => ?_) ?_
  · rw [one]
    have : 1 ≤ (2 ^ 63 - 1) / n := (Int.le_ediv_iff_mul_le (by omega)).mpr (by omega)
    omega
  · rw [one, Nat.one_mul]
    have : n.toNat ≤ 1000 := by omega
    unfold Builtin.Str.tooLong
    rw [decide_eq_false (by rw [sizeLine_eq]; omega)]
  · split
    · exact ⟨by decide, .str _, H, I.tok _, ⟨_, rfl⟩, next _⟩
    · split
      · exact ⟨.str z, H, I, ⟨_, rfl⟩, next _⟩
      · refine ⟨?_, .str _, H, I.tok _, ⟨_, rfl⟩, next _⟩
        show ((List.replicate n.toNat z.cps).foldl (· ++ ·) #[]).size ≤ sizeLine
        rw [cps_rep, sizeLine_eq, show z.cps.size = 1 from one]
        simp
        omega
@[simp] def fMulS (a b : T) (k : T → Prop) : Prop := match a, b with
  | .str z, .int n => (z.length = 1 ∧ 0 ≤ n ∧ n ≤ 1000) ∧ ∀ r, k (.str r)
  | _, _ => False
theorem o2_mulS : Op2 c rMulS fMulS := by
  intro F H σ ρ tt tv a b x y k P I ask next
  unfold fMulS at ask
  split at ask
  · have e := I.intTop
    subst e
    obtain ⟨_, _, t1, _⟩ := Sim.top (Sim.drop I)
    cases t1
    exact ⟨_, _, rfl, rfl, ask.1, fun r => next _ _ _ _ (I.drop.drop.pushG (.str r) rfl) (ask.2 r)⟩
  · exact ask.elim
end
end L3

namespace Lw
open PySem PySem.Spec PyProof.Rows L2 L3
/-- where the classes stand -/
structure Ca where
  ScrollError : Addr
  InvalidLengthsError : Addr
  InvalidScrollsError : Addr
  InvalidTurnError : Addr
  InvalidTurnsError : Addr
  InvalidNumberError : Addr
  InvalidAreaError : Addr
  InvalidEffectError : Addr
  InvalidFormError : Addr
  InvalidLocksError : Addr
  InvalidFormatError : Addr
  LockedError : Addr
  EmptyHistoryError : Addr
/-- the classes of the errors that are raised, by number -/
def clE (CA : Ca) : Nat → Option Addr
  | 0 => some CA.ScrollError
  | 1 => some CA.InvalidLengthsError
  | 2 => some CA.InvalidScrollsError
  | 3 => some CA.InvalidTurnError
  | 4 => some CA.InvalidTurnsError
  | 5 => some CA.InvalidNumberError
  | 6 => some CA.InvalidAreaError
  | 7 => some CA.InvalidEffectError
  | 8 => some CA.InvalidFormError
  | 9 => some CA.InvalidLocksError
  | 10 => some CA.InvalidFormatError
  | 11 => some CA.LockedError
  | 12 => some CA.EmptyHistoryError
  | _ => none
@[simp] theorem clE_0 (CA : Ca) : clE CA 0 = some CA.ScrollError := rfl
@[simp] theorem clE_1 (CA : Ca) : clE CA 1 = some CA.InvalidLengthsError := rfl
@[simp] theorem clE_2 (CA : Ca) : clE CA 2 = some CA.InvalidScrollsError := rfl
@[simp] theorem clE_3 (CA : Ca) : clE CA 3 = some CA.InvalidTurnError := rfl
@[simp] theorem clE_4 (CA : Ca) : clE CA 4 = some CA.InvalidTurnsError := rfl
@[simp] theorem clE_5 (CA : Ca) : clE CA 5 = some CA.InvalidNumberError := rfl
@[simp] theorem clE_6 (CA : Ca) : clE CA 6 = some CA.InvalidAreaError := rfl
@[simp] theorem clE_7 (CA : Ca) : clE CA 7 = some CA.InvalidEffectError := rfl
@[simp] theorem clE_8 (CA : Ca) : clE CA 8 = some CA.InvalidFormError := rfl
@[simp] theorem clE_9 (CA : Ca) : clE CA 9 = some CA.InvalidLocksError := rfl
@[simp] theorem clE_10 (CA : Ca) : clE CA 10 = some CA.InvalidFormatError := rfl
@[simp] theorem clE_11 (CA : Ca) : clE CA 11 = some CA.LockedError := rfl
@[simp] theorem clE_12 (CA : Ca) : clE CA 12 = some CA.EmptyHistoryError := rfl
/-! lib is_integer -/
/-- a bound: None or an int -/
def ldp : T → Bool
  | .non | .int _ => true
  | _ => false
def leB : T → T → Bool
  | .int a, .int b => decide (a ≤ b)
  | _, _ => true
def isIn (v lo hi : T) : Bool := match v with | .int _ => leB lo v && leB v hi | _ => false
/-- a value whose kind is known -/
def kd (v : T) : Bool := (tyN v).isSome && stb v
@[simp] theorem kd_i (i : Int) : kd (.int i) = true := rfl
/-! lib sums_of -/
def psum (a : Int) : List Int → List Int
  | [] => []
  | x :: r => (a + x) :: psum (a + x) r
theorem psum_app (x : Int) : ∀ (ns : List Int) (a : Int), psum a (ns ++ [x]) = psum a ns ++ [a + ns.sum + x]
  | [], a => by simp [psum]
  | n :: ns, a => by
    simp only [List.cons_append, psum, psum_app x ns, List.sum_cons]
    congr 3
    omega
theorem psum_len : ∀ (ns : List Int) (a : Int), (psum a ns).length = ns.length
  | [], _ => rfl
  | n :: ns, a => by simp [psum, psum_len ns]
theorem psum_last : ∀ (ns : List Int) (a : Int), ns ≠ [] → (psum a ns)[ns.length - 1]? = some (a + ns.sum)
  | [], _, h => absurd rfl h
  | [n], a, _ => by simp [psum]
  | n :: m :: ns, a, _ => by
    have := psum_last (m :: ns) (a + n) (by simp)
    simp only [List.length_cons, Nat.add_sub_cancel] at this ⊢
    rw [psum, List.getElem?_cons_succ, this, List.sum_cons, List.sum_cons, List.sum_cons]
    congr 1
    omega
theorem take_snoc {α : Type} {ns : List α} {i : Nat} {x : α} (h : ns[i]? = some x) : ns.take (i + 1) = ns.take i ++ [x] := by
  rw [List.take_succ, h]
  rfl
/-! lib scrolls_from -/
def diff (a : Int) : List Int → List Int
  | [] => []
  | x :: r => (x - a) :: diff x r
theorem diff_len : ∀ (ns : List Int) (a : Int), (diff a ns).length = ns.length
  | [], _ => rfl
  | n :: ns, a => by simp [diff, diff_len ns]
theorem cut_last (ns : List Int) : cutT ns none (some (-1)) = ns.dropLast := by
  unfold cutT
  simp only [HT.sIx]
  rw [if_pos (by decide), List.dropLast_eq_take]
  simp
  congr 1
  omega
theorem zip_diff : ∀ (ns : List Int) (a : Int), (((a :: ns.dropLast).zip ns).map fun p => p.2 - p.1) = diff a ns
  | [], _ => rfl
  | [n], a => by simp [diff]
  | n :: m :: ns, a => by
    have := zip_diff (m :: ns) n
    simp only [List.dropLast_cons₂, List.zip_cons_cons, List.map_cons] at this ⊢
    rw [diff, this]
/-! lib l_bag -/
/-- the law's bag of digits: a number of the script, a counter of at most B -/
def Bag (B : Int) (t : T) : Prop := ∃ a b : Int, t = .lst true [.int a, .int b] ∧ 0 ≤ a ∧ 0 ≤ b ∧ b ≤ B
theorem Bag.mono {B C : Int} {t : T} (h : Bag B t) (hBC : B ≤ C) : Bag C t := by
  obtain ⟨a, b, rfl, h1, h2, h3⟩ := h
  exact ⟨a, b, rfl, h1, h2, by omega⟩
theorem Bag.own {B : Int} {t : T} (h : Bag B t) : own t = true := by
  obtain ⟨a, b, rfl, _⟩ := h
  rfl
/-! lib l_marks -/
/-- the marks of the error with this number -/
def marksT (n : Nat) : List T := [.bl (n == 12), .bl (n == 6), .bl (n == 7), .bl (n == 8), .bl (n == 10), .bl (n == 1), .bl (n == 9), .bl (n == 5), .bl (n == 2), .bl (n == 3), .bl (n == 4), .bl (n == 11)]
/-! lib is_lengths -/
/-- lengths of areas -/
def isLen : T → Bool
  | .lst _ xs => decide (1 ≤ xs.length) && decide (xs.length ≤ 12) && xs.all fun x => isIn x (.int 0) .non
  | _ => false
/-- a value whose kind is known, and its items' -/
def kdL (v : T) : Bool := kd v && match v with | .lst _ xs => xs.all kd | _ => true
theorem all_kd_ints (ns : List Int) : (ns.map T.int).all kd = true := by simp
@[simp] theorem kdL_ints (ns : List Int) : kdL (.lst false (ns.map .int)) = true := by simp [kdL, kd]
theorem fr_kd {t : T} (h : kd t = true) : fr t = t := fr_stb t (Bool.and_eq_true_iff.mp h).2
theorem fr_all_kd {xs : List T} (h : xs.all kd = true) : frL xs = xs := by
  refine frL_stb xs ?_
  rw [stbL_all, List.all_eq_true]
  exact fun x hx => (Bool.and_eq_true_iff.mp (List.all_eq_true.mp h x hx)).2
theorem len_small {α : Type} {xs : List α} (h : xs.length ≤ 1000) : xs.length ≤ sizeLine := by rw [sizeLine_eq]; omega
/-! lib are_scrolls -/
def allScr : List T → List T → Bool
  | x :: xs, l :: ls => isIn x (.int 0) l && allScr xs ls
  | _, _ => true
def isScr (ls : List Int) : T → Bool
  | .lst _ xs => decide (xs.length = ls.length) && allScr xs (ls.map .int)
  | _ => false
theorem zip_scr : ∀ (xs ls : List T), ((xs.zip ls).map fun p => isIn p.1 (.int 0) p.2).all id = allScr xs ls
  | [], _ => by simp [allScr]
  | x :: xs, [] => by simp [allScr]
  | x :: xs, l :: ls => by
    have := zip_scr xs ls
    simp [allScr] at this ⊢
    rw [← this]
/-! lib is_turns -/
/-- turns -/
def isTrn : T → Bool
  | .lst _ xs => decide (xs.length ≤ 400) && xs.all fun x => isIn x .non .non
  | _ => false
/-! lib moved_sums -/
def moved (t : Int) : List Int → List Int → List Int
  | n :: ns, l :: ls => max 0 (min l (n + t)) :: moved t ns ls
  | _, _ => []
theorem zip_moved (t : Int) : ∀ ns ls : List Int, ((ns.zip ls).map fun p => max 0 (min p.2 (p.1 + t))) = moved t ns ls
  | [], _ => by simp [moved]
  | n :: ns, [] => by simp [moved]
  | n :: ns, l :: ls => by simp [moved, zip_moved t ns ls]
/-! lib check_turns -/
theorem isTrn_ints (ns : List Int) (h2 : ns.length ≤ 400) : isTrn (.lst false (ns.map .int)) = true := by
  simp [isTrn, isIn, leB, h2]
/-! lib scrolls_in -/
theorem moved_len (t : Int) : ∀ ns ls : List Int, (moved t ns ls).length ≤ ns.length
  | [], _ => by simp [moved]
  | n :: ns, [] => by simp [moved]
  | n :: ns, l :: ls => by
    have := moved_len t ns ls
    simp [moved]
    omega
def movedAll (ls : List Int) : List Int → List Int → List Int
  | ns, [] => ns
  | ns, t :: ts => movedAll ls (moved t ns ls) ts
theorem movedAll_snoc (ls : List Int) (t : Int) : ∀ (ts ns : List Int), movedAll ls ns (ts ++ [t]) = moved t (movedAll ls ns ts) ls
  | [], _ => rfl
  | u :: ts, ns => by simp [movedAll, movedAll_snoc ls t ts]
theorem movedAll_len (ls : List Int) : ∀ (ts ns : List Int), (movedAll ls ns ts).length ≤ ns.length
  | [], _ => Nat.le_refl _
  | u :: ts, ns => Nat.le_trans (movedAll_len ls ts _) (moved_len u ns ls)
/-- the scrolls behind turns -/
def after (ls ns ts : List Int) : List Int := diff 0 (movedAll (psum 0 ls) (psum 0 ns) ts)
/-! lib l_right -/
/-- the number of the error at the place k of the marks -/
def ixs : Nat → Nat
  | 0 => 12 | 1 => 6 | 2 => 7 | 3 => 8 | 4 => 10 | 5 => 1 | 6 => 9 | 7 => 5 | 8 => 2 | 9 => 3 | 10 => 4 | _ => 11
def errs (CA : Ca) : List T := [.exc CA.EmptyHistoryError, .exc CA.InvalidAreaError, .exc CA.InvalidEffectError, .exc CA.InvalidFormError, .exc CA.InvalidFormatError, .exc CA.InvalidLengthsError, .exc CA.InvalidLocksError, .exc CA.InvalidNumberError, .exc CA.InvalidScrollsError, .exc CA.InvalidTurnError, .exc CA.InvalidTurnsError, .exc CA.LockedError]
theorem errs_at (CA : Ca) {x : Nat} (h : x < 12) : ∃ D, clE CA (ixs x) = some D ∧ atI (errs CA) (x : Int) = some (.exc D) := by
  have c : x = 0 ∨ x = 1 ∨ x = 2 ∨ x = 3 ∨ x = 4 ∨ x = 5 ∨ x = 6 ∨ x = 7 ∨ x = 8 ∨ x = 9 ∨ x = 10 ∨ x = 11 := by omega
  rcases c with rfl | rfl | rfl | rfl | rfl | rfl | rfl | rfl | rfl | rfl | rfl | rfl <;> exact ⟨_, rfl, rfl⟩
theorem mk_pln : ∀ x, x < 12 → plnL 59 (marksT (ixs x)) = true ∧ plnL 59 ((List.range 12).map fun (i : Nat) => T.bl (decide ((i : Int) = (x : Int)))) = true ∧ teqL (marksT (ixs x)) ((List.range 12).map fun (i : Nat) => T.bl (decide ((i : Int) = (x : Int)))) = true := by decide +kernel
def gNo : G3 := fun _ _ _ => False
def okX_ScrollError (CA : Ca) (a : Addr) : Prop := a = CA.ScrollError ∨ a = CA.InvalidLengthsError ∨ a = CA.InvalidScrollsError ∨ a = CA.InvalidTurnError ∨ a = CA.InvalidTurnsError ∨ a = CA.InvalidNumberError ∨ a = CA.InvalidAreaError ∨ a = CA.InvalidEffectError ∨ a = CA.InvalidFormError ∨ a = CA.InvalidLocksError ∨ a = CA.InvalidFormatError ∨ a = CA.LockedError ∨ a = CA.EmptyHistoryError
/-! is_integer 732c2767 -/
def g_is_integer : G3 := fun ts Q _ => ∃ v lo hi, ts = [v, lo, hi] ∧ kd v = true ∧ ldp lo = true ∧ ldp hi = true ∧ Q (.bl (isIn v lo hi)) .non
def wb_is_integer : WS := (wSeq (wIfS (wOr (wNot (wB (wA fIsiA (wCons (wVar 0) (wCons (wC (.fn (.ty "int"))) wNil))))) (wB (wA fIsiA (wCons (wVar 0) (wCons (wC (.fn (.ty "bool"))) wNil))))) (wRet (wC (.bl false))) wNext)
    (wRet (wAndV (wOrV (w2 (fIsN false) (wVar 1) (wC .non)) (w2 fLe (wVar 1) (wVar 0))) (wOrV (w2 (fIsN false) (wVar 2) (wC .non)) (w2 fLe (wVar 0) (wVar 2))))))
theorem wp_is_integer {ts : List T} {Q : T → T → Prop} {R : Addr → T → Prop} (hg : g_is_integer ts Q R) : wb_is_integer { nx := fun ρ => Q .non (ioR false ρ), rt := fun t ρ => Q t (ioR false ρ) } (start3 3 ts) := by
  obtain ⟨v, lo, hi, rfl, hv, hl, hh, hq⟩ := hg
  cases v with
  | int i =>
    cases lo <;> cases hi <;> simp [ldp] at hl hh <;> simp [wb_is_integer, isIn, leB] at hq ⊢ <;> (try exact hq)
    all_goals (split <;> simp_all)
  | fn => simp [kd] at hv
  | ins => simp [kd] at hv
  | _ => (simp [kd] at hv <;> simp [wb_is_integer, isIn] at hq ⊢ <;> simp_all)
/-! cut 0362559a -/
def g_cut : G3 := fun ts Q _ => ∃ n lo hi, ts = [.int n, .int lo, .int hi] ∧ Q (.int (max lo (min hi n))) .non
def wb_cut : WS := (wRet (wA fMax (wCons (wVar 1) (wCons (wA fMin (wCons (wVar 2) (wCons (wVar 0) wNil))) wNil))))
theorem wp_cut {ts : List T} {Q : T → T → Prop} {R : Addr → T → Prop} (hg : g_cut ts Q R) : wb_cut { nx := fun ρ => Q .non (ioR false ρ), rt := fun t ρ => Q t (ioR false ρ) } (start3 3 ts) := by
  obtain ⟨n, lo, hi, rfl, hq⟩ := hg
  simpa [wb_cut] using hq
/-! sums_of 0737e190 -/
def g_sums_of : G3 := fun ts Q _ => ∃ ns : List Int, ts = [.lst false (ns.map .int)] ∧ ns.length < 1000 ∧ Q (.lst true ((psum 0 ns).map .int)) .non
def wb_sums_of : WS := (wSeq (wSet 1 (wLst wNil))
    (wSeq (wFor (wiL (wVar 0)) (gN 2) (wDrop (wApp 1 (wLend (wIf (wB (w2 (fEq true) (wVar 1) (wLst wNil))) (w2 fAdd (wVar 2) (w2 fIx (wVar 1) (w1 fNeg (wC (.int 1))))) (wVar 2))))))
    (wRet (wMove 1))))
theorem wp_sums_of {ts : List T} {Q : T → T → Prop} {R : Addr → T → Prop} (hg : g_sums_of ts Q R) : wb_sums_of { nx := fun ρ => Q .non (ioR false ρ), rt := fun t ρ => Q t (ioR false ρ) } (start3 3 ts) := by
  obtain ⟨ns, rfl, hl, hq⟩ := hg
  simp [wb_sums_of]
  refine for_on ns .int _ (fun i ρ => ∃ y, ρ = [some (.lst false (ns.map .int)), some (.lst true ((psum 0 (ns.take i)).map .int)), y]) (fun K hK => by simpa using hK) ⟨none, by simp [psum]⟩ ?_ ?_
  · rintro i x ex ρ ⟨y, rfl⟩
    have key : psum 0 (ns.take (i + 1)) = psum 0 (ns.take i) ++ [(ns.take i).sum + x] := by
      rw [take_snoc ex, psum_app]
      simp
    have hsz : (psum 0 (ns.take i)).length < sizeLine := by
      rw [psum_len, List.length_take, sizeLine_eq]
      omega
    simp [key, hsz]
    split
    · rename_i h
      have h0 : (ns.take i) = [] := List.length_eq_zero_iff.mp (by rw [← psum_len (ns.take i) 0, h]; rfl)
      simp [h0]
    · rename_i h
      have h0 : (ns.take i) ≠ [] := fun z => h (by rw [z]; rfl)
      rw [atI_ints, atI_neg1 h, psum_len, psum_last _ _ h0]
      simp
      omega
  · rintro ρ ⟨y, rfl⟩
    simpa using hq
/-! scrolls_from d805256e -/
def g_scrolls_from : G3 := fun ts Q _ => ∃ ns : List Int, ts = [.lst false (ns.map .int)] ∧ ns.length < 1000 ∧ Q (.lst true ((diff 0 ns).map .int)) .non
def wb_scrolls_from : WS := (wRet (wLc [1, 2] (wiZi (wCons (w2 fAdd (wLst (wCons (wC (.int 0)) wNil)) (wSl (wVar 0) wNo (wSm (w1 fNeg (wC (.int 1)))))) (wCons (wVar 0) wNil))) (gT 2 (gsCons (gN 1) (gsCons (gN 2) gsNil))) wYes (w2 fSubA (wVar 2) (wVar 1))))
theorem wp_scrolls_from {ts : List T} {Q : T → T → Prop} {R : Addr → T → Prop} (hg : g_scrolls_from ts Q R) : wb_scrolls_from { nx := fun ρ => Q .non (ioR false ρ), rt := fun t ρ => Q t (ioR false ρ) } (start3 3 ts) := by
  obtain ⟨ns, rfl, hl, hq⟩ := hg
  simp [wb_scrolls_from]
  have hz : ((0 :: ns.dropLast).zip ns).length ≤ sizeLine := by
    rw [List.length_zip, sizeLine_eq]
    omega
  refine lc_on ((0 :: ns.dropLast).zip ns) (fun p => .tup [.int p.1, .int p.2]) (fun p => .int (p.2 - p.1)) [some (.lst false (ns.map .int)), none, none] (fun K hK => ?_) hz (fun x hx K hK => ?_) ?_
  · rw [← ziT_map T.int T.int] at hK
    have : (1 : Nat) + (cutT ns none (some (-1))).length ≤ sizeLine := by
      rw [cut_last, sizeLine_eq]
      simp
      omega
    simp [cut_last, sizeLine_eq, ← List.map_dropLast, -List.map_dropLast] at this ⊢
    exact ⟨by omega, by simpa using hK⟩
  · simp
    exact hK _ rfl
  · have e : ((0 :: ns.dropLast).zip ns).map (fun p => T.int (p.2 - p.1)) = (diff 0 ns).map .int := by
      rw [← zip_diff, List.map_map]
      rfl
    rw [e]
    simpa using hq
/-! _law_bag 6781d71c -/
def g_l_bag : G3 := fun ts Q _ => ∃ c k : Int, ts = [.int c, .int k] ∧ 0 ≤ k ∧ k ≤ 1000 ∧ ∀ t, Bag 100000 t → Q t .non
def wb_l_bag : WS := (wSeq (wIfS (wB (w2 fLt (wVar 0) (wC (.int 0)))) (wRet (wLst (wCons (w1 fNeg (wVar 0)) (wCons (w2 fAdd (w2 fMul (wC (.int 37)) (wVar 1)) (wC (.int 18))) wNil)))) wNext)
    (wRet (wLst (wCons (wVar 0) (wCons (w2 fMul (wC (.int 37)) (wVar 1)) wNil)))))
theorem wp_l_bag {ts : List T} {Q : T → T → Prop} {R : Addr → T → Prop} (hg : g_l_bag ts Q R) : wb_l_bag { nx := fun ρ => Q .non (ioR false ρ), rt := fun t ρ => Q t (ioR false ρ) } (start3 2 ts) := by
  obtain ⟨c, k, rfl, h0, h1, hq⟩ := hg
  have e : (1000 : Int) ≤ 2 ^ 2000 := by decide +kernel
  have m1 : CMulW 37 k := mul_ok (gt4k (by decide +kernel)) (lt4k (by decide +kernel)) (gt4k (by omega)) (lt4k (Int.le_trans h1 e))
  simp [wb_l_bag, m1, sizeLine_eq]
  split
  · exact hq _ ⟨_, _, rfl, by omega, by omega, by omega⟩
  · exact hq _ ⟨_, _, rfl, by omega, by omega, by omega⟩
/-! _law_draw 5cc206c1 -/
def g_l_draw : G3 := fun ts Q _ => ∃ (t : T) (n B : Int), ts = [t, .int n] ∧ Bag B t ∧ 0 < n ∧ n ≤ 2 ^ 2000 ∧ B ≤ 2 ^ 40 ∧ ∀ (d : Int) (t' : T), 0 ≤ d → d < n → Bag (B + 1) t' → Q (.int d) t'
def wb_l_draw : WS := (wSeq (wAugI 0 (wC (.int 1)) fAddI (wC (.int 1)))
    (wSeq (wIfS (wLendT (wB (w2 fGe (w2 fIx (wVar 0) (wC (.int 0))) (w2 fPow (wC (.int 10)) (wC (.int 18)))))) (wSeq (wSet 2 (wLend (w2 fMod (w2 fIx (wVar 0) (wC (.int 0))) (wVar 1))))
    (wSeq (wAsgG (gPut 0 (wC (.int 0))) (wLend (w2 fDiv (w2 fIx (wVar 0) (wC (.int 0))) (wVar 1))))
    (wRet (wVar 2)))) wNext)
    (wSeq (wSet 3 (wLend (w2 fMod (w2 fAdd (w2 fAdd (w2 fMod (w2 fIx (wVar 0) (wC (.int 0))) (wC (.int 2147483629))) (w2 fMul (wC (.int 104729)) (w2 fIx (wVar 0) (wC (.int 1))))) (wC (.int 1))) (wC (.int 2147483587)))))
    (wSeq (wSet 3 (w2 fMod (w2 fMul (wVar 3) (wVar 3)) (wC (.int 2147483587))))
    (wSeq (wSet 3 (wLend (w2 fMod (w2 fAdd (wVar 3) (w2 fMul (wC (.int 40692)) (w2 fIx (wVar 0) (wC (.int 1))))) (wC (.int 2147483563)))))
    (wSeq (wSet 3 (w2 fMod (w2 fMul (wVar 3) (wVar 3)) (wC (.int 2147483563))))
    (wRet (w2 fMod (w2 fDiv (wVar 3) (wC (.int 8))) (wVar 1)))))))))
theorem wp_l_draw {ts : List T} {Q : T → T → Prop} {R : Addr → T → Prop} (hg : g_l_draw ts Q R) : wb_l_draw { nx := fun ρ => Q .non (ioR true ρ), rt := fun t ρ => Q t (ioR true ρ) } (start3 4 ts) := by
  obtain ⟨t, n, B, rfl, ⟨a, b, rfl, h1, h2, h3⟩, n0, n1, hB, hq⟩ := hg
  have m18 : CPowW 10 18 := pow_ok (by decide) (by decide) (by decide) (lt4k (by decide +kernel))
  simp [wb_l_draw, m18]
  have e40 : (2 : Int) ^ 40 = 1099511627776 := by decide
  have big : (1099511627777 : Int) ≤ 2 ^ 2000 := by decide +kernel
  have sm : ∀ x y : Int, 0 ≤ x → x ≤ 1099511627777 → 0 ≤ y → y ≤ 1099511627777 → CMulW x y := fun x y a0 a1 b0 b1 => mul_ok (gt4k (by omega)) (lt4k (Int.le_trans a1 big)) (gt4k (by omega)) (lt4k (Int.le_trans b1 big))
  split
  · exact ⟨n0, div_ok n0 (lt4k n1), hq _ _ (Int.emod_nonneg _ (by omega)) (Int.emod_lt_of_pos _ n0) ⟨_, _, rfl, Int.ediv_nonneg h1 (by omega), by omega, by omega⟩⟩
  · have x0 : 0 ≤ (a % 2147483629 + 104729 * (b + 1) + 1) % 2147483587 := Int.emod_nonneg _ (by decide)
    have x1 : (a % 2147483629 + 104729 * (b + 1) + 1) % 2147483587 < 2147483587 := Int.emod_lt_of_pos _ (by decide)
    generalize (a % 2147483629 + 104729 * (b + 1) + 1) % 2147483587 = x at *
    have y0 : 0 ≤ (x * x % 2147483587 + 40692 * (b + 1)) % 2147483563 := Int.emod_nonneg _ (by decide)
    have y1 : (x * x % 2147483587 + 40692 * (b + 1)) % 2147483563 < 2147483563 := Int.emod_lt_of_pos _ (by decide)
    generalize (x * x % 2147483587 + 40692 * (b + 1)) % 2147483563 = y at *
    exact ⟨sm _ _ (by decide) (by decide) (by omega) (by omega), sm _ _ (by omega) (by omega) (by omega) (by omega), sm _ _ (by decide) (by decide) (by omega) (by omega), sm _ _ (by omega) (by omega) (by omega) (by omega), div_ok (by decide) (lt4k (by decide +kernel)), n0, hq _ _ (Int.emod_nonneg _ (by omega)) (Int.emod_lt_of_pos _ n0) ⟨_, _, rfl, h1, by omega, by omega⟩⟩
/-! _law_marks dc548167 -/
def g_l_marksH (nn : Nat) : G3 := fun ts Q _ => Q (.lst true (marksT nn)) .non
def wb_l_marksH (CA : Ca) (nn : Nat) (vv : V) : WS := (wSeq (wSet 1 (wLst wNil))
    (wSeq (wSet 1 (w2 fAdd (wFrz 1) (wLst (wCons (wA (fIsX vv (.fn (.ref CA.EmptyHistoryError)) (nn == 12)) (wCons (wVar 0) (wCons (wC (.fn (.ref CA.EmptyHistoryError))) wNil))) (wCons (wA (fIsX vv (.fn (.ref CA.InvalidAreaError)) (nn == 6)) (wCons (wVar 0) (wCons (wC (.fn (.ref CA.InvalidAreaError))) wNil))) wNil)))))
    (wSeq (wSet 1 (w2 fAdd (wFrz 1) (wLst (wCons (wA (fIsX vv (.fn (.ref CA.InvalidEffectError)) (nn == 7)) (wCons (wVar 0) (wCons (wC (.fn (.ref CA.InvalidEffectError))) wNil))) (wCons (wA (fIsX vv (.fn (.ref CA.InvalidFormError)) (nn == 8)) (wCons (wVar 0) (wCons (wC (.fn (.ref CA.InvalidFormError))) wNil))) wNil)))))
    (wSeq (wSet 1 (w2 fAdd (wFrz 1) (wLst (wCons (wA (fIsX vv (.fn (.ref CA.InvalidFormatError)) (nn == 10)) (wCons (wVar 0) (wCons (wC (.fn (.ref CA.InvalidFormatError))) wNil))) (wCons (wA (fIsX vv (.fn (.ref CA.InvalidLengthsError)) (nn == 1)) (wCons (wVar 0) (wCons (wC (.fn (.ref CA.InvalidLengthsError))) wNil))) wNil)))))
    (wSeq (wSet 1 (w2 fAdd (wFrz 1) (wLst (wCons (wA (fIsX vv (.fn (.ref CA.InvalidLocksError)) (nn == 9)) (wCons (wVar 0) (wCons (wC (.fn (.ref CA.InvalidLocksError))) wNil))) (wCons (wA (fIsX vv (.fn (.ref CA.InvalidNumberError)) (nn == 5)) (wCons (wVar 0) (wCons (wC (.fn (.ref CA.InvalidNumberError))) wNil))) wNil)))))
    (wSeq (wSet 1 (w2 fAdd (wFrz 1) (wLst (wCons (wA (fIsX vv (.fn (.ref CA.InvalidScrollsError)) (nn == 2)) (wCons (wVar 0) (wCons (wC (.fn (.ref CA.InvalidScrollsError))) wNil))) (wCons (wA (fIsX vv (.fn (.ref CA.InvalidTurnError)) (nn == 3)) (wCons (wVar 0) (wCons (wC (.fn (.ref CA.InvalidTurnError))) wNil))) wNil)))))
    (wSeq (wSet 1 (w2 fAdd (wFrz 1) (wLst (wCons (wA (fIsX vv (.fn (.ref CA.InvalidTurnsError)) (nn == 4)) (wCons (wVar 0) (wCons (wC (.fn (.ref CA.InvalidTurnsError))) wNil))) (wCons (wA (fIsX vv (.fn (.ref CA.LockedError)) (nn == 11)) (wCons (wVar 0) (wCons (wC (.fn (.ref CA.LockedError))) wNil))) wNil)))))
    (wRet (wMove 1)))))))))
theorem wp_l_marksH {CA : Ca} {nn : Nat} {vv : V} {Q : T → T → Prop} {R : Addr → T → Prop} (hg : g_l_marksH nn [.fn vv] Q R) : wb_l_marksH CA nn vv { nx := fun _ => Q .non .non, rt := fun t _ => Q t .non } (start3 2 [.fn vv]) := by
  simp [wb_l_marksH, sizeLine_eq]
  exact hg
def g_l_marks (CA : Ca) : G3 := fun ts Q _ => ∃ n D, clE CA n = some D ∧ ts = [.exc D] ∧ Q (.lst true (marksT n)) .non
def wb_l_marks (CA : Ca) : WS := (wSeq (wSet 1 (wLst wNil))
    (wSeq (wSet 1 (w2 fAdd (wFrz 1) (wLst (wCons (wA (fIsC (clE CA) (.fn (.ref CA.EmptyHistoryError)) (fun nn => (nn == 12))) (wCons (wVar 0) (wCons (wC (.fn (.ref CA.EmptyHistoryError))) wNil))) (wCons (wA (fIsC (clE CA) (.fn (.ref CA.InvalidAreaError)) (fun nn => (nn == 6))) (wCons (wVar 0) (wCons (wC (.fn (.ref CA.InvalidAreaError))) wNil))) wNil)))))
    (wSeq (wSet 1 (w2 fAdd (wFrz 1) (wLst (wCons (wA (fIsC (clE CA) (.fn (.ref CA.InvalidEffectError)) (fun nn => (nn == 7))) (wCons (wVar 0) (wCons (wC (.fn (.ref CA.InvalidEffectError))) wNil))) (wCons (wA (fIsC (clE CA) (.fn (.ref CA.InvalidFormError)) (fun nn => (nn == 8))) (wCons (wVar 0) (wCons (wC (.fn (.ref CA.InvalidFormError))) wNil))) wNil)))))
    (wSeq (wSet 1 (w2 fAdd (wFrz 1) (wLst (wCons (wA (fIsC (clE CA) (.fn (.ref CA.InvalidFormatError)) (fun nn => (nn == 10))) (wCons (wVar 0) (wCons (wC (.fn (.ref CA.InvalidFormatError))) wNil))) (wCons (wA (fIsC (clE CA) (.fn (.ref CA.InvalidLengthsError)) (fun nn => (nn == 1))) (wCons (wVar 0) (wCons (wC (.fn (.ref CA.InvalidLengthsError))) wNil))) wNil)))))
    (wSeq (wSet 1 (w2 fAdd (wFrz 1) (wLst (wCons (wA (fIsC (clE CA) (.fn (.ref CA.InvalidLocksError)) (fun nn => (nn == 9))) (wCons (wVar 0) (wCons (wC (.fn (.ref CA.InvalidLocksError))) wNil))) (wCons (wA (fIsC (clE CA) (.fn (.ref CA.InvalidNumberError)) (fun nn => (nn == 5))) (wCons (wVar 0) (wCons (wC (.fn (.ref CA.InvalidNumberError))) wNil))) wNil)))))
    (wSeq (wSet 1 (w2 fAdd (wFrz 1) (wLst (wCons (wA (fIsC (clE CA) (.fn (.ref CA.InvalidScrollsError)) (fun nn => (nn == 2))) (wCons (wVar 0) (wCons (wC (.fn (.ref CA.InvalidScrollsError))) wNil))) (wCons (wA (fIsC (clE CA) (.fn (.ref CA.InvalidTurnError)) (fun nn => (nn == 3))) (wCons (wVar 0) (wCons (wC (.fn (.ref CA.InvalidTurnError))) wNil))) wNil)))))
    (wSeq (wSet 1 (w2 fAdd (wFrz 1) (wLst (wCons (wA (fIsC (clE CA) (.fn (.ref CA.InvalidTurnsError)) (fun nn => (nn == 4))) (wCons (wVar 0) (wCons (wC (.fn (.ref CA.InvalidTurnsError))) wNil))) (wCons (wA (fIsC (clE CA) (.fn (.ref CA.LockedError)) (fun nn => (nn == 11))) (wCons (wVar 0) (wCons (wC (.fn (.ref CA.LockedError))) wNil))) wNil)))))
    (wRet (wMove 1)))))))))
theorem wp_l_marks {CA : Ca} {ts : List T} {Q : T → T → Prop} {R : Addr → T → Prop} (hg : g_l_marks CA ts Q R) : wb_l_marks CA { nx := fun ρ => Q .non (ioR false ρ), rt := fun t ρ => Q t (ioR false ρ) } (start3 2 ts) := by
  obtain ⟨n, D, hn, rfl, hq⟩ := hg
  simp [wb_l_marks, sizeLine_eq]
  iterate 12 first | refine ⟨n, D, hn, rfl, ?_⟩ | refine ⟨n, hn, ?_⟩
  exact hq
/-! is_lengths 60de4902 -/
def g_is_lengths : G3 := fun ts Q _ => ∃ v, ts = [v] ∧ kdL v = true ∧ Q (.bl (isLen v)) .non
def wb_is_lengths : WS := (wSeq (wIfS (wOr (wNot (wB (wA fIsiA (wCons (wVar 0) (wCons (wC (.fn (.ty "list"))) wNil))))) (wNot (wB (wChain fLe fLe (wC (.int 1)) (wA fLen (wCons (wVar 0) wNil)) (wC (.int 12)))))) (wRet (wC (.bl false))) wNext)
    (wRet (wA fAll (wCons (wLc [1] (wiL (wVar 0)) (gN 1) wYes (wCallP 3 [0, 1, 2] 3 g_is_integer (fun _ _ => False) (wCons (wVar 1) (wCons (wC (.int 0)) (wCons (wC .non) wNil))))) wNil))))
theorem wp_is_lengths {ts : List T} {Q : T → T → Prop} {R : Addr → T → Prop} (hg : g_is_lengths ts Q R) : wb_is_lengths { nx := fun ρ => Q .non (ioR false ρ), rt := fun t ρ => Q t (ioR false ρ) } (start3 2 ts) := by
  obtain ⟨v, rfl, hv, hq⟩ := hg
  cases v with
  | lst o xs =>
    have hv2 : o = false ∧ xs.all kd = true := by
      simp [kdL, kd] at hv
      refine ⟨hv.1.1, ?_⟩
      simpa [kd] using hv.2
    obtain ⟨rfl, ha⟩ := hv2
    have hs : stbL xs = true := by
      rw [stbL_all, List.all_eq_true]
      exact fun x hx => (Bool.and_eq_true_iff.mp (List.all_eq_true.mp ha x hx)).2
    simp [wb_is_lengths, hs]
    have fin : 1 ≤ xs.length → xs.length ≤ 12 → wLc [1] (wiL (wVar 0)) (gN 1) wYes (wCallP 3 [0, 1, 2] 3 g_is_integer (fun _ _ => False) (wCons (wVar 1) (wCons (wC (.int 0)) (wCons (wC .non) wNil)))) [some (.lst false xs), none] (fun t ρ1 => fAll [t] fun t => Q t .non) := fun h1 h2 => by
      refine lc_on xs id (fun x => .bl (isIn x (.int 0) .non)) [some (.lst false xs), none] (fun K hK => ?_) (len_small (by omega)) (fun x hx K hK => ?_) ?_
      · simpa [hs, fr_all_kd ha] using hK
      · have hx2 := List.all_eq_true.mp ha x hx
        have hx3 := (Bool.and_eq_true_iff.mp hx2).2
        simp [hx3, fr_kd hx2]
        exact ⟨_, _, _, rfl, hx2, rfl, rfl, hK _ rfl⟩
      · have e : xs.map (fun x => T.bl (isIn x (.int 0) .non)) = (xs.map fun x => isIn x (.int 0) .non).map .bl := by rw [List.map_map]; rfl
        rw [e]
        have e2 : (xs.map fun x => isIn x (.int 0) .non).all id = isLen (.lst false xs) := by
          simp [isLen, h1, h2, List.all_map]
        simp only [fAll, isBls_bls, e2]
        exact hq
    by_cases h1 : (1 : Int) ≤ xs.length
    · by_cases h2 : (xs.length : Int) ≤ 12
      · have := fin (by omega) (by omega)
        simp [h1, h2] at this ⊢
        exact this
      · have hf : isLen (.lst false xs) = false := by
          simp [isLen]
          omega
        rw [hf] at hq
        simp [h1, h2]
        exact hq
    · have hf : isLen (.lst false xs) = false := by
        simp [isLen]
        omega
      rw [hf] at hq
      simp [h1]
      exact hq
  | fn => simp [kdL, kd] at hv
  | ins => simp [kdL, kd] at hv
  | _ => (simp [kdL, kd] at hv <;> simp [wb_is_lengths, isLen] at hq ⊢ <;> simp_all)
/-! are_scrolls d0b50f7d -/
def g_are_scrolls : G3 := fun ts Q _ => ∃ (ls : List Int) (v : T), ts = [.lst false (ls.map .int), v] ∧ ls.length ≤ 1000 ∧ kdL v = true ∧ Q (.bl (isScr ls v)) .non
def wb_are_scrolls : WS := (wSeq (wIfS (wOr (wNot (wB (wA fIsiA (wCons (wVar 1) (wCons (wC (.fn (.ty "list"))) wNil))))) (wB (w2 (fEq true) (wA fLen (wCons (wVar 1) wNil)) (wA fLen (wCons (wVar 0) wNil))))) (wRet (wC (.bl false))) wNext)
    (wRet (wA fAll (wCons (wLc [2, 3] (wiZi (wCons (wVar 1) (wCons (wVar 0) wNil))) (gT 2 (gsCons (gN 2) (gsCons (gN 3) gsNil))) wYes (wCallP 3 [0, 1, 2] 3 g_is_integer (fun _ _ => False) (wCons (wVar 2) (wCons (wC (.int 0)) (wCons (wVar 3) wNil))))) wNil))))
theorem wp_are_scrolls {ts : List T} {Q : T → T → Prop} {R : Addr → T → Prop} (hg : g_are_scrolls ts Q R) : wb_are_scrolls { nx := fun ρ => Q .non (ioR false ρ), rt := fun t ρ => Q t (ioR false ρ) } (start3 4 ts) := by
  obtain ⟨ls, v, rfl, hl, hv, hq⟩ := hg
  cases v with
  | lst o xs =>
    have hv2 : o = false ∧ xs.all kd = true := by
      simp [kdL, kd] at hv
      refine ⟨hv.1.1, ?_⟩
      simpa [kd] using hv.2
    obtain ⟨rfl, ha⟩ := hv2
    have hs : stbL xs = true := by
      rw [stbL_all, List.all_eq_true]
      exact fun x hx => (Bool.and_eq_true_iff.mp (List.all_eq_true.mp ha x hx)).2
    simp [wb_are_scrolls, hs]
    by_cases h : (xs.length : Int) = (ls.length : Int)
    · simp only [h, if_true]
      refine lc_on (xs.zip (ls.map T.int)) (fun (p : T × T) => T.tup [p.1, p.2]) (fun p => T.bl (isIn p.1 (.int 0) p.2)) [some (.lst false (ls.map .int)), some (.lst false xs), none, none] (fun K hK => ?_) (len_small (by rw [List.length_zip, List.length_map]; omega)) (fun p hp K hK => ?_) ?_
      · have hz : ((xs.zip (ls.map T.int)).map fun (p : T × T) => T.tup [p.1, p.2]) = ziT xs (ls.map T.int) := by
          have := ziT_map id id xs (ls.map T.int)
          simp only [List.map_id, id] at this
          exact this.symm
        rw [hz] at hK
        simpa [hs, fr_all_kd ha] using hK
      · have hx2 := List.all_eq_true.mp ha p.1 (List.of_mem_zip hp).1
        have hx3 := (Bool.and_eq_true_iff.mp hx2).2
        obtain ⟨l, _, hl2⟩ := List.mem_map.mp (List.of_mem_zip hp).2
        obtain ⟨a, b⟩ := p
        simp only at hl2 hx2 hx3
        subst hl2
        simp [hx3, fr_kd hx2]
        exact ⟨_, _, _, rfl, hx2, rfl, rfl, hK _ rfl⟩
      · have e : (xs.zip (ls.map T.int)).map (fun p => T.bl (isIn p.1 (.int 0) p.2)) = ((xs.zip (ls.map T.int)).map fun p => isIn p.1 (.int 0) p.2).map .bl := by rw [List.map_map]; rfl
        rw [e]
        have e2 : isScr ls (.lst false xs) = allScr xs (ls.map .int) := by
          simp [isScr]
          omega
        simp only [fAll, isBls_bls, zip_scr, ← e2]
        exact hq
    · have hf : isScr ls (.lst false xs) = false := by
        simp [isScr]
        omega
      rw [hf] at hq
      rw [if_neg h]
      exact hq
  | fn => simp [kdL, kd] at hv
  | ins => simp [kdL, kd] at hv
  | _ => (simp [kdL, kd] at hv <;> simp [wb_are_scrolls, isScr] at hq ⊢ <;> simp_all)
/-! is_turns d4300ff2 -/
def g_is_turns : G3 := fun ts Q _ => ∃ v, ts = [v] ∧ kdL v = true ∧ Q (.bl (isTrn v)) .non
def wb_is_turns : WS := (wSeq (wIfS (wOr (wNot (wB (wA fIsiA (wCons (wVar 0) (wCons (wC (.fn (.ty "list"))) wNil))))) (wB (w2 fGt (wA fLen (wCons (wVar 0) wNil)) (wC (.int 400))))) (wRet (wC (.bl false))) wNext)
    (wRet (wA fAll (wCons (wLc [1] (wiL (wVar 0)) (gN 1) wYes (wCallP 3 [0, 1, 2] 3 g_is_integer (fun _ _ => False) (wCons (wVar 1) (wCons (wC .non) (wCons (wC .non) wNil))))) wNil))))
theorem wp_is_turns {ts : List T} {Q : T → T → Prop} {R : Addr → T → Prop} (hg : g_is_turns ts Q R) : wb_is_turns { nx := fun ρ => Q .non (ioR false ρ), rt := fun t ρ => Q t (ioR false ρ) } (start3 2 ts) := by
  obtain ⟨v, rfl, hv, hq⟩ := hg
  cases v with
  | lst o xs =>
    have hv2 : o = false ∧ xs.all kd = true := by
      simp [kdL, kd] at hv
      refine ⟨hv.1.1, ?_⟩
      simpa [kd] using hv.2
    obtain ⟨rfl, ha⟩ := hv2
    have hs : stbL xs = true := by
      rw [stbL_all, List.all_eq_true]
      exact fun x hx => (Bool.and_eq_true_iff.mp (List.all_eq_true.mp ha x hx)).2
    simp [wb_is_turns, hs]
    have fin : xs.length ≤ 400 → wLc [1] (wiL (wVar 0)) (gN 1) wYes (wCallP 3 [0, 1, 2] 3 g_is_integer (fun _ _ => False) (wCons (wVar 1) (wCons (wC .non) (wCons (wC .non) wNil)))) [some (.lst false xs), none] (fun t ρ1 => fAll [t] fun t => Q t .non) := fun h2 => by
      refine lc_on xs id (fun x => .bl (isIn x .non .non)) [some (.lst false xs), none] (fun K hK => ?_) (len_small (by omega)) (fun x hx K hK => ?_) ?_
      · simpa [hs, fr_all_kd ha] using hK
      · have hx2 := List.all_eq_true.mp ha x hx
        have hx3 := (Bool.and_eq_true_iff.mp hx2).2
        simp [hx3, fr_kd hx2]
        exact ⟨_, _, _, rfl, hx2, rfl, rfl, hK _ rfl⟩
      · have e : xs.map (fun x => T.bl (isIn x .non .non)) = (xs.map fun x => isIn x .non .non).map .bl := by rw [List.map_map]; rfl
        rw [e]
        have e2 : (xs.map fun x => isIn x .non .non).all id = isTrn (.lst false xs) := by
          simp [isTrn, h2, List.all_map]
        simp only [fAll, isBls_bls, e2]
        exact hq
    by_cases h2 : (400 : Int) < xs.length
    · have hf : isTrn (.lst false xs) = false := by
        simp [isTrn]
        omega
      rw [hf] at hq
      simp [h2]
      exact hq
    · have := fin (by omega)
      simp [h2] at this ⊢
      exact this
  | fn => simp [kdL, kd] at hv
  | ins => simp [kdL, kd] at hv
  | _ => (simp [kdL, kd] at hv <;> simp [wb_is_turns, isTrn] at hq ⊢ <;> simp_all)
/-! moved_sums 920ec6f3 -/
def g_moved_sums : G3 := fun ts Q _ => ∃ (ns ls : List Int) (t : Int), ts = [.lst false (ns.map .int), .lst false (ls.map .int), .int t] ∧ ns.length < 1000 ∧ Q (.lst true ((moved t ns ls).map .int)) .non
def wb_moved_sums : WS := (wRet (wLc [3, 4] (wiZi (wCons (wVar 0) (wCons (wVar 1) wNil))) (gT 2 (gsCons (gN 3) (gsCons (gN 4) gsNil))) wYes (wCallP 3 [0, 1, 2] 3 g_cut (fun _ _ => False) (wCons (w2 fAdd (wVar 3) (wVar 2)) (wCons (wC (.int 0)) (wCons (wVar 4) wNil))))))
theorem wp_moved_sums {ts : List T} {Q : T → T → Prop} {R : Addr → T → Prop} (hg : g_moved_sums ts Q R) : wb_moved_sums { nx := fun ρ => Q .non (ioR false ρ), rt := fun t ρ => Q t (ioR false ρ) } (start3 5 ts) := by
  obtain ⟨ns, ls, t, rfl, hl, hq⟩ := hg
  simp [wb_moved_sums]
  refine lc_on (ns.zip ls) (fun p => .tup [.int p.1, .int p.2]) (fun p => .int (max 0 (min p.2 (p.1 + t)))) [some (.lst false (ns.map .int)), some (.lst false (ls.map .int)), some (.int t), none, none] (fun K hK => ?_) (by rw [List.length_zip, sizeLine_eq]; omega) (fun x hx K hK => ?_) ?_
  · rw [← ziT_map T.int T.int] at hK
    simpa using hK
  · simp
    exact ⟨_, _, _, rfl, hK _ rfl⟩
  · have e : (ns.zip ls).map (fun p => T.int (max 0 (min p.2 (p.1 + t)))) = (moved t ns ls).map .int := by
      rw [← zip_moved, List.map_map]
      rfl
    rw [e]
    simpa using hq
/-! check_lengths a0d41a59 -/
def g_check_lengths (CA : Ca) : G3 := fun ts Q R => ∃ v, ts = [v] ∧ kdL v = true ∧ if isLen v = true then Q .non .non else R CA.InvalidLengthsError .non
def wb_check_lengths (CA : Ca) (R : Addr → Rho → Prop) : WS := (wIfS (wNot (wB (wCallP 1 [0] 1 g_is_lengths R (wCons (wVar 0) wNil)))) (wRaise R CA.InvalidLengthsError) wNext)
theorem wp_check_lengths {CA : Ca} {ts : List T} {Q : T → T → Prop} {R : Addr → T → Prop} (hg : g_check_lengths CA ts Q R) : wb_check_lengths CA (fun a ρ => R a (ioR false ρ)) { nx := fun ρ => Q .non (ioR false ρ), rt := fun t ρ => Q t (ioR false ρ) } (start3 1 ts) := by
  obtain ⟨v, rfl, hv, hq⟩ := hg
  have hs : stb v = true := (Bool.and_eq_true_iff.mp (Bool.and_eq_true_iff.mp hv).1).2
  simp [wb_check_lengths, hs, fr_stb]
  refine ⟨v, rfl, hv, ?_⟩
  cases h : isLen v with
  | true => simpa [h] using hq
  | false => simpa [h] using hq
/-! check_scrolls 44cdca99 -/
def g_check_scrolls (CA : Ca) : G3 := fun ts Q R => ∃ (ls : List Int) (v : T), ts = [.lst false (ls.map .int), v] ∧ ls.length ≤ 1000 ∧ kdL v = true ∧ if isScr ls v = true then Q .non .non else R CA.InvalidScrollsError .non
def wb_check_scrolls (CA : Ca) (R : Addr → Rho → Prop) : WS := (wIfS (wNot (wB (wCallP 2 [0, 1] 2 g_are_scrolls R (wCons (wVar 0) (wCons (wVar 1) wNil))))) (wRaise R CA.InvalidScrollsError) wNext)
theorem wp_check_scrolls {CA : Ca} {ts : List T} {Q : T → T → Prop} {R : Addr → T → Prop} (hg : g_check_scrolls CA ts Q R) : wb_check_scrolls CA (fun a ρ => R a (ioR false ρ)) { nx := fun ρ => Q .non (ioR false ρ), rt := fun t ρ => Q t (ioR false ρ) } (start3 2 ts) := by
  obtain ⟨ls, v, rfl, h1, hv, hq⟩ := hg
  have hs : stb v = true := (Bool.and_eq_true_iff.mp (Bool.and_eq_true_iff.mp hv).1).2
  simp [wb_check_scrolls, hs, fr_stb]
  refine ⟨ls, v, rfl, h1, hv, ?_⟩
  cases h : isScr ls v with
  | true => simpa [h] using hq
  | false => simpa [h] using hq
/-! check_turns c18ccf3e -/
def g_check_turns (CA : Ca) : G3 := fun ts Q R => ∃ v, ts = [v] ∧ kdL v = true ∧ if isTrn v = true then Q .non .non else R CA.InvalidTurnsError .non
def wb_check_turns (CA : Ca) (R : Addr → Rho → Prop) : WS := (wIfS (wNot (wB (wCallP 1 [0] 1 g_is_turns R (wCons (wVar 0) wNil)))) (wRaise R CA.InvalidTurnsError) wNext)
theorem wp_check_turns {CA : Ca} {ts : List T} {Q : T → T → Prop} {R : Addr → T → Prop} (hg : g_check_turns CA ts Q R) : wb_check_turns CA (fun a ρ => R a (ioR false ρ)) { nx := fun ρ => Q .non (ioR false ρ), rt := fun t ρ => Q t (ioR false ρ) } (start3 1 ts) := by
  obtain ⟨v, rfl, hv, hq⟩ := hg
  have hs : stb v = true := (Bool.and_eq_true_iff.mp (Bool.and_eq_true_iff.mp hv).1).2
  simp [wb_check_turns, hs, fr_stb]
  refine ⟨v, rfl, hv, ?_⟩
  cases h : isTrn v with
  | true => simpa [h] using hq
  | false => simpa [h] using hq
/-! scrolls_in 8fa31652 -/
def g_scrolls_in : G3 := fun ts Q _ => ∃ ls ns us : List Int, ts = [.lst false (ls.map .int), .lst false (ns.map .int), .lst false (us.map .int)] ∧ ls.length < 1000 ∧ ns.length < 1000 ∧ Q (.lst true ((after ls ns us).map .int)) .non
def wb_scrolls_in (R : Addr → Rho → Prop) : WS := (wSeq (wPar 3 4 (wCons (wCallP 1 [0] 1 g_sums_of R (wCons (wVar 1) wNil)) (wCons (wCallP 1 [0] 1 g_sums_of R (wCons (wVar 0) wNil)) wNil)))
    (wSeq (wFor (wiL (wVar 2)) (gN 5) (wSet 3 (wCallP 3 [0, 1, 2] 3 g_moved_sums R (wCons (wFrz 3) (wCons (wFrz 4) (wCons (wVar 5) wNil))))))
    (wRet (wCallP 1 [0] 1 g_scrolls_from R (wCons (wFrz 3) wNil)))))
theorem wp_scrolls_in {ts : List T} {Q : T → T → Prop} {R : Addr → T → Prop} (hg : g_scrolls_in ts Q R) : wb_scrolls_in (fun a ρ => R a (ioR false ρ)) { nx := fun ρ => Q .non (ioR false ρ), rt := fun t ρ => Q t (ioR false ρ) } (start3 6 ts) := by
  generalize (fun (a : Addr) (ρ : Rho) => R a (ioR false ρ)) = R0
  obtain ⟨ls, ns, us, rfl, h1, h2, hq⟩ := hg
  simp [wb_scrolls_in]
  refine ⟨ns, rfl, h2, ls, rfl, h1, ?_⟩
  refine for_on us .int _ (fun i ρ => ∃ y o o2, ρ = [some (.lst false (ls.map .int)), some (.lst false (ns.map .int)), some (.lst false (us.map .int)), some (.lst o ((movedAll (psum 0 ls) (psum 0 ns) (us.take i)).map .int)), some (.lst o2 ((psum 0 ls).map .int)), y]) (fun K hK => by simpa using hK) ⟨none, true, true, by simp [movedAll]⟩ ?_ ?_
  · rintro i x ex ρ ⟨y, o, o2, rfl⟩
    simp
    refine ⟨_, _, _, rfl, ?_, ?_⟩
    · have := movedAll_len (psum 0 ls) (us.take i) (psum 0 ns)
      rw [psum_len] at this
      omega
    · rw [take_snoc ex, movedAll_snoc]
      simp
  · rintro ρ ⟨y, o, o2, rfl⟩
    simp
    refine ⟨_, rfl, ?_, ?_⟩
    · have := movedAll_len (psum 0 ls) us (psum 0 ns)
      rw [psum_len] at this
      omega
    · simpa [after] using hq
/-! scrolls_after 430dea81 -/
def g_scrolls_after (CA : Ca) : G3 := fun ts Q R => (ts = [.lst false [], .non, .non] ∧ R CA.InvalidLengthsError .non) ∨ (ts = [.lst false [.int 1], .lst false [.int 2], .non] ∧ R CA.InvalidScrollsError .non) ∨ (ts = [.lst false [.int 1], .lst false [.int 1], .lst false [.bl true]] ∧ R CA.InvalidTurnsError .non)
def wb_scrolls_after (CA : Ca) (R : Addr → Rho → Prop) : WS := (wCut (wDrop (wCallP 1 [0] 1 (g_check_lengths CA) R (wCons (wVar 0) wNil)))
    (wCut (wDrop (wCallP 2 [0, 1] 2 (g_check_scrolls CA) R (wCons (wVar 0) (wCons (wVar 1) wNil))))
    (wCut (wDrop (wCallP 1 [0] 1 (g_check_turns CA) R (wCons (wVar 2) wNil)))
    (wRet (wCallP 3 [0, 1, 2] 3 g_scrolls_in R (wCons (wVar 0) (wCons (wVar 1) (wCons (wVar 2) wNil))))))))
theorem wp_scrolls_after {CA : Ca} {ts : List T} {Q : T → T → Prop} {R : Addr → T → Prop} (hg : g_scrolls_after CA ts Q R) : wb_scrolls_after CA (fun a ρ => R a (ioR false ρ)) { nx := fun ρ => Q .non (ioR false ρ), rt := fun t ρ => Q t (ioR false ρ) } (start3 3 ts) := by
  simp only [wb_scrolls_after, wSeq, wCut]
  rcases hg with ⟨rfl, hq⟩ | ⟨rfl, hq⟩ | ⟨rfl, hq⟩
  · refine ⟨fun _ => False, ?_, fun _ z => z.elim⟩
    simp
    exact ⟨_, rfl, by decide +kernel, by rw [if_neg (by decide +kernel)]; exact hq⟩
  · refine ⟨fun ρ => ρ = [some (.lst false [.int 1]), some (.lst false [.int 2]), some .non], ?_, ?_⟩
    · simp
      exact ⟨_, rfl, by decide +kernel, by rw [if_pos (by decide +kernel)]; trivial⟩
    rintro ρ rfl
    refine ⟨fun _ => False, ?_, fun _ z => z.elim⟩
    simp
    exact ⟨[1], _, rfl, by decide, by decide +kernel, by rw [if_neg (by decide +kernel)]; exact hq⟩
  · refine ⟨fun ρ => ρ = [some (.lst false [.int 1]), some (.lst false [.int 1]), some (.lst false [.bl true])], ?_, ?_⟩
    · simp
      exact ⟨_, rfl, by decide +kernel, by rw [if_pos (by decide +kernel)]; trivial⟩
    rintro ρ rfl
    refine ⟨fun ρ => ρ = [some (.lst false [.int 1]), some (.lst false [.int 1]), some (.lst false [.bl true])], ?_, ?_⟩
    · simp
      exact ⟨[1], _, rfl, by decide, by decide +kernel, by rw [if_pos (by decide +kernel)]; trivial⟩
    rintro ρ rfl
    refine ⟨fun _ => False, ?_, fun _ z => z.elim⟩
    simp
    exact ⟨_, rfl, by decide +kernel, by rw [if_neg (by decide +kernel)]; exact hq⟩
/-! _law_caught 47f7c8a7 -/
def g_l_caught : G3 := fun ts Q _ => (ts = [.lst false [], .non, .non] ∧ Q (.lst true (marksT 1)) .non) ∨ (ts = [.lst false [.int 1], .lst false [.int 2], .non] ∧ Q (.lst true (marksT 2)) .non) ∨ (ts = [.lst false [.int 1], .lst false [.int 1], .lst false [.bl true]] ∧ Q (.lst true (marksT 4)) .non)
def wb_l_caught (CA : Ca) : WS := (wSeq (wSet 3 (wLst wNil))
    (wSeq (wTryA (clE CA) 4 (fun R2 => (wDrop (wCallP 3 [0, 1, 2] 3 (g_scrolls_after CA) R2 (wCons (wVar 0) (wCons (wVar 1) (wCons (wVar 2) wNil)))))) (fun nn vv => (wSet 3 (wCallX 4 vv (g_l_marksH nn)))))
    (wRet (wMove 3))))
theorem wp_l_caught {CA : Ca} {ts : List T} {Q : T → T → Prop} {R : Addr → T → Prop} (hg : g_l_caught ts Q R) : wb_l_caught CA { nx := fun ρ => Q .non (ioR false ρ), rt := fun t ρ => Q t (ioR false ρ) } (start3 5 ts) := by
  simp only [wb_l_caught, wSeq]
  rcases hg with ⟨rfl, hq⟩ | ⟨rfl, hq⟩ | ⟨rfl, hq⟩
  · simp
    exact .inl ⟨rfl, 1, rfl, fun v => hq⟩
  · simp
    exact .inr (.inl ⟨rfl, 2, rfl, fun v => hq⟩)
  · simp
    exact .inr (.inr ⟨rfl, 4, rfl, fun v => hq⟩)
/-! _law_right dbcb0f45 -/
def g_l_right : G3 := fun ts Q _ => ∃ m : Str, ts = [.str m] ∧ Q (.bl true) .non
def wb_l_right (CA : Ca) (R : Addr → Rho → Prop) : WS := (wCut (wSet 1 (wLst wNil))
    (wCut (wSet 1 (w2 fAdd (wFrz 1) (wLst (wCons (wMkExc CA.EmptyHistoryError (wVar 0)) (wCons (wMkExc CA.InvalidAreaError (wVar 0)) (wCons (wMkExc CA.InvalidEffectError (wVar 0)) wNil))))))
    (wCut (wSet 1 (w2 fAdd (wFrz 1) (wLst (wCons (wMkExc CA.InvalidFormError (wVar 0)) (wCons (wMkExc CA.InvalidFormatError (wVar 0)) (wCons (wMkExc CA.InvalidLengthsError (wVar 0)) wNil))))))
    (wCut (wSet 1 (w2 fAdd (wFrz 1) (wLst (wCons (wMkExc CA.InvalidLocksError (wVar 0)) (wCons (wMkExc CA.InvalidNumberError (wVar 0)) (wCons (wMkExc CA.InvalidScrollsError (wVar 0)) wNil))))))
    (wCut (wSet 1 (w2 fAdd (wFrz 1) (wLst (wCons (wMkExc CA.InvalidTurnError (wVar 0)) (wCons (wMkExc CA.InvalidTurnsError (wVar 0)) (wCons (wMkExc CA.LockedError (wVar 0)) wNil))))))
    (wSeq (wFor (wiR1 (wCons (wC (.int 12)) wNil)) (gN 2) (wSeq (wIfS (wB (w2 (fEq true) (wCallP 1 [0] 1 (g_l_marks CA) R (wCons (w2 fIx (wFrz 1) (wVar 2)) wNil)) (wLc [5] (wiR1 (wCons (wC (.int 12)) wNil)) (gN 5) wYes (w2 (fEq false) (wVar 5) (wVar 2))))) (wRet (wC (.bl false))) wNext)
    (wIfS (wOr (wNot (wB (wA (fIsC (clE CA) (.fn (.ref CA.ScrollError)) (fun nn => true)) (wCons (w2 fIx (wFrz 1) (wVar 2)) (wCons (wC (.fn (.ref CA.ScrollError))) wNil))))) (wNot (wB (wA (fIsC (clE CA) (.fn (.ty "ValueError")) (fun nn => true)) (wCons (w2 fIx (wFrz 1) (wVar 2)) (wCons (wC (.fn (.ty "ValueError"))) wNil)))))) (wRet (wC (.bl false))) wNext)))
    (wCut (wIfS (wB (w2 fInB (wC (.bl true)) (wCallP 1 [0] 1 (g_l_marks CA) R (wCons (wMkExc CA.ScrollError (wVar 0)) wNil)))) (wRet (wC (.bl false))) wNext)
    (wCut (wSet 3 (wLc [4] (wiL (wLst (wCons (wC (.int 5)) (wCons (wC (.int 8)) (wCons (wC (.int 10)) wNil))))) (gN 4) wYes (wLc [5] (wiR1 (wCons (wC (.int 12)) wNil)) (gN 5) wYes (w2 (fEq false) (wVar 5) (wVar 4)))))
    (wRet (w2 (fEq false) (wLst (wCons (wCallP 3 [0, 1, 2] 3 g_l_caught R (wCons (wLst wNil) (wCons (wC .non) (wCons (wC .non) wNil)))) (wCons (wCallP 3 [0, 1, 2] 3 g_l_caught R (wCons (wLst (wCons (wC (.int 1)) wNil)) (wCons (wLst (wCons (wC (.int 2)) wNil)) (wCons (wC .non) wNil)))) (wCons (wCallP 3 [0, 1, 2] 3 g_l_caught R (wCons (wLst (wCons (wC (.int 1)) wNil)) (wCons (wLst (wCons (wC (.int 1)) wNil)) (wCons (wLst (wCons (wC (.bl true)) wNil)) wNil)))) wNil)))) (wFrz 3)))))))))))
theorem wp_l_right {CA : Ca} {ts : List T} {Q : T → T → Prop} {R : Addr → T → Prop} (hg : g_l_right ts Q R) : wb_l_right CA (fun a ρ => R a (ioR false ρ)) { nx := fun ρ => Q .non (ioR false ρ), rt := fun t ρ => Q t (ioR false ρ) } (start3 6 ts) := by
  generalize (fun (a : Addr) (ρ : Rho) => R a (ioR false ρ)) = R0
  obtain ⟨m, rfl, hq⟩ := hg
  simp only [wb_l_right, wSeq, wCut]
  refine ⟨fun ρ => ρ = [some (.str m), some (.lst true []), none, none, none, none], by simp [sizeLine_eq], ?_⟩
  rintro ρ rfl
  refine ⟨fun ρ => ρ = [some (.str m), some (.lst true ((errs CA).take 3)), none, none, none, none], by simp [sizeLine_eq, errs], ?_⟩
  rintro ρ rfl
  refine ⟨fun ρ => ρ = [some (.str m), some (.lst true ((errs CA).take 6)), none, none, none, none], by simp [sizeLine_eq, errs], ?_⟩
  rintro ρ rfl
  refine ⟨fun ρ => ρ = [some (.str m), some (.lst true ((errs CA).take 9)), none, none, none, none], by simp [sizeLine_eq, errs], ?_⟩
  rintro ρ rfl
  refine ⟨fun ρ => ρ = [some (.str m), some (.lst true (errs CA)), none, none, none, none], by simp [sizeLine_eq, errs], ?_⟩
  rintro ρ rfl
  have fe : frL (errs CA) = errs CA := rfl
  have es : ∀ o, fr (.lst o (errs CA)) = .lst false (errs CA) := fun _ => rfl
  refine for_on (List.range 12) (fun i => .int (i : Int)) [some (.str m), some (.lst true (errs CA)), none, none, none, none] (fun i ρ => ∃ o y2, ρ = [some (.str m), some (.lst o (errs CA)), y2, none, none, none]) (fun K hK => by simpa using hK) ⟨_, _, rfl⟩ ?_ ?_
  · rintro i x ex ρ ⟨o, y2, rfl⟩
    obtain ⟨hx, rfl⟩ := range_get ex
    obtain ⟨D, hD, eD⟩ := errs_at CA hx
    simp [fe, eD]
    refine ⟨ixs x, D, hD, rfl, ?_⟩
    refine lc_on (List.range 12) (fun i => .int (i : Int)) (fun i => .bl (decide ((i : Int) = x))) [some (.str m), some (.lst false (errs CA)), some (.int x), none, none, none] (fun K hK => by simpa using hK) (by rw [sizeLine_eq]; decide) (fun j hj K hK => ?_) ?_
    · simp
      exact hK _ rfl
    · obtain ⟨p1, p2, p3⟩ := mk_pln x hx
      simp [fe, eD]
      refine ⟨⟨p1, p2⟩, ?_⟩
      rw [if_pos p3]
      exact ⟨_, _, hD, rfl, _, hD⟩
  rintro ρ ⟨o, y2, rfl⟩
  simp only [wCut]
  refine ⟨fun ρ => ρ = [some (.str m), some (.lst o (errs CA)), y2, none, none, none], ?_, ?_⟩
  · simp
    refine ⟨0, _, rfl, rfl, ?_⟩
    have e : isBls (marksT 0) = some [false, false, false, false, false, false, false, false, false, false, false, false] := rfl
    simp [e]
  rintro ρ rfl
  refine ⟨fun ρ => ρ = [some (.str m), some (.lst o (errs CA)), y2, some (.lst true ([5, 8, 10].map fun (p : Int) => .lst true ((List.range 12).map fun (j : Nat) => .bl (decide ((j : Int) = p))))), none, none], ?_, ?_⟩
  · refine lc_on ([5, 8, 10] : List Int) .int (fun p => .lst true ((List.range 12).map fun (j : Nat) => .bl (decide ((j : Int) = p)))) [some (.str m), some (.lst o (errs CA)), y2, none, none, none] (fun K hK => ?_) (by rw [sizeLine_eq]; decide) (fun p hp K hK => ?_) ?_
    · simpa [sizeLine_eq] using hK
    · refine lc_on (List.range 12) (fun i => .int (i : Int)) (fun j => .bl (decide ((j : Int) = p))) [some (.str m), some (.lst o (errs CA)), y2, none, some (.int p), none] (fun K hK => by simpa using hK) (by rw [sizeLine_eq]; decide) (fun j hj K hK => ?_) ?_
      · simp
        exact hK _ rfl
      · exact hK _ rfl
    · rfl
  rintro ρ rfl
  simp [sizeLine_eq]
  refine .inl ⟨rfl, ?_⟩
  refine .inr (.inl ⟨rfl, ?_⟩)
  refine .inr (.inr ⟨rfl, ?_⟩)
  refine ⟨⟨⟨by decide +kernel, by decide +kernel, by decide +kernel⟩, by decide +kernel, by decide +kernel, by decide +kernel⟩, ?_⟩
  have e : (teq (.lst true (marksT 1)) (.lst false (frL ((List.range 12).map fun (j : Nat) => .bl (decide ((j : Int) = 5))))) && (teq (.lst true (marksT 2)) (.lst false (frL ((List.range 12).map fun (j : Nat) => .bl (decide ((j : Int) = 8))))) && teq (.lst true (marksT 4)) (.lst false (frL ((List.range 12).map fun (j : Nat) => .bl (decide ((j : Int) = 10))))))) = true := by decide +kernel
  rw [e]
  exact hq
/-! law efee8a43 -/
def g_law : G3 := fun ts Q _ => ∃ ns : List Int, ts = [.lst false (ns.map .int)] ∧ ns.length ≤ 63 ∧ Q (.bl true) .non
def wb_law (R : Addr → Rho → Prop) : WS := (wCut (wSet 1 (w2 fAdd (wSl (wVar 0) wNo (wSm (wC (.int 12)))) (w2 fMul (wLst (wCons (wC (.int 0)) wNil)) (wA fInt (wCons (w2 (fEq false) (wVar 0) (wLst wNil)) wNil)))))
    (wSeq (wFor (wiR1 (wCons (wA fLen (wCons (wFrz 1) wNil)) wNil)) (gN 2) (wSeq (wSet 3 (wCallP 2 [0, 1] 2 g_l_bag R (wCons (w2 fIx (wFrz 1) (wVar 2)) (wCons (wVar 2) wNil))))
    (wIfS (wNot (wB (wCallP 1 [0] 1 g_l_right R (wCons (w2 fMulS (w2 fIx (wC (.str "a| ~")) (wCallIo 2 3 g_l_draw R (wCons (wC (.int 4)) wNil))) (wCallIo 2 3 g_l_draw R (wCons (wC (.int 60)) wNil))) wNil)))) (wRet (wC (.bl false))) wNext)))
    (wRet (wC (.bl true)))))
theorem wp_law {ts : List T} {Q : T → T → Prop} {R : Addr → T → Prop} (hg : g_law ts Q R) : wb_law (fun a ρ => R a (ioR false ρ)) { nx := fun ρ => Q .non (ioR false ρ), rt := fun t ρ => Q t (ioR false ρ) } (start3 4 ts) := by
  generalize (fun (a : Addr) (ρ : Rho) => R a (ioR false ρ)) = R0
  obtain ⟨ns, rfl, hl, hq⟩ := hg
  simp only [wb_law, wSeq, wCut]
  refine ⟨fun ρ => ∃ cs : List Int, ρ = [some (.lst false (ns.map .int)), some (.lst true (cs.map .int)), none, none] ∧ cs.length ≤ 13, ?_, ?_⟩
  · have c0 : ∀ xs : List Int, cutT xs none (some 12) = xs.take 12 := fun xs => cutT_pre xs 12
    by_cases hn : ns = []
    · simp [hn, sizeLine_eq, c0]
      exact ⟨by decide, [0], rfl, by decide⟩
    · simp [hn, sizeLine_eq, c0, -List.map_take]
      exact ⟨by omega, ns.take 12, rfl, by rw [List.length_take]; omega⟩
  rintro ρ ⟨cs, rfl, hc⟩
  refine for_on (List.range cs.length) (fun i => .int (i : Int)) [some (.lst false (ns.map .int)), some (.lst false (cs.map .int)), none, none] (fun i ρ => ∃ o y2 y3, ρ = [some (.lst false (ns.map .int)), some (.lst o (cs.map .int)), y2, y3]) (fun K hK => ?_) ⟨_, _, _, rfl⟩ ?_ ?_
  · simp
    exact ⟨by omega, hK⟩
  · rintro i x ex ρ ⟨o, y2, y3, rfl⟩
    obtain ⟨hx, rfl⟩ := range_get ex
    have ec : atI (cs.map T.int) (x : Int) = some (.int cs[x]) := by rw [atI_at, List.getElem?_map, List.getElem?_eq_getElem hx]; rfl
    simp [ec]
    refine ⟨cs[x], x, rfl, by omega, by omega, fun t ht => ?_⟩
    have e40 : (2 : Int) ^ 40 = 1099511627776 := by decide
    have e2000 : (100 : Int) ≤ 2 ^ 2000 := by decide +kernel
    simp [ht.own]
    refine ⟨t, 4, 100000, rfl, ht, by decide, by omega, by omega, fun d s1 a1 b1 c1 => ?_⟩
    have len : (4 : Int) = ((Str.ofString "a| ~").cps.toList.length : Int) := by decide +kernel
    obtain ⟨q, hd⟩ : ∃ q, atI (Str.ofString "a| ~").cps.toList d = some q := by
      obtain ⟨j, rfl⟩ : ∃ j : Nat, d = (j : Int) := ⟨d.toNat, by omega⟩
      exact ⟨_, by rw [atI_at, List.getElem?_eq_getElem (by omega)]⟩
    simp only [hd]
    refine ⟨by rw [sizeLine_eq]; decide +kernel, c1.own, ?_⟩
    refine ⟨s1, 60, _, rfl, c1, by decide, by omega, by omega, fun d2 s2 a2 b2 c2 => ?_⟩
    refine ⟨⟨rfl, a2, by omega⟩, fun r => ?_⟩
    refine ⟨r, rfl, ?_⟩
    simp
  · rintro ρ ⟨o, y2, y3, rfl⟩
    simp
    exact hq
/-! the text -/
def topS (i : Nat) : Stmt := PySem.Challenge.pw_scrollchain_k68_errors_are_distinct.main.body.getD i (.Pass ⟨0, 0, 0, 0⟩)
abbrev s_is_integer : Stmt := topS 17
theorem sc_is_integer : FnScope ["value", "least", "most"] ["value", "least", "most"] (defScope s_is_integer) := ⟨rfl, rfl, rfl, by decide +kernel, rfl, by decide +kernel, by decide +kernel⟩
abbrev s_cut : Stmt := topS 24
theorem sc_cut : FnScope ["number", "low", "high"] ["number", "low", "high"] (defScope s_cut) := ⟨rfl, rfl, rfl, by decide +kernel, rfl, by decide +kernel, by decide +kernel⟩
abbrev s_sums_of : Stmt := topS 25
theorem sc_sums_of : FnScope ["numbers", "found", "number"] ["numbers"] (defScope s_sums_of) := ⟨rfl, rfl, rfl, by decide +kernel, rfl, by decide +kernel, by decide +kernel⟩
abbrev s_scrolls_from : Stmt := topS 26
theorem sc_scrolls_from : FnScope ["sums", "before", "number"] ["sums"] (defScope s_scrolls_from) := ⟨rfl, rfl, rfl, by decide +kernel, rfl, by decide +kernel, by decide +kernel⟩
abbrev s_l_bag : Stmt := topS 31
theorem sc_l_bag : FnScope ["_law_cell", "_law_k"] ["_law_cell", "_law_k"] (defScope s_l_bag) := ⟨rfl, rfl, rfl, by decide +kernel, rfl, by decide +kernel, by decide +kernel⟩
abbrev s_l_draw : Stmt := topS 32
theorem sc_l_draw : FnScope ["_law_bag_here", "_law_many", "_law_digit", "_law_one"] ["_law_bag_here", "_law_many"] (defScope s_l_draw) := ⟨rfl, rfl, rfl, by decide +kernel, rfl, by decide +kernel, by decide +kernel⟩
abbrev s_l_marks : Stmt := topS 33
theorem sc_l_marks : FnScope ["_law_e", "_law_marks_here"] ["_law_e"] (defScope s_l_marks) := ⟨rfl, rfl, rfl, by decide +kernel, rfl, by decide +kernel, by decide +kernel⟩
abbrev s_is_lengths : Stmt := topS 18
theorem sc_is_lengths : FnScope ["value", "number"] ["value"] (defScope s_is_lengths) := ⟨rfl, rfl, rfl, by decide +kernel, rfl, by decide +kernel, by decide +kernel⟩
abbrev s_are_scrolls : Stmt := topS 20
theorem sc_are_scrolls : FnScope ["lengths", "value", "number", "most"] ["lengths", "value"] (defScope s_are_scrolls) := ⟨rfl, rfl, rfl, by decide +kernel, rfl, by decide +kernel, by decide +kernel⟩
abbrev s_is_turns : Stmt := topS 22
theorem sc_is_turns : FnScope ["value", "turn"] ["value"] (defScope s_is_turns) := ⟨rfl, rfl, rfl, by decide +kernel, rfl, by decide +kernel, by decide +kernel⟩
abbrev s_moved_sums : Stmt := topS 27
theorem sc_moved_sums : FnScope ["sums", "limits", "turn", "number", "limit"] ["sums", "limits", "turn"] (defScope s_moved_sums) := ⟨rfl, rfl, rfl, by decide +kernel, rfl, by decide +kernel, by decide +kernel⟩
abbrev s_check_lengths : Stmt := topS 19
theorem sc_check_lengths : FnScope ["lengths"] ["lengths"] (defScope s_check_lengths) := ⟨rfl, rfl, rfl, by decide +kernel, rfl, by decide +kernel, by decide +kernel⟩
abbrev s_check_scrolls : Stmt := topS 21
theorem sc_check_scrolls : FnScope ["lengths", "scrolls"] ["lengths", "scrolls"] (defScope s_check_scrolls) := ⟨rfl, rfl, rfl, by decide +kernel, rfl, by decide +kernel, by decide +kernel⟩
abbrev s_check_turns : Stmt := topS 23
theorem sc_check_turns : FnScope ["turns"] ["turns"] (defScope s_check_turns) := ⟨rfl, rfl, rfl, by decide +kernel, rfl, by decide +kernel, by decide +kernel⟩
abbrev s_scrolls_in : Stmt := topS 28
theorem sc_scrolls_in : FnScope ["lengths", "scrolls", "turns", "sums", "limits", "turn"] ["lengths", "scrolls", "turns"] (defScope s_scrolls_in) := ⟨rfl, rfl, rfl, by decide +kernel, rfl, by decide +kernel, by decide +kernel⟩
abbrev s_scrolls_after : Stmt := topS 29
theorem sc_scrolls_after : FnScope ["lengths", "scrolls", "turns"] ["lengths", "scrolls", "turns"] (defScope s_scrolls_after) := ⟨rfl, rfl, rfl, by decide +kernel, rfl, by decide +kernel, by decide +kernel⟩
abbrev s_l_caught : Stmt := topS 34
theorem sc_l_caught : FnScope ["_law_sizes", "_law_places", "_law_spins", "_law_marks_here", "_law_e"] ["_law_sizes", "_law_places", "_law_spins"] (defScope s_l_caught) := ⟨rfl, rfl, rfl, by decide +kernel, rfl, by decide +kernel, by decide +kernel⟩
abbrev s_l_right : Stmt := topS 35
theorem sc_l_right : FnScope ["_law_message", "_law_some", "_law_k", "_law_due", "_law_place", "_law_j"] ["_law_message"] (defScope s_l_right) := ⟨rfl, rfl, rfl, by decide +kernel, rfl, by decide +kernel, by decide +kernel⟩
abbrev s_law : Stmt := topS 36
theorem sc_law : FnScope ["_law_script", "_law_cells", "_law_k", "_law_bag_here"] ["_law_script"] (defScope s_law) := ⟨rfl, rfl, rfl, by decide +kernel, rfl, by decide +kernel, by decide +kernel⟩
/-- what the top has written -/
structure Wd (K : PySem.W.Frag) (mg : Str → Option Value) where
  ca : Ca
  f_is_integer : Addr
  d_is_integer : FuncData
  F_is_integer : Fun K "is_integer" "is_integer" s_is_integer f_is_integer d_is_integer
  m_is_integer : mg "is_integer" = some (.ref f_is_integer)
  k_is_integer : PySem.W.keepIn K (.ref f_is_integer) = true
  f_cut : Addr
  d_cut : FuncData
  F_cut : Fun K "cut" "cut" s_cut f_cut d_cut
  m_cut : mg "cut" = some (.ref f_cut)
  k_cut : PySem.W.keepIn K (.ref f_cut) = true
  f_sums_of : Addr
  d_sums_of : FuncData
  F_sums_of : Fun K "sums_of" "sums_of" s_sums_of f_sums_of d_sums_of
  m_sums_of : mg "sums_of" = some (.ref f_sums_of)
  k_sums_of : PySem.W.keepIn K (.ref f_sums_of) = true
  f_scrolls_from : Addr
  d_scrolls_from : FuncData
  F_scrolls_from : Fun K "scrolls_from" "scrolls_from" s_scrolls_from f_scrolls_from d_scrolls_from
  m_scrolls_from : mg "scrolls_from" = some (.ref f_scrolls_from)
  k_scrolls_from : PySem.W.keepIn K (.ref f_scrolls_from) = true
  f_l_bag : Addr
  d_l_bag : FuncData
  F_l_bag : Fun K "_law_bag" "_law_bag" s_l_bag f_l_bag d_l_bag
  m_l_bag : mg "_law_bag" = some (.ref f_l_bag)
  k_l_bag : PySem.W.keepIn K (.ref f_l_bag) = true
  f_l_draw : Addr
  d_l_draw : FuncData
  F_l_draw : Fun K "_law_draw" "_law_draw" s_l_draw f_l_draw d_l_draw
  m_l_draw : mg "_law_draw" = some (.ref f_l_draw)
  k_l_draw : PySem.W.keepIn K (.ref f_l_draw) = true
  f_l_marks : Addr
  d_l_marks : FuncData
  F_l_marks : Fun K "_law_marks" "_law_marks" s_l_marks f_l_marks d_l_marks
  m_l_marks : mg "_law_marks" = some (.ref f_l_marks)
  k_l_marks : PySem.W.keepIn K (.ref f_l_marks) = true
  f_is_lengths : Addr
  d_is_lengths : FuncData
  F_is_lengths : Fun K "is_lengths" "is_lengths" s_is_lengths f_is_lengths d_is_lengths
  m_is_lengths : mg "is_lengths" = some (.ref f_is_lengths)
  k_is_lengths : PySem.W.keepIn K (.ref f_is_lengths) = true
  f_are_scrolls : Addr
  d_are_scrolls : FuncData
  F_are_scrolls : Fun K "are_scrolls" "are_scrolls" s_are_scrolls f_are_scrolls d_are_scrolls
  m_are_scrolls : mg "are_scrolls" = some (.ref f_are_scrolls)
  k_are_scrolls : PySem.W.keepIn K (.ref f_are_scrolls) = true
  f_is_turns : Addr
  d_is_turns : FuncData
  F_is_turns : Fun K "is_turns" "is_turns" s_is_turns f_is_turns d_is_turns
  m_is_turns : mg "is_turns" = some (.ref f_is_turns)
  k_is_turns : PySem.W.keepIn K (.ref f_is_turns) = true
  f_moved_sums : Addr
  d_moved_sums : FuncData
  F_moved_sums : Fun K "moved_sums" "moved_sums" s_moved_sums f_moved_sums d_moved_sums
  m_moved_sums : mg "moved_sums" = some (.ref f_moved_sums)
  k_moved_sums : PySem.W.keepIn K (.ref f_moved_sums) = true
  f_check_lengths : Addr
  d_check_lengths : FuncData
  F_check_lengths : Fun K "check_lengths" "check_lengths" s_check_lengths f_check_lengths d_check_lengths
  m_check_lengths : mg "check_lengths" = some (.ref f_check_lengths)
  k_check_lengths : PySem.W.keepIn K (.ref f_check_lengths) = true
  f_check_scrolls : Addr
  d_check_scrolls : FuncData
  F_check_scrolls : Fun K "check_scrolls" "check_scrolls" s_check_scrolls f_check_scrolls d_check_scrolls
  m_check_scrolls : mg "check_scrolls" = some (.ref f_check_scrolls)
  k_check_scrolls : PySem.W.keepIn K (.ref f_check_scrolls) = true
  f_check_turns : Addr
  d_check_turns : FuncData
  F_check_turns : Fun K "check_turns" "check_turns" s_check_turns f_check_turns d_check_turns
  m_check_turns : mg "check_turns" = some (.ref f_check_turns)
  k_check_turns : PySem.W.keepIn K (.ref f_check_turns) = true
  f_scrolls_in : Addr
  d_scrolls_in : FuncData
  F_scrolls_in : Fun K "scrolls_in" "scrolls_in" s_scrolls_in f_scrolls_in d_scrolls_in
  m_scrolls_in : mg "scrolls_in" = some (.ref f_scrolls_in)
  k_scrolls_in : PySem.W.keepIn K (.ref f_scrolls_in) = true
  f_scrolls_after : Addr
  d_scrolls_after : FuncData
  F_scrolls_after : Fun K "scrolls_after" "scrolls_after" s_scrolls_after f_scrolls_after d_scrolls_after
  m_scrolls_after : mg "scrolls_after" = some (.ref f_scrolls_after)
  k_scrolls_after : PySem.W.keepIn K (.ref f_scrolls_after) = true
  f_l_caught : Addr
  d_l_caught : FuncData
  F_l_caught : Fun K "_law_caught" "_law_caught" s_l_caught f_l_caught d_l_caught
  m_l_caught : mg "_law_caught" = some (.ref f_l_caught)
  k_l_caught : PySem.W.keepIn K (.ref f_l_caught) = true
  f_l_right : Addr
  d_l_right : FuncData
  F_l_right : Fun K "_law_right" "_law_right" s_l_right f_l_right d_l_right
  m_l_right : mg "_law_right" = some (.ref f_l_right)
  k_l_right : PySem.W.keepIn K (.ref f_l_right) = true
  f_law : Addr
  d_law : FuncData
  F_law : Fun K "law" "law" s_law f_law d_law
  m_law : mg "law" = some (.ref f_law)
  k_law : PySem.W.keepIn K (.ref f_law) = true
  mx_ScrollError : mg "ScrollError" = some (.ref ca.ScrollError)
  kp_ScrollError : PySem.W.keepIn K (.ref ca.ScrollError) = true
  xq_ScrollError : PySem.W.excIn K ca.ScrollError [.type "ValueError", .type "Exception", .type "BaseException", .type "object"] "ValueError.__new__" = true
  e_ScrollError_ScrollError : PySem.W.exmOne K (.ref ca.ScrollError) (.ref ca.ScrollError) = some true
  sb_ScrollError : PySem.W.subIn K (.ref ca.ScrollError) (.type "BaseException") = some true
  ty_ScrollError : PySem.W.typeIn K (.ref ca.ScrollError) = some (.type "type")
  mx_InvalidLengthsError : mg "InvalidLengthsError" = some (.ref ca.InvalidLengthsError)
  kp_InvalidLengthsError : PySem.W.keepIn K (.ref ca.InvalidLengthsError) = true
  xq_InvalidLengthsError : PySem.W.excIn K ca.InvalidLengthsError [.type "ValueError", .type "Exception", .type "BaseException", .type "object"] "ValueError.__new__" = true
  e_InvalidLengthsError_ScrollError : PySem.W.exmOne K (.ref ca.InvalidLengthsError) (.ref ca.ScrollError) = some true
  sb_InvalidLengthsError : PySem.W.subIn K (.ref ca.InvalidLengthsError) (.type "BaseException") = some true
  ty_InvalidLengthsError : PySem.W.typeIn K (.ref ca.InvalidLengthsError) = some (.type "type")
  mx_InvalidScrollsError : mg "InvalidScrollsError" = some (.ref ca.InvalidScrollsError)
  kp_InvalidScrollsError : PySem.W.keepIn K (.ref ca.InvalidScrollsError) = true
  xq_InvalidScrollsError : PySem.W.excIn K ca.InvalidScrollsError [.type "ValueError", .type "Exception", .type "BaseException", .type "object"] "ValueError.__new__" = true
  e_InvalidScrollsError_ScrollError : PySem.W.exmOne K (.ref ca.InvalidScrollsError) (.ref ca.ScrollError) = some true
  sb_InvalidScrollsError : PySem.W.subIn K (.ref ca.InvalidScrollsError) (.type "BaseException") = some true
  ty_InvalidScrollsError : PySem.W.typeIn K (.ref ca.InvalidScrollsError) = some (.type "type")
  mx_InvalidTurnError : mg "InvalidTurnError" = some (.ref ca.InvalidTurnError)
  kp_InvalidTurnError : PySem.W.keepIn K (.ref ca.InvalidTurnError) = true
  xq_InvalidTurnError : PySem.W.excIn K ca.InvalidTurnError [.type "ValueError", .type "Exception", .type "BaseException", .type "object"] "ValueError.__new__" = true
  e_InvalidTurnError_ScrollError : PySem.W.exmOne K (.ref ca.InvalidTurnError) (.ref ca.ScrollError) = some true
  sb_InvalidTurnError : PySem.W.subIn K (.ref ca.InvalidTurnError) (.type "BaseException") = some true
  ty_InvalidTurnError : PySem.W.typeIn K (.ref ca.InvalidTurnError) = some (.type "type")
  mx_InvalidTurnsError : mg "InvalidTurnsError" = some (.ref ca.InvalidTurnsError)
  kp_InvalidTurnsError : PySem.W.keepIn K (.ref ca.InvalidTurnsError) = true
  xq_InvalidTurnsError : PySem.W.excIn K ca.InvalidTurnsError [.type "ValueError", .type "Exception", .type "BaseException", .type "object"] "ValueError.__new__" = true
  e_InvalidTurnsError_ScrollError : PySem.W.exmOne K (.ref ca.InvalidTurnsError) (.ref ca.ScrollError) = some true
  sb_InvalidTurnsError : PySem.W.subIn K (.ref ca.InvalidTurnsError) (.type "BaseException") = some true
  ty_InvalidTurnsError : PySem.W.typeIn K (.ref ca.InvalidTurnsError) = some (.type "type")
  mx_InvalidNumberError : mg "InvalidNumberError" = some (.ref ca.InvalidNumberError)
  kp_InvalidNumberError : PySem.W.keepIn K (.ref ca.InvalidNumberError) = true
  xq_InvalidNumberError : PySem.W.excIn K ca.InvalidNumberError [.type "ValueError", .type "Exception", .type "BaseException", .type "object"] "ValueError.__new__" = true
  e_InvalidNumberError_ScrollError : PySem.W.exmOne K (.ref ca.InvalidNumberError) (.ref ca.ScrollError) = some true
  sb_InvalidNumberError : PySem.W.subIn K (.ref ca.InvalidNumberError) (.type "BaseException") = some true
  ty_InvalidNumberError : PySem.W.typeIn K (.ref ca.InvalidNumberError) = some (.type "type")
  mx_InvalidAreaError : mg "InvalidAreaError" = some (.ref ca.InvalidAreaError)
  kp_InvalidAreaError : PySem.W.keepIn K (.ref ca.InvalidAreaError) = true
  xq_InvalidAreaError : PySem.W.excIn K ca.InvalidAreaError [.type "ValueError", .type "Exception", .type "BaseException", .type "object"] "ValueError.__new__" = true
  e_InvalidAreaError_ScrollError : PySem.W.exmOne K (.ref ca.InvalidAreaError) (.ref ca.ScrollError) = some true
  sb_InvalidAreaError : PySem.W.subIn K (.ref ca.InvalidAreaError) (.type "BaseException") = some true
  ty_InvalidAreaError : PySem.W.typeIn K (.ref ca.InvalidAreaError) = some (.type "type")
  mx_InvalidEffectError : mg "InvalidEffectError" = some (.ref ca.InvalidEffectError)
  kp_InvalidEffectError : PySem.W.keepIn K (.ref ca.InvalidEffectError) = true
  xq_InvalidEffectError : PySem.W.excIn K ca.InvalidEffectError [.type "ValueError", .type "Exception", .type "BaseException", .type "object"] "ValueError.__new__" = true
  e_InvalidEffectError_ScrollError : PySem.W.exmOne K (.ref ca.InvalidEffectError) (.ref ca.ScrollError) = some true
  sb_InvalidEffectError : PySem.W.subIn K (.ref ca.InvalidEffectError) (.type "BaseException") = some true
  ty_InvalidEffectError : PySem.W.typeIn K (.ref ca.InvalidEffectError) = some (.type "type")
  mx_InvalidFormError : mg "InvalidFormError" = some (.ref ca.InvalidFormError)
  kp_InvalidFormError : PySem.W.keepIn K (.ref ca.InvalidFormError) = true
  xq_InvalidFormError : PySem.W.excIn K ca.InvalidFormError [.type "ValueError", .type "Exception", .type "BaseException", .type "object"] "ValueError.__new__" = true
  e_InvalidFormError_ScrollError : PySem.W.exmOne K (.ref ca.InvalidFormError) (.ref ca.ScrollError) = some true
  sb_InvalidFormError : PySem.W.subIn K (.ref ca.InvalidFormError) (.type "BaseException") = some true
  ty_InvalidFormError : PySem.W.typeIn K (.ref ca.InvalidFormError) = some (.type "type")
  mx_InvalidLocksError : mg "InvalidLocksError" = some (.ref ca.InvalidLocksError)
  kp_InvalidLocksError : PySem.W.keepIn K (.ref ca.InvalidLocksError) = true
  xq_InvalidLocksError : PySem.W.excIn K ca.InvalidLocksError [.type "ValueError", .type "Exception", .type "BaseException", .type "object"] "ValueError.__new__" = true
  e_InvalidLocksError_ScrollError : PySem.W.exmOne K (.ref ca.InvalidLocksError) (.ref ca.ScrollError) = some true
  sb_InvalidLocksError : PySem.W.subIn K (.ref ca.InvalidLocksError) (.type "BaseException") = some true
  ty_InvalidLocksError : PySem.W.typeIn K (.ref ca.InvalidLocksError) = some (.type "type")
  mx_InvalidFormatError : mg "InvalidFormatError" = some (.ref ca.InvalidFormatError)
  kp_InvalidFormatError : PySem.W.keepIn K (.ref ca.InvalidFormatError) = true
  xq_InvalidFormatError : PySem.W.excIn K ca.InvalidFormatError [.type "ValueError", .type "Exception", .type "BaseException", .type "object"] "ValueError.__new__" = true
  e_InvalidFormatError_ScrollError : PySem.W.exmOne K (.ref ca.InvalidFormatError) (.ref ca.ScrollError) = some true
  sb_InvalidFormatError : PySem.W.subIn K (.ref ca.InvalidFormatError) (.type "BaseException") = some true
  ty_InvalidFormatError : PySem.W.typeIn K (.ref ca.InvalidFormatError) = some (.type "type")
  mx_LockedError : mg "LockedError" = some (.ref ca.LockedError)
  kp_LockedError : PySem.W.keepIn K (.ref ca.LockedError) = true
  xq_LockedError : PySem.W.excIn K ca.LockedError [.type "ValueError", .type "Exception", .type "BaseException", .type "object"] "ValueError.__new__" = true
  e_LockedError_ScrollError : PySem.W.exmOne K (.ref ca.LockedError) (.ref ca.ScrollError) = some true
  sb_LockedError : PySem.W.subIn K (.ref ca.LockedError) (.type "BaseException") = some true
  ty_LockedError : PySem.W.typeIn K (.ref ca.LockedError) = some (.type "type")
  mx_EmptyHistoryError : mg "EmptyHistoryError" = some (.ref ca.EmptyHistoryError)
  kp_EmptyHistoryError : PySem.W.keepIn K (.ref ca.EmptyHistoryError) = true
  xq_EmptyHistoryError : PySem.W.excIn K ca.EmptyHistoryError [.type "ValueError", .type "Exception", .type "BaseException", .type "object"] "ValueError.__new__" = true
  e_EmptyHistoryError_ScrollError : PySem.W.exmOne K (.ref ca.EmptyHistoryError) (.ref ca.ScrollError) = some true
  sb_EmptyHistoryError : PySem.W.subIn K (.ref ca.EmptyHistoryError) (.type "BaseException") = some true
  ty_EmptyHistoryError : PySem.W.typeIn K (.ref ca.EmptyHistoryError) = some (.type "type")
  xc_ScrollError : ExcC K ca.ScrollError
  i_ScrollError_EmptyHistoryError : PySem.W.kitOne K (.ref ca.ScrollError) (.ref ca.EmptyHistoryError) = some false
  i_ScrollError_InvalidAreaError : PySem.W.kitOne K (.ref ca.ScrollError) (.ref ca.InvalidAreaError) = some false
  i_ScrollError_InvalidEffectError : PySem.W.kitOne K (.ref ca.ScrollError) (.ref ca.InvalidEffectError) = some false
  i_ScrollError_InvalidFormError : PySem.W.kitOne K (.ref ca.ScrollError) (.ref ca.InvalidFormError) = some false
  i_ScrollError_InvalidFormatError : PySem.W.kitOne K (.ref ca.ScrollError) (.ref ca.InvalidFormatError) = some false
  i_ScrollError_InvalidLengthsError : PySem.W.kitOne K (.ref ca.ScrollError) (.ref ca.InvalidLengthsError) = some false
  i_ScrollError_InvalidLocksError : PySem.W.kitOne K (.ref ca.ScrollError) (.ref ca.InvalidLocksError) = some false
  i_ScrollError_InvalidNumberError : PySem.W.kitOne K (.ref ca.ScrollError) (.ref ca.InvalidNumberError) = some false
  i_ScrollError_InvalidScrollsError : PySem.W.kitOne K (.ref ca.ScrollError) (.ref ca.InvalidScrollsError) = some false
  i_ScrollError_InvalidTurnError : PySem.W.kitOne K (.ref ca.ScrollError) (.ref ca.InvalidTurnError) = some false
  i_ScrollError_InvalidTurnsError : PySem.W.kitOne K (.ref ca.ScrollError) (.ref ca.InvalidTurnsError) = some false
  i_ScrollError_LockedError : PySem.W.kitOne K (.ref ca.ScrollError) (.ref ca.LockedError) = some false
  i_ScrollError_ScrollError : PySem.W.kitOne K (.ref ca.ScrollError) (.ref ca.ScrollError) = some true
  i_ScrollError_ValueError : PySem.W.kitOne K (.ref ca.ScrollError) (.type "ValueError") = some true
  xc_InvalidLengthsError : ExcC K ca.InvalidLengthsError
  i_InvalidLengthsError_EmptyHistoryError : PySem.W.kitOne K (.ref ca.InvalidLengthsError) (.ref ca.EmptyHistoryError) = some false
  i_InvalidLengthsError_InvalidAreaError : PySem.W.kitOne K (.ref ca.InvalidLengthsError) (.ref ca.InvalidAreaError) = some false
  i_InvalidLengthsError_InvalidEffectError : PySem.W.kitOne K (.ref ca.InvalidLengthsError) (.ref ca.InvalidEffectError) = some false
  i_InvalidLengthsError_InvalidFormError : PySem.W.kitOne K (.ref ca.InvalidLengthsError) (.ref ca.InvalidFormError) = some false
  i_InvalidLengthsError_InvalidFormatError : PySem.W.kitOne K (.ref ca.InvalidLengthsError) (.ref ca.InvalidFormatError) = some false
  i_InvalidLengthsError_InvalidLengthsError : PySem.W.kitOne K (.ref ca.InvalidLengthsError) (.ref ca.InvalidLengthsError) = some true
  i_InvalidLengthsError_InvalidLocksError : PySem.W.kitOne K (.ref ca.InvalidLengthsError) (.ref ca.InvalidLocksError) = some false
  i_InvalidLengthsError_InvalidNumberError : PySem.W.kitOne K (.ref ca.InvalidLengthsError) (.ref ca.InvalidNumberError) = some false
  i_InvalidLengthsError_InvalidScrollsError : PySem.W.kitOne K (.ref ca.InvalidLengthsError) (.ref ca.InvalidScrollsError) = some false
  i_InvalidLengthsError_InvalidTurnError : PySem.W.kitOne K (.ref ca.InvalidLengthsError) (.ref ca.InvalidTurnError) = some false
  i_InvalidLengthsError_InvalidTurnsError : PySem.W.kitOne K (.ref ca.InvalidLengthsError) (.ref ca.InvalidTurnsError) = some false
  i_InvalidLengthsError_LockedError : PySem.W.kitOne K (.ref ca.InvalidLengthsError) (.ref ca.LockedError) = some false
  i_InvalidLengthsError_ScrollError : PySem.W.kitOne K (.ref ca.InvalidLengthsError) (.ref ca.ScrollError) = some true
  i_InvalidLengthsError_ValueError : PySem.W.kitOne K (.ref ca.InvalidLengthsError) (.type "ValueError") = some true
  xc_InvalidScrollsError : ExcC K ca.InvalidScrollsError
  i_InvalidScrollsError_EmptyHistoryError : PySem.W.kitOne K (.ref ca.InvalidScrollsError) (.ref ca.EmptyHistoryError) = some false
  i_InvalidScrollsError_InvalidAreaError : PySem.W.kitOne K (.ref ca.InvalidScrollsError) (.ref ca.InvalidAreaError) = some false
  i_InvalidScrollsError_InvalidEffectError : PySem.W.kitOne K (.ref ca.InvalidScrollsError) (.ref ca.InvalidEffectError) = some false
  i_InvalidScrollsError_InvalidFormError : PySem.W.kitOne K (.ref ca.InvalidScrollsError) (.ref ca.InvalidFormError) = some false
  i_InvalidScrollsError_InvalidFormatError : PySem.W.kitOne K (.ref ca.InvalidScrollsError) (.ref ca.InvalidFormatError) = some false
  i_InvalidScrollsError_InvalidLengthsError : PySem.W.kitOne K (.ref ca.InvalidScrollsError) (.ref ca.InvalidLengthsError) = some false
  i_InvalidScrollsError_InvalidLocksError : PySem.W.kitOne K (.ref ca.InvalidScrollsError) (.ref ca.InvalidLocksError) = some false
  i_InvalidScrollsError_InvalidNumberError : PySem.W.kitOne K (.ref ca.InvalidScrollsError) (.ref ca.InvalidNumberError) = some false
  i_InvalidScrollsError_InvalidScrollsError : PySem.W.kitOne K (.ref ca.InvalidScrollsError) (.ref ca.InvalidScrollsError) = some true
  i_InvalidScrollsError_InvalidTurnError : PySem.W.kitOne K (.ref ca.InvalidScrollsError) (.ref ca.InvalidTurnError) = some false
  i_InvalidScrollsError_InvalidTurnsError : PySem.W.kitOne K (.ref ca.InvalidScrollsError) (.ref ca.InvalidTurnsError) = some false
  i_InvalidScrollsError_LockedError : PySem.W.kitOne K (.ref ca.InvalidScrollsError) (.ref ca.LockedError) = some false
  i_InvalidScrollsError_ScrollError : PySem.W.kitOne K (.ref ca.InvalidScrollsError) (.ref ca.ScrollError) = some true
  i_InvalidScrollsError_ValueError : PySem.W.kitOne K (.ref ca.InvalidScrollsError) (.type "ValueError") = some true
  xc_InvalidTurnError : ExcC K ca.InvalidTurnError
  i_InvalidTurnError_EmptyHistoryError : PySem.W.kitOne K (.ref ca.InvalidTurnError) (.ref ca.EmptyHistoryError) = some false
  i_InvalidTurnError_InvalidAreaError : PySem.W.kitOne K (.ref ca.InvalidTurnError) (.ref ca.InvalidAreaError) = some false
  i_InvalidTurnError_InvalidEffectError : PySem.W.kitOne K (.ref ca.InvalidTurnError) (.ref ca.InvalidEffectError) = some false
  i_InvalidTurnError_InvalidFormError : PySem.W.kitOne K (.ref ca.InvalidTurnError) (.ref ca.InvalidFormError) = some false
  i_InvalidTurnError_InvalidFormatError : PySem.W.kitOne K (.ref ca.InvalidTurnError) (.ref ca.InvalidFormatError) = some false
  i_InvalidTurnError_InvalidLengthsError : PySem.W.kitOne K (.ref ca.InvalidTurnError) (.ref ca.InvalidLengthsError) = some false
  i_InvalidTurnError_InvalidLocksError : PySem.W.kitOne K (.ref ca.InvalidTurnError) (.ref ca.InvalidLocksError) = some false
  i_InvalidTurnError_InvalidNumberError : PySem.W.kitOne K (.ref ca.InvalidTurnError) (.ref ca.InvalidNumberError) = some false
  i_InvalidTurnError_InvalidScrollsError : PySem.W.kitOne K (.ref ca.InvalidTurnError) (.ref ca.InvalidScrollsError) = some false
  i_InvalidTurnError_InvalidTurnError : PySem.W.kitOne K (.ref ca.InvalidTurnError) (.ref ca.InvalidTurnError) = some true
  i_InvalidTurnError_InvalidTurnsError : PySem.W.kitOne K (.ref ca.InvalidTurnError) (.ref ca.InvalidTurnsError) = some false
  i_InvalidTurnError_LockedError : PySem.W.kitOne K (.ref ca.InvalidTurnError) (.ref ca.LockedError) = some false
  i_InvalidTurnError_ScrollError : PySem.W.kitOne K (.ref ca.InvalidTurnError) (.ref ca.ScrollError) = some true
  i_InvalidTurnError_ValueError : PySem.W.kitOne K (.ref ca.InvalidTurnError) (.type "ValueError") = some true
  xc_InvalidTurnsError : ExcC K ca.InvalidTurnsError
  i_InvalidTurnsError_EmptyHistoryError : PySem.W.kitOne K (.ref ca.InvalidTurnsError) (.ref ca.EmptyHistoryError) = some false
  i_InvalidTurnsError_InvalidAreaError : PySem.W.kitOne K (.ref ca.InvalidTurnsError) (.ref ca.InvalidAreaError) = some false
  i_InvalidTurnsError_InvalidEffectError : PySem.W.kitOne K (.ref ca.InvalidTurnsError) (.ref ca.InvalidEffectError) = some false
  i_InvalidTurnsError_InvalidFormError : PySem.W.kitOne K (.ref ca.InvalidTurnsError) (.ref ca.InvalidFormError) = some false
  i_InvalidTurnsError_InvalidFormatError : PySem.W.kitOne K (.ref ca.InvalidTurnsError) (.ref ca.InvalidFormatError) = some false
  i_InvalidTurnsError_InvalidLengthsError : PySem.W.kitOne K (.ref ca.InvalidTurnsError) (.ref ca.InvalidLengthsError) = some false
  i_InvalidTurnsError_InvalidLocksError : PySem.W.kitOne K (.ref ca.InvalidTurnsError) (.ref ca.InvalidLocksError) = some false
  i_InvalidTurnsError_InvalidNumberError : PySem.W.kitOne K (.ref ca.InvalidTurnsError) (.ref ca.InvalidNumberError) = some false
  i_InvalidTurnsError_InvalidScrollsError : PySem.W.kitOne K (.ref ca.InvalidTurnsError) (.ref ca.InvalidScrollsError) = some false
  i_InvalidTurnsError_InvalidTurnError : PySem.W.kitOne K (.ref ca.InvalidTurnsError) (.ref ca.InvalidTurnError) = some false
  i_InvalidTurnsError_InvalidTurnsError : PySem.W.kitOne K (.ref ca.InvalidTurnsError) (.ref ca.InvalidTurnsError) = some true
  i_InvalidTurnsError_LockedError : PySem.W.kitOne K (.ref ca.InvalidTurnsError) (.ref ca.LockedError) = some false
  i_InvalidTurnsError_ScrollError : PySem.W.kitOne K (.ref ca.InvalidTurnsError) (.ref ca.ScrollError) = some true
  i_InvalidTurnsError_ValueError : PySem.W.kitOne K (.ref ca.InvalidTurnsError) (.type "ValueError") = some true
  xc_InvalidNumberError : ExcC K ca.InvalidNumberError
  i_InvalidNumberError_EmptyHistoryError : PySem.W.kitOne K (.ref ca.InvalidNumberError) (.ref ca.EmptyHistoryError) = some false
  i_InvalidNumberError_InvalidAreaError : PySem.W.kitOne K (.ref ca.InvalidNumberError) (.ref ca.InvalidAreaError) = some false
  i_InvalidNumberError_InvalidEffectError : PySem.W.kitOne K (.ref ca.InvalidNumberError) (.ref ca.InvalidEffectError) = some false
  i_InvalidNumberError_InvalidFormError : PySem.W.kitOne K (.ref ca.InvalidNumberError) (.ref ca.InvalidFormError) = some false
  i_InvalidNumberError_InvalidFormatError : PySem.W.kitOne K (.ref ca.InvalidNumberError) (.ref ca.InvalidFormatError) = some false
  i_InvalidNumberError_InvalidLengthsError : PySem.W.kitOne K (.ref ca.InvalidNumberError) (.ref ca.InvalidLengthsError) = some false
  i_InvalidNumberError_InvalidLocksError : PySem.W.kitOne K (.ref ca.InvalidNumberError) (.ref ca.InvalidLocksError) = some false
  i_InvalidNumberError_InvalidNumberError : PySem.W.kitOne K (.ref ca.InvalidNumberError) (.ref ca.InvalidNumberError) = some true
  i_InvalidNumberError_InvalidScrollsError : PySem.W.kitOne K (.ref ca.InvalidNumberError) (.ref ca.InvalidScrollsError) = some false
  i_InvalidNumberError_InvalidTurnError : PySem.W.kitOne K (.ref ca.InvalidNumberError) (.ref ca.InvalidTurnError) = some false
  i_InvalidNumberError_InvalidTurnsError : PySem.W.kitOne K (.ref ca.InvalidNumberError) (.ref ca.InvalidTurnsError) = some false
  i_InvalidNumberError_LockedError : PySem.W.kitOne K (.ref ca.InvalidNumberError) (.ref ca.LockedError) = some false
  i_InvalidNumberError_ScrollError : PySem.W.kitOne K (.ref ca.InvalidNumberError) (.ref ca.ScrollError) = some true
  i_InvalidNumberError_ValueError : PySem.W.kitOne K (.ref ca.InvalidNumberError) (.type "ValueError") = some true
  xc_InvalidAreaError : ExcC K ca.InvalidAreaError
  i_InvalidAreaError_EmptyHistoryError : PySem.W.kitOne K (.ref ca.InvalidAreaError) (.ref ca.EmptyHistoryError) = some false
  i_InvalidAreaError_InvalidAreaError : PySem.W.kitOne K (.ref ca.InvalidAreaError) (.ref ca.InvalidAreaError) = some true
  i_InvalidAreaError_InvalidEffectError : PySem.W.kitOne K (.ref ca.InvalidAreaError) (.ref ca.InvalidEffectError) = some false
  i_InvalidAreaError_InvalidFormError : PySem.W.kitOne K (.ref ca.InvalidAreaError) (.ref ca.InvalidFormError) = some false
  i_InvalidAreaError_InvalidFormatError : PySem.W.kitOne K (.ref ca.InvalidAreaError) (.ref ca.InvalidFormatError) = some false
  i_InvalidAreaError_InvalidLengthsError : PySem.W.kitOne K (.ref ca.InvalidAreaError) (.ref ca.InvalidLengthsError) = some false
  i_InvalidAreaError_InvalidLocksError : PySem.W.kitOne K (.ref ca.InvalidAreaError) (.ref ca.InvalidLocksError) = some false
  i_InvalidAreaError_InvalidNumberError : PySem.W.kitOne K (.ref ca.InvalidAreaError) (.ref ca.InvalidNumberError) = some false
  i_InvalidAreaError_InvalidScrollsError : PySem.W.kitOne K (.ref ca.InvalidAreaError) (.ref ca.InvalidScrollsError) = some false
  i_InvalidAreaError_InvalidTurnError : PySem.W.kitOne K (.ref ca.InvalidAreaError) (.ref ca.InvalidTurnError) = some false
  i_InvalidAreaError_InvalidTurnsError : PySem.W.kitOne K (.ref ca.InvalidAreaError) (.ref ca.InvalidTurnsError) = some false
  i_InvalidAreaError_LockedError : PySem.W.kitOne K (.ref ca.InvalidAreaError) (.ref ca.LockedError) = some false
  i_InvalidAreaError_ScrollError : PySem.W.kitOne K (.ref ca.InvalidAreaError) (.ref ca.ScrollError) = some true
  i_InvalidAreaError_ValueError : PySem.W.kitOne K (.ref ca.InvalidAreaError) (.type "ValueError") = some true
  xc_InvalidEffectError : ExcC K ca.InvalidEffectError
  i_InvalidEffectError_EmptyHistoryError : PySem.W.kitOne K (.ref ca.InvalidEffectError) (.ref ca.EmptyHistoryError) = some false
  i_InvalidEffectError_InvalidAreaError : PySem.W.kitOne K (.ref ca.InvalidEffectError) (.ref ca.InvalidAreaError) = some false
  i_InvalidEffectError_InvalidEffectError : PySem.W.kitOne K (.ref ca.InvalidEffectError) (.ref ca.InvalidEffectError) = some true
  i_InvalidEffectError_InvalidFormError : PySem.W.kitOne K (.ref ca.InvalidEffectError) (.ref ca.InvalidFormError) = some false
  i_InvalidEffectError_InvalidFormatError : PySem.W.kitOne K (.ref ca.InvalidEffectError) (.ref ca.InvalidFormatError) = some false
  i_InvalidEffectError_InvalidLengthsError : PySem.W.kitOne K (.ref ca.InvalidEffectError) (.ref ca.InvalidLengthsError) = some false
  i_InvalidEffectError_InvalidLocksError : PySem.W.kitOne K (.ref ca.InvalidEffectError) (.ref ca.InvalidLocksError) = some false
  i_InvalidEffectError_InvalidNumberError : PySem.W.kitOne K (.ref ca.InvalidEffectError) (.ref ca.InvalidNumberError) = some false
  i_InvalidEffectError_InvalidScrollsError : PySem.W.kitOne K (.ref ca.InvalidEffectError) (.ref ca.InvalidScrollsError) = some false
  i_InvalidEffectError_InvalidTurnError : PySem.W.kitOne K (.ref ca.InvalidEffectError) (.ref ca.InvalidTurnError) = some false
  i_InvalidEffectError_InvalidTurnsError : PySem.W.kitOne K (.ref ca.InvalidEffectError) (.ref ca.InvalidTurnsError) = some false
  i_InvalidEffectError_LockedError : PySem.W.kitOne K (.ref ca.InvalidEffectError) (.ref ca.LockedError) = some false
  i_InvalidEffectError_ScrollError : PySem.W.kitOne K (.ref ca.InvalidEffectError) (.ref ca.ScrollError) = some true
  i_InvalidEffectError_ValueError : PySem.W.kitOne K (.ref ca.InvalidEffectError) (.type "ValueError") = some true
  xc_InvalidFormError : ExcC K ca.InvalidFormError
  i_InvalidFormError_EmptyHistoryError : PySem.W.kitOne K (.ref ca.InvalidFormError) (.ref ca.EmptyHistoryError) = some false
  i_InvalidFormError_InvalidAreaError : PySem.W.kitOne K (.ref ca.InvalidFormError) (.ref ca.InvalidAreaError) = some false
  i_InvalidFormError_InvalidEffectError : PySem.W.kitOne K (.ref ca.InvalidFormError) (.ref ca.InvalidEffectError) = some false
  i_InvalidFormError_InvalidFormError : PySem.W.kitOne K (.ref ca.InvalidFormError) (.ref ca.InvalidFormError) = some true
  i_InvalidFormError_InvalidFormatError : PySem.W.kitOne K (.ref ca.InvalidFormError) (.ref ca.InvalidFormatError) = some false
  i_InvalidFormError_InvalidLengthsError : PySem.W.kitOne K (.ref ca.InvalidFormError) (.ref ca.InvalidLengthsError) = some false
  i_InvalidFormError_InvalidLocksError : PySem.W.kitOne K (.ref ca.InvalidFormError) (.ref ca.InvalidLocksError) = some false
  i_InvalidFormError_InvalidNumberError : PySem.W.kitOne K (.ref ca.InvalidFormError) (.ref ca.InvalidNumberError) = some false
  i_InvalidFormError_InvalidScrollsError : PySem.W.kitOne K (.ref ca.InvalidFormError) (.ref ca.InvalidScrollsError) = some false
  i_InvalidFormError_InvalidTurnError : PySem.W.kitOne K (.ref ca.InvalidFormError) (.ref ca.InvalidTurnError) = some false
  i_InvalidFormError_InvalidTurnsError : PySem.W.kitOne K (.ref ca.InvalidFormError) (.ref ca.InvalidTurnsError) = some false
  i_InvalidFormError_LockedError : PySem.W.kitOne K (.ref ca.InvalidFormError) (.ref ca.LockedError) = some false
  i_InvalidFormError_ScrollError : PySem.W.kitOne K (.ref ca.InvalidFormError) (.ref ca.ScrollError) = some true
  i_InvalidFormError_ValueError : PySem.W.kitOne K (.ref ca.InvalidFormError) (.type "ValueError") = some true
  xc_InvalidLocksError : ExcC K ca.InvalidLocksError
  i_InvalidLocksError_EmptyHistoryError : PySem.W.kitOne K (.ref ca.InvalidLocksError) (.ref ca.EmptyHistoryError) = some false
  i_InvalidLocksError_InvalidAreaError : PySem.W.kitOne K (.ref ca.InvalidLocksError) (.ref ca.InvalidAreaError) = some false
  i_InvalidLocksError_InvalidEffectError : PySem.W.kitOne K (.ref ca.InvalidLocksError) (.ref ca.InvalidEffectError) = some false
  i_InvalidLocksError_InvalidFormError : PySem.W.kitOne K (.ref ca.InvalidLocksError) (.ref ca.InvalidFormError) = some false
  i_InvalidLocksError_InvalidFormatError : PySem.W.kitOne K (.ref ca.InvalidLocksError) (.ref ca.InvalidFormatError) = some false
  i_InvalidLocksError_InvalidLengthsError : PySem.W.kitOne K (.ref ca.InvalidLocksError) (.ref ca.InvalidLengthsError) = some false
  i_InvalidLocksError_InvalidLocksError : PySem.W.kitOne K (.ref ca.InvalidLocksError) (.ref ca.InvalidLocksError) = some true
  i_InvalidLocksError_InvalidNumberError : PySem.W.kitOne K (.ref ca.InvalidLocksError) (.ref ca.InvalidNumberError) = some false
  i_InvalidLocksError_InvalidScrollsError : PySem.W.kitOne K (.ref ca.InvalidLocksError) (.ref ca.InvalidScrollsError) = some false
  i_InvalidLocksError_InvalidTurnError : PySem.W.kitOne K (.ref ca.InvalidLocksError) (.ref ca.InvalidTurnError) = some false
  i_InvalidLocksError_InvalidTurnsError : PySem.W.kitOne K (.ref ca.InvalidLocksError) (.ref ca.InvalidTurnsError) = some false
  i_InvalidLocksError_LockedError : PySem.W.kitOne K (.ref ca.InvalidLocksError) (.ref ca.LockedError) = some false
  i_InvalidLocksError_ScrollError : PySem.W.kitOne K (.ref ca.InvalidLocksError) (.ref ca.ScrollError) = some true
  i_InvalidLocksError_ValueError : PySem.W.kitOne K (.ref ca.InvalidLocksError) (.type "ValueError") = some true
  xc_InvalidFormatError : ExcC K ca.InvalidFormatError
  i_InvalidFormatError_EmptyHistoryError : PySem.W.kitOne K (.ref ca.InvalidFormatError) (.ref ca.EmptyHistoryError) = some false
  i_InvalidFormatError_InvalidAreaError : PySem.W.kitOne K (.ref ca.InvalidFormatError) (.ref ca.InvalidAreaError) = some false
  i_InvalidFormatError_InvalidEffectError : PySem.W.kitOne K (.ref ca.InvalidFormatError) (.ref ca.InvalidEffectError) = some false
  i_InvalidFormatError_InvalidFormError : PySem.W.kitOne K (.ref ca.InvalidFormatError) (.ref ca.InvalidFormError) = some false
  i_InvalidFormatError_InvalidFormatError : PySem.W.kitOne K (.ref ca.InvalidFormatError) (.ref ca.InvalidFormatError) = some true
  i_InvalidFormatError_InvalidLengthsError : PySem.W.kitOne K (.ref ca.InvalidFormatError) (.ref ca.InvalidLengthsError) = some false
  i_InvalidFormatError_InvalidLocksError : PySem.W.kitOne K (.ref ca.InvalidFormatError) (.ref ca.InvalidLocksError) = some false
  i_InvalidFormatError_InvalidNumberError : PySem.W.kitOne K (.ref ca.InvalidFormatError) (.ref ca.InvalidNumberError) = some false
  i_InvalidFormatError_InvalidScrollsError : PySem.W.kitOne K (.ref ca.InvalidFormatError) (.ref ca.InvalidScrollsError) = some false
  i_InvalidFormatError_InvalidTurnError : PySem.W.kitOne K (.ref ca.InvalidFormatError) (.ref ca.InvalidTurnError) = some false
  i_InvalidFormatError_InvalidTurnsError : PySem.W.kitOne K (.ref ca.InvalidFormatError) (.ref ca.InvalidTurnsError) = some false
  i_InvalidFormatError_LockedError : PySem.W.kitOne K (.ref ca.InvalidFormatError) (.ref ca.LockedError) = some false
  i_InvalidFormatError_ScrollError : PySem.W.kitOne K (.ref ca.InvalidFormatError) (.ref ca.ScrollError) = some true
  i_InvalidFormatError_ValueError : PySem.W.kitOne K (.ref ca.InvalidFormatError) (.type "ValueError") = some true
  xc_LockedError : ExcC K ca.LockedError
  i_LockedError_EmptyHistoryError : PySem.W.kitOne K (.ref ca.LockedError) (.ref ca.EmptyHistoryError) = some false
  i_LockedError_InvalidAreaError : PySem.W.kitOne K (.ref ca.LockedError) (.ref ca.InvalidAreaError) = some false
  i_LockedError_InvalidEffectError : PySem.W.kitOne K (.ref ca.LockedError) (.ref ca.InvalidEffectError) = some false
  i_LockedError_InvalidFormError : PySem.W.kitOne K (.ref ca.LockedError) (.ref ca.InvalidFormError) = some false
  i_LockedError_InvalidFormatError : PySem.W.kitOne K (.ref ca.LockedError) (.ref ca.InvalidFormatError) = some false
  i_LockedError_InvalidLengthsError : PySem.W.kitOne K (.ref ca.LockedError) (.ref ca.InvalidLengthsError) = some false
  i_LockedError_InvalidLocksError : PySem.W.kitOne K (.ref ca.LockedError) (.ref ca.InvalidLocksError) = some false
  i_LockedError_InvalidNumberError : PySem.W.kitOne K (.ref ca.LockedError) (.ref ca.InvalidNumberError) = some false
  i_LockedError_InvalidScrollsError : PySem.W.kitOne K (.ref ca.LockedError) (.ref ca.InvalidScrollsError) = some false
  i_LockedError_InvalidTurnError : PySem.W.kitOne K (.ref ca.LockedError) (.ref ca.InvalidTurnError) = some false
  i_LockedError_InvalidTurnsError : PySem.W.kitOne K (.ref ca.LockedError) (.ref ca.InvalidTurnsError) = some false
  i_LockedError_LockedError : PySem.W.kitOne K (.ref ca.LockedError) (.ref ca.LockedError) = some true
  i_LockedError_ScrollError : PySem.W.kitOne K (.ref ca.LockedError) (.ref ca.ScrollError) = some true
  i_LockedError_ValueError : PySem.W.kitOne K (.ref ca.LockedError) (.type "ValueError") = some true
  xc_EmptyHistoryError : ExcC K ca.EmptyHistoryError
  i_EmptyHistoryError_EmptyHistoryError : PySem.W.kitOne K (.ref ca.EmptyHistoryError) (.ref ca.EmptyHistoryError) = some true
  i_EmptyHistoryError_InvalidAreaError : PySem.W.kitOne K (.ref ca.EmptyHistoryError) (.ref ca.InvalidAreaError) = some false
  i_EmptyHistoryError_InvalidEffectError : PySem.W.kitOne K (.ref ca.EmptyHistoryError) (.ref ca.InvalidEffectError) = some false
  i_EmptyHistoryError_InvalidFormError : PySem.W.kitOne K (.ref ca.EmptyHistoryError) (.ref ca.InvalidFormError) = some false
  i_EmptyHistoryError_InvalidFormatError : PySem.W.kitOne K (.ref ca.EmptyHistoryError) (.ref ca.InvalidFormatError) = some false
  i_EmptyHistoryError_InvalidLengthsError : PySem.W.kitOne K (.ref ca.EmptyHistoryError) (.ref ca.InvalidLengthsError) = some false
  i_EmptyHistoryError_InvalidLocksError : PySem.W.kitOne K (.ref ca.EmptyHistoryError) (.ref ca.InvalidLocksError) = some false
  i_EmptyHistoryError_InvalidNumberError : PySem.W.kitOne K (.ref ca.EmptyHistoryError) (.ref ca.InvalidNumberError) = some false
  i_EmptyHistoryError_InvalidScrollsError : PySem.W.kitOne K (.ref ca.EmptyHistoryError) (.ref ca.InvalidScrollsError) = some false
  i_EmptyHistoryError_InvalidTurnError : PySem.W.kitOne K (.ref ca.EmptyHistoryError) (.ref ca.InvalidTurnError) = some false
  i_EmptyHistoryError_InvalidTurnsError : PySem.W.kitOne K (.ref ca.EmptyHistoryError) (.ref ca.InvalidTurnsError) = some false
  i_EmptyHistoryError_LockedError : PySem.W.kitOne K (.ref ca.EmptyHistoryError) (.ref ca.LockedError) = some false
  i_EmptyHistoryError_ScrollError : PySem.W.kitOne K (.ref ca.EmptyHistoryError) (.ref ca.ScrollError) = some true
  i_EmptyHistoryError_ValueError : PySem.W.kitOne K (.ref ca.EmptyHistoryError) (.type "ValueError") = some true
  u_MOST_AREAS : Tok
  m_MOST_AREAS : mg "MOST_AREAS" = some (.int 12 u_MOST_AREAS)
  u_MOST_TURNS : Tok
  m_MOST_TURNS : mg "MOST_TURNS" = some (.int 400 u_MOST_TURNS)
  z_ValueError : mg "ValueError" = none
  z_all : mg "all" = none
  z_bool : mg "bool" = none
  z_int : mg "int" = none
  z_isinstance : mg "isinstance" = none
  z_len : mg "len" = none
  z_list : mg "list" = none
  z_max : mg "max" = none
  z_min : mg "min" = none
  z_range : mg "range" = none
  z_zip : mg "zip" = none
theorem Wd.ex_ScrollError {K : PySem.W.Frag} {mg : Str → Option Value} (W : Wd K mg) : ∀ a, okX_ScrollError W.ca a → PySem.W.exmOne K (.ref a) (.ref W.ca.ScrollError) = some true := by
  rintro a (rfl | rfl | rfl | rfl | rfl | rfl | rfl | rfl | rfl | rfl | rfl | rfl | rfl)
  · exact W.e_ScrollError_ScrollError
  · exact W.e_InvalidLengthsError_ScrollError
  · exact W.e_InvalidScrollsError_ScrollError
  · exact W.e_InvalidTurnError_ScrollError
  · exact W.e_InvalidTurnsError_ScrollError
  · exact W.e_InvalidNumberError_ScrollError
  · exact W.e_InvalidAreaError_ScrollError
  · exact W.e_InvalidEffectError_ScrollError
  · exact W.e_InvalidFormError_ScrollError
  · exact W.e_InvalidLocksError_ScrollError
  · exact W.e_InvalidFormatError_ScrollError
  · exact W.e_LockedError_ScrollError
  · exact W.e_EmptyHistoryError_ScrollError
theorem Wd.exE_ScrollError {K : PySem.W.Frag} {mg : Str → Option Value} (W : Wd K mg) : ∀ nn D, clE W.ca nn = some D → PySem.W.exmOne K (.ref D) (.ref W.ca.ScrollError) = some true
  | 0, _, rfl => W.e_ScrollError_ScrollError
  | 1, _, rfl => W.e_InvalidLengthsError_ScrollError
  | 2, _, rfl => W.e_InvalidScrollsError_ScrollError
  | 3, _, rfl => W.e_InvalidTurnError_ScrollError
  | 4, _, rfl => W.e_InvalidTurnsError_ScrollError
  | 5, _, rfl => W.e_InvalidNumberError_ScrollError
  | 6, _, rfl => W.e_InvalidAreaError_ScrollError
  | 7, _, rfl => W.e_InvalidEffectError_ScrollError
  | 8, _, rfl => W.e_InvalidFormError_ScrollError
  | 9, _, rfl => W.e_InvalidLocksError_ScrollError
  | 10, _, rfl => W.e_InvalidFormatError_ScrollError
  | 11, _, rfl => W.e_LockedError_ScrollError
  | 12, _, rfl => W.e_EmptyHistoryError_ScrollError
  | _ + 13, _, h => by cases h
theorem Wd.xcE {K : PySem.W.Frag} {mg : Str → Option Value} (W : Wd K mg) : ∀ nn D, clE W.ca nn = some D → ExcC K D
  | 0, _, rfl => W.xc_ScrollError
  | 1, _, rfl => W.xc_InvalidLengthsError
  | 2, _, rfl => W.xc_InvalidScrollsError
  | 3, _, rfl => W.xc_InvalidTurnError
  | 4, _, rfl => W.xc_InvalidTurnsError
  | 5, _, rfl => W.xc_InvalidNumberError
  | 6, _, rfl => W.xc_InvalidAreaError
  | 7, _, rfl => W.xc_InvalidEffectError
  | 8, _, rfl => W.xc_InvalidFormError
  | 9, _, rfl => W.xc_InvalidLocksError
  | 10, _, rfl => W.xc_InvalidFormatError
  | 11, _, rfl => W.xc_LockedError
  | 12, _, rfl => W.xc_EmptyHistoryError
  | _ + 13, _, h => by cases h
theorem Wd.kx_EmptyHistoryError {K : PySem.W.Frag} {mg : Str → Option Value} (W : Wd K mg) : ∀ nn D, clE W.ca nn = some D → PySem.W.kitOne K (.ref D) (.ref W.ca.EmptyHistoryError) = some (nn == 12)
  | 0, _, rfl => W.i_ScrollError_EmptyHistoryError
  | 1, _, rfl => W.i_InvalidLengthsError_EmptyHistoryError
  | 2, _, rfl => W.i_InvalidScrollsError_EmptyHistoryError
  | 3, _, rfl => W.i_InvalidTurnError_EmptyHistoryError
  | 4, _, rfl => W.i_InvalidTurnsError_EmptyHistoryError
  | 5, _, rfl => W.i_InvalidNumberError_EmptyHistoryError
  | 6, _, rfl => W.i_InvalidAreaError_EmptyHistoryError
  | 7, _, rfl => W.i_InvalidEffectError_EmptyHistoryError
  | 8, _, rfl => W.i_InvalidFormError_EmptyHistoryError
  | 9, _, rfl => W.i_InvalidLocksError_EmptyHistoryError
  | 10, _, rfl => W.i_InvalidFormatError_EmptyHistoryError
  | 11, _, rfl => W.i_LockedError_EmptyHistoryError
  | 12, _, rfl => W.i_EmptyHistoryError_EmptyHistoryError
  | _ + 13, _, h => by cases h
theorem Wd.kx_InvalidAreaError {K : PySem.W.Frag} {mg : Str → Option Value} (W : Wd K mg) : ∀ nn D, clE W.ca nn = some D → PySem.W.kitOne K (.ref D) (.ref W.ca.InvalidAreaError) = some (nn == 6)
  | 0, _, rfl => W.i_ScrollError_InvalidAreaError
  | 1, _, rfl => W.i_InvalidLengthsError_InvalidAreaError
  | 2, _, rfl => W.i_InvalidScrollsError_InvalidAreaError
  | 3, _, rfl => W.i_InvalidTurnError_InvalidAreaError
  | 4, _, rfl => W.i_InvalidTurnsError_InvalidAreaError
  | 5, _, rfl => W.i_InvalidNumberError_InvalidAreaError
  | 6, _, rfl => W.i_InvalidAreaError_InvalidAreaError
  | 7, _, rfl => W.i_InvalidEffectError_InvalidAreaError
  | 8, _, rfl => W.i_InvalidFormError_InvalidAreaError
  | 9, _, rfl => W.i_InvalidLocksError_InvalidAreaError
  | 10, _, rfl => W.i_InvalidFormatError_InvalidAreaError
  | 11, _, rfl => W.i_LockedError_InvalidAreaError
  | 12, _, rfl => W.i_EmptyHistoryError_InvalidAreaError
  | _ + 13, _, h => by cases h
theorem Wd.kx_InvalidEffectError {K : PySem.W.Frag} {mg : Str → Option Value} (W : Wd K mg) : ∀ nn D, clE W.ca nn = some D → PySem.W.kitOne K (.ref D) (.ref W.ca.InvalidEffectError) = some (nn == 7)
  | 0, _, rfl => W.i_ScrollError_InvalidEffectError
  | 1, _, rfl => W.i_InvalidLengthsError_InvalidEffectError
  | 2, _, rfl => W.i_InvalidScrollsError_InvalidEffectError
  | 3, _, rfl => W.i_InvalidTurnError_InvalidEffectError
  | 4, _, rfl => W.i_InvalidTurnsError_InvalidEffectError
  | 5, _, rfl => W.i_InvalidNumberError_InvalidEffectError
  | 6, _, rfl => W.i_InvalidAreaError_InvalidEffectError
  | 7, _, rfl => W.i_InvalidEffectError_InvalidEffectError
  | 8, _, rfl => W.i_InvalidFormError_InvalidEffectError
  | 9, _, rfl => W.i_InvalidLocksError_InvalidEffectError
  | 10, _, rfl => W.i_InvalidFormatError_InvalidEffectError
  | 11, _, rfl => W.i_LockedError_InvalidEffectError
  | 12, _, rfl => W.i_EmptyHistoryError_InvalidEffectError
  | _ + 13, _, h => by cases h
theorem Wd.kx_InvalidFormError {K : PySem.W.Frag} {mg : Str → Option Value} (W : Wd K mg) : ∀ nn D, clE W.ca nn = some D → PySem.W.kitOne K (.ref D) (.ref W.ca.InvalidFormError) = some (nn == 8)
  | 0, _, rfl => W.i_ScrollError_InvalidFormError
  | 1, _, rfl => W.i_InvalidLengthsError_InvalidFormError
  | 2, _, rfl => W.i_InvalidScrollsError_InvalidFormError
  | 3, _, rfl => W.i_InvalidTurnError_InvalidFormError
  | 4, _, rfl => W.i_InvalidTurnsError_InvalidFormError
  | 5, _, rfl => W.i_InvalidNumberError_InvalidFormError
  | 6, _, rfl => W.i_InvalidAreaError_InvalidFormError
  | 7, _, rfl => W.i_InvalidEffectError_InvalidFormError
  | 8, _, rfl => W.i_InvalidFormError_InvalidFormError
  | 9, _, rfl => W.i_InvalidLocksError_InvalidFormError
  | 10, _, rfl => W.i_InvalidFormatError_InvalidFormError
  | 11, _, rfl => W.i_LockedError_InvalidFormError
  | 12, _, rfl => W.i_EmptyHistoryError_InvalidFormError
  | _ + 13, _, h => by cases h
theorem Wd.kx_InvalidFormatError {K : PySem.W.Frag} {mg : Str → Option Value} (W : Wd K mg) : ∀ nn D, clE W.ca nn = some D → PySem.W.kitOne K (.ref D) (.ref W.ca.InvalidFormatError) = some (nn == 10)
  | 0, _, rfl => W.i_ScrollError_InvalidFormatError
  | 1, _, rfl => W.i_InvalidLengthsError_InvalidFormatError
  | 2, _, rfl => W.i_InvalidScrollsError_InvalidFormatError
  | 3, _, rfl => W.i_InvalidTurnError_InvalidFormatError
  | 4, _, rfl => W.i_InvalidTurnsError_InvalidFormatError
  | 5, _, rfl => W.i_InvalidNumberError_InvalidFormatError
  | 6, _, rfl => W.i_InvalidAreaError_InvalidFormatError
  | 7, _, rfl => W.i_InvalidEffectError_InvalidFormatError
  | 8, _, rfl => W.i_InvalidFormError_InvalidFormatError
  | 9, _, rfl => W.i_InvalidLocksError_InvalidFormatError
  | 10, _, rfl => W.i_InvalidFormatError_InvalidFormatError
  | 11, _, rfl => W.i_LockedError_InvalidFormatError
  | 12, _, rfl => W.i_EmptyHistoryError_InvalidFormatError
  | _ + 13, _, h => by cases h
theorem Wd.kx_InvalidLengthsError {K : PySem.W.Frag} {mg : Str → Option Value} (W : Wd K mg) : ∀ nn D, clE W.ca nn = some D → PySem.W.kitOne K (.ref D) (.ref W.ca.InvalidLengthsError) = some (nn == 1)
  | 0, _, rfl => W.i_ScrollError_InvalidLengthsError
  | 1, _, rfl => W.i_InvalidLengthsError_InvalidLengthsError
  | 2, _, rfl => W.i_InvalidScrollsError_InvalidLengthsError
  | 3, _, rfl => W.i_InvalidTurnError_InvalidLengthsError
  | 4, _, rfl => W.i_InvalidTurnsError_InvalidLengthsError
  | 5, _, rfl => W.i_InvalidNumberError_InvalidLengthsError
  | 6, _, rfl => W.i_InvalidAreaError_InvalidLengthsError
  | 7, _, rfl => W.i_InvalidEffectError_InvalidLengthsError
  | 8, _, rfl => W.i_InvalidFormError_InvalidLengthsError
  | 9, _, rfl => W.i_InvalidLocksError_InvalidLengthsError
  | 10, _, rfl => W.i_InvalidFormatError_InvalidLengthsError
  | 11, _, rfl => W.i_LockedError_InvalidLengthsError
  | 12, _, rfl => W.i_EmptyHistoryError_InvalidLengthsError
  | _ + 13, _, h => by cases h
theorem Wd.kx_InvalidLocksError {K : PySem.W.Frag} {mg : Str → Option Value} (W : Wd K mg) : ∀ nn D, clE W.ca nn = some D → PySem.W.kitOne K (.ref D) (.ref W.ca.InvalidLocksError) = some (nn == 9)
  | 0, _, rfl => W.i_ScrollError_InvalidLocksError
  | 1, _, rfl => W.i_InvalidLengthsError_InvalidLocksError
  | 2, _, rfl => W.i_InvalidScrollsError_InvalidLocksError
  | 3, _, rfl => W.i_InvalidTurnError_InvalidLocksError
  | 4, _, rfl => W.i_InvalidTurnsError_InvalidLocksError
  | 5, _, rfl => W.i_InvalidNumberError_InvalidLocksError
  | 6, _, rfl => W.i_InvalidAreaError_InvalidLocksError
  | 7, _, rfl => W.i_InvalidEffectError_InvalidLocksError
  | 8, _, rfl => W.i_InvalidFormError_InvalidLocksError
  | 9, _, rfl => W.i_InvalidLocksError_InvalidLocksError
  | 10, _, rfl => W.i_InvalidFormatError_InvalidLocksError
  | 11, _, rfl => W.i_LockedError_InvalidLocksError
  | 12, _, rfl => W.i_EmptyHistoryError_InvalidLocksError
  | _ + 13, _, h => by cases h
theorem Wd.kx_InvalidNumberError {K : PySem.W.Frag} {mg : Str → Option Value} (W : Wd K mg) : ∀ nn D, clE W.ca nn = some D → PySem.W.kitOne K (.ref D) (.ref W.ca.InvalidNumberError) = some (nn == 5)
  | 0, _, rfl => W.i_ScrollError_InvalidNumberError
  | 1, _, rfl => W.i_InvalidLengthsError_InvalidNumberError
  | 2, _, rfl => W.i_InvalidScrollsError_InvalidNumberError
  | 3, _, rfl => W.i_InvalidTurnError_InvalidNumberError
  | 4, _, rfl => W.i_InvalidTurnsError_InvalidNumberError
  | 5, _, rfl => W.i_InvalidNumberError_InvalidNumberError
  | 6, _, rfl => W.i_InvalidAreaError_InvalidNumberError
  | 7, _, rfl => W.i_InvalidEffectError_InvalidNumberError
  | 8, _, rfl => W.i_InvalidFormError_InvalidNumberError
  | 9, _, rfl => W.i_InvalidLocksError_InvalidNumberError
  | 10, _, rfl => W.i_InvalidFormatError_InvalidNumberError
  | 11, _, rfl => W.i_LockedError_InvalidNumberError
  | 12, _, rfl => W.i_EmptyHistoryError_InvalidNumberError
  | _ + 13, _, h => by cases h
theorem Wd.kx_InvalidScrollsError {K : PySem.W.Frag} {mg : Str → Option Value} (W : Wd K mg) : ∀ nn D, clE W.ca nn = some D → PySem.W.kitOne K (.ref D) (.ref W.ca.InvalidScrollsError) = some (nn == 2)
  | 0, _, rfl => W.i_ScrollError_InvalidScrollsError
  | 1, _, rfl => W.i_InvalidLengthsError_InvalidScrollsError
  | 2, _, rfl => W.i_InvalidScrollsError_InvalidScrollsError
  | 3, _, rfl => W.i_InvalidTurnError_InvalidScrollsError
  | 4, _, rfl => W.i_InvalidTurnsError_InvalidScrollsError
  | 5, _, rfl => W.i_InvalidNumberError_InvalidScrollsError
  | 6, _, rfl => W.i_InvalidAreaError_InvalidScrollsError
  | 7, _, rfl => W.i_InvalidEffectError_InvalidScrollsError
  | 8, _, rfl => W.i_InvalidFormError_InvalidScrollsError
  | 9, _, rfl => W.i_InvalidLocksError_InvalidScrollsError
  | 10, _, rfl => W.i_InvalidFormatError_InvalidScrollsError
  | 11, _, rfl => W.i_LockedError_InvalidScrollsError
  | 12, _, rfl => W.i_EmptyHistoryError_InvalidScrollsError
  | _ + 13, _, h => by cases h
theorem Wd.kx_InvalidTurnError {K : PySem.W.Frag} {mg : Str → Option Value} (W : Wd K mg) : ∀ nn D, clE W.ca nn = some D → PySem.W.kitOne K (.ref D) (.ref W.ca.InvalidTurnError) = some (nn == 3)
  | 0, _, rfl => W.i_ScrollError_InvalidTurnError
  | 1, _, rfl => W.i_InvalidLengthsError_InvalidTurnError
  | 2, _, rfl => W.i_InvalidScrollsError_InvalidTurnError
  | 3, _, rfl => W.i_InvalidTurnError_InvalidTurnError
  | 4, _, rfl => W.i_InvalidTurnsError_InvalidTurnError
  | 5, _, rfl => W.i_InvalidNumberError_InvalidTurnError
  | 6, _, rfl => W.i_InvalidAreaError_InvalidTurnError
  | 7, _, rfl => W.i_InvalidEffectError_InvalidTurnError
  | 8, _, rfl => W.i_InvalidFormError_InvalidTurnError
  | 9, _, rfl => W.i_InvalidLocksError_InvalidTurnError
  | 10, _, rfl => W.i_InvalidFormatError_InvalidTurnError
  | 11, _, rfl => W.i_LockedError_InvalidTurnError
  | 12, _, rfl => W.i_EmptyHistoryError_InvalidTurnError
  | _ + 13, _, h => by cases h
theorem Wd.kx_InvalidTurnsError {K : PySem.W.Frag} {mg : Str → Option Value} (W : Wd K mg) : ∀ nn D, clE W.ca nn = some D → PySem.W.kitOne K (.ref D) (.ref W.ca.InvalidTurnsError) = some (nn == 4)
  | 0, _, rfl => W.i_ScrollError_InvalidTurnsError
  | 1, _, rfl => W.i_InvalidLengthsError_InvalidTurnsError
  | 2, _, rfl => W.i_InvalidScrollsError_InvalidTurnsError
  | 3, _, rfl => W.i_InvalidTurnError_InvalidTurnsError
  | 4, _, rfl => W.i_InvalidTurnsError_InvalidTurnsError
  | 5, _, rfl => W.i_InvalidNumberError_InvalidTurnsError
  | 6, _, rfl => W.i_InvalidAreaError_InvalidTurnsError
  | 7, _, rfl => W.i_InvalidEffectError_InvalidTurnsError
  | 8, _, rfl => W.i_InvalidFormError_InvalidTurnsError
  | 9, _, rfl => W.i_InvalidLocksError_InvalidTurnsError
  | 10, _, rfl => W.i_InvalidFormatError_InvalidTurnsError
  | 11, _, rfl => W.i_LockedError_InvalidTurnsError
  | 12, _, rfl => W.i_EmptyHistoryError_InvalidTurnsError
  | _ + 13, _, h => by cases h
theorem Wd.kx_LockedError {K : PySem.W.Frag} {mg : Str → Option Value} (W : Wd K mg) : ∀ nn D, clE W.ca nn = some D → PySem.W.kitOne K (.ref D) (.ref W.ca.LockedError) = some (nn == 11)
  | 0, _, rfl => W.i_ScrollError_LockedError
  | 1, _, rfl => W.i_InvalidLengthsError_LockedError
  | 2, _, rfl => W.i_InvalidScrollsError_LockedError
  | 3, _, rfl => W.i_InvalidTurnError_LockedError
  | 4, _, rfl => W.i_InvalidTurnsError_LockedError
  | 5, _, rfl => W.i_InvalidNumberError_LockedError
  | 6, _, rfl => W.i_InvalidAreaError_LockedError
  | 7, _, rfl => W.i_InvalidEffectError_LockedError
  | 8, _, rfl => W.i_InvalidFormError_LockedError
  | 9, _, rfl => W.i_InvalidLocksError_LockedError
  | 10, _, rfl => W.i_InvalidFormatError_LockedError
  | 11, _, rfl => W.i_LockedError_LockedError
  | 12, _, rfl => W.i_EmptyHistoryError_LockedError
  | _ + 13, _, h => by cases h
theorem Wd.kx_ScrollError {K : PySem.W.Frag} {mg : Str → Option Value} (W : Wd K mg) : ∀ nn D, clE W.ca nn = some D → PySem.W.kitOne K (.ref D) (.ref W.ca.ScrollError) = some true
  | 0, _, rfl => W.i_ScrollError_ScrollError
  | 1, _, rfl => W.i_InvalidLengthsError_ScrollError
  | 2, _, rfl => W.i_InvalidScrollsError_ScrollError
  | 3, _, rfl => W.i_InvalidTurnError_ScrollError
  | 4, _, rfl => W.i_InvalidTurnsError_ScrollError
  | 5, _, rfl => W.i_InvalidNumberError_ScrollError
  | 6, _, rfl => W.i_InvalidAreaError_ScrollError
  | 7, _, rfl => W.i_InvalidEffectError_ScrollError
  | 8, _, rfl => W.i_InvalidFormError_ScrollError
  | 9, _, rfl => W.i_InvalidLocksError_ScrollError
  | 10, _, rfl => W.i_InvalidFormatError_ScrollError
  | 11, _, rfl => W.i_LockedError_ScrollError
  | 12, _, rfl => W.i_EmptyHistoryError_ScrollError
  | _ + 13, _, h => by cases h
theorem Wd.kx_ValueError {K : PySem.W.Frag} {mg : Str → Option Value} (W : Wd K mg) : ∀ nn D, clE W.ca nn = some D → PySem.W.kitOne K (.ref D) (.type "ValueError") = some true
  | 0, _, rfl => W.i_ScrollError_ValueError
  | 1, _, rfl => W.i_InvalidLengthsError_ValueError
  | 2, _, rfl => W.i_InvalidScrollsError_ValueError
  | 3, _, rfl => W.i_InvalidTurnError_ValueError
  | 4, _, rfl => W.i_InvalidTurnsError_ValueError
  | 5, _, rfl => W.i_InvalidNumberError_ValueError
  | 6, _, rfl => W.i_InvalidAreaError_ValueError
  | 7, _, rfl => W.i_InvalidEffectError_ValueError
  | 8, _, rfl => W.i_InvalidFormError_ValueError
  | 9, _, rfl => W.i_InvalidLocksError_ValueError
  | 10, _, rfl => W.i_InvalidFormatError_ValueError
  | 11, _, rfl => W.i_LockedError_ValueError
  | 12, _, rfl => W.i_EmptyHistoryError_ValueError
  | _ + 13, _, h => by cases h
section
variable {P : Program} {mg : Str → Option Value} {w : World} {base : Heap} {K : PySem.W.Frag}
theorem ok_is_integer (W : Wd K mg) : FnG P w K mg base (L2N.CX P w) 1 W.f_is_integer W.d_is_integer ["value", "least", "most"] (Low K 3 false g_is_integer) := by
  refine fn3 W.F_is_integer sc_is_integer rfl fun cdv A outer s F0 H G vs E ts Q R hr gd hl hg tk lk => ?_
  exact ⟨wb_is_integer, (vb_cons (vs_if (vt_w (vw_or (vt_not (vt_val (ve_callB call_isiA oA_isiA W.z_isinstance (va_cons (ve_var 0) (va_cons (ve_bval (v := .ty "int") (u := .type "int") rfl W.z_int (by decide +kernel) (ty_V _)) va_nil))))) (vw_or1 (vt_val (ve_callB call_isiA oA_isiA W.z_isinstance (va_cons (ve_var 0) (va_cons (ve_bval (v := .ty "bool") (u := .type "bool") rfl W.z_bool (by decide +kernel) (ty_V _)) va_nil))))))) (vb_one (vs_ret ve_bl)) vb_nil)
      (vb_one (vs_ret (ve_and (ve_or (ve_cmp op_isN o2_isN (ve_var 1) ve_non) (ve_one (ve_cmp op_le o2_le (ve_var 1) (ve_var 0)))) (ve_one (ve_or (ve_cmp op_isN o2_isN (ve_var 2) ve_non) (ve_one (ve_cmp op_le o2_le (ve_var 0) (ve_var 2))))))))), wp_is_integer hg⟩
theorem D_is_integer (W : Wd K mg) : Df P w K mg base "is_integer" 1 W.f_is_integer W.d_is_integer ["value", "least", "most"] 3 false g_is_integer := ⟨ok_is_integer W, W.m_is_integer, W.k_is_integer⟩
theorem ok_cut (W : Wd K mg) : FnG P w K mg base (L2N.CX P w) 1 W.f_cut W.d_cut ["number", "low", "high"] (Low K 3 false g_cut) := by
  refine fn3 W.F_cut sc_cut rfl fun cdv A outer s F0 H G vs E ts Q R hr gd hl hg tk lk => ?_
  exact ⟨wb_cut, (vb_one (vs_ret (ve_callB (call_maxA rfl) oA_max W.z_max (va_cons (ve_var 1) (va_cons (ve_callB (call_minA rfl) oA_min W.z_min (va_cons (ve_var 2) (va_cons (ve_var 0) va_nil))) va_nil))))), wp_cut hg⟩
theorem D_cut (W : Wd K mg) : Df P w K mg base "cut" 1 W.f_cut W.d_cut ["number", "low", "high"] 3 false g_cut := ⟨ok_cut W, W.m_cut, W.k_cut⟩
theorem ok_sums_of (W : Wd K mg) : FnG P w K mg base (L2N.CX P w) 1 W.f_sums_of W.d_sums_of ["numbers"] (Low K 1 false g_sums_of) := by
  refine fn3 W.F_sums_of sc_sums_of rfl fun cdv A outer s F0 H G vs E ts Q R hr gd hl hg tk lk => ?_
  exact ⟨wb_sums_of, (vb_cons (vs_set 1 sc_sums_of.nd (ve_lst va_nil))
      (vb_cons (vs_for PassesOwn.leaving rfl (vi_list (ve_var 0)) (vg_name 2 sc_sums_of.nd) (vb_one (vs_expr (ve_app 1 (ve_lend fun _ _ => (ve_if (vt_cmp (op_neA hr.units) o2_ne (ve_var 1) (ve_lst va_nil)) (ve_op op_addA o2_add (ve_var 2) (ve_ix (ve_var 1) (ve_un un_neg o1_neg ve_int))) (ve_var 2)))))))
      (vb_one (vs_ret (ve_move 1))))), wp_sums_of hg⟩
theorem D_sums_of (W : Wd K mg) : Df P w K mg base "sums_of" 1 W.f_sums_of W.d_sums_of ["numbers"] 1 false g_sums_of := ⟨ok_sums_of W, W.m_sums_of, W.k_sums_of⟩
theorem ok_scrolls_from (W : Wd K mg) : FnG P w K mg base (L2N.CX P w) 1 W.f_scrolls_from W.d_scrolls_from ["sums"] (Low K 1 false g_scrolls_from) := by
  refine fn3 W.F_scrolls_from sc_scrolls_from rfl fun cdv A outer s F0 H G vs E ts Q R hr gd hl hg tk lk => ?_
  exact ⟨wb_scrolls_from, (vb_one (vs_ret (ve_lc (ow := [("before", 1), ("number", 2)]) rfl sc_scrolls_from.nd (vi_zip W.z_zip (va_cons (ve_op op_addA o2_add (ve_lst (va_cons ve_int va_nil)) (ve_slice (ve_var 0) vo_none (vo_some (ve_un un_neg o1_neg ve_int)))) (va_cons (ve_var 0) va_nil))) (blk_mk (N := ["sums", "before", "number"]) (sc := defScope s_scrolls_from) (by decide +kernel)) (fun _ _ _ _ _ => (vg_tup (n := 2) rfl (vgs_cons (vg_name 1 sc_scrolls_from.nd) (vgs_cons (vg_name 2 sc_scrolls_from.nd) vgs_nil)))) (fun _ _ _ _ _ => vts_nil) (fun _ _ _ _ _ => (ve_op op_subA o2_subA (ve_var 2) (ve_var 1)))))), wp_scrolls_from hg⟩
theorem D_scrolls_from (W : Wd K mg) : Df P w K mg base "scrolls_from" 1 W.f_scrolls_from W.d_scrolls_from ["sums"] 1 false g_scrolls_from := ⟨ok_scrolls_from W, W.m_scrolls_from, W.k_scrolls_from⟩
theorem ok_l_bag (W : Wd K mg) : FnG P w K mg base (L2N.CX P w) 1 W.f_l_bag W.d_l_bag ["_law_cell", "_law_k"] (Low K 2 false g_l_bag) := by
  refine fn3 W.F_l_bag sc_l_bag rfl fun cdv A outer s F0 H G vs E ts Q R hr gd hl hg tk lk => ?_
  exact ⟨wb_l_bag, (vb_cons (vs_if (vt_cmp op_lt o2_lt (ve_var 0) ve_int) (vb_one (vs_ret (ve_lst (va_cons (ve_un un_neg o1_neg (ve_var 0)) (va_cons (ve_op op_addA o2_add (ve_op op_mulA o2_mul ve_int (ve_var 1)) ve_int) va_nil))))) vb_nil)
      (vb_one (vs_ret (ve_lst (va_cons (ve_var 0) (va_cons (ve_op op_mulA o2_mul ve_int (ve_var 1)) va_nil)))))), wp_l_bag hg⟩
theorem D_l_bag (W : Wd K mg) : Df P w K mg base "_law_bag" 1 W.f_l_bag W.d_l_bag ["_law_cell", "_law_k"] 2 false g_l_bag := ⟨ok_l_bag W, W.m_l_bag, W.k_l_bag⟩
theorem ok_l_draw (W : Wd K mg) : FnG P w K mg base (L2N.CX P w) 1 W.f_l_draw W.d_l_draw ["_law_bag_here", "_law_many"] (Low K 2 true g_l_draw) := by
  refine fn3 W.F_l_draw sc_l_draw rfl fun cdv A outer s F0 H G vs E ts Q R hr gd hl hg tk lk => ?_
  exact ⟨wb_l_draw, (vb_cons (vs_augI 0 ip_addI o2_addI ve_int ve_int)
      (vb_cons (vs_if (vt_lend fun _ _ => (vt_cmp op_ge o2_ge (ve_ix (ve_var 0) ve_int) (ve_op op_powW o2_pow ve_int ve_int))) (vb_cons (vs_set 2 sc_l_draw.nd (ve_lend fun _ _ => (ve_op op_mod o2_mod (ve_ix (ve_var 0) ve_int) (ve_var 1))))
      (vb_cons (vs_asg (ve_lend fun _ _ => (ve_op op_fdivW o2_div (ve_ix (ve_var 0) ve_int) (ve_var 1))) (vg_put 0 ve_int))
      (vb_one (vs_ret (ve_var 2))))) vb_nil)
      (vb_cons (vs_set 3 sc_l_draw.nd (ve_lend fun _ _ => (ve_op op_mod o2_mod (ve_op op_addA o2_add (ve_op op_addA o2_add (ve_op op_mod o2_mod (ve_ix (ve_var 0) ve_int) ve_int) (ve_op op_mulA o2_mul ve_int (ve_ix (ve_var 0) ve_int))) ve_int) ve_int)))
      (vb_cons (vs_set 3 sc_l_draw.nd (ve_op op_mod o2_mod (ve_op op_mulA o2_mul (ve_var 3) (ve_var 3)) ve_int))
      (vb_cons (vs_set 3 sc_l_draw.nd (ve_lend fun _ _ => (ve_op op_mod o2_mod (ve_op op_addA o2_add (ve_var 3) (ve_op op_mulA o2_mul ve_int (ve_ix (ve_var 0) ve_int))) ve_int)))
      (vb_cons (vs_set 3 sc_l_draw.nd (ve_op op_mod o2_mod (ve_op op_mulA o2_mul (ve_var 3) (ve_var 3)) ve_int))
      (vb_one (vs_ret (ve_op op_mod o2_mod (ve_op op_fdivW o2_div (ve_var 3) ve_int) (ve_var 1)))))))))), wp_l_draw hg⟩
theorem D_l_draw (W : Wd K mg) : Df P w K mg base "_law_draw" 1 W.f_l_draw W.d_l_draw ["_law_bag_here", "_law_many"] 2 true g_l_draw := ⟨ok_l_draw W, W.m_l_draw, W.k_l_draw⟩
theorem okX_l_marks (W : Wd K mg) : FnX P w K mg base (L2N.CX P w) 1 W.f_l_marks W.d_l_marks "_law_e" (fun cls => Low K 1 false (gCls (clE W.ca) g_l_marksH cls)) := by
  refine fn3X W.F_l_marks sc_l_marks (fun _ _ _ _ h => gCls_one h) fun cdv A outer s F0 H E p cls Q R hr gd hot zn fl hg => ?_
  obtain ⟨nn, D, hn, rfl, _, hg⟩ := hg
  exact ⟨wb_l_marksH W.ca nn (.ref p.1), (vb_cons (vs_set 1 sc_l_marks.nd (ve_lst va_nil))
      (vb_cons (vs_set 1 sc_l_marks.nd (ve_op op_addA o2_add (ve_frz 1) (ve_lst (va_cons (ve_callB (call_isX (List.mem_singleton.mpr rfl) (W.xcE nn D hn) zn fl) (oA_isX1 (W.kx_EmptyHistoryError nn D hn)) W.z_isinstance (va_cons (ve_var 0) (va_cons (ve_cls W.mx_EmptyHistoryError) va_nil))) (va_cons (ve_callB (call_isX (List.mem_singleton.mpr rfl) (W.xcE nn D hn) zn fl) (oA_isX1 (W.kx_InvalidAreaError nn D hn)) W.z_isinstance (va_cons (ve_var 0) (va_cons (ve_cls W.mx_InvalidAreaError) va_nil))) va_nil)))))
      (vb_cons (vs_set 1 sc_l_marks.nd (ve_op op_addA o2_add (ve_frz 1) (ve_lst (va_cons (ve_callB (call_isX (List.mem_singleton.mpr rfl) (W.xcE nn D hn) zn fl) (oA_isX1 (W.kx_InvalidEffectError nn D hn)) W.z_isinstance (va_cons (ve_var 0) (va_cons (ve_cls W.mx_InvalidEffectError) va_nil))) (va_cons (ve_callB (call_isX (List.mem_singleton.mpr rfl) (W.xcE nn D hn) zn fl) (oA_isX1 (W.kx_InvalidFormError nn D hn)) W.z_isinstance (va_cons (ve_var 0) (va_cons (ve_cls W.mx_InvalidFormError) va_nil))) va_nil)))))
      (vb_cons (vs_set 1 sc_l_marks.nd (ve_op op_addA o2_add (ve_frz 1) (ve_lst (va_cons (ve_callB (call_isX (List.mem_singleton.mpr rfl) (W.xcE nn D hn) zn fl) (oA_isX1 (W.kx_InvalidFormatError nn D hn)) W.z_isinstance (va_cons (ve_var 0) (va_cons (ve_cls W.mx_InvalidFormatError) va_nil))) (va_cons (ve_callB (call_isX (List.mem_singleton.mpr rfl) (W.xcE nn D hn) zn fl) (oA_isX1 (W.kx_InvalidLengthsError nn D hn)) W.z_isinstance (va_cons (ve_var 0) (va_cons (ve_cls W.mx_InvalidLengthsError) va_nil))) va_nil)))))
      (vb_cons (vs_set 1 sc_l_marks.nd (ve_op op_addA o2_add (ve_frz 1) (ve_lst (va_cons (ve_callB (call_isX (List.mem_singleton.mpr rfl) (W.xcE nn D hn) zn fl) (oA_isX1 (W.kx_InvalidLocksError nn D hn)) W.z_isinstance (va_cons (ve_var 0) (va_cons (ve_cls W.mx_InvalidLocksError) va_nil))) (va_cons (ve_callB (call_isX (List.mem_singleton.mpr rfl) (W.xcE nn D hn) zn fl) (oA_isX1 (W.kx_InvalidNumberError nn D hn)) W.z_isinstance (va_cons (ve_var 0) (va_cons (ve_cls W.mx_InvalidNumberError) va_nil))) va_nil)))))
      (vb_cons (vs_set 1 sc_l_marks.nd (ve_op op_addA o2_add (ve_frz 1) (ve_lst (va_cons (ve_callB (call_isX (List.mem_singleton.mpr rfl) (W.xcE nn D hn) zn fl) (oA_isX1 (W.kx_InvalidScrollsError nn D hn)) W.z_isinstance (va_cons (ve_var 0) (va_cons (ve_cls W.mx_InvalidScrollsError) va_nil))) (va_cons (ve_callB (call_isX (List.mem_singleton.mpr rfl) (W.xcE nn D hn) zn fl) (oA_isX1 (W.kx_InvalidTurnError nn D hn)) W.z_isinstance (va_cons (ve_var 0) (va_cons (ve_cls W.mx_InvalidTurnError) va_nil))) va_nil)))))
      (vb_cons (vs_set 1 sc_l_marks.nd (ve_op op_addA o2_add (ve_frz 1) (ve_lst (va_cons (ve_callB (call_isX (List.mem_singleton.mpr rfl) (W.xcE nn D hn) zn fl) (oA_isX1 (W.kx_InvalidTurnsError nn D hn)) W.z_isinstance (va_cons (ve_var 0) (va_cons (ve_cls W.mx_InvalidTurnsError) va_nil))) (va_cons (ve_callB (call_isX (List.mem_singleton.mpr rfl) (W.xcE nn D hn) zn fl) (oA_isX1 (W.kx_LockedError nn D hn)) W.z_isinstance (va_cons (ve_var 0) (va_cons (ve_cls W.mx_LockedError) va_nil))) va_nil)))))
      (vb_one (vs_ret (ve_move 1)))))))))), wp_l_marksH hg⟩
theorem ok_l_marks (W : Wd K mg) : FnG P w K mg base (L2N.CX P w) 1 W.f_l_marks W.d_l_marks ["_law_e"] (Low K 1 false (g_l_marks W.ca)) := by
  refine fn3 W.F_l_marks sc_l_marks rfl fun cdv A outer s F0 H G vs E ts Q R hr gd hl hg tk lk => ?_
  exact ⟨wb_l_marks W.ca, (vb_cons (vs_set 1 sc_l_marks.nd (ve_lst va_nil))
      (vb_cons (vs_set 1 sc_l_marks.nd (ve_op op_addA o2_add (ve_frz 1) (ve_lst (va_cons (ve_callB call_isC (oA_isC1 (cl := clE W.ca) (ans := fun nn => (nn == 12)) W.kx_EmptyHistoryError W.xcE) W.z_isinstance (va_cons (ve_var 0) (va_cons (ve_cls W.mx_EmptyHistoryError) va_nil))) (va_cons (ve_callB call_isC (oA_isC1 (cl := clE W.ca) (ans := fun nn => (nn == 6)) W.kx_InvalidAreaError W.xcE) W.z_isinstance (va_cons (ve_var 0) (va_cons (ve_cls W.mx_InvalidAreaError) va_nil))) va_nil)))))
      (vb_cons (vs_set 1 sc_l_marks.nd (ve_op op_addA o2_add (ve_frz 1) (ve_lst (va_cons (ve_callB call_isC (oA_isC1 (cl := clE W.ca) (ans := fun nn => (nn == 7)) W.kx_InvalidEffectError W.xcE) W.z_isinstance (va_cons (ve_var 0) (va_cons (ve_cls W.mx_InvalidEffectError) va_nil))) (va_cons (ve_callB call_isC (oA_isC1 (cl := clE W.ca) (ans := fun nn => (nn == 8)) W.kx_InvalidFormError W.xcE) W.z_isinstance (va_cons (ve_var 0) (va_cons (ve_cls W.mx_InvalidFormError) va_nil))) va_nil)))))
      (vb_cons (vs_set 1 sc_l_marks.nd (ve_op op_addA o2_add (ve_frz 1) (ve_lst (va_cons (ve_callB call_isC (oA_isC1 (cl := clE W.ca) (ans := fun nn => (nn == 10)) W.kx_InvalidFormatError W.xcE) W.z_isinstance (va_cons (ve_var 0) (va_cons (ve_cls W.mx_InvalidFormatError) va_nil))) (va_cons (ve_callB call_isC (oA_isC1 (cl := clE W.ca) (ans := fun nn => (nn == 1)) W.kx_InvalidLengthsError W.xcE) W.z_isinstance (va_cons (ve_var 0) (va_cons (ve_cls W.mx_InvalidLengthsError) va_nil))) va_nil)))))
      (vb_cons (vs_set 1 sc_l_marks.nd (ve_op op_addA o2_add (ve_frz 1) (ve_lst (va_cons (ve_callB call_isC (oA_isC1 (cl := clE W.ca) (ans := fun nn => (nn == 9)) W.kx_InvalidLocksError W.xcE) W.z_isinstance (va_cons (ve_var 0) (va_cons (ve_cls W.mx_InvalidLocksError) va_nil))) (va_cons (ve_callB call_isC (oA_isC1 (cl := clE W.ca) (ans := fun nn => (nn == 5)) W.kx_InvalidNumberError W.xcE) W.z_isinstance (va_cons (ve_var 0) (va_cons (ve_cls W.mx_InvalidNumberError) va_nil))) va_nil)))))
      (vb_cons (vs_set 1 sc_l_marks.nd (ve_op op_addA o2_add (ve_frz 1) (ve_lst (va_cons (ve_callB call_isC (oA_isC1 (cl := clE W.ca) (ans := fun nn => (nn == 2)) W.kx_InvalidScrollsError W.xcE) W.z_isinstance (va_cons (ve_var 0) (va_cons (ve_cls W.mx_InvalidScrollsError) va_nil))) (va_cons (ve_callB call_isC (oA_isC1 (cl := clE W.ca) (ans := fun nn => (nn == 3)) W.kx_InvalidTurnError W.xcE) W.z_isinstance (va_cons (ve_var 0) (va_cons (ve_cls W.mx_InvalidTurnError) va_nil))) va_nil)))))
      (vb_cons (vs_set 1 sc_l_marks.nd (ve_op op_addA o2_add (ve_frz 1) (ve_lst (va_cons (ve_callB call_isC (oA_isC1 (cl := clE W.ca) (ans := fun nn => (nn == 4)) W.kx_InvalidTurnsError W.xcE) W.z_isinstance (va_cons (ve_var 0) (va_cons (ve_cls W.mx_InvalidTurnsError) va_nil))) (va_cons (ve_callB call_isC (oA_isC1 (cl := clE W.ca) (ans := fun nn => (nn == 11)) W.kx_LockedError W.xcE) W.z_isinstance (va_cons (ve_var 0) (va_cons (ve_cls W.mx_LockedError) va_nil))) va_nil)))))
      (vb_one (vs_ret (ve_move 1)))))))))), wp_l_marks hg⟩
theorem D_l_marks (W : Wd K mg) : Df P w K mg base "_law_marks" 1 W.f_l_marks W.d_l_marks ["_law_e"] 1 false (g_l_marks W.ca) := ⟨ok_l_marks W, W.m_l_marks, W.k_l_marks⟩
theorem ok_is_lengths (W : Wd K mg) : FnG P w K mg base (L2N.CX P w) 2 W.f_is_lengths W.d_is_lengths ["value"] (Low K 1 false g_is_lengths) := by
  refine fn3 W.F_is_lengths sc_is_lengths rfl fun cdv A outer s F0 H G vs E ts Q R hr gd hl hg tk lk => ?_
  exact ⟨wb_is_lengths, (vb_cons (vs_if (vt_w (vw_or (vt_not (vt_val (ve_callB call_isiA oA_isiA W.z_isinstance (va_cons (ve_var 0) (va_cons (ve_bval (v := .ty "list") (u := .type "list") rfl W.z_list (by decide +kernel) (ty_V _)) va_nil))))) (vw_or1 (vt_not (vt_chain op_le o2_le op_le o2_le ve_int (ve_callB call_len oA_len W.z_len (va_cons (ve_var 0) va_nil)) (ve_gint rfl W.m_MOST_AREAS)))))) (vb_one (vs_ret ve_bl)) vb_nil)
      (vb_one (vs_ret (ve_callB (cr_all rfl) oA_all W.z_all (va_cons (ve_lc (ow := [("number", 1)]) rfl sc_is_lengths.nd (vi_list (ve_var 0)) (blk_mk (N := ["value", "number"]) (sc := defScope s_is_lengths) (by decide +kernel)) (fun _ _ _ _ _ => (vg_name 1 sc_is_lengths.nd)) (fun _ _ _ _ _ => vts_nil) (fun _ _ _ _ _ => (ve_call (D_is_integer W) (bnd_of (np := 3) (ks := []) (ix := [0, 1, 2]) W.F_is_integer fun _ _ _ _ _ _ us ws h1 h2 => match us, ws, h1, h2 with | [_, _, _], [], _, _ => rfl) (hr.mono (by decide)) (.zero gd) (va_cons (ve_var 1) (va_cons ve_int (va_cons ve_non va_nil)))))) va_nil))))), wp_is_lengths hg⟩
theorem D_is_lengths (W : Wd K mg) : Df P w K mg base "is_lengths" 2 W.f_is_lengths W.d_is_lengths ["value"] 1 false g_is_lengths := ⟨ok_is_lengths W, W.m_is_lengths, W.k_is_lengths⟩
theorem ok_are_scrolls (W : Wd K mg) : FnG P w K mg base (L2N.CX P w) 2 W.f_are_scrolls W.d_are_scrolls ["lengths", "value"] (Low K 2 false g_are_scrolls) := by
  refine fn3 W.F_are_scrolls sc_are_scrolls rfl fun cdv A outer s F0 H G vs E ts Q R hr gd hl hg tk lk => ?_
  exact ⟨wb_are_scrolls, (vb_cons (vs_if (vt_w (vw_or (vt_not (vt_val (ve_callB call_isiA oA_isiA W.z_isinstance (va_cons (ve_var 1) (va_cons (ve_bval (v := .ty "list") (u := .type "list") rfl W.z_list (by decide +kernel) (ty_V _)) va_nil))))) (vw_or1 (vt_cmp (op_neA hr.units) o2_ne (ve_callB call_len oA_len W.z_len (va_cons (ve_var 1) va_nil)) (ve_callB call_len oA_len W.z_len (va_cons (ve_var 0) va_nil)))))) (vb_one (vs_ret ve_bl)) vb_nil)
      (vb_one (vs_ret (ve_callB (cr_all rfl) oA_all W.z_all (va_cons (ve_lc (ow := [("number", 2), ("most", 3)]) rfl sc_are_scrolls.nd (vi_zip W.z_zip (va_cons (ve_var 1) (va_cons (ve_var 0) va_nil))) (blk_mk (N := ["lengths", "value", "number", "most"]) (sc := defScope s_are_scrolls) (by decide +kernel)) (fun _ _ _ _ _ => (vg_tup (n := 2) rfl (vgs_cons (vg_name 2 sc_are_scrolls.nd) (vgs_cons (vg_name 3 sc_are_scrolls.nd) vgs_nil)))) (fun _ _ _ _ _ => vts_nil) (fun _ _ _ _ _ => (ve_call (D_is_integer W) (bnd_of (np := 3) (ks := []) (ix := [0, 1, 2]) W.F_is_integer fun _ _ _ _ _ _ us ws h1 h2 => match us, ws, h1, h2 with | [_, _, _], [], _, _ => rfl) (hr.mono (by decide)) (.zero gd) (va_cons (ve_var 2) (va_cons ve_int (va_cons (ve_var 3) va_nil)))))) va_nil))))), wp_are_scrolls hg⟩
theorem D_are_scrolls (W : Wd K mg) : Df P w K mg base "are_scrolls" 2 W.f_are_scrolls W.d_are_scrolls ["lengths", "value"] 2 false g_are_scrolls := ⟨ok_are_scrolls W, W.m_are_scrolls, W.k_are_scrolls⟩
theorem ok_is_turns (W : Wd K mg) : FnG P w K mg base (L2N.CX P w) 2 W.f_is_turns W.d_is_turns ["value"] (Low K 1 false g_is_turns) := by
  refine fn3 W.F_is_turns sc_is_turns rfl fun cdv A outer s F0 H G vs E ts Q R hr gd hl hg tk lk => ?_
  exact ⟨wb_is_turns, (vb_cons (vs_if (vt_w (vw_or (vt_not (vt_val (ve_callB call_isiA oA_isiA W.z_isinstance (va_cons (ve_var 0) (va_cons (ve_bval (v := .ty "list") (u := .type "list") rfl W.z_list (by decide +kernel) (ty_V _)) va_nil))))) (vw_or1 (vt_cmp op_gt o2_gt (ve_callB call_len oA_len W.z_len (va_cons (ve_var 0) va_nil)) (ve_gint rfl W.m_MOST_TURNS))))) (vb_one (vs_ret ve_bl)) vb_nil)
      (vb_one (vs_ret (ve_callB (cr_all rfl) oA_all W.z_all (va_cons (ve_lc (ow := [("turn", 1)]) rfl sc_is_turns.nd (vi_list (ve_var 0)) (blk_mk (N := ["value", "turn"]) (sc := defScope s_is_turns) (by decide +kernel)) (fun _ _ _ _ _ => (vg_name 1 sc_is_turns.nd)) (fun _ _ _ _ _ => vts_nil) (fun _ _ _ _ _ => (ve_call (D_is_integer W) (bnd_of (np := 3) (ks := []) (ix := [0, 1, 2]) W.F_is_integer fun _ _ _ _ _ _ us ws h1 h2 => match us, ws, h1, h2 with | [_, _, _], [], _, _ => rfl) (hr.mono (by decide)) (.zero gd) (va_cons (ve_var 1) (va_cons ve_non (va_cons ve_non va_nil)))))) va_nil))))), wp_is_turns hg⟩
theorem D_is_turns (W : Wd K mg) : Df P w K mg base "is_turns" 2 W.f_is_turns W.d_is_turns ["value"] 1 false g_is_turns := ⟨ok_is_turns W, W.m_is_turns, W.k_is_turns⟩
theorem ok_moved_sums (W : Wd K mg) : FnG P w K mg base (L2N.CX P w) 2 W.f_moved_sums W.d_moved_sums ["sums", "limits", "turn"] (Low K 3 false g_moved_sums) := by
  refine fn3 W.F_moved_sums sc_moved_sums rfl fun cdv A outer s F0 H G vs E ts Q R hr gd hl hg tk lk => ?_
  exact ⟨wb_moved_sums, (vb_one (vs_ret (ve_lc (ow := [("number", 3), ("limit", 4)]) rfl sc_moved_sums.nd (vi_zip W.z_zip (va_cons (ve_var 0) (va_cons (ve_var 1) va_nil))) (blk_mk (N := ["sums", "limits", "turn", "number", "limit"]) (sc := defScope s_moved_sums) (by decide +kernel)) (fun _ _ _ _ _ => (vg_tup (n := 2) rfl (vgs_cons (vg_name 3 sc_moved_sums.nd) (vgs_cons (vg_name 4 sc_moved_sums.nd) vgs_nil)))) (fun _ _ _ _ _ => vts_nil) (fun _ _ _ _ _ => (ve_call (D_cut W) (bnd_of (np := 3) (ks := []) (ix := [0, 1, 2]) W.F_cut fun _ _ _ _ _ _ us ws h1 h2 => match us, ws, h1, h2 with | [_, _, _], [], _, _ => rfl) (hr.mono (by decide)) (.zero gd) (va_cons (ve_op op_addA o2_add (ve_var 3) (ve_var 2)) (va_cons ve_int (va_cons (ve_var 4) va_nil)))))))), wp_moved_sums hg⟩
theorem D_moved_sums (W : Wd K mg) : Df P w K mg base "moved_sums" 2 W.f_moved_sums W.d_moved_sums ["sums", "limits", "turn"] 3 false g_moved_sums := ⟨ok_moved_sums W, W.m_moved_sums, W.k_moved_sums⟩
theorem ok_check_lengths (W : Wd K mg) : FnG P w K mg base (L2N.CX P w) 3 W.f_check_lengths W.d_check_lengths ["lengths"] (Low K 1 false (g_check_lengths W.ca)) := by
  refine fn3 W.F_check_lengths sc_check_lengths rfl fun cdv A outer s F0 H G vs E ts Q R hr gd hl hg tk lk => ?_
  exact ⟨wb_check_lengths W.ca (fun a ρ => R a (ioR false ρ)), (vb_one (vs_if (vt_not (vt_val (ve_call (D_is_lengths W) (bnd_of (np := 1) (ks := []) (ix := [0]) W.F_is_lengths fun _ _ _ _ _ _ us ws h1 h2 => match us, ws, h1, h2 with | [_], [], _, _ => rfl) (hr.mono (by decide)) ⟨gd, tk, lk, rfl⟩ (va_cons (ve_var 0) va_nil)))) (vb_one (vs_raise rfl tk lk (L2N.pmk_own F.excBase_ValueError W.xq_InvalidLengthsError W.mx_InvalidLengthsError W.kp_InvalidLengthsError (raises_w W.sb_InvalidLengthsError W.ty_InvalidLengthsError _ rfl) rfl))) vb_nil)), wp_check_lengths hg⟩
theorem D_check_lengths (W : Wd K mg) : Df P w K mg base "check_lengths" 3 W.f_check_lengths W.d_check_lengths ["lengths"] 1 false (g_check_lengths W.ca) := ⟨ok_check_lengths W, W.m_check_lengths, W.k_check_lengths⟩
theorem ok_check_scrolls (W : Wd K mg) : FnG P w K mg base (L2N.CX P w) 3 W.f_check_scrolls W.d_check_scrolls ["lengths", "scrolls"] (Low K 2 false (g_check_scrolls W.ca)) := by
  refine fn3 W.F_check_scrolls sc_check_scrolls rfl fun cdv A outer s F0 H G vs E ts Q R hr gd hl hg tk lk => ?_
  exact ⟨wb_check_scrolls W.ca (fun a ρ => R a (ioR false ρ)), (vb_one (vs_if (vt_not (vt_val (ve_call (D_are_scrolls W) (bnd_of (np := 2) (ks := []) (ix := [0, 1]) W.F_are_scrolls fun _ _ _ _ _ _ us ws h1 h2 => match us, ws, h1, h2 with | [_, _], [], _, _ => rfl) (hr.mono (by decide)) ⟨gd, tk, lk, rfl⟩ (va_cons (ve_var 0) (va_cons (ve_var 1) va_nil))))) (vb_one (vs_raise rfl tk lk (L2N.pmk_own F.excBase_ValueError W.xq_InvalidScrollsError W.mx_InvalidScrollsError W.kp_InvalidScrollsError (raises_w W.sb_InvalidScrollsError W.ty_InvalidScrollsError _ rfl) rfl))) vb_nil)), wp_check_scrolls hg⟩
theorem D_check_scrolls (W : Wd K mg) : Df P w K mg base "check_scrolls" 3 W.f_check_scrolls W.d_check_scrolls ["lengths", "scrolls"] 2 false (g_check_scrolls W.ca) := ⟨ok_check_scrolls W, W.m_check_scrolls, W.k_check_scrolls⟩
theorem ok_check_turns (W : Wd K mg) : FnG P w K mg base (L2N.CX P w) 3 W.f_check_turns W.d_check_turns ["turns"] (Low K 1 false (g_check_turns W.ca)) := by
  refine fn3 W.F_check_turns sc_check_turns rfl fun cdv A outer s F0 H G vs E ts Q R hr gd hl hg tk lk => ?_
  exact ⟨wb_check_turns W.ca (fun a ρ => R a (ioR false ρ)), (vb_one (vs_if (vt_not (vt_val (ve_call (D_is_turns W) (bnd_of (np := 1) (ks := []) (ix := [0]) W.F_is_turns fun _ _ _ _ _ _ us ws h1 h2 => match us, ws, h1, h2 with | [_], [], _, _ => rfl) (hr.mono (by decide)) ⟨gd, tk, lk, rfl⟩ (va_cons (ve_var 0) va_nil)))) (vb_one (vs_raise rfl tk lk (L2N.pmk_own F.excBase_ValueError W.xq_InvalidTurnsError W.mx_InvalidTurnsError W.kp_InvalidTurnsError (raises_w W.sb_InvalidTurnsError W.ty_InvalidTurnsError _ rfl) rfl))) vb_nil)), wp_check_turns hg⟩
theorem D_check_turns (W : Wd K mg) : Df P w K mg base "check_turns" 3 W.f_check_turns W.d_check_turns ["turns"] 1 false (g_check_turns W.ca) := ⟨ok_check_turns W, W.m_check_turns, W.k_check_turns⟩
theorem ok_scrolls_in (W : Wd K mg) : FnG P w K mg base (L2N.CX P w) 3 W.f_scrolls_in W.d_scrolls_in ["lengths", "scrolls", "turns"] (Low K 3 false g_scrolls_in) := by
  refine fn3 W.F_scrolls_in sc_scrolls_in rfl fun cdv A outer s F0 H G vs E ts Q R hr gd hl hg tk lk => ?_
  exact ⟨wb_scrolls_in (fun a ρ => R a (ioR false ρ)), (vb_cons (vs_par 3 4 sc_scrolls_in.nd rfl (va_cons (ve_call (D_sums_of W) (bnd_of (np := 1) (ks := []) (ix := [0]) W.F_sums_of fun _ _ _ _ _ _ us ws h1 h2 => match us, ws, h1, h2 with | [_], [], _, _ => rfl) (hr.mono (by decide)) ⟨gd, tk, lk, rfl⟩ (va_cons (ve_var 1) va_nil)) (va_cons (ve_call (D_sums_of W) (bnd_of (np := 1) (ks := []) (ix := [0]) W.F_sums_of fun _ _ _ _ _ _ us ws h1 h2 => match us, ws, h1, h2 with | [_], [], _, _ => rfl) (hr.mono (by decide)) ⟨gd, tk, lk, rfl⟩ (va_cons (ve_var 0) va_nil)) va_nil)))
      (vb_cons (vs_for PassesOwn.leaving rfl (vi_list (ve_var 2)) (vg_name 5 sc_scrolls_in.nd) (vb_one (vs_set 3 sc_scrolls_in.nd (ve_call (D_moved_sums W) (bnd_of (np := 3) (ks := []) (ix := [0, 1, 2]) W.F_moved_sums fun _ _ _ _ _ _ us ws h1 h2 => match us, ws, h1, h2 with | [_, _, _], [], _, _ => rfl) (hr.mono (by decide)) ⟨gd, tk, lk, rfl⟩ (va_cons (ve_frz 3) (va_cons (ve_frz 4) (va_cons (ve_var 5) va_nil)))))))
      (vb_one (vs_ret (ve_call (D_scrolls_from W) (bnd_of (np := 1) (ks := []) (ix := [0]) W.F_scrolls_from fun _ _ _ _ _ _ us ws h1 h2 => match us, ws, h1, h2 with | [_], [], _, _ => rfl) (hr.mono (by decide)) ⟨gd, tk, lk, rfl⟩ (va_cons (ve_frz 3) va_nil)))))), wp_scrolls_in hg⟩
theorem D_scrolls_in (W : Wd K mg) : Df P w K mg base "scrolls_in" 3 W.f_scrolls_in W.d_scrolls_in ["lengths", "scrolls", "turns"] 3 false g_scrolls_in := ⟨ok_scrolls_in W, W.m_scrolls_in, W.k_scrolls_in⟩
theorem ok_scrolls_after (W : Wd K mg) : FnG P w K mg base (L2N.CX P w) 4 W.f_scrolls_after W.d_scrolls_after ["lengths", "scrolls", "turns"] (Low K 3 false (g_scrolls_after W.ca)) := by
  refine fn3 W.F_scrolls_after sc_scrolls_after rfl fun cdv A outer s F0 H G vs E ts Q R hr gd hl hg tk lk => ?_
  exact ⟨wb_scrolls_after W.ca (fun a ρ => R a (ioR false ρ)), (vb_cut (vs_expr (ve_call (D_check_lengths W) (bnd_of (np := 1) (ks := []) (ix := [0]) W.F_check_lengths fun _ _ _ _ _ _ us ws h1 h2 => match us, ws, h1, h2 with | [_], [], _, _ => rfl) (hr.mono (by decide)) ⟨gd, tk, lk, rfl⟩ (va_cons (ve_var 0) va_nil)))
      (vb_cut (vs_expr (ve_call (D_check_scrolls W) (bnd_of (np := 2) (ks := []) (ix := [0, 1]) W.F_check_scrolls fun _ _ _ _ _ _ us ws h1 h2 => match us, ws, h1, h2 with | [_, _], [], _, _ => rfl) (hr.mono (by decide)) ⟨gd, tk, lk, rfl⟩ (va_cons (ve_var 0) (va_cons (ve_var 1) va_nil))))
      (vb_cut (vs_expr (ve_call (D_check_turns W) (bnd_of (np := 1) (ks := []) (ix := [0]) W.F_check_turns fun _ _ _ _ _ _ us ws h1 h2 => match us, ws, h1, h2 with | [_], [], _, _ => rfl) (hr.mono (by decide)) ⟨gd, tk, lk, rfl⟩ (va_cons (ve_var 2) va_nil)))
      (vb_one (vs_ret (ve_call (D_scrolls_in W) (bnd_of (np := 3) (ks := []) (ix := [0, 1, 2]) W.F_scrolls_in fun _ _ _ _ _ _ us ws h1 h2 => match us, ws, h1, h2 with | [_, _, _], [], _, _ => rfl) (hr.mono (by decide)) ⟨gd, tk, lk, rfl⟩ (va_cons (ve_var 0) (va_cons (ve_var 1) (va_cons (ve_var 2) va_nil))))))))), wp_scrolls_after hg⟩
theorem D_scrolls_after (W : Wd K mg) : Df P w K mg base "scrolls_after" 4 W.f_scrolls_after W.d_scrolls_after ["lengths", "scrolls", "turns"] 3 false (g_scrolls_after W.ca) := ⟨ok_scrolls_after W, W.m_scrolls_after, W.k_scrolls_after⟩
theorem ok_l_caught (W : Wd K mg) : FnG P w K mg base (L2N.CX P w) 5 W.f_l_caught W.d_l_caught ["_law_sizes", "_law_places", "_law_spins"] (Low K 3 false g_l_caught) := by
  refine fn30 W.F_l_caught sc_l_caught rfl fun cdv A outer s F0 H G vs E ts Q R hr gd hl hg tk lk => ?_
  exact ⟨wb_l_caught W.ca, (vb0_cons (vs0_of (vs_set 3 sc_l_caught.nd (ve_lst va_nil)))
      (vb0_cons (vs0_tryAs (cl := clE W.ca) (i := 4) rfl rfl sc_l_caught.nd rfl rfl ⟨rfl, by decide +kernel, .inl W.mx_ScrollError⟩ W.exE_ScrollError (fun _ R2 _ _ tk2 po2 lk2 => (vb_one (vs_expr (ve_call (D_scrolls_after W) (bnd_of (np := 3) (ks := []) (ix := [0, 1, 2]) W.F_scrolls_after fun _ _ _ _ _ _ us ws h1 h2 => match us, ws, h1, h2 with | [_, _, _], [], _, _ => rfl) (hr.mono (by decide)) ⟨gd, tk2, lk2, rfl⟩ (va_cons (ve_var 0) (va_cons (ve_var 1) (va_cons (ve_var 2) va_nil))))))) (fun a oe nn D pn hn zn fl => (vb_one (vs_set 3 sc_l_caught.nd (ve_askX 4 (okX_l_marks W) W.m_l_marks W.k_l_marks (roomX (hr.mono (by decide))) gd (hot1_of zn fl) List.mem_cons_self hn zn fl (bnd_of (np := 1) (ks := []) (ix := [0]) W.F_l_marks fun _ _ _ _ _ _ us ws h1 h2 => match us, ws, h1, h2 with | [_], [], _, _ => rfl))))) (by first | exact .inl rfl | exact .inr (by decide)))
      (vb0_one (vs0_of (vs_ret (ve_move 3)))))), wp_l_caught hg⟩
theorem D_l_caught (W : Wd K mg) : Df P w K mg base "_law_caught" 5 W.f_l_caught W.d_l_caught ["_law_sizes", "_law_places", "_law_spins"] 3 false g_l_caught := ⟨ok_l_caught W, W.m_l_caught, W.k_l_caught⟩
theorem ok_l_right (W : Wd K mg) : FnG P w K mg base (L2N.CX P w) 6 W.f_l_right W.d_l_right ["_law_message"] (Low K 1 false g_l_right) := by
  refine fn3 W.F_l_right sc_l_right rfl fun cdv A outer s F0 H G vs E ts Q R hr gd hl hg tk lk => ?_
  exact ⟨wb_l_right W.ca (fun a ρ => R a (ioR false ρ)), (vb_cut (vs_set 1 sc_l_right.nd (ve_lst va_nil))
      (vb_cut (vs_set 1 sc_l_right.nd (ve_op op_addA o2_add (ve_frz 1) (ve_lst (va_cons (ve_mkExc F.excBase_ValueError W.xq_EmptyHistoryError W.mx_EmptyHistoryError W.kp_EmptyHistoryError (ve_var 0)) (va_cons (ve_mkExc F.excBase_ValueError W.xq_InvalidAreaError W.mx_InvalidAreaError W.kp_InvalidAreaError (ve_var 0)) (va_cons (ve_mkExc F.excBase_ValueError W.xq_InvalidEffectError W.mx_InvalidEffectError W.kp_InvalidEffectError (ve_var 0)) va_nil))))))
      (vb_cut (vs_set 1 sc_l_right.nd (ve_op op_addA o2_add (ve_frz 1) (ve_lst (va_cons (ve_mkExc F.excBase_ValueError W.xq_InvalidFormError W.mx_InvalidFormError W.kp_InvalidFormError (ve_var 0)) (va_cons (ve_mkExc F.excBase_ValueError W.xq_InvalidFormatError W.mx_InvalidFormatError W.kp_InvalidFormatError (ve_var 0)) (va_cons (ve_mkExc F.excBase_ValueError W.xq_InvalidLengthsError W.mx_InvalidLengthsError W.kp_InvalidLengthsError (ve_var 0)) va_nil))))))
      (vb_cut (vs_set 1 sc_l_right.nd (ve_op op_addA o2_add (ve_frz 1) (ve_lst (va_cons (ve_mkExc F.excBase_ValueError W.xq_InvalidLocksError W.mx_InvalidLocksError W.kp_InvalidLocksError (ve_var 0)) (va_cons (ve_mkExc F.excBase_ValueError W.xq_InvalidNumberError W.mx_InvalidNumberError W.kp_InvalidNumberError (ve_var 0)) (va_cons (ve_mkExc F.excBase_ValueError W.xq_InvalidScrollsError W.mx_InvalidScrollsError W.kp_InvalidScrollsError (ve_var 0)) va_nil))))))
      (vb_cut (vs_set 1 sc_l_right.nd (ve_op op_addA o2_add (ve_frz 1) (ve_lst (va_cons (ve_mkExc F.excBase_ValueError W.xq_InvalidTurnError W.mx_InvalidTurnError W.kp_InvalidTurnError (ve_var 0)) (va_cons (ve_mkExc F.excBase_ValueError W.xq_InvalidTurnsError W.mx_InvalidTurnsError W.kp_InvalidTurnsError (ve_var 0)) (va_cons (ve_mkExc F.excBase_ValueError W.xq_LockedError W.mx_LockedError W.kp_LockedError (ve_var 0)) va_nil))))))
      (vb_cons (vs_for PassesOwn.leaving rfl (vi_range1 W.z_range (va_cons ve_int va_nil)) (vg_name 2 sc_l_right.nd) (vb_cons (vs_if (vt_cmp (op_neA hr.units) o2_ne (ve_call (D_l_marks W) (bnd_of (np := 1) (ks := []) (ix := [0]) W.F_l_marks fun _ _ _ _ _ _ us ws h1 h2 => match us, ws, h1, h2 with | [_], [], _, _ => rfl) (hr.mono (by decide)) ⟨gd, tk, lk, rfl⟩ (va_cons (ve_ix (ve_frz 1) (ve_var 2)) va_nil)) (ve_lc (ow := [("_law_j", 5)]) rfl sc_l_right.nd (vi_range1 W.z_range (va_cons ve_int va_nil)) (blk_mk (N := ["_law_message", "_law_some", "_law_k", "_law_due", "_law_place", "_law_j"]) (sc := defScope s_l_right) (by decide +kernel)) (fun _ _ _ _ _ => (vg_name 5 sc_l_right.nd)) (fun _ _ _ _ _ => vts_nil) (fun _ _ _ _ _ => (ve_cmp (op_eqA hr.units) o2_eq (ve_var 5) (ve_var 2))))) (vb_one (vs_ret ve_bl)) vb_nil)
      (vb_one (vs_if (vt_w (vw_or (vt_not (vt_val (ve_callB call_isC (oA_isC1 (cl := clE W.ca) (ans := fun nn => true) W.kx_ScrollError W.xcE) W.z_isinstance (va_cons (ve_ix (ve_frz 1) (ve_var 2)) (va_cons (ve_cls W.mx_ScrollError) va_nil))))) (vw_or1 (vt_not (vt_val (ve_callB call_isC (oA_isCt (cl := clE W.ca) (ans := fun nn => true) W.kx_ValueError W.xcE) W.z_isinstance (va_cons (ve_ix (ve_frz 1) (ve_var 2)) (va_cons (ve_bval (v := .ty "ValueError") (u := .type "ValueError") rfl W.z_ValueError (by decide +kernel) (ty_V _)) va_nil)))))))) (vb_one (vs_ret ve_bl)) vb_nil))))
      (vb_cut (vs_if (vt_cmp op_in_seq o2_inB ve_bl (ve_call (D_l_marks W) (bnd_of (np := 1) (ks := []) (ix := [0]) W.F_l_marks fun _ _ _ _ _ _ us ws h1 h2 => match us, ws, h1, h2 with | [_], [], _, _ => rfl) (hr.mono (by decide)) ⟨gd, tk, lk, rfl⟩ (va_cons (ve_mkExc F.excBase_ValueError W.xq_ScrollError W.mx_ScrollError W.kp_ScrollError (ve_var 0)) va_nil))) (vb_one (vs_ret ve_bl)) vb_nil)
      (vb_cut (vs_setLc 3 (ow := [("_law_place", 4)]) rfl sc_l_right.nd (vi_list (ve_lst (va_cons ve_int (va_cons ve_int (va_cons ve_int va_nil))))) (blk_mk (N := ["_law_message", "_law_some", "_law_k", "_law_due", "_law_place", "_law_j"]) (sc := defScope s_l_right) (by decide +kernel)) (fun _ _ _ _ _ => (vg_name 4 sc_l_right.nd)) (fun _ _ _ _ _ => vts_nil) (fun _ _ _ _ _ => (ve_lc (ow := [("_law_j", 5)]) rfl sc_l_right.nd (vi_range1 W.z_range (va_cons ve_int va_nil)) (blk_mk (N := ["_law_message", "_law_some", "_law_k", "_law_due", "_law_place", "_law_j"]) (sc := relS _ (defScope s_l_right)) (by decide +kernel)) (fun _ _ _ _ _ => (vg_name 5 sc_l_right.nd)) (fun _ _ _ _ _ => vts_nil) (fun _ _ _ _ _ => (ve_cmp (op_eqA hr.units) o2_eq (ve_var 5) (ve_var 4))))))
      (vb_one (vs_ret (ve_cmp (op_eqA hr.units) o2_eq (ve_lst (va_cons (ve_call (D_l_caught W) (bnd_of (np := 3) (ks := []) (ix := [0, 1, 2]) W.F_l_caught fun _ _ _ _ _ _ us ws h1 h2 => match us, ws, h1, h2 with | [_, _, _], [], _, _ => rfl) (hr.mono (by decide)) ⟨gd, tk, lk, rfl⟩ (va_cons (ve_lst va_nil) (va_cons ve_non (va_cons ve_non va_nil)))) (va_cons (ve_call (D_l_caught W) (bnd_of (np := 3) (ks := []) (ix := [0, 1, 2]) W.F_l_caught fun _ _ _ _ _ _ us ws h1 h2 => match us, ws, h1, h2 with | [_, _, _], [], _, _ => rfl) (hr.mono (by decide)) ⟨gd, tk, lk, rfl⟩ (va_cons (ve_lst (va_cons ve_int va_nil)) (va_cons (ve_lst (va_cons ve_int va_nil)) (va_cons ve_non va_nil)))) (va_cons (ve_call (D_l_caught W) (bnd_of (np := 3) (ks := []) (ix := [0, 1, 2]) W.F_l_caught fun _ _ _ _ _ _ us ws h1 h2 => match us, ws, h1, h2 with | [_, _, _], [], _, _ => rfl) (hr.mono (by decide)) ⟨gd, tk, lk, rfl⟩ (va_cons (ve_lst (va_cons ve_int va_nil)) (va_cons (ve_lst (va_cons ve_int va_nil)) (va_cons (ve_lst (va_cons ve_bl va_nil)) va_nil)))) va_nil)))) (ve_frz 3)))))))))))), wp_l_right hg⟩
theorem D_l_right (W : Wd K mg) : Df P w K mg base "_law_right" 6 W.f_l_right W.d_l_right ["_law_message"] 1 false g_l_right := ⟨ok_l_right W, W.m_l_right, W.k_l_right⟩
theorem ok_law (W : Wd K mg) : FnG P w K mg base (L2N.CX P w) 7 W.f_law W.d_law ["_law_script"] (Low K 1 false g_law) := by
  refine fn3 W.F_law sc_law rfl fun cdv A outer s F0 H G vs E ts Q R hr gd hl hg tk lk => ?_
  exact ⟨wb_law (fun a ρ => R a (ioR false ρ)), (vb_cut (vs_set 1 sc_law.nd (ve_op op_addA o2_add (ve_slice (ve_var 0) vo_none (vo_some ve_int)) (ve_op op_mulA o2_mul (ve_lst (va_cons ve_int va_nil)) (ve_callTy call_int1 oA_int W.z_int (va_cons (ve_cmp (op_eqA hr.units) o2_eq (ve_var 0) (ve_lst va_nil)) va_nil)))))
      (vb_cons (vs_for PassesOwn.leaving rfl (vi_range1 W.z_range (va_cons (ve_callB call_len oA_len W.z_len (va_cons (ve_frz 1) va_nil)) va_nil)) (vg_name 2 sc_law.nd) (vb_cons (vs_set 3 sc_law.nd (ve_call (D_l_bag W) (bnd_of (np := 2) (ks := []) (ix := [0, 1]) W.F_l_bag fun _ _ _ _ _ _ us ws h1 h2 => match us, ws, h1, h2 with | [_, _], [], _, _ => rfl) (hr.mono (by decide)) ⟨gd, tk, lk, rfl⟩ (va_cons (ve_ix (ve_frz 1) (ve_var 2)) (va_cons (ve_var 2) va_nil))))
      (vb_one (vs_if (vt_not (vt_val (ve_call (D_l_right W) (bnd_of (np := 1) (ks := []) (ix := [0]) W.F_l_right fun _ _ _ _ _ _ us ws h1 h2 => match us, ws, h1, h2 with | [_], [], _, _ => rfl) (hr.mono (by decide)) ⟨gd, tk, lk, rfl⟩ (va_cons (ve_op op_mulS o2_mulS (ve_ix ve_str (ve_callIo (D_l_draw W) (bnd_of (np := 2) (ks := []) (ix := List.range 2) W.F_l_draw fun _ _ _ _ _ _ us ws h1 h2 => match us, ws, h1, h2 with | [_, _], [], _, _ => rfl) (hr.mono (by decide)) ⟨gd, tk, lk, rfl⟩ (va_cons ve_int va_nil) (i := 3))) (ve_callIo (D_l_draw W) (bnd_of (np := 2) (ks := []) (ix := List.range 2) W.F_l_draw fun _ _ _ _ _ _ us ws h1 h2 => match us, ws, h1, h2 with | [_, _], [], _, _ => rfl) (hr.mono (by decide)) ⟨gd, tk, lk, rfl⟩ (va_cons ve_int va_nil) (i := 3))) va_nil)))) (vb_one (vs_ret ve_bl)) vb_nil))))
      (vb_one (vs_ret ve_bl)))), wp_law hg⟩
theorem D_law (W : Wd K mg) : Df P w K mg base "law" 7 W.f_law W.d_law ["_law_script"] 1 false g_law := ⟨ok_law W, W.m_law, W.k_law⟩
end
theorem want_law {ns : List Int} (hl : ns.length ≤ 63) : g_law [.lst false (ns.map .int)] (fun t _ => t = .bl true) (fun _ _ => False) := ⟨ns, rfl, hl, rfl⟩
theorem all_mk {l : PySem.W.OpenLaw} {w : World} {K : PySem.W.Frag} {h : Heap} {mg : Str → Option Value} {fa : Addr} (X : K.In h) (G : h.Ns mainGlobals mg) (hfa : mg "law" = some (.ref fa))
    {CScrollError : Addr} (aCScrollError : PySem.W.nsIn K mainGlobals "ScrollError" = some (some (.ref CScrollError)))
     (kCScrollError : PySem.W.keepIn K (.ref CScrollError) = true)
    {CInvalidLengthsError : Addr} (aCInvalidLengthsError : PySem.W.nsIn K mainGlobals "InvalidLengthsError" = some (some (.ref CInvalidLengthsError)))
     (kCInvalidLengthsError : PySem.W.keepIn K (.ref CInvalidLengthsError) = true)
    {CInvalidScrollsError : Addr} (aCInvalidScrollsError : PySem.W.nsIn K mainGlobals "InvalidScrollsError" = some (some (.ref CInvalidScrollsError)))
     (kCInvalidScrollsError : PySem.W.keepIn K (.ref CInvalidScrollsError) = true)
    {CInvalidTurnError : Addr} (aCInvalidTurnError : PySem.W.nsIn K mainGlobals "InvalidTurnError" = some (some (.ref CInvalidTurnError)))
     (kCInvalidTurnError : PySem.W.keepIn K (.ref CInvalidTurnError) = true)
    {CInvalidTurnsError : Addr} (aCInvalidTurnsError : PySem.W.nsIn K mainGlobals "InvalidTurnsError" = some (some (.ref CInvalidTurnsError)))
     (kCInvalidTurnsError : PySem.W.keepIn K (.ref CInvalidTurnsError) = true)
    {CInvalidNumberError : Addr} (aCInvalidNumberError : PySem.W.nsIn K mainGlobals "InvalidNumberError" = some (some (.ref CInvalidNumberError)))
     (kCInvalidNumberError : PySem.W.keepIn K (.ref CInvalidNumberError) = true)
    {CInvalidAreaError : Addr} (aCInvalidAreaError : PySem.W.nsIn K mainGlobals "InvalidAreaError" = some (some (.ref CInvalidAreaError)))
     (kCInvalidAreaError : PySem.W.keepIn K (.ref CInvalidAreaError) = true)
    {CInvalidEffectError : Addr} (aCInvalidEffectError : PySem.W.nsIn K mainGlobals "InvalidEffectError" = some (some (.ref CInvalidEffectError)))
     (kCInvalidEffectError : PySem.W.keepIn K (.ref CInvalidEffectError) = true)
    {CInvalidFormError : Addr} (aCInvalidFormError : PySem.W.nsIn K mainGlobals "InvalidFormError" = some (some (.ref CInvalidFormError)))
     (kCInvalidFormError : PySem.W.keepIn K (.ref CInvalidFormError) = true)
    {CInvalidLocksError : Addr} (aCInvalidLocksError : PySem.W.nsIn K mainGlobals "InvalidLocksError" = some (some (.ref CInvalidLocksError)))
     (kCInvalidLocksError : PySem.W.keepIn K (.ref CInvalidLocksError) = true)
    {CInvalidFormatError : Addr} (aCInvalidFormatError : PySem.W.nsIn K mainGlobals "InvalidFormatError" = some (some (.ref CInvalidFormatError)))
     (kCInvalidFormatError : PySem.W.keepIn K (.ref CInvalidFormatError) = true)
    {CLockedError : Addr} (aCLockedError : PySem.W.nsIn K mainGlobals "LockedError" = some (some (.ref CLockedError)))
     (kCLockedError : PySem.W.keepIn K (.ref CLockedError) = true)
    {CEmptyHistoryError : Addr} (aCEmptyHistoryError : PySem.W.nsIn K mainGlobals "EmptyHistoryError" = some (some (.ref CEmptyHistoryError)))
     (kCEmptyHistoryError : PySem.W.keepIn K (.ref CEmptyHistoryError) = true)
     (xScrollError : PySem.W.excIn K CScrollError [.type "ValueError", .type "Exception", .type "BaseException", .type "object"] "ValueError.__new__" = true)
     (bScrollError : PySem.W.subIn K (.ref CScrollError) (.type "BaseException") = some true)
     (tScrollError : PySem.W.typeIn K (.ref CScrollError) = some (.type "type"))
     (jScrollError : PySem.W.isClsIn K CScrollError = true)
     (eScrollError_ScrollError : PySem.W.subIn K (.ref CScrollError) (.ref CScrollError) = some true)
     (xInvalidLengthsError : PySem.W.excIn K CInvalidLengthsError [.type "ValueError", .type "Exception", .type "BaseException", .type "object"] "ValueError.__new__" = true)
     (bInvalidLengthsError : PySem.W.subIn K (.ref CInvalidLengthsError) (.type "BaseException") = some true)
     (tInvalidLengthsError : PySem.W.typeIn K (.ref CInvalidLengthsError) = some (.type "type"))
     (eInvalidLengthsError_ScrollError : PySem.W.subIn K (.ref CInvalidLengthsError) (.ref CScrollError) = some true)
     (xInvalidScrollsError : PySem.W.excIn K CInvalidScrollsError [.type "ValueError", .type "Exception", .type "BaseException", .type "object"] "ValueError.__new__" = true)
     (bInvalidScrollsError : PySem.W.subIn K (.ref CInvalidScrollsError) (.type "BaseException") = some true)
     (tInvalidScrollsError : PySem.W.typeIn K (.ref CInvalidScrollsError) = some (.type "type"))
     (eInvalidScrollsError_ScrollError : PySem.W.subIn K (.ref CInvalidScrollsError) (.ref CScrollError) = some true)
     (xInvalidTurnError : PySem.W.excIn K CInvalidTurnError [.type "ValueError", .type "Exception", .type "BaseException", .type "object"] "ValueError.__new__" = true)
     (bInvalidTurnError : PySem.W.subIn K (.ref CInvalidTurnError) (.type "BaseException") = some true)
     (tInvalidTurnError : PySem.W.typeIn K (.ref CInvalidTurnError) = some (.type "type"))
     (eInvalidTurnError_ScrollError : PySem.W.subIn K (.ref CInvalidTurnError) (.ref CScrollError) = some true)
     (xInvalidTurnsError : PySem.W.excIn K CInvalidTurnsError [.type "ValueError", .type "Exception", .type "BaseException", .type "object"] "ValueError.__new__" = true)
     (bInvalidTurnsError : PySem.W.subIn K (.ref CInvalidTurnsError) (.type "BaseException") = some true)
     (tInvalidTurnsError : PySem.W.typeIn K (.ref CInvalidTurnsError) = some (.type "type"))
     (eInvalidTurnsError_ScrollError : PySem.W.subIn K (.ref CInvalidTurnsError) (.ref CScrollError) = some true)
     (xInvalidNumberError : PySem.W.excIn K CInvalidNumberError [.type "ValueError", .type "Exception", .type "BaseException", .type "object"] "ValueError.__new__" = true)
     (bInvalidNumberError : PySem.W.subIn K (.ref CInvalidNumberError) (.type "BaseException") = some true)
     (tInvalidNumberError : PySem.W.typeIn K (.ref CInvalidNumberError) = some (.type "type"))
     (eInvalidNumberError_ScrollError : PySem.W.subIn K (.ref CInvalidNumberError) (.ref CScrollError) = some true)
     (xInvalidAreaError : PySem.W.excIn K CInvalidAreaError [.type "ValueError", .type "Exception", .type "BaseException", .type "object"] "ValueError.__new__" = true)
     (bInvalidAreaError : PySem.W.subIn K (.ref CInvalidAreaError) (.type "BaseException") = some true)
     (tInvalidAreaError : PySem.W.typeIn K (.ref CInvalidAreaError) = some (.type "type"))
     (eInvalidAreaError_ScrollError : PySem.W.subIn K (.ref CInvalidAreaError) (.ref CScrollError) = some true)
     (xInvalidEffectError : PySem.W.excIn K CInvalidEffectError [.type "ValueError", .type "Exception", .type "BaseException", .type "object"] "ValueError.__new__" = true)
     (bInvalidEffectError : PySem.W.subIn K (.ref CInvalidEffectError) (.type "BaseException") = some true)
     (tInvalidEffectError : PySem.W.typeIn K (.ref CInvalidEffectError) = some (.type "type"))
     (eInvalidEffectError_ScrollError : PySem.W.subIn K (.ref CInvalidEffectError) (.ref CScrollError) = some true)
     (xInvalidFormError : PySem.W.excIn K CInvalidFormError [.type "ValueError", .type "Exception", .type "BaseException", .type "object"] "ValueError.__new__" = true)
     (bInvalidFormError : PySem.W.subIn K (.ref CInvalidFormError) (.type "BaseException") = some true)
     (tInvalidFormError : PySem.W.typeIn K (.ref CInvalidFormError) = some (.type "type"))
     (eInvalidFormError_ScrollError : PySem.W.subIn K (.ref CInvalidFormError) (.ref CScrollError) = some true)
     (xInvalidLocksError : PySem.W.excIn K CInvalidLocksError [.type "ValueError", .type "Exception", .type "BaseException", .type "object"] "ValueError.__new__" = true)
     (bInvalidLocksError : PySem.W.subIn K (.ref CInvalidLocksError) (.type "BaseException") = some true)
     (tInvalidLocksError : PySem.W.typeIn K (.ref CInvalidLocksError) = some (.type "type"))
     (eInvalidLocksError_ScrollError : PySem.W.subIn K (.ref CInvalidLocksError) (.ref CScrollError) = some true)
     (xInvalidFormatError : PySem.W.excIn K CInvalidFormatError [.type "ValueError", .type "Exception", .type "BaseException", .type "object"] "ValueError.__new__" = true)
     (bInvalidFormatError : PySem.W.subIn K (.ref CInvalidFormatError) (.type "BaseException") = some true)
     (tInvalidFormatError : PySem.W.typeIn K (.ref CInvalidFormatError) = some (.type "type"))
     (eInvalidFormatError_ScrollError : PySem.W.subIn K (.ref CInvalidFormatError) (.ref CScrollError) = some true)
     (xLockedError : PySem.W.excIn K CLockedError [.type "ValueError", .type "Exception", .type "BaseException", .type "object"] "ValueError.__new__" = true)
     (bLockedError : PySem.W.subIn K (.ref CLockedError) (.type "BaseException") = some true)
     (tLockedError : PySem.W.typeIn K (.ref CLockedError) = some (.type "type"))
     (eLockedError_ScrollError : PySem.W.subIn K (.ref CLockedError) (.ref CScrollError) = some true)
     (xEmptyHistoryError : PySem.W.excIn K CEmptyHistoryError [.type "ValueError", .type "Exception", .type "BaseException", .type "object"] "ValueError.__new__" = true)
     (bEmptyHistoryError : PySem.W.subIn K (.ref CEmptyHistoryError) (.type "BaseException") = some true)
     (tEmptyHistoryError : PySem.W.typeIn K (.ref CEmptyHistoryError) = some (.type "type"))
     (eEmptyHistoryError_ScrollError : PySem.W.subIn K (.ref CEmptyHistoryError) (.ref CScrollError) = some true)
     (xcn : PySem.W.specialIn K (.builtin "object.__class__") "__get__" = some (some (.builtin "getset_descriptor.__get__")))
     (xct : PySem.W.takesIn K (.builtin "object.__class__") = some true)
     (xgScrollError : PySem.W.findIn K (.ref CScrollError) "__getattribute__" = some (some (.builtin "BaseException.__getattribute__")))
     (xkScrollError : PySem.W.findIn K (.ref CScrollError) "__getattr__" = some none)
     (xdScrollError : PySem.W.hasDictIn K CScrollError = true)
     (xaScrollError : PySem.W.findIn K (.ref CScrollError) "__class__" = some (some (.builtin "object.__class__")))
     (xmScrollError : PySem.W.mroIn K CScrollError (.type "object") = some true)
     (xiScrollError_EmptyHistoryError : PySem.W.kitOne K (.ref CScrollError) (.ref CEmptyHistoryError) = some false)
     (xiScrollError_InvalidAreaError : PySem.W.kitOne K (.ref CScrollError) (.ref CInvalidAreaError) = some false)
     (xiScrollError_InvalidEffectError : PySem.W.kitOne K (.ref CScrollError) (.ref CInvalidEffectError) = some false)
     (xiScrollError_InvalidFormError : PySem.W.kitOne K (.ref CScrollError) (.ref CInvalidFormError) = some false)
     (xiScrollError_InvalidFormatError : PySem.W.kitOne K (.ref CScrollError) (.ref CInvalidFormatError) = some false)
     (xiScrollError_InvalidLengthsError : PySem.W.kitOne K (.ref CScrollError) (.ref CInvalidLengthsError) = some false)
     (xiScrollError_InvalidLocksError : PySem.W.kitOne K (.ref CScrollError) (.ref CInvalidLocksError) = some false)
     (xiScrollError_InvalidNumberError : PySem.W.kitOne K (.ref CScrollError) (.ref CInvalidNumberError) = some false)
     (xiScrollError_InvalidScrollsError : PySem.W.kitOne K (.ref CScrollError) (.ref CInvalidScrollsError) = some false)
     (xiScrollError_InvalidTurnError : PySem.W.kitOne K (.ref CScrollError) (.ref CInvalidTurnError) = some false)
     (xiScrollError_InvalidTurnsError : PySem.W.kitOne K (.ref CScrollError) (.ref CInvalidTurnsError) = some false)
     (xiScrollError_LockedError : PySem.W.kitOne K (.ref CScrollError) (.ref CLockedError) = some false)
     (xiScrollError_ScrollError : PySem.W.kitOne K (.ref CScrollError) (.ref CScrollError) = some true)
     (xiScrollError_ValueError : PySem.W.kitOne K (.ref CScrollError) (.type "ValueError") = some true)
     (xgInvalidLengthsError : PySem.W.findIn K (.ref CInvalidLengthsError) "__getattribute__" = some (some (.builtin "BaseException.__getattribute__")))
     (xkInvalidLengthsError : PySem.W.findIn K (.ref CInvalidLengthsError) "__getattr__" = some none)
     (xdInvalidLengthsError : PySem.W.hasDictIn K CInvalidLengthsError = true)
     (xaInvalidLengthsError : PySem.W.findIn K (.ref CInvalidLengthsError) "__class__" = some (some (.builtin "object.__class__")))
     (xmInvalidLengthsError : PySem.W.mroIn K CInvalidLengthsError (.type "object") = some true)
     (xiInvalidLengthsError_EmptyHistoryError : PySem.W.kitOne K (.ref CInvalidLengthsError) (.ref CEmptyHistoryError) = some false)
     (xiInvalidLengthsError_InvalidAreaError : PySem.W.kitOne K (.ref CInvalidLengthsError) (.ref CInvalidAreaError) = some false)
     (xiInvalidLengthsError_InvalidEffectError : PySem.W.kitOne K (.ref CInvalidLengthsError) (.ref CInvalidEffectError) = some false)
     (xiInvalidLengthsError_InvalidFormError : PySem.W.kitOne K (.ref CInvalidLengthsError) (.ref CInvalidFormError) = some false)
     (xiInvalidLengthsError_InvalidFormatError : PySem.W.kitOne K (.ref CInvalidLengthsError) (.ref CInvalidFormatError) = some false)
     (xiInvalidLengthsError_InvalidLengthsError : PySem.W.kitOne K (.ref CInvalidLengthsError) (.ref CInvalidLengthsError) = some true)
     (xiInvalidLengthsError_InvalidLocksError : PySem.W.kitOne K (.ref CInvalidLengthsError) (.ref CInvalidLocksError) = some false)
     (xiInvalidLengthsError_InvalidNumberError : PySem.W.kitOne K (.ref CInvalidLengthsError) (.ref CInvalidNumberError) = some false)
     (xiInvalidLengthsError_InvalidScrollsError : PySem.W.kitOne K (.ref CInvalidLengthsError) (.ref CInvalidScrollsError) = some false)
     (xiInvalidLengthsError_InvalidTurnError : PySem.W.kitOne K (.ref CInvalidLengthsError) (.ref CInvalidTurnError) = some false)
     (xiInvalidLengthsError_InvalidTurnsError : PySem.W.kitOne K (.ref CInvalidLengthsError) (.ref CInvalidTurnsError) = some false)
     (xiInvalidLengthsError_LockedError : PySem.W.kitOne K (.ref CInvalidLengthsError) (.ref CLockedError) = some false)
     (xiInvalidLengthsError_ScrollError : PySem.W.kitOne K (.ref CInvalidLengthsError) (.ref CScrollError) = some true)
     (xiInvalidLengthsError_ValueError : PySem.W.kitOne K (.ref CInvalidLengthsError) (.type "ValueError") = some true)
     (xgInvalidScrollsError : PySem.W.findIn K (.ref CInvalidScrollsError) "__getattribute__" = some (some (.builtin "BaseException.__getattribute__")))
     (xkInvalidScrollsError : PySem.W.findIn K (.ref CInvalidScrollsError) "__getattr__" = some none)
     (xdInvalidScrollsError : PySem.W.hasDictIn K CInvalidScrollsError = true)
     (xaInvalidScrollsError : PySem.W.findIn K (.ref CInvalidScrollsError) "__class__" = some (some (.builtin "object.__class__")))
     (xmInvalidScrollsError : PySem.W.mroIn K CInvalidScrollsError (.type "object") = some true)
     (xiInvalidScrollsError_EmptyHistoryError : PySem.W.kitOne K (.ref CInvalidScrollsError) (.ref CEmptyHistoryError) = some false)
     (xiInvalidScrollsError_InvalidAreaError : PySem.W.kitOne K (.ref CInvalidScrollsError) (.ref CInvalidAreaError) = some false)
     (xiInvalidScrollsError_InvalidEffectError : PySem.W.kitOne K (.ref CInvalidScrollsError) (.ref CInvalidEffectError) = some false)
     (xiInvalidScrollsError_InvalidFormError : PySem.W.kitOne K (.ref CInvalidScrollsError) (.ref CInvalidFormError) = some false)
     (xiInvalidScrollsError_InvalidFormatError : PySem.W.kitOne K (.ref CInvalidScrollsError) (.ref CInvalidFormatError) = some false)
     (xiInvalidScrollsError_InvalidLengthsError : PySem.W.kitOne K (.ref CInvalidScrollsError) (.ref CInvalidLengthsError) = some false)
     (xiInvalidScrollsError_InvalidLocksError : PySem.W.kitOne K (.ref CInvalidScrollsError) (.ref CInvalidLocksError) = some false)
     (xiInvalidScrollsError_InvalidNumberError : PySem.W.kitOne K (.ref CInvalidScrollsError) (.ref CInvalidNumberError) = some false)
     (xiInvalidScrollsError_InvalidScrollsError : PySem.W.kitOne K (.ref CInvalidScrollsError) (.ref CInvalidScrollsError) = some true)
     (xiInvalidScrollsError_InvalidTurnError : PySem.W.kitOne K (.ref CInvalidScrollsError) (.ref CInvalidTurnError) = some false)
     (xiInvalidScrollsError_InvalidTurnsError : PySem.W.kitOne K (.ref CInvalidScrollsError) (.ref CInvalidTurnsError) = some false)
     (xiInvalidScrollsError_LockedError : PySem.W.kitOne K (.ref CInvalidScrollsError) (.ref CLockedError) = some false)
     (xiInvalidScrollsError_ScrollError : PySem.W.kitOne K (.ref CInvalidScrollsError) (.ref CScrollError) = some true)
     (xiInvalidScrollsError_ValueError : PySem.W.kitOne K (.ref CInvalidScrollsError) (.type "ValueError") = some true)
     (xgInvalidTurnError : PySem.W.findIn K (.ref CInvalidTurnError) "__getattribute__" = some (some (.builtin "BaseException.__getattribute__")))
     (xkInvalidTurnError : PySem.W.findIn K (.ref CInvalidTurnError) "__getattr__" = some none)
     (xdInvalidTurnError : PySem.W.hasDictIn K CInvalidTurnError = true)
     (xaInvalidTurnError : PySem.W.findIn K (.ref CInvalidTurnError) "__class__" = some (some (.builtin "object.__class__")))
     (xmInvalidTurnError : PySem.W.mroIn K CInvalidTurnError (.type "object") = some true)
     (xiInvalidTurnError_EmptyHistoryError : PySem.W.kitOne K (.ref CInvalidTurnError) (.ref CEmptyHistoryError) = some false)
     (xiInvalidTurnError_InvalidAreaError : PySem.W.kitOne K (.ref CInvalidTurnError) (.ref CInvalidAreaError) = some false)
     (xiInvalidTurnError_InvalidEffectError : PySem.W.kitOne K (.ref CInvalidTurnError) (.ref CInvalidEffectError) = some false)
     (xiInvalidTurnError_InvalidFormError : PySem.W.kitOne K (.ref CInvalidTurnError) (.ref CInvalidFormError) = some false)
     (xiInvalidTurnError_InvalidFormatError : PySem.W.kitOne K (.ref CInvalidTurnError) (.ref CInvalidFormatError) = some false)
     (xiInvalidTurnError_InvalidLengthsError : PySem.W.kitOne K (.ref CInvalidTurnError) (.ref CInvalidLengthsError) = some false)
     (xiInvalidTurnError_InvalidLocksError : PySem.W.kitOne K (.ref CInvalidTurnError) (.ref CInvalidLocksError) = some false)
     (xiInvalidTurnError_InvalidNumberError : PySem.W.kitOne K (.ref CInvalidTurnError) (.ref CInvalidNumberError) = some false)
     (xiInvalidTurnError_InvalidScrollsError : PySem.W.kitOne K (.ref CInvalidTurnError) (.ref CInvalidScrollsError) = some false)
     (xiInvalidTurnError_InvalidTurnError : PySem.W.kitOne K (.ref CInvalidTurnError) (.ref CInvalidTurnError) = some true)
     (xiInvalidTurnError_InvalidTurnsError : PySem.W.kitOne K (.ref CInvalidTurnError) (.ref CInvalidTurnsError) = some false)
     (xiInvalidTurnError_LockedError : PySem.W.kitOne K (.ref CInvalidTurnError) (.ref CLockedError) = some false)
     (xiInvalidTurnError_ScrollError : PySem.W.kitOne K (.ref CInvalidTurnError) (.ref CScrollError) = some true)
     (xiInvalidTurnError_ValueError : PySem.W.kitOne K (.ref CInvalidTurnError) (.type "ValueError") = some true)
     (xgInvalidTurnsError : PySem.W.findIn K (.ref CInvalidTurnsError) "__getattribute__" = some (some (.builtin "BaseException.__getattribute__")))
     (xkInvalidTurnsError : PySem.W.findIn K (.ref CInvalidTurnsError) "__getattr__" = some none)
     (xdInvalidTurnsError : PySem.W.hasDictIn K CInvalidTurnsError = true)
     (xaInvalidTurnsError : PySem.W.findIn K (.ref CInvalidTurnsError) "__class__" = some (some (.builtin "object.__class__")))
     (xmInvalidTurnsError : PySem.W.mroIn K CInvalidTurnsError (.type "object") = some true)
     (xiInvalidTurnsError_EmptyHistoryError : PySem.W.kitOne K (.ref CInvalidTurnsError) (.ref CEmptyHistoryError) = some false)
     (xiInvalidTurnsError_InvalidAreaError : PySem.W.kitOne K (.ref CInvalidTurnsError) (.ref CInvalidAreaError) = some false)
     (xiInvalidTurnsError_InvalidEffectError : PySem.W.kitOne K (.ref CInvalidTurnsError) (.ref CInvalidEffectError) = some false)
     (xiInvalidTurnsError_InvalidFormError : PySem.W.kitOne K (.ref CInvalidTurnsError) (.ref CInvalidFormError) = some false)
     (xiInvalidTurnsError_InvalidFormatError : PySem.W.kitOne K (.ref CInvalidTurnsError) (.ref CInvalidFormatError) = some false)
     (xiInvalidTurnsError_InvalidLengthsError : PySem.W.kitOne K (.ref CInvalidTurnsError) (.ref CInvalidLengthsError) = some false)
     (xiInvalidTurnsError_InvalidLocksError : PySem.W.kitOne K (.ref CInvalidTurnsError) (.ref CInvalidLocksError) = some false)
     (xiInvalidTurnsError_InvalidNumberError : PySem.W.kitOne K (.ref CInvalidTurnsError) (.ref CInvalidNumberError) = some false)
     (xiInvalidTurnsError_InvalidScrollsError : PySem.W.kitOne K (.ref CInvalidTurnsError) (.ref CInvalidScrollsError) = some false)
     (xiInvalidTurnsError_InvalidTurnError : PySem.W.kitOne K (.ref CInvalidTurnsError) (.ref CInvalidTurnError) = some false)
     (xiInvalidTurnsError_InvalidTurnsError : PySem.W.kitOne K (.ref CInvalidTurnsError) (.ref CInvalidTurnsError) = some true)
     (xiInvalidTurnsError_LockedError : PySem.W.kitOne K (.ref CInvalidTurnsError) (.ref CLockedError) = some false)
     (xiInvalidTurnsError_ScrollError : PySem.W.kitOne K (.ref CInvalidTurnsError) (.ref CScrollError) = some true)
     (xiInvalidTurnsError_ValueError : PySem.W.kitOne K (.ref CInvalidTurnsError) (.type "ValueError") = some true)
     (xgInvalidNumberError : PySem.W.findIn K (.ref CInvalidNumberError) "__getattribute__" = some (some (.builtin "BaseException.__getattribute__")))
     (xkInvalidNumberError : PySem.W.findIn K (.ref CInvalidNumberError) "__getattr__" = some none)
     (xdInvalidNumberError : PySem.W.hasDictIn K CInvalidNumberError = true)
     (xaInvalidNumberError : PySem.W.findIn K (.ref CInvalidNumberError) "__class__" = some (some (.builtin "object.__class__")))
     (xmInvalidNumberError : PySem.W.mroIn K CInvalidNumberError (.type "object") = some true)
     (xiInvalidNumberError_EmptyHistoryError : PySem.W.kitOne K (.ref CInvalidNumberError) (.ref CEmptyHistoryError) = some false)
     (xiInvalidNumberError_InvalidAreaError : PySem.W.kitOne K (.ref CInvalidNumberError) (.ref CInvalidAreaError) = some false)
     (xiInvalidNumberError_InvalidEffectError : PySem.W.kitOne K (.ref CInvalidNumberError) (.ref CInvalidEffectError) = some false)
     (xiInvalidNumberError_InvalidFormError : PySem.W.kitOne K (.ref CInvalidNumberError) (.ref CInvalidFormError) = some false)
     (xiInvalidNumberError_InvalidFormatError : PySem.W.kitOne K (.ref CInvalidNumberError) (.ref CInvalidFormatError) = some false)
     (xiInvalidNumberError_InvalidLengthsError : PySem.W.kitOne K (.ref CInvalidNumberError) (.ref CInvalidLengthsError) = some false)
     (xiInvalidNumberError_InvalidLocksError : PySem.W.kitOne K (.ref CInvalidNumberError) (.ref CInvalidLocksError) = some false)
     (xiInvalidNumberError_InvalidNumberError : PySem.W.kitOne K (.ref CInvalidNumberError) (.ref CInvalidNumberError) = some true)
     (xiInvalidNumberError_InvalidScrollsError : PySem.W.kitOne K (.ref CInvalidNumberError) (.ref CInvalidScrollsError) = some false)
     (xiInvalidNumberError_InvalidTurnError : PySem.W.kitOne K (.ref CInvalidNumberError) (.ref CInvalidTurnError) = some false)
     (xiInvalidNumberError_InvalidTurnsError : PySem.W.kitOne K (.ref CInvalidNumberError) (.ref CInvalidTurnsError) = some false)
     (xiInvalidNumberError_LockedError : PySem.W.kitOne K (.ref CInvalidNumberError) (.ref CLockedError) = some false)
     (xiInvalidNumberError_ScrollError : PySem.W.kitOne K (.ref CInvalidNumberError) (.ref CScrollError) = some true)
     (xiInvalidNumberError_ValueError : PySem.W.kitOne K (.ref CInvalidNumberError) (.type "ValueError") = some true)
     (xgInvalidAreaError : PySem.W.findIn K (.ref CInvalidAreaError) "__getattribute__" = some (some (.builtin "BaseException.__getattribute__")))
     (xkInvalidAreaError : PySem.W.findIn K (.ref CInvalidAreaError) "__getattr__" = some none)
     (xdInvalidAreaError : PySem.W.hasDictIn K CInvalidAreaError = true)
     (xaInvalidAreaError : PySem.W.findIn K (.ref CInvalidAreaError) "__class__" = some (some (.builtin "object.__class__")))
     (xmInvalidAreaError : PySem.W.mroIn K CInvalidAreaError (.type "object") = some true)
     (xiInvalidAreaError_EmptyHistoryError : PySem.W.kitOne K (.ref CInvalidAreaError) (.ref CEmptyHistoryError) = some false)
     (xiInvalidAreaError_InvalidAreaError : PySem.W.kitOne K (.ref CInvalidAreaError) (.ref CInvalidAreaError) = some true)
     (xiInvalidAreaError_InvalidEffectError : PySem.W.kitOne K (.ref CInvalidAreaError) (.ref CInvalidEffectError) = some false)
     (xiInvalidAreaError_InvalidFormError : PySem.W.kitOne K (.ref CInvalidAreaError) (.ref CInvalidFormError) = some false)
     (xiInvalidAreaError_InvalidFormatError : PySem.W.kitOne K (.ref CInvalidAreaError) (.ref CInvalidFormatError) = some false)
     (xiInvalidAreaError_InvalidLengthsError : PySem.W.kitOne K (.ref CInvalidAreaError) (.ref CInvalidLengthsError) = some false)
     (xiInvalidAreaError_InvalidLocksError : PySem.W.kitOne K (.ref CInvalidAreaError) (.ref CInvalidLocksError) = some false)
     (xiInvalidAreaError_InvalidNumberError : PySem.W.kitOne K (.ref CInvalidAreaError) (.ref CInvalidNumberError) = some false)
     (xiInvalidAreaError_InvalidScrollsError : PySem.W.kitOne K (.ref CInvalidAreaError) (.ref CInvalidScrollsError) = some false)
     (xiInvalidAreaError_InvalidTurnError : PySem.W.kitOne K (.ref CInvalidAreaError) (.ref CInvalidTurnError) = some false)
     (xiInvalidAreaError_InvalidTurnsError : PySem.W.kitOne K (.ref CInvalidAreaError) (.ref CInvalidTurnsError) = some false)
     (xiInvalidAreaError_LockedError : PySem.W.kitOne K (.ref CInvalidAreaError) (.ref CLockedError) = some false)
     (xiInvalidAreaError_ScrollError : PySem.W.kitOne K (.ref CInvalidAreaError) (.ref CScrollError) = some true)
     (xiInvalidAreaError_ValueError : PySem.W.kitOne K (.ref CInvalidAreaError) (.type "ValueError") = some true)
     (xgInvalidEffectError : PySem.W.findIn K (.ref CInvalidEffectError) "__getattribute__" = some (some (.builtin "BaseException.__getattribute__")))
     (xkInvalidEffectError : PySem.W.findIn K (.ref CInvalidEffectError) "__getattr__" = some none)
     (xdInvalidEffectError : PySem.W.hasDictIn K CInvalidEffectError = true)
     (xaInvalidEffectError : PySem.W.findIn K (.ref CInvalidEffectError) "__class__" = some (some (.builtin "object.__class__")))
     (xmInvalidEffectError : PySem.W.mroIn K CInvalidEffectError (.type "object") = some true)
     (xiInvalidEffectError_EmptyHistoryError : PySem.W.kitOne K (.ref CInvalidEffectError) (.ref CEmptyHistoryError) = some false)
     (xiInvalidEffectError_InvalidAreaError : PySem.W.kitOne K (.ref CInvalidEffectError) (.ref CInvalidAreaError) = some false)
     (xiInvalidEffectError_InvalidEffectError : PySem.W.kitOne K (.ref CInvalidEffectError) (.ref CInvalidEffectError) = some true)
     (xiInvalidEffectError_InvalidFormError : PySem.W.kitOne K (.ref CInvalidEffectError) (.ref CInvalidFormError) = some false)
     (xiInvalidEffectError_InvalidFormatError : PySem.W.kitOne K (.ref CInvalidEffectError) (.ref CInvalidFormatError) = some false)
     (xiInvalidEffectError_InvalidLengthsError : PySem.W.kitOne K (.ref CInvalidEffectError) (.ref CInvalidLengthsError) = some false)
     (xiInvalidEffectError_InvalidLocksError : PySem.W.kitOne K (.ref CInvalidEffectError) (.ref CInvalidLocksError) = some false)
     (xiInvalidEffectError_InvalidNumberError : PySem.W.kitOne K (.ref CInvalidEffectError) (.ref CInvalidNumberError) = some false)
     (xiInvalidEffectError_InvalidScrollsError : PySem.W.kitOne K (.ref CInvalidEffectError) (.ref CInvalidScrollsError) = some false)
     (xiInvalidEffectError_InvalidTurnError : PySem.W.kitOne K (.ref CInvalidEffectError) (.ref CInvalidTurnError) = some false)
     (xiInvalidEffectError_InvalidTurnsError : PySem.W.kitOne K (.ref CInvalidEffectError) (.ref CInvalidTurnsError) = some false)
     (xiInvalidEffectError_LockedError : PySem.W.kitOne K (.ref CInvalidEffectError) (.ref CLockedError) = some false)
     (xiInvalidEffectError_ScrollError : PySem.W.kitOne K (.ref CInvalidEffectError) (.ref CScrollError) = some true)
     (xiInvalidEffectError_ValueError : PySem.W.kitOne K (.ref CInvalidEffectError) (.type "ValueError") = some true)
     (xgInvalidFormError : PySem.W.findIn K (.ref CInvalidFormError) "__getattribute__" = some (some (.builtin "BaseException.__getattribute__")))
     (xkInvalidFormError : PySem.W.findIn K (.ref CInvalidFormError) "__getattr__" = some none)
     (xdInvalidFormError : PySem.W.hasDictIn K CInvalidFormError = true)
     (xaInvalidFormError : PySem.W.findIn K (.ref CInvalidFormError) "__class__" = some (some (.builtin "object.__class__")))
     (xmInvalidFormError : PySem.W.mroIn K CInvalidFormError (.type "object") = some true)
     (xiInvalidFormError_EmptyHistoryError : PySem.W.kitOne K (.ref CInvalidFormError) (.ref CEmptyHistoryError) = some false)
     (xiInvalidFormError_InvalidAreaError : PySem.W.kitOne K (.ref CInvalidFormError) (.ref CInvalidAreaError) = some false)
     (xiInvalidFormError_InvalidEffectError : PySem.W.kitOne K (.ref CInvalidFormError) (.ref CInvalidEffectError) = some false)
     (xiInvalidFormError_InvalidFormError : PySem.W.kitOne K (.ref CInvalidFormError) (.ref CInvalidFormError) = some true)
     (xiInvalidFormError_InvalidFormatError : PySem.W.kitOne K (.ref CInvalidFormError) (.ref CInvalidFormatError) = some false)
     (xiInvalidFormError_InvalidLengthsError : PySem.W.kitOne K (.ref CInvalidFormError) (.ref CInvalidLengthsError) = some false)
     (xiInvalidFormError_InvalidLocksError : PySem.W.kitOne K (.ref CInvalidFormError) (.ref CInvalidLocksError) = some false)
     (xiInvalidFormError_InvalidNumberError : PySem.W.kitOne K (.ref CInvalidFormError) (.ref CInvalidNumberError) = some false)
     (xiInvalidFormError_InvalidScrollsError : PySem.W.kitOne K (.ref CInvalidFormError) (.ref CInvalidScrollsError) = some false)
     (xiInvalidFormError_InvalidTurnError : PySem.W.kitOne K (.ref CInvalidFormError) (.ref CInvalidTurnError) = some false)
     (xiInvalidFormError_InvalidTurnsError : PySem.W.kitOne K (.ref CInvalidFormError) (.ref CInvalidTurnsError) = some false)
     (xiInvalidFormError_LockedError : PySem.W.kitOne K (.ref CInvalidFormError) (.ref CLockedError) = some false)
     (xiInvalidFormError_ScrollError : PySem.W.kitOne K (.ref CInvalidFormError) (.ref CScrollError) = some true)
     (xiInvalidFormError_ValueError : PySem.W.kitOne K (.ref CInvalidFormError) (.type "ValueError") = some true)
     (xgInvalidLocksError : PySem.W.findIn K (.ref CInvalidLocksError) "__getattribute__" = some (some (.builtin "BaseException.__getattribute__")))
     (xkInvalidLocksError : PySem.W.findIn K (.ref CInvalidLocksError) "__getattr__" = some none)
     (xdInvalidLocksError : PySem.W.hasDictIn K CInvalidLocksError = true)
     (xaInvalidLocksError : PySem.W.findIn K (.ref CInvalidLocksError) "__class__" = some (some (.builtin "object.__class__")))
     (xmInvalidLocksError : PySem.W.mroIn K CInvalidLocksError (.type "object") = some true)
     (xiInvalidLocksError_EmptyHistoryError : PySem.W.kitOne K (.ref CInvalidLocksError) (.ref CEmptyHistoryError) = some false)
     (xiInvalidLocksError_InvalidAreaError : PySem.W.kitOne K (.ref CInvalidLocksError) (.ref CInvalidAreaError) = some false)
     (xiInvalidLocksError_InvalidEffectError : PySem.W.kitOne K (.ref CInvalidLocksError) (.ref CInvalidEffectError) = some false)
     (xiInvalidLocksError_InvalidFormError : PySem.W.kitOne K (.ref CInvalidLocksError) (.ref CInvalidFormError) = some false)
     (xiInvalidLocksError_InvalidFormatError : PySem.W.kitOne K (.ref CInvalidLocksError) (.ref CInvalidFormatError) = some false)
     (xiInvalidLocksError_InvalidLengthsError : PySem.W.kitOne K (.ref CInvalidLocksError) (.ref CInvalidLengthsError) = some false)
     (xiInvalidLocksError_InvalidLocksError : PySem.W.kitOne K (.ref CInvalidLocksError) (.ref CInvalidLocksError) = some true)
     (xiInvalidLocksError_InvalidNumberError : PySem.W.kitOne K (.ref CInvalidLocksError) (.ref CInvalidNumberError) = some false)
     (xiInvalidLocksError_InvalidScrollsError : PySem.W.kitOne K (.ref CInvalidLocksError) (.ref CInvalidScrollsError) = some false)
     (xiInvalidLocksError_InvalidTurnError : PySem.W.kitOne K (.ref CInvalidLocksError) (.ref CInvalidTurnError) = some false)
     (xiInvalidLocksError_InvalidTurnsError : PySem.W.kitOne K (.ref CInvalidLocksError) (.ref CInvalidTurnsError) = some false)
     (xiInvalidLocksError_LockedError : PySem.W.kitOne K (.ref CInvalidLocksError) (.ref CLockedError) = some false)
     (xiInvalidLocksError_ScrollError : PySem.W.kitOne K (.ref CInvalidLocksError) (.ref CScrollError) = some true)
     (xiInvalidLocksError_ValueError : PySem.W.kitOne K (.ref CInvalidLocksError) (.type "ValueError") = some true)
     (xgInvalidFormatError : PySem.W.findIn K (.ref CInvalidFormatError) "__getattribute__" = some (some (.builtin "BaseException.__getattribute__")))
     (xkInvalidFormatError : PySem.W.findIn K (.ref CInvalidFormatError) "__getattr__" = some none)
     (xdInvalidFormatError : PySem.W.hasDictIn K CInvalidFormatError = true)
     (xaInvalidFormatError : PySem.W.findIn K (.ref CInvalidFormatError) "__class__" = some (some (.builtin "object.__class__")))
     (xmInvalidFormatError : PySem.W.mroIn K CInvalidFormatError (.type "object") = some true)
     (xiInvalidFormatError_EmptyHistoryError : PySem.W.kitOne K (.ref CInvalidFormatError) (.ref CEmptyHistoryError) = some false)
     (xiInvalidFormatError_InvalidAreaError : PySem.W.kitOne K (.ref CInvalidFormatError) (.ref CInvalidAreaError) = some false)
     (xiInvalidFormatError_InvalidEffectError : PySem.W.kitOne K (.ref CInvalidFormatError) (.ref CInvalidEffectError) = some false)
     (xiInvalidFormatError_InvalidFormError : PySem.W.kitOne K (.ref CInvalidFormatError) (.ref CInvalidFormError) = some false)
     (xiInvalidFormatError_InvalidFormatError : PySem.W.kitOne K (.ref CInvalidFormatError) (.ref CInvalidFormatError) = some true)
     (xiInvalidFormatError_InvalidLengthsError : PySem.W.kitOne K (.ref CInvalidFormatError) (.ref CInvalidLengthsError) = some false)
     (xiInvalidFormatError_InvalidLocksError : PySem.W.kitOne K (.ref CInvalidFormatError) (.ref CInvalidLocksError) = some false)
     (xiInvalidFormatError_InvalidNumberError : PySem.W.kitOne K (.ref CInvalidFormatError) (.ref CInvalidNumberError) = some false)
     (xiInvalidFormatError_InvalidScrollsError : PySem.W.kitOne K (.ref CInvalidFormatError) (.ref CInvalidScrollsError) = some false)
     (xiInvalidFormatError_InvalidTurnError : PySem.W.kitOne K (.ref CInvalidFormatError) (.ref CInvalidTurnError) = some false)
     (xiInvalidFormatError_InvalidTurnsError : PySem.W.kitOne K (.ref CInvalidFormatError) (.ref CInvalidTurnsError) = some false)
     (xiInvalidFormatError_LockedError : PySem.W.kitOne K (.ref CInvalidFormatError) (.ref CLockedError) = some false)
     (xiInvalidFormatError_ScrollError : PySem.W.kitOne K (.ref CInvalidFormatError) (.ref CScrollError) = some true)
     (xiInvalidFormatError_ValueError : PySem.W.kitOne K (.ref CInvalidFormatError) (.type "ValueError") = some true)
     (xgLockedError : PySem.W.findIn K (.ref CLockedError) "__getattribute__" = some (some (.builtin "BaseException.__getattribute__")))
     (xkLockedError : PySem.W.findIn K (.ref CLockedError) "__getattr__" = some none)
     (xdLockedError : PySem.W.hasDictIn K CLockedError = true)
     (xaLockedError : PySem.W.findIn K (.ref CLockedError) "__class__" = some (some (.builtin "object.__class__")))
     (xmLockedError : PySem.W.mroIn K CLockedError (.type "object") = some true)
     (xiLockedError_EmptyHistoryError : PySem.W.kitOne K (.ref CLockedError) (.ref CEmptyHistoryError) = some false)
     (xiLockedError_InvalidAreaError : PySem.W.kitOne K (.ref CLockedError) (.ref CInvalidAreaError) = some false)
     (xiLockedError_InvalidEffectError : PySem.W.kitOne K (.ref CLockedError) (.ref CInvalidEffectError) = some false)
     (xiLockedError_InvalidFormError : PySem.W.kitOne K (.ref CLockedError) (.ref CInvalidFormError) = some false)
     (xiLockedError_InvalidFormatError : PySem.W.kitOne K (.ref CLockedError) (.ref CInvalidFormatError) = some false)
     (xiLockedError_InvalidLengthsError : PySem.W.kitOne K (.ref CLockedError) (.ref CInvalidLengthsError) = some false)
     (xiLockedError_InvalidLocksError : PySem.W.kitOne K (.ref CLockedError) (.ref CInvalidLocksError) = some false)
     (xiLockedError_InvalidNumberError : PySem.W.kitOne K (.ref CLockedError) (.ref CInvalidNumberError) = some false)
     (xiLockedError_InvalidScrollsError : PySem.W.kitOne K (.ref CLockedError) (.ref CInvalidScrollsError) = some false)
     (xiLockedError_InvalidTurnError : PySem.W.kitOne K (.ref CLockedError) (.ref CInvalidTurnError) = some false)
     (xiLockedError_InvalidTurnsError : PySem.W.kitOne K (.ref CLockedError) (.ref CInvalidTurnsError) = some false)
     (xiLockedError_LockedError : PySem.W.kitOne K (.ref CLockedError) (.ref CLockedError) = some true)
     (xiLockedError_ScrollError : PySem.W.kitOne K (.ref CLockedError) (.ref CScrollError) = some true)
     (xiLockedError_ValueError : PySem.W.kitOne K (.ref CLockedError) (.type "ValueError") = some true)
     (xgEmptyHistoryError : PySem.W.findIn K (.ref CEmptyHistoryError) "__getattribute__" = some (some (.builtin "BaseException.__getattribute__")))
     (xkEmptyHistoryError : PySem.W.findIn K (.ref CEmptyHistoryError) "__getattr__" = some none)
     (xdEmptyHistoryError : PySem.W.hasDictIn K CEmptyHistoryError = true)
     (xaEmptyHistoryError : PySem.W.findIn K (.ref CEmptyHistoryError) "__class__" = some (some (.builtin "object.__class__")))
     (xmEmptyHistoryError : PySem.W.mroIn K CEmptyHistoryError (.type "object") = some true)
     (xiEmptyHistoryError_EmptyHistoryError : PySem.W.kitOne K (.ref CEmptyHistoryError) (.ref CEmptyHistoryError) = some true)
     (xiEmptyHistoryError_InvalidAreaError : PySem.W.kitOne K (.ref CEmptyHistoryError) (.ref CInvalidAreaError) = some false)
     (xiEmptyHistoryError_InvalidEffectError : PySem.W.kitOne K (.ref CEmptyHistoryError) (.ref CInvalidEffectError) = some false)
     (xiEmptyHistoryError_InvalidFormError : PySem.W.kitOne K (.ref CEmptyHistoryError) (.ref CInvalidFormError) = some false)
     (xiEmptyHistoryError_InvalidFormatError : PySem.W.kitOne K (.ref CEmptyHistoryError) (.ref CInvalidFormatError) = some false)
     (xiEmptyHistoryError_InvalidLengthsError : PySem.W.kitOne K (.ref CEmptyHistoryError) (.ref CInvalidLengthsError) = some false)
     (xiEmptyHistoryError_InvalidLocksError : PySem.W.kitOne K (.ref CEmptyHistoryError) (.ref CInvalidLocksError) = some false)
     (xiEmptyHistoryError_InvalidNumberError : PySem.W.kitOne K (.ref CEmptyHistoryError) (.ref CInvalidNumberError) = some false)
     (xiEmptyHistoryError_InvalidScrollsError : PySem.W.kitOne K (.ref CEmptyHistoryError) (.ref CInvalidScrollsError) = some false)
     (xiEmptyHistoryError_InvalidTurnError : PySem.W.kitOne K (.ref CEmptyHistoryError) (.ref CInvalidTurnError) = some false)
     (xiEmptyHistoryError_InvalidTurnsError : PySem.W.kitOne K (.ref CEmptyHistoryError) (.ref CInvalidTurnsError) = some false)
     (xiEmptyHistoryError_LockedError : PySem.W.kitOne K (.ref CEmptyHistoryError) (.ref CLockedError) = some false)
     (xiEmptyHistoryError_ScrollError : PySem.W.kitOne K (.ref CEmptyHistoryError) (.ref CScrollError) = some true)
     (xiEmptyHistoryError_ValueError : PySem.W.kitOne K (.ref CEmptyHistoryError) (.type "ValueError") = some true)
    {ocis_integer kVis_integer dcis_integer pmis_integer cdis_integer ctis_integer : Value} {odis_integer anis_integer : Option Addr} {slis_integer : Array (Option Value)} {fis_integer : Addr} (ais_integer : PySem.W.nsIn K mainGlobals "is_integer" = some (some (.ref fis_integer)))
     (lis_integer : K.lookup fis_integer = some ⟨ocis_integer, odis_integer, .func (PySem.W.fnOf "is_integer" "is_integer" (defArgs s_is_integer) (defBody s_is_integer) (defScope s_is_integer) .none kVis_integer dcis_integer pmis_integer anis_integer cdis_integer ctis_integer), slis_integer⟩)
     (cis_integer : PySem.W.codeIn K cdis_integer "is_integer" = true)
     (kis_integer : PySem.W.keepIn K (.ref fis_integer) = true)
    {occut kVcut dccut pmcut cdcut ctcut : Value} {odcut ancut : Option Addr} {slcut : Array (Option Value)} {fcut : Addr} (acut : PySem.W.nsIn K mainGlobals "cut" = some (some (.ref fcut)))
     (lcut : K.lookup fcut = some ⟨occut, odcut, .func (PySem.W.fnOf "cut" "cut" (defArgs s_cut) (defBody s_cut) (defScope s_cut) .none kVcut dccut pmcut ancut cdcut ctcut), slcut⟩)
     (ccut : PySem.W.codeIn K cdcut "cut" = true)
     (kcut : PySem.W.keepIn K (.ref fcut) = true)
    {ocsums_of kVsums_of dcsums_of pmsums_of cdsums_of ctsums_of : Value} {odsums_of ansums_of : Option Addr} {slsums_of : Array (Option Value)} {fsums_of : Addr} (asums_of : PySem.W.nsIn K mainGlobals "sums_of" = some (some (.ref fsums_of)))
     (lsums_of : K.lookup fsums_of = some ⟨ocsums_of, odsums_of, .func (PySem.W.fnOf "sums_of" "sums_of" (defArgs s_sums_of) (defBody s_sums_of) (defScope s_sums_of) .none kVsums_of dcsums_of pmsums_of ansums_of cdsums_of ctsums_of), slsums_of⟩)
     (csums_of : PySem.W.codeIn K cdsums_of "sums_of" = true)
     (ksums_of : PySem.W.keepIn K (.ref fsums_of) = true)
    {ocscrolls_from kVscrolls_from dcscrolls_from pmscrolls_from cdscrolls_from ctscrolls_from : Value} {odscrolls_from anscrolls_from : Option Addr} {slscrolls_from : Array (Option Value)} {fscrolls_from : Addr} (ascrolls_from : PySem.W.nsIn K mainGlobals "scrolls_from" = some (some (.ref fscrolls_from)))
     (lscrolls_from : K.lookup fscrolls_from = some ⟨ocscrolls_from, odscrolls_from, .func (PySem.W.fnOf "scrolls_from" "scrolls_from" (defArgs s_scrolls_from) (defBody s_scrolls_from) (defScope s_scrolls_from) .none kVscrolls_from dcscrolls_from pmscrolls_from anscrolls_from cdscrolls_from ctscrolls_from), slscrolls_from⟩)
     (cscrolls_from : PySem.W.codeIn K cdscrolls_from "scrolls_from" = true)
     (kscrolls_from : PySem.W.keepIn K (.ref fscrolls_from) = true)
    {ocl_bag kVl_bag dcl_bag pml_bag cdl_bag ctl_bag : Value} {odl_bag anl_bag : Option Addr} {sll_bag : Array (Option Value)} {fl_bag : Addr} (al_bag : PySem.W.nsIn K mainGlobals "_law_bag" = some (some (.ref fl_bag)))
     (ll_bag : K.lookup fl_bag = some ⟨ocl_bag, odl_bag, .func (PySem.W.fnOf "_law_bag" "_law_bag" (defArgs s_l_bag) (defBody s_l_bag) (defScope s_l_bag) .none kVl_bag dcl_bag pml_bag anl_bag cdl_bag ctl_bag), sll_bag⟩)
     (cl_bag : PySem.W.codeIn K cdl_bag "_law_bag" = true)
     (kl_bag : PySem.W.keepIn K (.ref fl_bag) = true)
    {ocl_draw kVl_draw dcl_draw pml_draw cdl_draw ctl_draw : Value} {odl_draw anl_draw : Option Addr} {sll_draw : Array (Option Value)} {fl_draw : Addr} (al_draw : PySem.W.nsIn K mainGlobals "_law_draw" = some (some (.ref fl_draw)))
     (ll_draw : K.lookup fl_draw = some ⟨ocl_draw, odl_draw, .func (PySem.W.fnOf "_law_draw" "_law_draw" (defArgs s_l_draw) (defBody s_l_draw) (defScope s_l_draw) .none kVl_draw dcl_draw pml_draw anl_draw cdl_draw ctl_draw), sll_draw⟩)
     (cl_draw : PySem.W.codeIn K cdl_draw "_law_draw" = true)
     (kl_draw : PySem.W.keepIn K (.ref fl_draw) = true)
    {ocl_marks kVl_marks dcl_marks pml_marks cdl_marks ctl_marks : Value} {odl_marks anl_marks : Option Addr} {sll_marks : Array (Option Value)} {fl_marks : Addr} (al_marks : PySem.W.nsIn K mainGlobals "_law_marks" = some (some (.ref fl_marks)))
     (ll_marks : K.lookup fl_marks = some ⟨ocl_marks, odl_marks, .func (PySem.W.fnOf "_law_marks" "_law_marks" (defArgs s_l_marks) (defBody s_l_marks) (defScope s_l_marks) .none kVl_marks dcl_marks pml_marks anl_marks cdl_marks ctl_marks), sll_marks⟩)
     (cl_marks : PySem.W.codeIn K cdl_marks "_law_marks" = true)
     (kl_marks : PySem.W.keepIn K (.ref fl_marks) = true)
    {ocis_lengths kVis_lengths dcis_lengths pmis_lengths cdis_lengths ctis_lengths : Value} {odis_lengths anis_lengths : Option Addr} {slis_lengths : Array (Option Value)} {fis_lengths : Addr} (ais_lengths : PySem.W.nsIn K mainGlobals "is_lengths" = some (some (.ref fis_lengths)))
     (lis_lengths : K.lookup fis_lengths = some ⟨ocis_lengths, odis_lengths, .func (PySem.W.fnOf "is_lengths" "is_lengths" (defArgs s_is_lengths) (defBody s_is_lengths) (defScope s_is_lengths) .none kVis_lengths dcis_lengths pmis_lengths anis_lengths cdis_lengths ctis_lengths), slis_lengths⟩)
     (cis_lengths : PySem.W.codeIn K cdis_lengths "is_lengths" = true)
     (kis_lengths : PySem.W.keepIn K (.ref fis_lengths) = true)
    {ocare_scrolls kVare_scrolls dcare_scrolls pmare_scrolls cdare_scrolls ctare_scrolls : Value} {odare_scrolls anare_scrolls : Option Addr} {slare_scrolls : Array (Option Value)} {fare_scrolls : Addr} (aare_scrolls : PySem.W.nsIn K mainGlobals "are_scrolls" = some (some (.ref fare_scrolls)))
     (lare_scrolls : K.lookup fare_scrolls = some ⟨ocare_scrolls, odare_scrolls, .func (PySem.W.fnOf "are_scrolls" "are_scrolls" (defArgs s_are_scrolls) (defBody s_are_scrolls) (defScope s_are_scrolls) .none kVare_scrolls dcare_scrolls pmare_scrolls anare_scrolls cdare_scrolls ctare_scrolls), slare_scrolls⟩)
     (care_scrolls : PySem.W.codeIn K cdare_scrolls "are_scrolls" = true)
     (kare_scrolls : PySem.W.keepIn K (.ref fare_scrolls) = true)
    {ocis_turns kVis_turns dcis_turns pmis_turns cdis_turns ctis_turns : Value} {odis_turns anis_turns : Option Addr} {slis_turns : Array (Option Value)} {fis_turns : Addr} (ais_turns : PySem.W.nsIn K mainGlobals "is_turns" = some (some (.ref fis_turns)))
     (lis_turns : K.lookup fis_turns = some ⟨ocis_turns, odis_turns, .func (PySem.W.fnOf "is_turns" "is_turns" (defArgs s_is_turns) (defBody s_is_turns) (defScope s_is_turns) .none kVis_turns dcis_turns pmis_turns anis_turns cdis_turns ctis_turns), slis_turns⟩)
     (cis_turns : PySem.W.codeIn K cdis_turns "is_turns" = true)
     (kis_turns : PySem.W.keepIn K (.ref fis_turns) = true)
    {ocmoved_sums kVmoved_sums dcmoved_sums pmmoved_sums cdmoved_sums ctmoved_sums : Value} {odmoved_sums anmoved_sums : Option Addr} {slmoved_sums : Array (Option Value)} {fmoved_sums : Addr} (amoved_sums : PySem.W.nsIn K mainGlobals "moved_sums" = some (some (.ref fmoved_sums)))
     (lmoved_sums : K.lookup fmoved_sums = some ⟨ocmoved_sums, odmoved_sums, .func (PySem.W.fnOf "moved_sums" "moved_sums" (defArgs s_moved_sums) (defBody s_moved_sums) (defScope s_moved_sums) .none kVmoved_sums dcmoved_sums pmmoved_sums anmoved_sums cdmoved_sums ctmoved_sums), slmoved_sums⟩)
     (cmoved_sums : PySem.W.codeIn K cdmoved_sums "moved_sums" = true)
     (kmoved_sums : PySem.W.keepIn K (.ref fmoved_sums) = true)
    {occheck_lengths kVcheck_lengths dccheck_lengths pmcheck_lengths cdcheck_lengths ctcheck_lengths : Value} {odcheck_lengths ancheck_lengths : Option Addr} {slcheck_lengths : Array (Option Value)} {fcheck_lengths : Addr} (acheck_lengths : PySem.W.nsIn K mainGlobals "check_lengths" = some (some (.ref fcheck_lengths)))
     (lcheck_lengths : K.lookup fcheck_lengths = some ⟨occheck_lengths, odcheck_lengths, .func (PySem.W.fnOf "check_lengths" "check_lengths" (defArgs s_check_lengths) (defBody s_check_lengths) (defScope s_check_lengths) .none kVcheck_lengths dccheck_lengths pmcheck_lengths ancheck_lengths cdcheck_lengths ctcheck_lengths), slcheck_lengths⟩)
     (ccheck_lengths : PySem.W.codeIn K cdcheck_lengths "check_lengths" = true)
     (kcheck_lengths : PySem.W.keepIn K (.ref fcheck_lengths) = true)
    {occheck_scrolls kVcheck_scrolls dccheck_scrolls pmcheck_scrolls cdcheck_scrolls ctcheck_scrolls : Value} {odcheck_scrolls ancheck_scrolls : Option Addr} {slcheck_scrolls : Array (Option Value)} {fcheck_scrolls : Addr} (acheck_scrolls : PySem.W.nsIn K mainGlobals "check_scrolls" = some (some (.ref fcheck_scrolls)))
     (lcheck_scrolls : K.lookup fcheck_scrolls = some ⟨occheck_scrolls, odcheck_scrolls, .func (PySem.W.fnOf "check_scrolls" "check_scrolls" (defArgs s_check_scrolls) (defBody s_check_scrolls) (defScope s_check_scrolls) .none kVcheck_scrolls dccheck_scrolls pmcheck_scrolls ancheck_scrolls cdcheck_scrolls ctcheck_scrolls), slcheck_scrolls⟩)
     (ccheck_scrolls : PySem.W.codeIn K cdcheck_scrolls "check_scrolls" = true)
     (kcheck_scrolls : PySem.W.keepIn K (.ref fcheck_scrolls) = true)
    {occheck_turns kVcheck_turns dccheck_turns pmcheck_turns cdcheck_turns ctcheck_turns : Value} {odcheck_turns ancheck_turns : Option Addr} {slcheck_turns : Array (Option Value)} {fcheck_turns : Addr} (acheck_turns : PySem.W.nsIn K mainGlobals "check_turns" = some (some (.ref fcheck_turns)))
     (lcheck_turns : K.lookup fcheck_turns = some ⟨occheck_turns, odcheck_turns, .func (PySem.W.fnOf "check_turns" "check_turns" (defArgs s_check_turns) (defBody s_check_turns) (defScope s_check_turns) .none kVcheck_turns dccheck_turns pmcheck_turns ancheck_turns cdcheck_turns ctcheck_turns), slcheck_turns⟩)
     (ccheck_turns : PySem.W.codeIn K cdcheck_turns "check_turns" = true)
     (kcheck_turns : PySem.W.keepIn K (.ref fcheck_turns) = true)
    {ocscrolls_in kVscrolls_in dcscrolls_in pmscrolls_in cdscrolls_in ctscrolls_in : Value} {odscrolls_in anscrolls_in : Option Addr} {slscrolls_in : Array (Option Value)} {fscrolls_in : Addr} (ascrolls_in : PySem.W.nsIn K mainGlobals "scrolls_in" = some (some (.ref fscrolls_in)))
     (lscrolls_in : K.lookup fscrolls_in = some ⟨ocscrolls_in, odscrolls_in, .func (PySem.W.fnOf "scrolls_in" "scrolls_in" (defArgs s_scrolls_in) (defBody s_scrolls_in) (defScope s_scrolls_in) .none kVscrolls_in dcscrolls_in pmscrolls_in anscrolls_in cdscrolls_in ctscrolls_in), slscrolls_in⟩)
     (cscrolls_in : PySem.W.codeIn K cdscrolls_in "scrolls_in" = true)
     (kscrolls_in : PySem.W.keepIn K (.ref fscrolls_in) = true)
    {ocscrolls_after kVscrolls_after dcscrolls_after pmscrolls_after cdscrolls_after ctscrolls_after : Value} {odscrolls_after anscrolls_after : Option Addr} {slscrolls_after : Array (Option Value)} {fscrolls_after : Addr} (ascrolls_after : PySem.W.nsIn K mainGlobals "scrolls_after" = some (some (.ref fscrolls_after)))
     (lscrolls_after : K.lookup fscrolls_after = some ⟨ocscrolls_after, odscrolls_after, .func (PySem.W.fnOf "scrolls_after" "scrolls_after" (defArgs s_scrolls_after) (defBody s_scrolls_after) (defScope s_scrolls_after) .none kVscrolls_after dcscrolls_after pmscrolls_after anscrolls_after cdscrolls_after ctscrolls_after), slscrolls_after⟩)
     (cscrolls_after : PySem.W.codeIn K cdscrolls_after "scrolls_after" = true)
     (kscrolls_after : PySem.W.keepIn K (.ref fscrolls_after) = true)
    {ocl_caught kVl_caught dcl_caught pml_caught cdl_caught ctl_caught : Value} {odl_caught anl_caught : Option Addr} {sll_caught : Array (Option Value)} {fl_caught : Addr} (al_caught : PySem.W.nsIn K mainGlobals "_law_caught" = some (some (.ref fl_caught)))
     (ll_caught : K.lookup fl_caught = some ⟨ocl_caught, odl_caught, .func (PySem.W.fnOf "_law_caught" "_law_caught" (defArgs s_l_caught) (defBody s_l_caught) (defScope s_l_caught) .none kVl_caught dcl_caught pml_caught anl_caught cdl_caught ctl_caught), sll_caught⟩)
     (cl_caught : PySem.W.codeIn K cdl_caught "_law_caught" = true)
     (kl_caught : PySem.W.keepIn K (.ref fl_caught) = true)
    {ocl_right kVl_right dcl_right pml_right cdl_right ctl_right : Value} {odl_right anl_right : Option Addr} {sll_right : Array (Option Value)} {fl_right : Addr} (al_right : PySem.W.nsIn K mainGlobals "_law_right" = some (some (.ref fl_right)))
     (ll_right : K.lookup fl_right = some ⟨ocl_right, odl_right, .func (PySem.W.fnOf "_law_right" "_law_right" (defArgs s_l_right) (defBody s_l_right) (defScope s_l_right) .none kVl_right dcl_right pml_right anl_right cdl_right ctl_right), sll_right⟩)
     (cl_right : PySem.W.codeIn K cdl_right "_law_right" = true)
     (kl_right : PySem.W.keepIn K (.ref fl_right) = true)
    {oclaw kVlaw dclaw pmlaw cdlaw ctlaw : Value} {odlaw anlaw : Option Addr} {sllaw : Array (Option Value)} {flaw : Addr} (alaw : PySem.W.nsIn K mainGlobals "law" = some (some (.ref flaw)))
     (llaw : K.lookup flaw = some ⟨oclaw, odlaw, .func (PySem.W.fnOf "law" "law" (defArgs s_law) (defBody s_law) (defScope s_law) .none kVlaw dclaw pmlaw anlaw cdlaw ctlaw), sllaw⟩)
     (claw : PySem.W.codeIn K cdlaw "law" = true)
     (klaw : PySem.W.keepIn K (.ref flaw) = true)
    {uMOST_AREAS : Tok} (gMOST_AREAS : PySem.W.nsIn K mainGlobals "MOST_AREAS" = some (some (.int 12 uMOST_AREAS)))
    {uMOST_TURNS : Tok} (gMOST_TURNS : PySem.W.nsIn K mainGlobals "MOST_TURNS" = some (some (.int 400 uMOST_TURNS)))
     (zValueError : PySem.W.nsIn K mainGlobals "ValueError" = some none)
     (zall : PySem.W.nsIn K mainGlobals "all" = some none)
     (zbool : PySem.W.nsIn K mainGlobals "bool" = some none)
     (zint : PySem.W.nsIn K mainGlobals "int" = some none)
     (zisinstance : PySem.W.nsIn K mainGlobals "isinstance" = some none)
     (zlen : PySem.W.nsIn K mainGlobals "len" = some none)
     (zlist : PySem.W.nsIn K mainGlobals "list" = some none)
     (zmax : PySem.W.nsIn K mainGlobals "max" = some none)
     (zmin : PySem.W.nsIn K mainGlobals "min" = some none)
     (zrange : PySem.W.nsIn K mainGlobals "range" = some none)
     (zzip : PySem.W.nsIn K mainGlobals "zip" = some none)
    : ∃ fd : FuncData, (∀ (s : Shared) (v : Value), BindsTo s fd ⟨[v], []⟩ [("_law_script", v)]) ∧ ∀ base : Heap, K.In base → base.Ns mainGlobals mg → FnG l.prog w K mg base (L2N.CX l.prog w) 7 fa fd ["_law_script"] (Low K 1 false g_law) := by
  have e := hfa.symm.trans (PySem.W.mg_of X G alaw)
  cases e
  let W : Wd K mg := { ca := ⟨CScrollError, CInvalidLengthsError, CInvalidScrollsError, CInvalidTurnError, CInvalidTurnsError, CInvalidNumberError, CInvalidAreaError, CInvalidEffectError, CInvalidFormError, CInvalidLocksError, CInvalidFormatError, CLockedError, CEmptyHistoryError⟩, mx_ScrollError := PySem.W.mg_of X G aCScrollError, mx_InvalidLengthsError := PySem.W.mg_of X G aCInvalidLengthsError, mx_InvalidScrollsError := PySem.W.mg_of X G aCInvalidScrollsError, mx_InvalidTurnError := PySem.W.mg_of X G aCInvalidTurnError, mx_InvalidTurnsError := PySem.W.mg_of X G aCInvalidTurnsError, mx_InvalidNumberError := PySem.W.mg_of X G aCInvalidNumberError, mx_InvalidAreaError := PySem.W.mg_of X G aCInvalidAreaError, mx_InvalidEffectError := PySem.W.mg_of X G aCInvalidEffectError, mx_InvalidFormError := PySem.W.mg_of X G aCInvalidFormError, mx_InvalidLocksError := PySem.W.mg_of X G aCInvalidLocksError, mx_InvalidFormatError := PySem.W.mg_of X G aCInvalidFormatError, mx_LockedError := PySem.W.mg_of X G aCLockedError, mx_EmptyHistoryError := PySem.W.mg_of X G aCEmptyHistoryError, kp_ScrollError := kCScrollError, xq_ScrollError := xScrollError, sb_ScrollError := bScrollError, ty_ScrollError := tScrollError, e_ScrollError_ScrollError := L3.exm_of bScrollError jScrollError tScrollError eScrollError_ScrollError, kp_InvalidLengthsError := kCInvalidLengthsError, xq_InvalidLengthsError := xInvalidLengthsError, sb_InvalidLengthsError := bInvalidLengthsError, ty_InvalidLengthsError := tInvalidLengthsError, e_InvalidLengthsError_ScrollError := L3.exm_of bScrollError jScrollError tScrollError eInvalidLengthsError_ScrollError, kp_InvalidScrollsError := kCInvalidScrollsError, xq_InvalidScrollsError := xInvalidScrollsError, sb_InvalidScrollsError := bInvalidScrollsError, ty_InvalidScrollsError := tInvalidScrollsError, e_InvalidScrollsError_ScrollError := L3.exm_of bScrollError jScrollError tScrollError eInvalidScrollsError_ScrollError, kp_InvalidTurnError := kCInvalidTurnError, xq_InvalidTurnError := xInvalidTurnError, sb_InvalidTurnError := bInvalidTurnError, ty_InvalidTurnError := tInvalidTurnError, e_InvalidTurnError_ScrollError := L3.exm_of bScrollError jScrollError tScrollError eInvalidTurnError_ScrollError, kp_InvalidTurnsError := kCInvalidTurnsError, xq_InvalidTurnsError := xInvalidTurnsError, sb_InvalidTurnsError := bInvalidTurnsError, ty_InvalidTurnsError := tInvalidTurnsError, e_InvalidTurnsError_ScrollError := L3.exm_of bScrollError jScrollError tScrollError eInvalidTurnsError_ScrollError, kp_InvalidNumberError := kCInvalidNumberError, xq_InvalidNumberError := xInvalidNumberError, sb_InvalidNumberError := bInvalidNumberError, ty_InvalidNumberError := tInvalidNumberError, e_InvalidNumberError_ScrollError := L3.exm_of bScrollError jScrollError tScrollError eInvalidNumberError_ScrollError, kp_InvalidAreaError := kCInvalidAreaError, xq_InvalidAreaError := xInvalidAreaError, sb_InvalidAreaError := bInvalidAreaError, ty_InvalidAreaError := tInvalidAreaError, e_InvalidAreaError_ScrollError := L3.exm_of bScrollError jScrollError tScrollError eInvalidAreaError_ScrollError, kp_InvalidEffectError := kCInvalidEffectError, xq_InvalidEffectError := xInvalidEffectError, sb_InvalidEffectError := bInvalidEffectError, ty_InvalidEffectError := tInvalidEffectError, e_InvalidEffectError_ScrollError := L3.exm_of bScrollError jScrollError tScrollError eInvalidEffectError_ScrollError, kp_InvalidFormError := kCInvalidFormError, xq_InvalidFormError := xInvalidFormError, sb_InvalidFormError := bInvalidFormError, ty_InvalidFormError := tInvalidFormError, e_InvalidFormError_ScrollError := L3.exm_of bScrollError jScrollError tScrollError eInvalidFormError_ScrollError, kp_InvalidLocksError := kCInvalidLocksError, xq_InvalidLocksError := xInvalidLocksError, sb_InvalidLocksError := bInvalidLocksError, ty_InvalidLocksError := tInvalidLocksError, e_InvalidLocksError_ScrollError := L3.exm_of bScrollError jScrollError tScrollError eInvalidLocksError_ScrollError, kp_InvalidFormatError := kCInvalidFormatError, xq_InvalidFormatError := xInvalidFormatError, sb_InvalidFormatError := bInvalidFormatError, ty_InvalidFormatError := tInvalidFormatError, e_InvalidFormatError_ScrollError := L3.exm_of bScrollError jScrollError tScrollError eInvalidFormatError_ScrollError, kp_LockedError := kCLockedError, xq_LockedError := xLockedError, sb_LockedError := bLockedError, ty_LockedError := tLockedError, e_LockedError_ScrollError := L3.exm_of bScrollError jScrollError tScrollError eLockedError_ScrollError, kp_EmptyHistoryError := kCEmptyHistoryError, xq_EmptyHistoryError := xEmptyHistoryError, sb_EmptyHistoryError := bEmptyHistoryError, ty_EmptyHistoryError := tEmptyHistoryError, e_EmptyHistoryError_ScrollError := L3.exm_of bScrollError jScrollError tScrollError eEmptyHistoryError_ScrollError, xc_ScrollError := ⟨xgScrollError, xkScrollError, bScrollError, xdScrollError, xaScrollError, xcn, xct, xmScrollError⟩, i_ScrollError_EmptyHistoryError := xiScrollError_EmptyHistoryError, i_ScrollError_InvalidAreaError := xiScrollError_InvalidAreaError, i_ScrollError_InvalidEffectError := xiScrollError_InvalidEffectError, i_ScrollError_InvalidFormError := xiScrollError_InvalidFormError, i_ScrollError_InvalidFormatError := xiScrollError_InvalidFormatError, i_ScrollError_InvalidLengthsError := xiScrollError_InvalidLengthsError, i_ScrollError_InvalidLocksError := xiScrollError_InvalidLocksError, i_ScrollError_InvalidNumberError := xiScrollError_InvalidNumberError, i_ScrollError_InvalidScrollsError := xiScrollError_InvalidScrollsError, i_ScrollError_InvalidTurnError := xiScrollError_InvalidTurnError, i_ScrollError_InvalidTurnsError := xiScrollError_InvalidTurnsError, i_ScrollError_LockedError := xiScrollError_LockedError, i_ScrollError_ScrollError := xiScrollError_ScrollError, i_ScrollError_ValueError := xiScrollError_ValueError, xc_InvalidLengthsError := ⟨xgInvalidLengthsError, xkInvalidLengthsError, bInvalidLengthsError, xdInvalidLengthsError, xaInvalidLengthsError, xcn, xct, xmInvalidLengthsError⟩, i_InvalidLengthsError_EmptyHistoryError := xiInvalidLengthsError_EmptyHistoryError, i_InvalidLengthsError_InvalidAreaError := xiInvalidLengthsError_InvalidAreaError, i_InvalidLengthsError_InvalidEffectError := xiInvalidLengthsError_InvalidEffectError, i_InvalidLengthsError_InvalidFormError := xiInvalidLengthsError_InvalidFormError, i_InvalidLengthsError_InvalidFormatError := xiInvalidLengthsError_InvalidFormatError, i_InvalidLengthsError_InvalidLengthsError := xiInvalidLengthsError_InvalidLengthsError, i_InvalidLengthsError_InvalidLocksError := xiInvalidLengthsError_InvalidLocksError, i_InvalidLengthsError_InvalidNumberError := xiInvalidLengthsError_InvalidNumberError, i_InvalidLengthsError_InvalidScrollsError := xiInvalidLengthsError_InvalidScrollsError, i_InvalidLengthsError_InvalidTurnError := xiInvalidLengthsError_InvalidTurnError, i_InvalidLengthsError_InvalidTurnsError := xiInvalidLengthsError_InvalidTurnsError, i_InvalidLengthsError_LockedError := xiInvalidLengthsError_LockedError, i_InvalidLengthsError_ScrollError := xiInvalidLengthsError_ScrollError, i_InvalidLengthsError_ValueError := xiInvalidLengthsError_ValueError, xc_InvalidScrollsError := ⟨xgInvalidScrollsError, xkInvalidScrollsError, bInvalidScrollsError, xdInvalidScrollsError, xaInvalidScrollsError, xcn, xct, xmInvalidScrollsError⟩, i_InvalidScrollsError_EmptyHistoryError := xiInvalidScrollsError_EmptyHistoryError, i_InvalidScrollsError_InvalidAreaError := xiInvalidScrollsError_InvalidAreaError, i_InvalidScrollsError_InvalidEffectError := xiInvalidScrollsError_InvalidEffectError, i_InvalidScrollsError_InvalidFormError := xiInvalidScrollsError_InvalidFormError, i_InvalidScrollsError_InvalidFormatError := xiInvalidScrollsError_InvalidFormatError, i_InvalidScrollsError_InvalidLengthsError := xiInvalidScrollsError_InvalidLengthsError, i_InvalidScrollsError_InvalidLocksError := xiInvalidScrollsError_InvalidLocksError, i_InvalidScrollsError_InvalidNumberError := xiInvalidScrollsError_InvalidNumberError, i_InvalidScrollsError_InvalidScrollsError := xiInvalidScrollsError_InvalidScrollsError, i_InvalidScrollsError_InvalidTurnError := xiInvalidScrollsError_InvalidTurnError, i_InvalidScrollsError_InvalidTurnsError := xiInvalidScrollsError_InvalidTurnsError, i_InvalidScrollsError_LockedError := xiInvalidScrollsError_LockedError, i_InvalidScrollsError_ScrollError := xiInvalidScrollsError_ScrollError, i_InvalidScrollsError_ValueError := xiInvalidScrollsError_ValueError, xc_InvalidTurnError := ⟨xgInvalidTurnError, xkInvalidTurnError, bInvalidTurnError, xdInvalidTurnError, xaInvalidTurnError, xcn, xct, xmInvalidTurnError⟩, i_InvalidTurnError_EmptyHistoryError := xiInvalidTurnError_EmptyHistoryError, i_InvalidTurnError_InvalidAreaError := xiInvalidTurnError_InvalidAreaError, i_InvalidTurnError_InvalidEffectError := xiInvalidTurnError_InvalidEffectError, i_InvalidTurnError_InvalidFormError := xiInvalidTurnError_InvalidFormError, i_InvalidTurnError_InvalidFormatError := xiInvalidTurnError_InvalidFormatError, i_InvalidTurnError_InvalidLengthsError := xiInvalidTurnError_InvalidLengthsError, i_InvalidTurnError_InvalidLocksError := xiInvalidTurnError_InvalidLocksError, i_InvalidTurnError_InvalidNumberError := xiInvalidTurnError_InvalidNumberError, i_InvalidTurnError_InvalidScrollsError := xiInvalidTurnError_InvalidScrollsError, i_InvalidTurnError_InvalidTurnError := xiInvalidTurnError_InvalidTurnError, i_InvalidTurnError_InvalidTurnsError := xiInvalidTurnError_InvalidTurnsError, i_InvalidTurnError_LockedError := xiInvalidTurnError_LockedError, i_InvalidTurnError_ScrollError := xiInvalidTurnError_ScrollError, i_InvalidTurnError_ValueError := xiInvalidTurnError_ValueError, xc_InvalidTurnsError := ⟨xgInvalidTurnsError, xkInvalidTurnsError, bInvalidTurnsError, xdInvalidTurnsError, xaInvalidTurnsError, xcn, xct, xmInvalidTurnsError⟩, i_InvalidTurnsError_EmptyHistoryError := xiInvalidTurnsError_EmptyHistoryError, i_InvalidTurnsError_InvalidAreaError := xiInvalidTurnsError_InvalidAreaError, i_InvalidTurnsError_InvalidEffectError := xiInvalidTurnsError_InvalidEffectError, i_InvalidTurnsError_InvalidFormError := xiInvalidTurnsError_InvalidFormError, i_InvalidTurnsError_InvalidFormatError := xiInvalidTurnsError_InvalidFormatError, i_InvalidTurnsError_InvalidLengthsError := xiInvalidTurnsError_InvalidLengthsError, i_InvalidTurnsError_InvalidLocksError := xiInvalidTurnsError_InvalidLocksError, i_InvalidTurnsError_InvalidNumberError := xiInvalidTurnsError_InvalidNumberError, i_InvalidTurnsError_InvalidScrollsError := xiInvalidTurnsError_InvalidScrollsError, i_InvalidTurnsError_InvalidTurnError := xiInvalidTurnsError_InvalidTurnError, i_InvalidTurnsError_InvalidTurnsError := xiInvalidTurnsError_InvalidTurnsError, i_InvalidTurnsError_LockedError := xiInvalidTurnsError_LockedError, i_InvalidTurnsError_ScrollError := xiInvalidTurnsError_ScrollError, i_InvalidTurnsError_ValueError := xiInvalidTurnsError_ValueError, xc_InvalidNumberError := ⟨xgInvalidNumberError, xkInvalidNumberError, bInvalidNumberError, xdInvalidNumberError, xaInvalidNumberError, xcn, xct, xmInvalidNumberError⟩, i_InvalidNumberError_EmptyHistoryError := xiInvalidNumberError_EmptyHistoryError, i_InvalidNumberError_InvalidAreaError := xiInvalidNumberError_InvalidAreaError, i_InvalidNumberError_InvalidEffectError := xiInvalidNumberError_InvalidEffectError, i_InvalidNumberError_InvalidFormError := xiInvalidNumberError_InvalidFormError, i_InvalidNumberError_InvalidFormatError := xiInvalidNumberError_InvalidFormatError, i_InvalidNumberError_InvalidLengthsError := xiInvalidNumberError_InvalidLengthsError, i_InvalidNumberError_InvalidLocksError := xiInvalidNumberError_InvalidLocksError, i_InvalidNumberError_InvalidNumberError := xiInvalidNumberError_InvalidNumberError, i_InvalidNumberError_InvalidScrollsError := xiInvalidNumberError_InvalidScrollsError, i_InvalidNumberError_InvalidTurnError := xiInvalidNumberError_InvalidTurnError, i_InvalidNumberError_InvalidTurnsError := xiInvalidNumberError_InvalidTurnsError, i_InvalidNumberError_LockedError := xiInvalidNumberError_LockedError, i_InvalidNumberError_ScrollError := xiInvalidNumberError_ScrollError, i_InvalidNumberError_ValueError := xiInvalidNumberError_ValueError, xc_InvalidAreaError := ⟨xgInvalidAreaError, xkInvalidAreaError, bInvalidAreaError, xdInvalidAreaError, xaInvalidAreaError, xcn, xct, xmInvalidAreaError⟩, i_InvalidAreaError_EmptyHistoryError := xiInvalidAreaError_EmptyHistoryError, i_InvalidAreaError_InvalidAreaError := xiInvalidAreaError_InvalidAreaError, i_InvalidAreaError_InvalidEffectError := xiInvalidAreaError_InvalidEffectError, i_InvalidAreaError_InvalidFormError := xiInvalidAreaError_InvalidFormError, i_InvalidAreaError_InvalidFormatError := xiInvalidAreaError_InvalidFormatError, i_InvalidAreaError_InvalidLengthsError := xiInvalidAreaError_InvalidLengthsError, i_InvalidAreaError_InvalidLocksError := xiInvalidAreaError_InvalidLocksError, i_InvalidAreaError_InvalidNumberError := xiInvalidAreaError_InvalidNumberError, i_InvalidAreaError_InvalidScrollsError := xiInvalidAreaError_InvalidScrollsError, i_InvalidAreaError_InvalidTurnError := xiInvalidAreaError_InvalidTurnError, i_InvalidAreaError_InvalidTurnsError := xiInvalidAreaError_InvalidTurnsError, i_InvalidAreaError_LockedError := xiInvalidAreaError_LockedError, i_InvalidAreaError_ScrollError := xiInvalidAreaError_ScrollError, i_InvalidAreaError_ValueError := xiInvalidAreaError_ValueError, xc_InvalidEffectError := ⟨xgInvalidEffectError, xkInvalidEffectError, bInvalidEffectError, xdInvalidEffectError, xaInvalidEffectError, xcn, xct, xmInvalidEffectError⟩, i_InvalidEffectError_EmptyHistoryError := xiInvalidEffectError_EmptyHistoryError, i_InvalidEffectError_InvalidAreaError := xiInvalidEffectError_InvalidAreaError, i_InvalidEffectError_InvalidEffectError := xiInvalidEffectError_InvalidEffectError, i_InvalidEffectError_InvalidFormError := xiInvalidEffectError_InvalidFormError, i_InvalidEffectError_InvalidFormatError := xiInvalidEffectError_InvalidFormatError, i_InvalidEffectError_InvalidLengthsError := xiInvalidEffectError_InvalidLengthsError, i_InvalidEffectError_InvalidLocksError := xiInvalidEffectError_InvalidLocksError, i_InvalidEffectError_InvalidNumberError := xiInvalidEffectError_InvalidNumberError, i_InvalidEffectError_InvalidScrollsError := xiInvalidEffectError_InvalidScrollsError, i_InvalidEffectError_InvalidTurnError := xiInvalidEffectError_InvalidTurnError, i_InvalidEffectError_InvalidTurnsError := xiInvalidEffectError_InvalidTurnsError, i_InvalidEffectError_LockedError := xiInvalidEffectError_LockedError, i_InvalidEffectError_ScrollError := xiInvalidEffectError_ScrollError, i_InvalidEffectError_ValueError := xiInvalidEffectError_ValueError, xc_InvalidFormError := ⟨xgInvalidFormError, xkInvalidFormError, bInvalidFormError, xdInvalidFormError, xaInvalidFormError, xcn, xct, xmInvalidFormError⟩, i_InvalidFormError_EmptyHistoryError := xiInvalidFormError_EmptyHistoryError, i_InvalidFormError_InvalidAreaError := xiInvalidFormError_InvalidAreaError, i_InvalidFormError_InvalidEffectError := xiInvalidFormError_InvalidEffectError, i_InvalidFormError_InvalidFormError := xiInvalidFormError_InvalidFormError, i_InvalidFormError_InvalidFormatError := xiInvalidFormError_InvalidFormatError, i_InvalidFormError_InvalidLengthsError := xiInvalidFormError_InvalidLengthsError, i_InvalidFormError_InvalidLocksError := xiInvalidFormError_InvalidLocksError, i_InvalidFormError_InvalidNumberError := xiInvalidFormError_InvalidNumberError, i_InvalidFormError_InvalidScrollsError := xiInvalidFormError_InvalidScrollsError, i_InvalidFormError_InvalidTurnError := xiInvalidFormError_InvalidTurnError, i_InvalidFormError_InvalidTurnsError := xiInvalidFormError_InvalidTurnsError, i_InvalidFormError_LockedError := xiInvalidFormError_LockedError, i_InvalidFormError_ScrollError := xiInvalidFormError_ScrollError, i_InvalidFormError_ValueError := xiInvalidFormError_ValueError, xc_InvalidLocksError := ⟨xgInvalidLocksError, xkInvalidLocksError, bInvalidLocksError, xdInvalidLocksError, xaInvalidLocksError, xcn, xct, xmInvalidLocksError⟩, i_InvalidLocksError_EmptyHistoryError := xiInvalidLocksError_EmptyHistoryError, i_InvalidLocksError_InvalidAreaError := xiInvalidLocksError_InvalidAreaError, i_InvalidLocksError_InvalidEffectError := xiInvalidLocksError_InvalidEffectError, i_InvalidLocksError_InvalidFormError := xiInvalidLocksError_InvalidFormError, i_InvalidLocksError_InvalidFormatError := xiInvalidLocksError_InvalidFormatError, i_InvalidLocksError_InvalidLengthsError := xiInvalidLocksError_InvalidLengthsError, i_InvalidLocksError_InvalidLocksError := xiInvalidLocksError_InvalidLocksError, i_InvalidLocksError_InvalidNumberError := xiInvalidLocksError_InvalidNumberError, i_InvalidLocksError_InvalidScrollsError := xiInvalidLocksError_InvalidScrollsError, i_InvalidLocksError_InvalidTurnError := xiInvalidLocksError_InvalidTurnError, i_InvalidLocksError_InvalidTurnsError := xiInvalidLocksError_InvalidTurnsError, i_InvalidLocksError_LockedError := xiInvalidLocksError_LockedError, i_InvalidLocksError_ScrollError := xiInvalidLocksError_ScrollError, i_InvalidLocksError_ValueError := xiInvalidLocksError_ValueError, xc_InvalidFormatError := ⟨xgInvalidFormatError, xkInvalidFormatError, bInvalidFormatError, xdInvalidFormatError, xaInvalidFormatError, xcn, xct, xmInvalidFormatError⟩, i_InvalidFormatError_EmptyHistoryError := xiInvalidFormatError_EmptyHistoryError, i_InvalidFormatError_InvalidAreaError := xiInvalidFormatError_InvalidAreaError, i_InvalidFormatError_InvalidEffectError := xiInvalidFormatError_InvalidEffectError, i_InvalidFormatError_InvalidFormError := xiInvalidFormatError_InvalidFormError, i_InvalidFormatError_InvalidFormatError := xiInvalidFormatError_InvalidFormatError, i_InvalidFormatError_InvalidLengthsError := xiInvalidFormatError_InvalidLengthsError, i_InvalidFormatError_InvalidLocksError := xiInvalidFormatError_InvalidLocksError, i_InvalidFormatError_InvalidNumberError := xiInvalidFormatError_InvalidNumberError, i_InvalidFormatError_InvalidScrollsError := xiInvalidFormatError_InvalidScrollsError, i_InvalidFormatError_InvalidTurnError := xiInvalidFormatError_InvalidTurnError, i_InvalidFormatError_InvalidTurnsError := xiInvalidFormatError_InvalidTurnsError, i_InvalidFormatError_LockedError := xiInvalidFormatError_LockedError, i_InvalidFormatError_ScrollError := xiInvalidFormatError_ScrollError, i_InvalidFormatError_ValueError := xiInvalidFormatError_ValueError, xc_LockedError := ⟨xgLockedError, xkLockedError, bLockedError, xdLockedError, xaLockedError, xcn, xct, xmLockedError⟩, i_LockedError_EmptyHistoryError := xiLockedError_EmptyHistoryError, i_LockedError_InvalidAreaError := xiLockedError_InvalidAreaError, i_LockedError_InvalidEffectError := xiLockedError_InvalidEffectError, i_LockedError_InvalidFormError := xiLockedError_InvalidFormError, i_LockedError_InvalidFormatError := xiLockedError_InvalidFormatError, i_LockedError_InvalidLengthsError := xiLockedError_InvalidLengthsError, i_LockedError_InvalidLocksError := xiLockedError_InvalidLocksError, i_LockedError_InvalidNumberError := xiLockedError_InvalidNumberError, i_LockedError_InvalidScrollsError := xiLockedError_InvalidScrollsError, i_LockedError_InvalidTurnError := xiLockedError_InvalidTurnError, i_LockedError_InvalidTurnsError := xiLockedError_InvalidTurnsError, i_LockedError_LockedError := xiLockedError_LockedError, i_LockedError_ScrollError := xiLockedError_ScrollError, i_LockedError_ValueError := xiLockedError_ValueError, xc_EmptyHistoryError := ⟨xgEmptyHistoryError, xkEmptyHistoryError, bEmptyHistoryError, xdEmptyHistoryError, xaEmptyHistoryError, xcn, xct, xmEmptyHistoryError⟩, i_EmptyHistoryError_EmptyHistoryError := xiEmptyHistoryError_EmptyHistoryError, i_EmptyHistoryError_InvalidAreaError := xiEmptyHistoryError_InvalidAreaError, i_EmptyHistoryError_InvalidEffectError := xiEmptyHistoryError_InvalidEffectError, i_EmptyHistoryError_InvalidFormError := xiEmptyHistoryError_InvalidFormError, i_EmptyHistoryError_InvalidFormatError := xiEmptyHistoryError_InvalidFormatError, i_EmptyHistoryError_InvalidLengthsError := xiEmptyHistoryError_InvalidLengthsError, i_EmptyHistoryError_InvalidLocksError := xiEmptyHistoryError_InvalidLocksError, i_EmptyHistoryError_InvalidNumberError := xiEmptyHistoryError_InvalidNumberError, i_EmptyHistoryError_InvalidScrollsError := xiEmptyHistoryError_InvalidScrollsError, i_EmptyHistoryError_InvalidTurnError := xiEmptyHistoryError_InvalidTurnError, i_EmptyHistoryError_InvalidTurnsError := xiEmptyHistoryError_InvalidTurnsError, i_EmptyHistoryError_LockedError := xiEmptyHistoryError_LockedError, i_EmptyHistoryError_ScrollError := xiEmptyHistoryError_ScrollError, i_EmptyHistoryError_ValueError := xiEmptyHistoryError_ValueError, f_is_integer := fis_integer, d_is_integer := _, F_is_integer := fun_mk (st := s_is_integer) lis_integer cis_integer kis_integer, m_is_integer := PySem.W.mg_of X G ais_integer, k_is_integer := kis_integer, f_cut := fcut, d_cut := _, F_cut := fun_mk (st := s_cut) lcut ccut kcut, m_cut := PySem.W.mg_of X G acut, k_cut := kcut, f_sums_of := fsums_of, d_sums_of := _, F_sums_of := fun_mk (st := s_sums_of) lsums_of csums_of ksums_of, m_sums_of := PySem.W.mg_of X G asums_of, k_sums_of := ksums_of, f_scrolls_from := fscrolls_from, d_scrolls_from := _, F_scrolls_from := fun_mk (st := s_scrolls_from) lscrolls_from cscrolls_from kscrolls_from, m_scrolls_from := PySem.W.mg_of X G ascrolls_from, k_scrolls_from := kscrolls_from, f_l_bag := fl_bag, d_l_bag := _, F_l_bag := fun_mk (st := s_l_bag) ll_bag cl_bag kl_bag, m_l_bag := PySem.W.mg_of X G al_bag, k_l_bag := kl_bag, f_l_draw := fl_draw, d_l_draw := _, F_l_draw := fun_mk (st := s_l_draw) ll_draw cl_draw kl_draw, m_l_draw := PySem.W.mg_of X G al_draw, k_l_draw := kl_draw, f_l_marks := fl_marks, d_l_marks := _, F_l_marks := fun_mk (st := s_l_marks) ll_marks cl_marks kl_marks, m_l_marks := PySem.W.mg_of X G al_marks, k_l_marks := kl_marks, f_is_lengths := fis_lengths, d_is_lengths := _, F_is_lengths := fun_mk (st := s_is_lengths) lis_lengths cis_lengths kis_lengths, m_is_lengths := PySem.W.mg_of X G ais_lengths, k_is_lengths := kis_lengths, f_are_scrolls := fare_scrolls, d_are_scrolls := _, F_are_scrolls := fun_mk (st := s_are_scrolls) lare_scrolls care_scrolls kare_scrolls, m_are_scrolls := PySem.W.mg_of X G aare_scrolls, k_are_scrolls := kare_scrolls, f_is_turns := fis_turns, d_is_turns := _, F_is_turns := fun_mk (st := s_is_turns) lis_turns cis_turns kis_turns, m_is_turns := PySem.W.mg_of X G ais_turns, k_is_turns := kis_turns, f_moved_sums := fmoved_sums, d_moved_sums := _, F_moved_sums := fun_mk (st := s_moved_sums) lmoved_sums cmoved_sums kmoved_sums, m_moved_sums := PySem.W.mg_of X G amoved_sums, k_moved_sums := kmoved_sums, f_check_lengths := fcheck_lengths, d_check_lengths := _, F_check_lengths := fun_mk (st := s_check_lengths) lcheck_lengths ccheck_lengths kcheck_lengths, m_check_lengths := PySem.W.mg_of X G acheck_lengths, k_check_lengths := kcheck_lengths, f_check_scrolls := fcheck_scrolls, d_check_scrolls := _, F_check_scrolls := fun_mk (st := s_check_scrolls) lcheck_scrolls ccheck_scrolls kcheck_scrolls, m_check_scrolls := PySem.W.mg_of X G acheck_scrolls, k_check_scrolls := kcheck_scrolls, f_check_turns := fcheck_turns, d_check_turns := _, F_check_turns := fun_mk (st := s_check_turns) lcheck_turns ccheck_turns kcheck_turns, m_check_turns := PySem.W.mg_of X G acheck_turns, k_check_turns := kcheck_turns, f_scrolls_in := fscrolls_in, d_scrolls_in := _, F_scrolls_in := fun_mk (st := s_scrolls_in) lscrolls_in cscrolls_in kscrolls_in, m_scrolls_in := PySem.W.mg_of X G ascrolls_in, k_scrolls_in := kscrolls_in, f_scrolls_after := fscrolls_after, d_scrolls_after := _, F_scrolls_after := fun_mk (st := s_scrolls_after) lscrolls_after cscrolls_after kscrolls_after, m_scrolls_after := PySem.W.mg_of X G ascrolls_after, k_scrolls_after := kscrolls_after, f_l_caught := fl_caught, d_l_caught := _, F_l_caught := fun_mk (st := s_l_caught) ll_caught cl_caught kl_caught, m_l_caught := PySem.W.mg_of X G al_caught, k_l_caught := kl_caught, f_l_right := fl_right, d_l_right := _, F_l_right := fun_mk (st := s_l_right) ll_right cl_right kl_right, m_l_right := PySem.W.mg_of X G al_right, k_l_right := kl_right, f_law := fa, d_law := _, F_law := fun_mk (st := s_law) llaw claw klaw, m_law := PySem.W.mg_of X G alaw, k_law := klaw, u_MOST_AREAS := uMOST_AREAS, m_MOST_AREAS := PySem.W.mg_of X G gMOST_AREAS, u_MOST_TURNS := uMOST_TURNS, m_MOST_TURNS := PySem.W.mg_of X G gMOST_TURNS, z_ValueError := PySem.W.mg_none_of X G zValueError, z_all := PySem.W.mg_none_of X G zall, z_bool := PySem.W.mg_none_of X G zbool, z_int := PySem.W.mg_none_of X G zint, z_isinstance := PySem.W.mg_none_of X G zisinstance, z_len := PySem.W.mg_none_of X G zlen, z_list := PySem.W.mg_none_of X G zlist, z_max := PySem.W.mg_none_of X G zmax, z_min := PySem.W.mg_none_of X G zmin, z_range := PySem.W.mg_none_of X G zrange, z_zip := PySem.W.mg_none_of X G zzip }
  exact ⟨_, fun s v => .of_eq rfl, fun base _ _ => ok_law W⟩
end Lw
open PySem PyProof.Rows PySem.W
set_option maxHeartbeats 0 in
theorem PySem.Challenge.cw_scrollchain_k68_errors_are_distinct_holds : PySem.Challenge.rw_scrollchain_k68_errors_are_distinct.Holds := by
  w_on
  o_law
  k_head
  case hw => w_witness2
  k_fill
  refine L3.walk_G (l := PySem.Challenge.rw_scrollchain_k68_errors_are_distinct) (n := 63) (k := 7) (x := "_law_script") (C := fun w => L2N.CX PySem.Challenge.rw_scrollchain_k68_errors_are_distinct.prog w) (sp := fun w => L3.Low _ 1 false Lw.g_law) rfl (by decide) rfl ⟨rfl, by decide, by decide⟩ (fun w h Y => PySem.W.kIn_of Y) ?F (fun w H a ns hl ho hS => L3.want_low ho hS (Lw.want_law hl)) (fun w H s e s' h => L3.CX_false h)
  case F =>
    intro w mg fa h KX G hmg
    refine' Lw.all_mk KX G hmg ?aCScrollError ?kCScrollError ?aCInvalidLengthsError ?kCInvalidLengthsError ?aCInvalidScrollsError ?kCInvalidScrollsError ?aCInvalidTurnError ?kCInvalidTurnError ?aCInvalidTurnsError ?kCInvalidTurnsError ?aCInvalidNumberError ?kCInvalidNumberError ?aCInvalidAreaError ?kCInvalidAreaError ?aCInvalidEffectError ?kCInvalidEffectError ?aCInvalidFormError ?kCInvalidFormError ?aCInvalidLocksError ?kCInvalidLocksError ?aCInvalidFormatError ?kCInvalidFormatError ?aCLockedError ?kCLockedError ?aCEmptyHistoryError ?kCEmptyHistoryError ?xScrollError ?bScrollError ?tScrollError ?jScrollError ?eScrollError_ScrollError ?xInvalidLengthsError ?bInvalidLengthsError ?tInvalidLengthsError ?eInvalidLengthsError_ScrollError ?xInvalidScrollsError ?bInvalidScrollsError ?tInvalidScrollsError ?eInvalidScrollsError_ScrollError ?xInvalidTurnError ?bInvalidTurnError ?tInvalidTurnError ?eInvalidTurnError_ScrollError ?xInvalidTurnsError ?bInvalidTurnsError ?tInvalidTurnsError ?eInvalidTurnsError_ScrollError ?xInvalidNumberError ?bInvalidNumberError ?tInvalidNumberError ?eInvalidNumberError_ScrollError ?xInvalidAreaError ?bInvalidAreaError ?tInvalidAreaError ?eInvalidAreaError_ScrollError ?xInvalidEffectError ?bInvalidEffectError ?tInvalidEffectError ?eInvalidEffectError_ScrollError ?xInvalidFormError ?bInvalidFormError ?tInvalidFormError ?eInvalidFormError_ScrollError ?xInvalidLocksError ?bInvalidLocksError ?tInvalidLocksError ?eInvalidLocksError_ScrollError ?xInvalidFormatError ?bInvalidFormatError ?tInvalidFormatError ?eInvalidFormatError_ScrollError ?xLockedError ?bLockedError ?tLockedError ?eLockedError_ScrollError ?xEmptyHistoryError ?bEmptyHistoryError ?tEmptyHistoryError ?eEmptyHistoryError_ScrollError ?xcn ?xct ?xgScrollError ?xkScrollError ?xdScrollError ?xaScrollError ?xmScrollError ?xiScrollError_EmptyHistoryError ?xiScrollError_InvalidAreaError ?xiScrollError_InvalidEffectError ?xiScrollError_InvalidFormError ?xiScrollError_InvalidFormatError ?xiScrollError_InvalidLengthsError ?xiScrollError_InvalidLocksError ?xiScrollError_InvalidNumberError ?xiScrollError_InvalidScrollsError ?xiScrollError_InvalidTurnError ?xiScrollError_InvalidTurnsError ?xiScrollError_LockedError ?xiScrollError_ScrollError ?xiScrollError_ValueError ?xgInvalidLengthsError ?xkInvalidLengthsError ?xdInvalidLengthsError ?xaInvalidLengthsError ?xmInvalidLengthsError ?xiInvalidLengthsError_EmptyHistoryError ?xiInvalidLengthsError_InvalidAreaError ?xiInvalidLengthsError_InvalidEffectError ?xiInvalidLengthsError_InvalidFormError ?xiInvalidLengthsError_InvalidFormatError ?xiInvalidLengthsError_InvalidLengthsError ?xiInvalidLengthsError_InvalidLocksError ?xiInvalidLengthsError_InvalidNumberError ?xiInvalidLengthsError_InvalidScrollsError ?xiInvalidLengthsError_InvalidTurnError ?xiInvalidLengthsError_InvalidTurnsError ?xiInvalidLengthsError_LockedError ?xiInvalidLengthsError_ScrollError ?xiInvalidLengthsError_ValueError ?xgInvalidScrollsError ?xkInvalidScrollsError ?xdInvalidScrollsError ?xaInvalidScrollsError ?xmInvalidScrollsError ?xiInvalidScrollsError_EmptyHistoryError ?xiInvalidScrollsError_InvalidAreaError ?xiInvalidScrollsError_InvalidEffectError ?xiInvalidScrollsError_InvalidFormError ?xiInvalidScrollsError_InvalidFormatError ?xiInvalidScrollsError_InvalidLengthsError ?xiInvalidScrollsError_InvalidLocksError ?xiInvalidScrollsError_InvalidNumberError ?xiInvalidScrollsError_InvalidScrollsError ?xiInvalidScrollsError_InvalidTurnError ?xiInvalidScrollsError_InvalidTurnsError ?xiInvalidScrollsError_LockedError ?xiInvalidScrollsError_ScrollError ?xiInvalidScrollsError_ValueError ?xgInvalidTurnError ?xkInvalidTurnError ?xdInvalidTurnError ?xaInvalidTurnError ?xmInvalidTurnError ?xiInvalidTurnError_EmptyHistoryError ?xiInvalidTurnError_InvalidAreaError ?xiInvalidTurnError_InvalidEffectError ?xiInvalidTurnError_InvalidFormError ?xiInvalidTurnError_InvalidFormatError ?xiInvalidTurnError_InvalidLengthsError ?xiInvalidTurnError_InvalidLocksError ?xiInvalidTurnError_InvalidNumberError ?xiInvalidTurnError_InvalidScrollsError ?xiInvalidTurnError_InvalidTurnError ?xiInvalidTurnError_InvalidTurnsError ?xiInvalidTurnError_LockedError ?xiInvalidTurnError_ScrollError ?xiInvalidTurnError_ValueError ?xgInvalidTurnsError ?xkInvalidTurnsError ?xdInvalidTurnsError ?xaInvalidTurnsError ?xmInvalidTurnsError ?xiInvalidTurnsError_EmptyHistoryError ?xiInvalidTurnsError_InvalidAreaError ?xiInvalidTurnsError_InvalidEffectError ?xiInvalidTurnsError_InvalidFormError ?xiInvalidTurnsError_InvalidFormatError ?xiInvalidTurnsError_InvalidLengthsError ?xiInvalidTurnsError_InvalidLocksError ?xiInvalidTurnsError_InvalidNumberError ?xiInvalidTurnsError_InvalidScrollsError ?xiInvalidTurnsError_InvalidTurnError ?xiInvalidTurnsError_InvalidTurnsError ?xiInvalidTurnsError_LockedError ?xiInvalidTurnsError_ScrollError ?xiInvalidTurnsError_ValueError ?xgInvalidNumberError ?xkInvalidNumberError ?xdInvalidNumberError ?xaInvalidNumberError ?xmInvalidNumberError ?xiInvalidNumberError_EmptyHistoryError ?xiInvalidNumberError_InvalidAreaError ?xiInvalidNumberError_InvalidEffectError ?xiInvalidNumberError_InvalidFormError ?xiInvalidNumberError_InvalidFormatError ?xiInvalidNumberError_InvalidLengthsError ?xiInvalidNumberError_InvalidLocksError ?xiInvalidNumberError_InvalidNumberError ?xiInvalidNumberError_InvalidScrollsError ?xiInvalidNumberError_InvalidTurnError ?xiInvalidNumberError_InvalidTurnsError ?xiInvalidNumberError_LockedError ?xiInvalidNumberError_ScrollError ?xiInvalidNumberError_ValueError ?xgInvalidAreaError ?xkInvalidAreaError ?xdInvalidAreaError ?xaInvalidAreaError ?xmInvalidAreaError ?xiInvalidAreaError_EmptyHistoryError ?xiInvalidAreaError_InvalidAreaError ?xiInvalidAreaError_InvalidEffectError ?xiInvalidAreaError_InvalidFormError ?xiInvalidAreaError_InvalidFormatError ?xiInvalidAreaError_InvalidLengthsError ?xiInvalidAreaError_InvalidLocksError ?xiInvalidAreaError_InvalidNumberError ?xiInvalidAreaError_InvalidScrollsError ?xiInvalidAreaError_InvalidTurnError ?xiInvalidAreaError_InvalidTurnsError ?xiInvalidAreaError_LockedError ?xiInvalidAreaError_ScrollError ?xiInvalidAreaError_ValueError ?xgInvalidEffectError ?xkInvalidEffectError ?xdInvalidEffectError ?xaInvalidEffectError ?xmInvalidEffectError ?xiInvalidEffectError_EmptyHistoryError ?xiInvalidEffectError_InvalidAreaError ?xiInvalidEffectError_InvalidEffectError ?xiInvalidEffectError_InvalidFormError ?xiInvalidEffectError_InvalidFormatError ?xiInvalidEffectError_InvalidLengthsError ?xiInvalidEffectError_InvalidLocksError ?xiInvalidEffectError_InvalidNumberError ?xiInvalidEffectError_InvalidScrollsError ?xiInvalidEffectError_InvalidTurnError ?xiInvalidEffectError_InvalidTurnsError ?xiInvalidEffectError_LockedError ?xiInvalidEffectError_ScrollError ?xiInvalidEffectError_ValueError ?xgInvalidFormError ?xkInvalidFormError ?xdInvalidFormError ?xaInvalidFormError ?xmInvalidFormError ?xiInvalidFormError_EmptyHistoryError ?xiInvalidFormError_InvalidAreaError ?xiInvalidFormError_InvalidEffectError ?xiInvalidFormError_InvalidFormError ?xiInvalidFormError_InvalidFormatError ?xiInvalidFormError_InvalidLengthsError ?xiInvalidFormError_InvalidLocksError ?xiInvalidFormError_InvalidNumberError ?xiInvalidFormError_InvalidScrollsError ?xiInvalidFormError_InvalidTurnError ?xiInvalidFormError_InvalidTurnsError ?xiInvalidFormError_LockedError ?xiInvalidFormError_ScrollError ?xiInvalidFormError_ValueError ?xgInvalidLocksError ?xkInvalidLocksError ?xdInvalidLocksError ?xaInvalidLocksError ?xmInvalidLocksError ?xiInvalidLocksError_EmptyHistoryError ?xiInvalidLocksError_InvalidAreaError ?xiInvalidLocksError_InvalidEffectError ?xiInvalidLocksError_InvalidFormError ?xiInvalidLocksError_InvalidFormatError ?xiInvalidLocksError_InvalidLengthsError ?xiInvalidLocksError_InvalidLocksError ?xiInvalidLocksError_InvalidNumberError ?xiInvalidLocksError_InvalidScrollsError ?xiInvalidLocksError_InvalidTurnError ?xiInvalidLocksError_InvalidTurnsError ?xiInvalidLocksError_LockedError ?xiInvalidLocksError_ScrollError ?xiInvalidLocksError_ValueError ?xgInvalidFormatError ?xkInvalidFormatError ?xdInvalidFormatError ?xaInvalidFormatError ?xmInvalidFormatError ?xiInvalidFormatError_EmptyHistoryError ?xiInvalidFormatError_InvalidAreaError ?xiInvalidFormatError_InvalidEffectError ?xiInvalidFormatError_InvalidFormError ?xiInvalidFormatError_InvalidFormatError ?xiInvalidFormatError_InvalidLengthsError ?xiInvalidFormatError_InvalidLocksError ?xiInvalidFormatError_InvalidNumberError ?xiInvalidFormatError_InvalidScrollsError ?xiInvalidFormatError_InvalidTurnError ?xiInvalidFormatError_InvalidTurnsError ?xiInvalidFormatError_LockedError ?xiInvalidFormatError_ScrollError ?xiInvalidFormatError_ValueError ?xgLockedError ?xkLockedError ?xdLockedError ?xaLockedError ?xmLockedError ?xiLockedError_EmptyHistoryError ?xiLockedError_InvalidAreaError ?xiLockedError_InvalidEffectError ?xiLockedError_InvalidFormError ?xiLockedError_InvalidFormatError ?xiLockedError_InvalidLengthsError ?xiLockedError_InvalidLocksError ?xiLockedError_InvalidNumberError ?xiLockedError_InvalidScrollsError ?xiLockedError_InvalidTurnError ?xiLockedError_InvalidTurnsError ?xiLockedError_LockedError ?xiLockedError_ScrollError ?xiLockedError_ValueError ?xgEmptyHistoryError ?xkEmptyHistoryError ?xdEmptyHistoryError ?xaEmptyHistoryError ?xmEmptyHistoryError ?xiEmptyHistoryError_EmptyHistoryError ?xiEmptyHistoryError_InvalidAreaError ?xiEmptyHistoryError_InvalidEffectError ?xiEmptyHistoryError_InvalidFormError ?xiEmptyHistoryError_InvalidFormatError ?xiEmptyHistoryError_InvalidLengthsError ?xiEmptyHistoryError_InvalidLocksError ?xiEmptyHistoryError_InvalidNumberError ?xiEmptyHistoryError_InvalidScrollsError ?xiEmptyHistoryError_InvalidTurnError ?xiEmptyHistoryError_InvalidTurnsError ?xiEmptyHistoryError_LockedError ?xiEmptyHistoryError_ScrollError ?xiEmptyHistoryError_ValueError ?ais_integer ?lis_integer ?cis_integer ?kis_integer ?acut ?lcut ?ccut ?kcut ?asums_of ?lsums_of ?csums_of ?ksums_of ?ascrolls_from ?lscrolls_from ?cscrolls_from ?kscrolls_from ?al_bag ?ll_bag ?cl_bag ?kl_bag ?al_draw ?ll_draw ?cl_draw ?kl_draw ?al_marks ?ll_marks ?cl_marks ?kl_marks ?ais_lengths ?lis_lengths ?cis_lengths ?kis_lengths ?aare_scrolls ?lare_scrolls ?care_scrolls ?kare_scrolls ?ais_turns ?lis_turns ?cis_turns ?kis_turns ?amoved_sums ?lmoved_sums ?cmoved_sums ?kmoved_sums ?acheck_lengths ?lcheck_lengths ?ccheck_lengths ?kcheck_lengths ?acheck_scrolls ?lcheck_scrolls ?ccheck_scrolls ?kcheck_scrolls ?acheck_turns ?lcheck_turns ?ccheck_turns ?kcheck_turns ?ascrolls_in ?lscrolls_in ?cscrolls_in ?kscrolls_in ?ascrolls_after ?lscrolls_after ?cscrolls_after ?kscrolls_after ?al_caught ?ll_caught ?cl_caught ?kl_caught ?al_right ?ll_right ?cl_right ?kl_right ?alaw ?llaw ?claw ?klaw ?gMOST_AREAS ?gMOST_TURNS ?zValueError ?zall ?zbool ?zint ?zisinstance ?zlen ?zlist ?zmax ?zmin ?zrange ?zzip
    (case aCScrollError => k_is)
    (case kCScrollError => k_is)
    (case aCInvalidLengthsError => k_is)
    (case kCInvalidLengthsError => k_is)
    (case aCInvalidScrollsError => k_is)
    (case kCInvalidScrollsError => k_is)
    (case aCInvalidTurnError => k_is)
    (case kCInvalidTurnError => k_is)
    (case aCInvalidTurnsError => k_is)
    (case kCInvalidTurnsError => k_is)
    (case aCInvalidNumberError => k_is)
    (case kCInvalidNumberError => k_is)
    (case aCInvalidAreaError => k_is)
    (case kCInvalidAreaError => k_is)
    (case aCInvalidEffectError => k_is)
    (case kCInvalidEffectError => k_is)
    (case aCInvalidFormError => k_is)
    (case kCInvalidFormError => k_is)
    (case aCInvalidLocksError => k_is)
    (case kCInvalidLocksError => k_is)
    (case aCInvalidFormatError => k_is)
    (case kCInvalidFormatError => k_is)
    (case aCLockedError => k_is)
    (case kCLockedError => k_is)
    (case aCEmptyHistoryError => k_is)
    (case kCEmptyHistoryError => k_is)
    (case xScrollError => k_exc)
    (case bScrollError => k_is)
    (case tScrollError => k_is)
    (case jScrollError => k_is)
    (case eScrollError_ScrollError => k_is)
    (case xInvalidLengthsError => k_exc)
    (case bInvalidLengthsError => k_is)
    (case tInvalidLengthsError => k_is)
    (case eInvalidLengthsError_ScrollError => k_is)
    (case xInvalidScrollsError => k_exc)
    (case bInvalidScrollsError => k_is)
    (case tInvalidScrollsError => k_is)
    (case eInvalidScrollsError_ScrollError => k_is)
    (case xInvalidTurnError => k_exc)
    (case bInvalidTurnError => k_is)
    (case tInvalidTurnError => k_is)
    (case eInvalidTurnError_ScrollError => k_is)
    (case xInvalidTurnsError => k_exc)
    (case bInvalidTurnsError => k_is)
    (case tInvalidTurnsError => k_is)
    (case eInvalidTurnsError_ScrollError => k_is)
    (case xInvalidNumberError => k_exc)
    (case bInvalidNumberError => k_is)
    (case tInvalidNumberError => k_is)
    (case eInvalidNumberError_ScrollError => k_is)
    (case xInvalidAreaError => k_exc)
    (case bInvalidAreaError => k_is)
    (case tInvalidAreaError => k_is)
    (case eInvalidAreaError_ScrollError => k_is)
    (case xInvalidEffectError => k_exc)
    (case bInvalidEffectError => k_is)
    (case tInvalidEffectError => k_is)
    (case eInvalidEffectError_ScrollError => k_is)
    (case xInvalidFormError => k_exc)
    (case bInvalidFormError => k_is)
    (case tInvalidFormError => k_is)
    (case eInvalidFormError_ScrollError => k_is)
    (case xInvalidLocksError => k_exc)
    (case bInvalidLocksError => k_is)
    (case tInvalidLocksError => k_is)
    (case eInvalidLocksError_ScrollError => k_is)
    (case xInvalidFormatError => k_exc)
    (case bInvalidFormatError => k_is)
    (case tInvalidFormatError => k_is)
    (case eInvalidFormatError_ScrollError => k_is)
    (case xLockedError => k_exc)
    (case bLockedError => k_is)
    (case tLockedError => k_is)
    (case eLockedError_ScrollError => k_is)
    (case xEmptyHistoryError => k_exc)
    (case bEmptyHistoryError => k_is)
    (case tEmptyHistoryError => k_is)
    (case eEmptyHistoryError_ScrollError => k_is)
    (case xcn => k_is)
    (case xct => k_is)
    (case xgScrollError => k_is)
    (case xkScrollError => k_is)
    (case xdScrollError => k_is)
    (case xaScrollError => k_is)
    (case xmScrollError => k_is)
    (case xiScrollError_EmptyHistoryError => first | k_is | kit_is)
    (case xiScrollError_InvalidAreaError => first | k_is | kit_is)
    (case xiScrollError_InvalidEffectError => first | k_is | kit_is)
    (case xiScrollError_InvalidFormError => first | k_is | kit_is)
    (case xiScrollError_InvalidFormatError => first | k_is | kit_is)
    (case xiScrollError_InvalidLengthsError => first | k_is | kit_is)
    (case xiScrollError_InvalidLocksError => first | k_is | kit_is)
    (case xiScrollError_InvalidNumberError => first | k_is | kit_is)
    (case xiScrollError_InvalidScrollsError => first | k_is | kit_is)
    (case xiScrollError_InvalidTurnError => first | k_is | kit_is)
    (case xiScrollError_InvalidTurnsError => first | k_is | kit_is)
    (case xiScrollError_LockedError => first | k_is | kit_is)
    (case xiScrollError_ScrollError => first | k_is | kit_is)
    (case xiScrollError_ValueError => first | k_is | kit_is)
    (case xgInvalidLengthsError => k_is)
    (case xkInvalidLengthsError => k_is)
    (case xdInvalidLengthsError => k_is)
    (case xaInvalidLengthsError => k_is)
    (case xmInvalidLengthsError => k_is)
    (case xiInvalidLengthsError_EmptyHistoryError => first | k_is | kit_is)
    (case xiInvalidLengthsError_InvalidAreaError => first | k_is | kit_is)
    (case xiInvalidLengthsError_InvalidEffectError => first | k_is | kit_is)
    (case xiInvalidLengthsError_InvalidFormError => first | k_is | kit_is)
    (case xiInvalidLengthsError_InvalidFormatError => first | k_is | kit_is)
    (case xiInvalidLengthsError_InvalidLengthsError => first | k_is | kit_is)
    (case xiInvalidLengthsError_InvalidLocksError => first | k_is | kit_is)
    (case xiInvalidLengthsError_InvalidNumberError => first | k_is | kit_is)
    (case xiInvalidLengthsError_InvalidScrollsError => first | k_is | kit_is)
    (case xiInvalidLengthsError_InvalidTurnError => first | k_is | kit_is)
    (case xiInvalidLengthsError_InvalidTurnsError => first | k_is | kit_is)
    (case xiInvalidLengthsError_LockedError => first | k_is | kit_is)
    (case xiInvalidLengthsError_ScrollError => first | k_is | kit_is)
    (case xiInvalidLengthsError_ValueError => first | k_is | kit_is)
    (case xgInvalidScrollsError => k_is)
    (case xkInvalidScrollsError => k_is)
    (case xdInvalidScrollsError => k_is)
    (case xaInvalidScrollsError => k_is)
    (case xmInvalidScrollsError => k_is)
    (case xiInvalidScrollsError_EmptyHistoryError => first | k_is | kit_is)
    (case xiInvalidScrollsError_InvalidAreaError => first | k_is | kit_is)
    (case xiInvalidScrollsError_InvalidEffectError => first | k_is | kit_is)
    (case xiInvalidScrollsError_InvalidFormError => first | k_is | kit_is)
    (case xiInvalidScrollsError_InvalidFormatError => first | k_is | kit_is)
    (case xiInvalidScrollsError_InvalidLengthsError => first | k_is | kit_is)
    (case xiInvalidScrollsError_InvalidLocksError => first | k_is | kit_is)
    (case xiInvalidScrollsError_InvalidNumberError => first | k_is | kit_is)
    (case xiInvalidScrollsError_InvalidScrollsError => first | k_is | kit_is)
    (case xiInvalidScrollsError_InvalidTurnError => first | k_is | kit_is)
    (case xiInvalidScrollsError_InvalidTurnsError => first | k_is | kit_is)
    (case xiInvalidScrollsError_LockedError => first | k_is | kit_is)
    (case xiInvalidScrollsError_ScrollError => first | k_is | kit_is)
    (case xiInvalidScrollsError_ValueError => first | k_is | kit_is)
    (case xgInvalidTurnError => k_is)
    (case xkInvalidTurnError => k_is)
    (case xdInvalidTurnError => k_is)
    (case xaInvalidTurnError => k_is)
    (case xmInvalidTurnError => k_is)
    (case xiInvalidTurnError_EmptyHistoryError => first | k_is | kit_is)
    (case xiInvalidTurnError_InvalidAreaError => first | k_is | kit_is)
    (case xiInvalidTurnError_InvalidEffectError => first | k_is | kit_is)
    (case xiInvalidTurnError_InvalidFormError => first | k_is | kit_is)
    (case xiInvalidTurnError_InvalidFormatError => first | k_is | kit_is)
    (case xiInvalidTurnError_InvalidLengthsError => first | k_is | kit_is)
    (case xiInvalidTurnError_InvalidLocksError => first | k_is | kit_is)
    (case xiInvalidTurnError_InvalidNumberError => first | k_is | kit_is)
    (case xiInvalidTurnError_InvalidScrollsError => first | k_is | kit_is)
    (case xiInvalidTurnError_InvalidTurnError => first | k_is | kit_is)
    (case xiInvalidTurnError_InvalidTurnsError => first | k_is | kit_is)
    (case xiInvalidTurnError_LockedError => first | k_is | kit_is)
    (case xiInvalidTurnError_ScrollError => first | k_is | kit_is)
    (case xiInvalidTurnError_ValueError => first | k_is | kit_is)
    (case xgInvalidTurnsError => k_is)
    (case xkInvalidTurnsError => k_is)
    (case xdInvalidTurnsError => k_is)
    (case xaInvalidTurnsError => k_is)
    (case xmInvalidTurnsError => k_is)
    (case xiInvalidTurnsError_EmptyHistoryError => first | k_is | kit_is)
    (case xiInvalidTurnsError_InvalidAreaError => first | k_is | kit_is)
    (case xiInvalidTurnsError_InvalidEffectError => first | k_is | kit_is)
    (case xiInvalidTurnsError_InvalidFormError => first | k_is | kit_is)
    (case xiInvalidTurnsError_InvalidFormatError => first | k_is | kit_is)
    (case xiInvalidTurnsError_InvalidLengthsError => first | k_is | kit_is)
    (case xiInvalidTurnsError_InvalidLocksError => first | k_is | kit_is)
    (case xiInvalidTurnsError_InvalidNumberError => first | k_is | kit_is)
    (case xiInvalidTurnsError_InvalidScrollsError => first | k_is | kit_is)
    (case xiInvalidTurnsError_InvalidTurnError => first | k_is | kit_is)
    (case xiInvalidTurnsError_InvalidTurnsError => first | k_is | kit_is)
    (case xiInvalidTurnsError_LockedError => first | k_is | kit_is)
    (case xiInvalidTurnsError_ScrollError => first | k_is | kit_is)
    (case xiInvalidTurnsError_ValueError => first | k_is | kit_is)
    (case xgInvalidNumberError => k_is)
    (case xkInvalidNumberError => k_is)
    (case xdInvalidNumberError => k_is)
    (case xaInvalidNumberError => k_is)
    (case xmInvalidNumberError => k_is)
    (case xiInvalidNumberError_EmptyHistoryError => first | k_is | kit_is)
    (case xiInvalidNumberError_InvalidAreaError => first | k_is | kit_is)
    (case xiInvalidNumberError_InvalidEffectError => first | k_is | kit_is)
    (case xiInvalidNumberError_InvalidFormError => first | k_is | kit_is)
    (case xiInvalidNumberError_InvalidFormatError => first | k_is | kit_is)
    (case xiInvalidNumberError_InvalidLengthsError => first | k_is | kit_is)
    (case xiInvalidNumberError_InvalidLocksError => first | k_is | kit_is)
    (case xiInvalidNumberError_InvalidNumberError => first | k_is | kit_is)
    (case xiInvalidNumberError_InvalidScrollsError => first | k_is | kit_is)
    (case xiInvalidNumberError_InvalidTurnError => first | k_is | kit_is)
    (case xiInvalidNumberError_InvalidTurnsError => first | k_is | kit_is)
    (case xiInvalidNumberError_LockedError => first | k_is | kit_is)
    (case xiInvalidNumberError_ScrollError => first | k_is | kit_is)
    (case xiInvalidNumberError_ValueError => first | k_is | kit_is)
    (case xgInvalidAreaError => k_is)
    (case xkInvalidAreaError => k_is)
    (case xdInvalidAreaError => k_is)
    (case xaInvalidAreaError => k_is)
    (case xmInvalidAreaError => k_is)
    (case xiInvalidAreaError_EmptyHistoryError => first | k_is | kit_is)
    (case xiInvalidAreaError_InvalidAreaError => first | k_is | kit_is)
    (case xiInvalidAreaError_InvalidEffectError => first | k_is | kit_is)
    (case xiInvalidAreaError_InvalidFormError => first | k_is | kit_is)
    (case xiInvalidAreaError_InvalidFormatError => first | k_is | kit_is)
    (case xiInvalidAreaError_InvalidLengthsError => first | k_is | kit_is)
    (case xiInvalidAreaError_InvalidLocksError => first | k_is | kit_is)
    (case xiInvalidAreaError_InvalidNumberError => first | k_is | kit_is)
    (case xiInvalidAreaError_InvalidScrollsError => first | k_is | kit_is)
    (case xiInvalidAreaError_InvalidTurnError => first | k_is | kit_is)
    (case xiInvalidAreaError_InvalidTurnsError => first | k_is | kit_is)
    (case xiInvalidAreaError_LockedError => first | k_is | kit_is)
    (case xiInvalidAreaError_ScrollError => first | k_is | kit_is)
    (case xiInvalidAreaError_ValueError => first | k_is | kit_is)
    (case xgInvalidEffectError => k_is)
    (case xkInvalidEffectError => k_is)
    (case xdInvalidEffectError => k_is)
    (case xaInvalidEffectError => k_is)
    (case xmInvalidEffectError => k_is)
    (case xiInvalidEffectError_EmptyHistoryError => first | k_is | kit_is)
    (case xiInvalidEffectError_InvalidAreaError => first | k_is | kit_is)
    (case xiInvalidEffectError_InvalidEffectError => first | k_is | kit_is)
    (case xiInvalidEffectError_InvalidFormError => first | k_is | kit_is)
    (case xiInvalidEffectError_InvalidFormatError => first | k_is | kit_is)
    (case xiInvalidEffectError_InvalidLengthsError => first | k_is | kit_is)
    (case xiInvalidEffectError_InvalidLocksError => first | k_is | kit_is)
    (case xiInvalidEffectError_InvalidNumberError => first | k_is | kit_is)
    (case xiInvalidEffectError_InvalidScrollsError => first | k_is | kit_is)
    (case xiInvalidEffectError_InvalidTurnError => first | k_is | kit_is)
    (case xiInvalidEffectError_InvalidTurnsError => first | k_is | kit_is)
    (case xiInvalidEffectError_LockedError => first | k_is | kit_is)
    (case xiInvalidEffectError_ScrollError => first | k_is | kit_is)
    (case xiInvalidEffectError_ValueError => first | k_is | kit_is)
    (case xgInvalidFormError => k_is)
    (case xkInvalidFormError => k_is)
    (case xdInvalidFormError => k_is)
    (case xaInvalidFormError => k_is)
    (case xmInvalidFormError => k_is)
    (case xiInvalidFormError_EmptyHistoryError => first | k_is | kit_is)
    (case xiInvalidFormError_InvalidAreaError => first | k_is | kit_is)
    (case xiInvalidFormError_InvalidEffectError => first | k_is | kit_is)
    (case xiInvalidFormError_InvalidFormError => first | k_is | kit_is)
    (case xiInvalidFormError_InvalidFormatError => first | k_is | kit_is)
    (case xiInvalidFormError_InvalidLengthsError => first | k_is | kit_is)
    (case xiInvalidFormError_InvalidLocksError => first | k_is | kit_is)
    (case xiInvalidFormError_InvalidNumberError => first | k_is | kit_is)
    (case xiInvalidFormError_InvalidScrollsError => first | k_is | kit_is)
    (case xiInvalidFormError_InvalidTurnError => first | k_is | kit_is)
    (case xiInvalidFormError_InvalidTurnsError => first | k_is | kit_is)
    (case xiInvalidFormError_LockedError => first | k_is | kit_is)
    (case xiInvalidFormError_ScrollError => first | k_is | kit_is)
    (case xiInvalidFormError_ValueError => first | k_is | kit_is)
    (case xgInvalidLocksError => k_is)
    (case xkInvalidLocksError => k_is)
    (case xdInvalidLocksError => k_is)
    (case xaInvalidLocksError => k_is)
    (case xmInvalidLocksError => k_is)
    (case xiInvalidLocksError_EmptyHistoryError => first | k_is | kit_is)
    (case xiInvalidLocksError_InvalidAreaError => first | k_is | kit_is)
    (case xiInvalidLocksError_InvalidEffectError => first | k_is | kit_is)
    (case xiInvalidLocksError_InvalidFormError => first | k_is | kit_is)
    (case xiInvalidLocksError_InvalidFormatError => first | k_is | kit_is)
    (case xiInvalidLocksError_InvalidLengthsError => first | k_is | kit_is)
    (case xiInvalidLocksError_InvalidLocksError => first | k_is | kit_is)
    (case xiInvalidLocksError_InvalidNumberError => first | k_is | kit_is)
    (case xiInvalidLocksError_InvalidScrollsError => first | k_is | kit_is)
    (case xiInvalidLocksError_InvalidTurnError => first | k_is | kit_is)
    (case xiInvalidLocksError_InvalidTurnsError => first | k_is | kit_is)
    (case xiInvalidLocksError_LockedError => first | k_is | kit_is)
    (case xiInvalidLocksError_ScrollError => first | k_is | kit_is)
    (case xiInvalidLocksError_ValueError => first | k_is | kit_is)
    (case xgInvalidFormatError => k_is)
    (case xkInvalidFormatError => k_is)
    (case xdInvalidFormatError => k_is)
    (case xaInvalidFormatError => k_is)
    (case xmInvalidFormatError => k_is)
    (case xiInvalidFormatError_EmptyHistoryError => first | k_is | kit_is)
    (case xiInvalidFormatError_InvalidAreaError => first | k_is | kit_is)
    (case xiInvalidFormatError_InvalidEffectError => first | k_is | kit_is)
    (case xiInvalidFormatError_InvalidFormError => first | k_is | kit_is)
    (case xiInvalidFormatError_InvalidFormatError => first | k_is | kit_is)
    (case xiInvalidFormatError_InvalidLengthsError => first | k_is | kit_is)
    (case xiInvalidFormatError_InvalidLocksError => first | k_is | kit_is)
    (case xiInvalidFormatError_InvalidNumberError => first | k_is | kit_is)
    (case xiInvalidFormatError_InvalidScrollsError => first | k_is | kit_is)
    (case xiInvalidFormatError_InvalidTurnError => first | k_is | kit_is)
    (case xiInvalidFormatError_InvalidTurnsError => first | k_is | kit_is)
    (case xiInvalidFormatError_LockedError => first | k_is | kit_is)
    (case xiInvalidFormatError_ScrollError => first | k_is | kit_is)
    (case xiInvalidFormatError_ValueError => first | k_is | kit_is)
    (case xgLockedError => k_is)
    (case xkLockedError => k_is)
    (case xdLockedError => k_is)
    (case xaLockedError => k_is)
    (case xmLockedError => k_is)
    (case xiLockedError_EmptyHistoryError => first | k_is | kit_is)
    (case xiLockedError_InvalidAreaError => first | k_is | kit_is)
    (case xiLockedError_InvalidEffectError => first | k_is | kit_is)
    (case xiLockedError_InvalidFormError => first | k_is | kit_is)
    (case xiLockedError_InvalidFormatError => first | k_is | kit_is)
    (case xiLockedError_InvalidLengthsError => first | k_is | kit_is)
    (case xiLockedError_InvalidLocksError => first | k_is | kit_is)
    (case xiLockedError_InvalidNumberError => first | k_is | kit_is)
    (case xiLockedError_InvalidScrollsError => first | k_is | kit_is)
    (case xiLockedError_InvalidTurnError => first | k_is | kit_is)
    (case xiLockedError_InvalidTurnsError => first | k_is | kit_is)
    (case xiLockedError_LockedError => first | k_is | kit_is)
    (case xiLockedError_ScrollError => first | k_is | kit_is)
    (case xiLockedError_ValueError => first | k_is | kit_is)
    (case xgEmptyHistoryError => k_is)
    (case xkEmptyHistoryError => k_is)
    (case xdEmptyHistoryError => k_is)
    (case xaEmptyHistoryError => k_is)
    (case xmEmptyHistoryError => k_is)
    (case xiEmptyHistoryError_EmptyHistoryError => first | k_is | kit_is)
    (case xiEmptyHistoryError_InvalidAreaError => first | k_is | kit_is)
    (case xiEmptyHistoryError_InvalidEffectError => first | k_is | kit_is)
    (case xiEmptyHistoryError_InvalidFormError => first | k_is | kit_is)
    (case xiEmptyHistoryError_InvalidFormatError => first | k_is | kit_is)
    (case xiEmptyHistoryError_InvalidLengthsError => first | k_is | kit_is)
    (case xiEmptyHistoryError_InvalidLocksError => first | k_is | kit_is)
    (case xiEmptyHistoryError_InvalidNumberError => first | k_is | kit_is)
    (case xiEmptyHistoryError_InvalidScrollsError => first | k_is | kit_is)
    (case xiEmptyHistoryError_InvalidTurnError => first | k_is | kit_is)
    (case xiEmptyHistoryError_InvalidTurnsError => first | k_is | kit_is)
    (case xiEmptyHistoryError_LockedError => first | k_is | kit_is)
    (case xiEmptyHistoryError_ScrollError => first | k_is | kit_is)
    (case xiEmptyHistoryError_ValueError => first | k_is | kit_is)
    (case ais_integer => k_is)
    (case lis_integer => k_is)
    (case cis_integer => k_is)
    (case kis_integer => k_is)
    (case acut => k_is)
    (case lcut => k_is)
    (case ccut => k_is)
    (case kcut => k_is)
    (case asums_of => k_is)
    (case lsums_of => k_is)
    (case csums_of => k_is)
    (case ksums_of => k_is)
    (case ascrolls_from => k_is)
    (case lscrolls_from => k_is)
    (case cscrolls_from => k_is)
    (case kscrolls_from => k_is)
    (case al_bag => k_is)
    (case ll_bag => k_is)
    (case cl_bag => k_is)
    (case kl_bag => k_is)
    (case al_draw => k_is)
    (case ll_draw => k_is)
    (case cl_draw => k_is)
    (case kl_draw => k_is)
    (case al_marks => k_is)
    (case ll_marks => k_is)
    (case cl_marks => k_is)
    (case kl_marks => k_is)
    (case ais_lengths => k_is)
    (case lis_lengths => k_is)
    (case cis_lengths => k_is)
    (case kis_lengths => k_is)
    (case aare_scrolls => k_is)
    (case lare_scrolls => k_is)
    (case care_scrolls => k_is)
    (case kare_scrolls => k_is)
    (case ais_turns => k_is)
    (case lis_turns => k_is)
    (case cis_turns => k_is)
    (case kis_turns => k_is)
    (case amoved_sums => k_is)
    (case lmoved_sums => k_is)
    (case cmoved_sums => k_is)
    (case kmoved_sums => k_is)
    (case acheck_lengths => k_is)
    (case lcheck_lengths => k_is)
    (case ccheck_lengths => k_is)
    (case kcheck_lengths => k_is)
    (case acheck_scrolls => k_is)
    (case lcheck_scrolls => k_is)
    (case ccheck_scrolls => k_is)
    (case kcheck_scrolls => k_is)
    (case acheck_turns => k_is)
    (case lcheck_turns => k_is)
    (case ccheck_turns => k_is)
    (case kcheck_turns => k_is)
    (case ascrolls_in => k_is)
    (case lscrolls_in => k_is)
    (case cscrolls_in => k_is)
    (case kscrolls_in => k_is)
    (case ascrolls_after => k_is)
    (case lscrolls_after => k_is)
    (case cscrolls_after => k_is)
    (case kscrolls_after => k_is)
    (case al_caught => k_is)
    (case ll_caught => k_is)
    (case cl_caught => k_is)
    (case kl_caught => k_is)
    (case al_right => k_is)
    (case ll_right => k_is)
    (case cl_right => k_is)
    (case kl_right => k_is)
    (case alaw => k_is)
    (case llaw => k_is)
    (case claw => k_is)
    (case klaw => k_is)
    (case gMOST_AREAS => k_is)
    (case gMOST_TURNS => k_is)
    (case zValueError => k_is)
    (case zall => k_is)
    (case zbool => k_is)
    (case zint => k_is)
    (case zisinstance => k_is)
    (case zlen => k_is)
    (case zlist => k_is)
    (case zmax => k_is)
    (case zmin => k_is)
    (case zrange => k_is)
    (case zzip => k_is)

