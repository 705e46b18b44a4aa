import PyProof.Rows.All
import Wide.All
import OpenK.AllK
import Wide.FinOn
import HandS.ForMost
import HandS.ForExc
import HandS.IsInst
import HandS.TryMany
import HandS.CallSlots
import HandS.Lambda
import HandS.Wide
import HandS.TupAny
import HandS.ExcInit
import HandS.Defaults
import HandS.ExcField
import HandS.Zip
import HandS.ListItems
import HandS.Deep
import PyProof.ReprRoads
import HandS.EndTab
import HandS.HeadHook4
import HandS.HeadEnd
import HandS.Head2
import HandS.Gcd
import HandS.SortInts
import KE.SortData
import PySem.Challenge.RW_takeandsplit_k19_whole_least_papers
import Lean
import KE.KStateDown
import HandS.Head0
import HandS.Head1
import HandS.Head3
section
set_option Elab.async false
set_option linter.all false
set_option maxRecDepth 100000
set_option maxHeartbeats 4000000
namespace Ly
open PySem L2

/-- data: the Bool tells whether the object is owned (fresh, known to nobody else) -/
inductive D where
  | non | bl (b : Bool) | int (i : Int) | str (x : Str)
  | lst (o : Bool) (ds : List D) | tup (o : Bool) (ds : List D)
  | dic (o : Bool) (ks : List Key) (ds : List D)
  | ins (o : Bool) (c : Str) (fs : List Str) (ds : List D)
  | opq (v : V)

mutual
def frz : D → D
  | .lst _ ds => .lst false (frzL ds)
  | .tup _ ds => .tup false (frzL ds)
  | .dic _ ks ds => .dic false ks (frzL ds)
  | .ins _ c fs ds => .ins false c fs (frzL ds)
  | .non => .non | .bl b => .bl b | .int i => .int i | .str x => .str x | .opq v => .opq v
def frzL : List D → List D
  | [] => []
  | d :: ds => frz d :: frzL ds
end
mutual
def shr : D → Bool
  | .lst o ds => !o || shrL ds
  | .tup o ds => !o || shrL ds
  | .dic o _ ds => !o || shrL ds
  | .ins o _ _ ds => !o || shrL ds
  | _ => false
def shrL : List D → Bool
  | [] => false
  | d :: ds => shr d || shrL ds
end

section
variable (K : PySem.W.Frag) (A : Str → Addr) (B H : Hp)
mutual
inductive Rp : V → D → List Addr → Prop
  | non : Rp .non .non []
  | bl (b : Bool) : Rp (.bl b) (.bl b) []
  | int (i : Int) : Rp (.int i) (.int i) []
  | str (x : Str) : Rp (.str x) (.str x) []
  | opq (v : V) : Rp v (.opq v) []
  | lsS {a : Addr} {xs : List V} {ds : List D} : B a = some (.lst xs) → RpL xs ds [] → Rp (.ref a) (.lst false ds) []
  | lsO {a : Addr} {xs : List V} {ds : List D} {F : List Addr} : H a = some (.lst xs) → B a = none → RpL xs ds F → Rp (.ref a) (.lst true ds) (a :: F)
  | tpS {a : Addr} {xs : List V} {ds : List D} : SqT K B a xs → RpL xs ds [] → Rp (.ref a) (.tup false ds) []
  | tpO {a : Addr} {xs : List V} {ds : List D} {F : List Addr} : H a = some (.tup xs) → B a = none → RpL xs ds F → Rp (.ref a) (.tup true ds) (a :: F)
  | diS {a : Addr} {ks : List Key} {xs : List V} {ds : List D} : B a = some (.dK (ks.zip xs)) → ks.length = xs.length → RpL xs ds [] → Rp (.ref a) (.dic false ks ds) []
  | diO {a : Addr} {ks : List Key} {xs : List V} {ds : List D} {F : List Addr} : H a = some (.dK (ks.zip xs)) → B a = none → ks.length = xs.length → RpL xs ds F → Rp (.ref a) (.dic true ks ds) (a :: F)
  | inS {a dx : Addr} {c : Str} {fs : List Str} {xs : List V} {ds : List D} : B a = some (.ins (A c) dx (fs.zip xs)) → fs.length = xs.length → RpL xs ds [] → Rp (.ref a) (.ins false c fs ds) []
  | inO {a dx : Addr} {c : Str} {fs : List Str} {xs : List V} {ds : List D} {F : List Addr} : H a = some (.ins (A c) dx (fs.zip xs)) → B a = none → fs.length = xs.length → RpL xs ds F → Rp (.ref a) (.ins true c fs ds) (a :: F)
inductive RpL : List V → List D → List Addr → Prop
  | nil : RpL [] [] []
  | cons {v : V} {vs : List V} {d : D} {ds : List D} {F G : List Addr} : Rp v d F → RpL vs ds G → RpL (v :: vs) (d :: ds) (F ++ G)
end
end

/-- every object of B is in B' -/
def Ex (B B' : Hp) : Prop := ∀ a o, B a = some o → B' a = some o
theorem Ex.refl (B : Hp) : Ex B B := fun _ _ h => h
theorem Ex.trans {B B' B2 : Hp} (h : Ex B B') (h' : Ex B' B2) : Ex B B2 := fun a o e => h' a o (h a o e)
theorem Ex.none {B B' : Hp} (h : Ex B B') {a : Addr} (e : B' a = none) : B a = none := by
  cases q : B a with
  | none => rfl
  | some o => rw [h a o q] at e; cases e
theorem Ex.sqT {K : PySem.W.Frag} {B B' : Hp} (h : Ex B B') {a : Addr} {xs : List V} (q : SqT K B a xs) : SqT K B' a xs := by
  rcases q with q | q
  · rcases q with q | ⟨o, q⟩
    · exact .inl (.inl (h _ _ q))
    · exact .inl (.inr ⟨o, h _ _ q⟩)
  · exact .inr q
theorem Ex.upd {H : Hp} {p : Addr} {o : HO} (h : H p = Option.none) : Ex H (upd H p o) := fun a u e => by
  rw [upd_ne (ne_of_none e h)]; exact e

section
variable {K : PySem.W.Frag} {A : Str → Addr} {B H B' H' : Hp}
/-- the objects at F as they stood, none of them known to B' -/
def Kp (H : Hp) (B' H' : Hp) (F : List Addr) : Prop := ∀ a ∈ F, (∀ o, H a = some o → H' a = some o) ∧ B' a = none
theorem Kp.l {F G : List Addr} (h : Kp H B' H' (F ++ G)) : Kp H B' H' F := fun a m => h a (List.mem_append_left _ m)
theorem Kp.r {F G : List Addr} (h : Kp H B' H' (F ++ G)) : Kp H B' H' G := fun a m => h a (List.mem_append_right _ m)
theorem Kp.hd {a : Addr} {F : List Addr} (h : Kp H B' H' (a :: F)) : (∀ o, H a = some o → H' a = some o) ∧ B' a = none := h a List.mem_cons_self
theorem Kp.tl {a : Addr} {F : List Addr} (h : Kp H B' H' (a :: F)) : Kp H B' H' F := fun b m => h b (List.mem_cons_of_mem _ m)
theorem Kp.nil : Kp H B' H' [] := fun _ m => nomatch m
mutual
theorem Rp.mono (e : Ex B B') : ∀ {v : V} {d : D} {F : List Addr}, Rp K A B H v d F → Kp H B' H' F → Rp K A B' H' v d F
  | _, _, _, .non, _ => .non
  | _, _, _, .bl b, _ => .bl b
  | _, _, _, .int i, _ => .int i
  | _, _, _, .str x, _ => .str x
  | _, _, _, .opq v, _ => .opq v
  | _, _, _, .lsS h r, k => .lsS (e _ _ h) (RpL.mono e r k)
  | _, _, _, .lsO h n r, k => .lsO (k.hd.1 _ h) k.hd.2 (RpL.mono e r k.tl)
  | _, _, _, .tpS h r, k => .tpS (e.sqT h) (RpL.mono e r k)
  | _, _, _, .tpO h n r, k => .tpO (k.hd.1 _ h) k.hd.2 (RpL.mono e r k.tl)
  | _, _, _, .diS h l r, k => .diS (e _ _ h) l (RpL.mono e r k)
  | _, _, _, .diO h n l r, k => .diO (k.hd.1 _ h) k.hd.2 l (RpL.mono e r k.tl)
  | _, _, _, .inS h l r, k => .inS (e _ _ h) l (RpL.mono e r k)
  | _, _, _, .inO h n l r, k => .inO (k.hd.1 _ h) k.hd.2 l (RpL.mono e r k.tl)
theorem RpL.mono (e : Ex B B') : ∀ {vs : List V} {ds : List D} {F : List Addr}, RpL K A B H vs ds F → Kp H B' H' F → RpL K A B' H' vs ds F
  | _, _, _, .nil, _ => .nil
  | _, _, _, .cons r t, k => .cons (Rp.mono e r k.l) (RpL.mono e t k.r)
end
/-- B' holds the objects at F -/
def Tk (H B' : Hp) (F : List Addr) : Prop := ∀ a ∈ F, ∀ o, H a = some o → B' a = some o
theorem Tk.l {F G : List Addr} (h : Tk H B' (F ++ G)) : Tk H B' F := fun a m => h a (List.mem_append_left _ m)
theorem Tk.r {F G : List Addr} (h : Tk H B' (F ++ G)) : Tk H B' G := fun a m => h a (List.mem_append_right _ m)
theorem Tk.tl {a : Addr} {F : List Addr} (h : Tk H B' (a :: F)) : Tk H B' F := fun b m => h b (List.mem_cons_of_mem _ m)
mutual
theorem Rp.frz (e : Ex B B') : ∀ {v : V} {d : D} {F : List Addr}, Rp K A B H v d F → Tk H B' F → Rp K A B' H' v (frz d) []
  | _, _, _, .non, _ => .non
  | _, _, _, .bl b, _ => .bl b
  | _, _, _, .int i, _ => .int i
  | _, _, _, .str x, _ => .str x
  | _, _, _, .opq v, _ => .opq v
  | _, _, _, .lsS h r, k => .lsS (e _ _ h) (RpL.frz e r k)
  | _, _, _, .lsO h n r, k => .lsS (k _ List.mem_cons_self _ h) (RpL.frz e r k.tl)
  | _, _, _, .tpS h r, k => .tpS (e.sqT h) (RpL.frz e r k)
  | _, _, _, .tpO h n r, k => .tpS (SqT.of (k _ List.mem_cons_self _ h)) (RpL.frz e r k.tl)
  | _, _, _, .diS h l r, k => .diS (e _ _ h) l (RpL.frz e r k)
  | _, _, _, .diO h n l r, k => .diS (k _ List.mem_cons_self _ h) l (RpL.frz e r k.tl)
  | _, _, _, .inS h l r, k => .inS (e _ _ h) l (RpL.frz e r k)
  | _, _, _, .inO h n l r, k => .inS (k _ List.mem_cons_self _ h) l (RpL.frz e r k.tl)
theorem RpL.frz (e : Ex B B') : ∀ {vs : List V} {ds : List D} {F : List Addr}, RpL K A B H vs ds F → Tk H B' F → RpL K A B' H' vs (frzL ds) []
  | _, _, _, .nil, _ => .nil
  | _, _, _, .cons r t, k => .cons (F := []) (G := []) (Rp.frz e r k.l) (RpL.frz e t k.r)
end
theorem shr_not {o b : Bool} (h : (!o || b) = false) : o = true ∧ b = false := by
  cases o <;> cases b <;> first | exact ⟨rfl, rfl⟩ | cases h
theorem shr_or {a b : Bool} (h : (a || b) = false) : a = false ∧ b = false := by
  cases a <;> cases b <;> first | exact ⟨rfl, rfl⟩ | cases h
mutual
/-- what names nothing shared leans on its own objects alone -/
theorem Rp.own : ∀ {v : V} {d : D} {F : List Addr}, Rp K A B H v d F → shr d = false → Kp H B' H' F → Rp K A B' H' v d F
  | _, _, _, .non, _, _ => .non
  | _, _, _, .bl b, _, _ => .bl b
  | _, _, _, .int i, _, _ => .int i
  | _, _, _, .str x, _, _ => .str x
  | _, _, _, .opq v, _, _ => .opq v
  | _, _, _, .lsS h r, s, k => by simp [shr] at s
  | _, _, _, .lsO h n r, s, k => .lsO (k.hd.1 _ h) k.hd.2 (RpL.own r (by simpa [shr] using s) k.tl)
  | _, _, _, .tpS h r, s, k => by simp [shr] at s
  | _, _, _, .tpO h n r, s, k => .tpO (k.hd.1 _ h) k.hd.2 (RpL.own r (by simpa [shr] using s) k.tl)
  | _, _, _, .diS h l r, s, k => by simp [shr] at s
  | _, _, _, .diO h n l r, s, k => .diO (k.hd.1 _ h) k.hd.2 l (RpL.own r (by simpa [shr] using s) k.tl)
  | _, _, _, .inS h l r, s, k => by simp [shr] at s
  | _, _, _, .inO h n l r, s, k => .inO (k.hd.1 _ h) k.hd.2 l (RpL.own r (by simpa [shr] using s) k.tl)
theorem RpL.own : ∀ {vs : List V} {ds : List D} {F : List Addr}, RpL K A B H vs ds F → shrL ds = false → Kp H B' H' F → RpL K A B' H' vs ds F
  | _, _, _, .nil, _, _ => .nil
  | _, _, _, .cons r t, s, k => .cons (Rp.own r (shr_or s).1 k.l) (RpL.own t (shr_or s).2 k.r)
end
/-- no code object -/
def NoCd (o : HO) : Prop := ∀ b q, o ≠ LamX.CodeO b q
mutual
/-- owned objects stand in H and not in B -/
theorem Rp.at2 : ∀ {v : V} {d : D} {F : List Addr}, Rp K A B H v d F → ∀ a ∈ F, B a = none ∧ ∃ o, H a = some o ∧ NoCd o
  | _, _, _, .non, _, m => nomatch m
  | _, _, _, .bl b, _, m => nomatch m
  | _, _, _, .int i, _, m => nomatch m
  | _, _, _, .str x, _, m => nomatch m
  | _, _, _, .opq v, _, m => nomatch m
  | _, _, _, .lsS h r, _, m => nomatch m
  | _, _, _, .lsO h n r, a, m => by
    rcases List.mem_cons.mp m with rfl | m
    · exact ⟨n, _, h, fun b q e => by unfold LamX.CodeO at e; cases e⟩
    · exact RpL.at2 r a m
  | _, _, _, .tpS h r, _, m => nomatch m
  | _, _, _, .tpO h n r, a, m => by
    rcases List.mem_cons.mp m with rfl | m
    · exact ⟨n, _, h, fun b q e => by unfold LamX.CodeO at e; cases e⟩
    · exact RpL.at2 r a m
  | _, _, _, .diS h l r, _, m => nomatch m
  | _, _, _, .diO h n l r, a, m => by
    rcases List.mem_cons.mp m with rfl | m
    · exact ⟨n, _, h, fun b q e => by unfold LamX.CodeO at e; cases e⟩
    · exact RpL.at2 r a m
  | _, _, _, .inS h l r, _, m => nomatch m
  | _, _, _, .inO h n l r, a, m => by
    rcases List.mem_cons.mp m with rfl | m
    · exact ⟨n, _, h, fun b q e => by unfold LamX.CodeO at e; cases e⟩
    · exact RpL.at2 r a m
theorem RpL.at2 : ∀ {vs : List V} {ds : List D} {F : List Addr}, RpL K A B H vs ds F → ∀ a ∈ F, B a = none ∧ ∃ o, H a = some o ∧ NoCd o
  | _, _, _, .nil, _, m => nomatch m
  | _, _, _, .cons r t, a, m => by
    rcases List.mem_append.mp m with m | m
    · exact Rp.at2 r a m
    · exact RpL.at2 t a m
end
theorem Rp.at {v : V} {d : D} {F : List Addr} (r : Rp K A B H v d F) (a : Addr) (m : a ∈ F) : B a = none ∧ ∃ o, H a = some o := by
  obtain ⟨h1, o, h2, _⟩ := Rp.at2 r a m
  exact ⟨h1, o, h2⟩
theorem RpL.at {v : List V} {d : List D} {F : List Addr} (r : RpL K A B H v d F) (a : Addr) (m : a ∈ F) : B a = none ∧ ∃ o, H a = some o := by
  obtain ⟨h1, o, h2, _⟩ := RpL.at2 r a m
  exact ⟨h1, o, h2⟩
/-- none of F is a code object -/
def Noc (H : Hp) (F : List Addr) : Prop := ∀ a ∈ F, ∀ o, H a = some o → NoCd o
theorem Noc.nil : Noc H [] := fun _ m => nomatch m
theorem Noc.app {F G : List Addr} (x : Noc H F) (y : Noc H G) : Noc H (F ++ G) := fun a m => (List.mem_append.mp m).elim (x a) (y a)
theorem Rp.noc {v : V} {d : D} {F : List Addr} (r : Rp K A B H v d F) : Noc H F := fun a m o e => by
  obtain ⟨_, u, h2, h3⟩ := Rp.at2 r a m
  rw [e] at h2; cases h2; exact h3
theorem RpL.noc {v : List V} {d : List D} {F : List Addr} (r : RpL K A B H v d F) : Noc H F := fun a m o e => by
  obtain ⟨_, u, h2, h3⟩ := RpL.at2 r a m
  rw [e] at h2; cases h2; exact h3
theorem RpL.len : ∀ {vs : List V} {ds : List D} {F : List Addr}, RpL K A B H vs ds F → vs.length = ds.length
  | _, _, _, .nil => rfl
  | _, _, _, .cons _ t => by rw [List.length_cons, List.length_cons, RpL.len t]
theorem RpL.get : ∀ {vs : List V} {ds : List D} {F : List Addr}, RpL K A B H vs ds F → ∀ {i : Nat} {v : V}, vs[i]? = some v → ∃ d G, ds[i]? = some d ∧ Rp K A B H v d G ∧ (∀ a ∈ G, a ∈ F)
  | _, _, _, .nil, _, _, e => by simp at e
  | _, _, _, .cons (d := d) (F := F) r t, 0, v, e => by
    simp at e; subst e
    exact ⟨d, F, by simp, r, fun a m => List.mem_append_left _ m⟩
  | _, _, _, .cons r t, i + 1, v, e => by
    obtain ⟨d, G, h1, h2, h3⟩ := RpL.get t (i := i) (v := v) (by simpa using e)
    exact ⟨d, G, by simpa using h1, h2, fun a m => List.mem_append_right _ (h3 a m)⟩
theorem RpL.getD : ∀ {vs : List V} {ds : List D} {F : List Addr}, RpL K A B H vs ds F → ∀ {i : Nat} {d : D}, ds[i]? = some d → ∃ v G, vs[i]? = some v ∧ Rp K A B H v d G ∧ (∀ a ∈ G, a ∈ F)
  | _, _, _, .nil, _, _, e => by simp at e
  | _, _, _, .cons (v := v) (F := F) r t, 0, d, e => by
    simp at e; subst e
    exact ⟨v, F, by simp, r, fun a m => List.mem_append_left _ m⟩
  | _, _, _, .cons r t, i + 1, d, e => by
    obtain ⟨v, G, h1, h2, h3⟩ := RpL.getD t (i := i) (d := d) (by simpa using e)
    exact ⟨v, G, by simpa using h1, h2, fun a m => List.mem_append_right _ (h3 a m)⟩
end
end Ly

end
section
set_option Elab.async false
set_option linter.all false
set_option maxRecDepth 100000
set_option maxHeartbeats 4000000
namespace Ly
open PySem L2

structure Strm where
  cells : List Int
  left : Int
  many : Int
  mix : Int
/-- the context: the written part, where classes stand, the stream's two lists, the tables of code objects -/
structure Cf where
  K : PySem.W.Frag
  A : Str → Addr
  st : Option (Addr × Addr)
  T : List (Addr × Str) := []
def Cf.S0 (c : Cf) : List Addr := match c.st with
  | some (a, b) => [a, b]
  | none => []
def Cf.S (c : Cf) : List Addr := c.S0 ++ c.T.map Prod.fst
def SmS (c : Cf) (H : Hp) (s : Strm) : Prop := match c.st with
  | none => True
  | some (a, b) => a ≠ b ∧ H a = some (.lst [.ref b, .int s.left, .int s.many, .int s.mix]) ∧ H b = some (.lst (s.cells.map V.int))
structure Sm (c : Cf) (B H : Hp) (s : Strm) : Prop where
  st : SmS c H s
  tb : LamX.Tabs c.T H
  bn : ∀ a ∈ c.S, B a = none
abbrev Env := List (Option D)
inductive R (α : Type) where
  | ok (a : α) (s : Strm) | er (k : Str) (p : Option (List Str × List D)) (s : Strm) | bad
def R.bind {α β : Type} (r : R α) (f : α → Strm → R β) : R β := match r with
  | .ok a s => f a s
  | .er k p s => .er k p s
  | .bad => .bad
/-- from (B, H) with the owned F to (B', H') with the owned F'; the objects at S may change -/
structure Stp (S : List Addr) (B H B' H' : Hp) (F F' : List Addr) : Prop where
  bb : Ex B B'
  bh : Ex B' H'
  fr : ∀ a o, H a = some o → a ∉ F → a ∉ S → H' a = some o
  th : ∀ a, H' a = none → H a = none
  nb : ∀ a, B a = none → B' a ≠ none → H a = none ∨ a ∈ F
  nf : ∀ a ∈ F', H a = none ∨ a ∈ F
  nd : F'.Nodup
theorem Stp.refl {S : List Addr} {B H : Hp} {F : List Addr} (h : Ex B H) (n : F.Nodup) : Stp S B H B H F F :=
  ⟨Ex.refl B, h, fun _ _ e _ _ => e, fun _ e => e, fun _ e n => absurd e n, fun _ m => .inr m, n⟩
section
variable {S S' : List Addr} {B H B1 H1 B2 H2 : Hp} {F F1 F2 G : List Addr}
theorem Stp.trans (x : Stp S B H B1 H1 F F1) (y : Stp S' B1 H1 B2 H2 F1 F2) (hs : ∀ a ∈ S', a ∈ S) : Stp S B H B2 H2 F F2 where
  bb := x.bb.trans y.bb
  bh := y.bh
  fr := fun a o e n m => y.fr a o (x.fr a o e n m) (fun z => by
    rcases x.nf a z with q | q
    · rw [e] at q; cases q
    · exact n q) fun z => m (hs a z)
  th := fun a e => x.th a (y.th a e)
  nb := fun a e n => by
    cases q : B1 a with
    | some u => exact x.nb a e (by rw [q]; simp)
    | none =>
      rcases y.nb a q n with z | z
      · exact .inl (x.th a z)
      · exact x.nf a z
  nf := fun a m => by
    rcases y.nf a m with q | q
    · exact .inl (x.th a q)
    · exact x.nf a q
  nd := y.nd
/-- what is owned beside -/
structure Bsd (S : List Addr) (B H : Hp) (F G : List Addr) : Prop where
  nb : ∀ a ∈ G, B a = none
  th : ∀ a ∈ G, H a ≠ none
  nf : ∀ a ∈ G, a ∉ F
  ns : ∀ a ∈ G, a ∉ S
theorem Stp.kp (x : Stp S B H B1 H1 F F1) (g : Bsd S B H F G) : Kp H B1 H1 G := fun a m =>
  ⟨fun o e => x.fr a o e (g.nf a m) (g.ns a m), by
    cases q : B1 a with
    | none => rfl
    | some u =>
      rcases x.nb a (g.nb a m) (by rw [q]; simp) with z | z
      · exact absurd z (g.th a m)
      · exact absurd z (g.nf a m)⟩
theorem Stp.bsd (x : Stp S B H B1 H1 F F1) (g : Bsd S B H F G) : Bsd S B1 H1 F1 G :=
  ⟨fun a m => (x.kp g a m).2, fun a m e => g.th a m (x.th a e), fun a m z => by
    rcases x.nf a z with q | q
    · exact g.th a m q
    · exact g.nf a m q, g.ns⟩
theorem Stp.ext (x : Stp S B H B1 H1 F F1) (g : Bsd S B H F G) (n : G.Nodup) : Stp S B H B1 H1 (G ++ F) (G ++ F1) where
  bb := x.bb
  bh := x.bh
  fr := fun a o e n m => x.fr a o e (fun z => n (List.mem_append_right _ z)) m
  th := x.th
  nb := fun a e n => (x.nb a e n).imp id fun z => List.mem_append_right _ z
  nf := fun a m => by
    rcases List.mem_append.mp m with m | m
    · exact .inr (List.mem_append_left _ m)
    · exact (x.nf a m).imp id fun z => List.mem_append_right _ z
  nd := List.nodup_append.mpr ⟨n, x.nd, fun a m b m' e => (x.bsd g).nf a m (e ▸ m')⟩
/-- the owned ones among a greater lot -/
theorem Stp.sub (x : Stp S B H B1 H1 F F1) (h : ∀ a ∈ F2, a ∈ F1) (n : F2.Nodup) : Stp S B H B1 H1 F F2 :=
  ⟨x.bb, x.bh, x.fr, x.th, x.nb, fun a m => x.nf a (h a m), n⟩
theorem Stp.more (x : Stp S B H B1 H1 F F1) (h : ∀ a ∈ F, a ∈ G) : Stp S B H B1 H1 G F1 :=
  ⟨x.bb, x.bh, fun a o e n => x.fr a o e fun z => n (h a z), x.th, fun a e n => (x.nb a e n).imp id (h a), fun a m => (x.nf a m).imp id (h a), x.nd⟩
end
section
variable {c : Cf} {B H B1 H1 : Hp} {F F1 : List Addr} {s : Strm}
theorem Cf.S0_some {c : Cf} {a b : Addr} (e : c.st = some (a, b)) : c.S0 = [a, b] := by unfold Cf.S0; rw [e]
theorem Cf.mem0 {c : Cf} {z : Addr} (m : z ∈ c.S0) : z ∈ c.S := List.mem_append_left _ m
/-- the stream stands: its lists are none of B's, none of what is new -/
theorem Sm.out (h : Sm c B H s) : ∀ a ∈ c.S, B a = none ∧ H a ≠ none := fun a m => ⟨h.bn a m, by
  rcases List.mem_append.mp m with m | m
  · have q := h.st
    unfold SmS at q
    unfold Cf.S0 at m
    cases e : c.st with
    | none => rw [e] at m; exact nomatch m
    | some p =>
      obtain ⟨x, y⟩ := p
      rw [e] at m q
      obtain ⟨_, h1, h2⟩ := q
      rcases List.mem_cons.mp m with rfl | m
      · rw [h1]; simp
      · rcases List.mem_cons.mp m with rfl | m
        · rw [h2]; simp
        · exact nomatch m
  · obtain ⟨p, hp, rfl⟩ := List.mem_map.mp m
    obtain ⟨ps, e, _⟩ := h.tb p hp
    rw [e]; simp⟩
theorem SmS.eq (h : SmS c H s) (e : ∀ a ∈ c.S0, H1 a = H a) : SmS c H1 s := by
  unfold SmS at h ⊢
  cases q : c.st with
  | none => trivial
  | some p =>
    obtain ⟨a, b⟩ := p
    rw [q] at h
    rw [Cf.S0_some q] at e
    exact ⟨h.1, by rw [e a (by simp)]; exact h.2.1, by rw [e b (by simp)]; exact h.2.2⟩
/-- .. behind a step that leaves it alone -/
theorem Sm.stp (h : Sm c B H s) (x : Stp [] B H B1 H1 F F1) (hF : ∀ a ∈ F, a ∉ c.S) (hC : Noc H F) : Sm c B1 H1 s := by
  have o := h.out
  have nF : ∀ z ∈ c.S, z ∉ F := fun z m q => hF z q m
  have keep : ∀ z u, H z = some u → z ∉ F → H1 z = some u := fun z u e n => x.fr z u e n (by simp)
  refine ⟨h.st.eq fun a m => ?_, fun p hp => ?_, fun z m => ?_⟩
  · cases e : H a with
    | none => exact absurd e (o a (Cf.mem0 m)).2
    | some u => exact keep a u e (nF a (Cf.mem0 m))
  · obtain ⟨ps, h1, h2, h3⟩ := h.tb p hp
    refine ⟨ps, keep _ _ h1 (nF _ (List.mem_append_right _ (List.mem_map_of_mem hp))), h2, fun pos cv hc => ?_⟩
    obtain ⟨k, e1, e2⟩ := h3 pos cv hc
    exact ⟨k, e1, keep _ _ e2 fun m => hC k m _ e2 k p.2 rfl⟩
  · cases q : B1 z with
    | none => rfl
    | some u =>
      rcases x.nb z (o z m).1 (by rw [q]; simp) with w | w
      · exact absurd w (o z m).2
      · exact absurd w (nF z m)
/-- another frozen part -/
theorem Sm.re (h : Sm c B H s) (hb : ∀ a ∈ c.S, B1 a = none) : Sm c B1 H s := ⟨h.st, h.tb, hb⟩
theorem Sm.new (h : Sm c B H s) {F : List Addr} (n : ∀ a ∈ F, H a = none) : ∀ a ∈ F, a ∉ c.S := fun a m z => (h.out a z).2 (n a m)
end
/-- the slots of data that are readable from B -/
def RdE (c : Cf) (B : Hp) (σ : L2.St) (Δ : Env) : Prop := (∀ (i : Nat) (d : D), Δ[i]? = some (some d) → ∃ v, σ[i]? = some (some v) ∧ Rp c.K c.A B B v d []) ∧ σ.length = Δ.length
theorem RdE.mono {c : Cf} {B B' : Hp} {σ : L2.St} {Δ : Env} (h : RdE c B σ Δ) (e : Ex B B') : RdE c B' σ Δ := ⟨fun i d q => by
  obtain ⟨v, h1, h2⟩ := h.1 i d q
  exact ⟨v, h1, h2.mono e Kp.nil⟩, h.2⟩
/-- what an exception bears -/
def Pay (c : Cf) (B H : Hp) (d : Option Addr) : Option (List Str × List D) → Prop
  | none => d = none
  | some (fs, ds) => ∃ dx xs, d = some dx ∧ H dx = some (.xd (fs.zip xs)) ∧ fs.length = xs.length ∧ RpL c.K c.A B B xs ds []
/-- an answer: what is wanted behind it -/
def Er (c : Cf) (B H : Hp) (σ : L2.St) (W : WX) (k : Str) (p : Option (List Str × List D)) (s : Strm) : Prop :=
  ∀ B' H' d, Stp c.S B H B' H' [] [] → Sm c B' H' s → Pay c B' H' d p → W (.ref (c.A k)) d σ H'
def AnsE (c : Cf) (B H : Hp) (σ : L2.St) (W : WX) (Q : VK) : R D → Prop
  | .ok d s => ∀ v B' H' F, Stp c.S B H B' H' [] F → Sm c B' H' s → Rp c.K c.A B' H' v d F → Q v H'
  | .er k p s => Er c B H σ W k p s
  | .bad => False
def AnsT (c : Cf) (B H : Hp) (σ : L2.St) (W : WX) (Q : Bool → Hp → Prop) : R Bool → Prop
  | .ok b s => ∀ B' H', Stp c.S B H B' H' [] [] → Sm c B' H' s → Q b H'
  | .er k p s => Er c B H σ W k p s
  | .bad => False
def AnsA (c : Cf) (B H : Hp) (σ : L2.St) (W : WX) (Q : List V → Hp → Prop) : R (List D) → Prop
  | .ok ds s => ∀ vs B' H' F, Stp c.S B H B' H' [] F → Sm c B' H' s → RpL c.K c.A B' H' vs ds F → Q vs H'
  | .er k p s => Er c B H σ W k p s
  | .bad => False
/-- an expression, a test, arguments: the reading and the answer on data -/
structure XE (c : Cf) where
  t : WX → TE
  ev : Strm → Env → R D
  ok : ∀ (W : WX) (σ : L2.St) (B H : Hp) (Δ : Env) (s : Strm), Ex B H → Sm c B H s → RdE c B σ Δ → ∀ Q : VK, AnsE c B H σ W Q (ev s Δ) → t W σ H Q
structure XT (c : Cf) where
  t : WX → TT
  ev : Strm → Env → R Bool
  ok : ∀ (W : WX) (σ : L2.St) (B H : Hp) (Δ : Env) (s : Strm), Ex B H → Sm c B H s → RdE c B σ Δ → ∀ Q : Bool → Hp → Prop, AnsT c B H σ W Q (ev s Δ) → t W σ H Q
structure XA (c : Cf) where
  t : WX → TA
  ev : Strm → Env → R (List D)
  ok : ∀ (W : WX) (σ : L2.St) (B H : Hp) (Δ : Env) (s : Strm), Ex B H → Sm c B H s → RdE c B σ Δ → ∀ Q : List V → Hp → Prop, AnsA c B H σ W Q (ev s Δ) → t W σ H Q
section
variable {c : Cf}
theorem Er.step {B H B1 H1 : Hp} {F : List Addr} {σ : L2.St} {W : WX} {k : Str} {p : Option (List Str × List D)} {s : Strm} (h : Er c B H σ W k p s) (x : Stp c.S B H B1 H1 [] F) : Er c B1 H1 σ W k p s := fun B' H' d st sm pay =>
  h B' H' d (x.trans (st.more (G := F) fun _ m => nomatch m) fun _ m => m) sm pay
/-- a variable -/
def XE.var (i : Nat) : XE c where
  t := fun _ => tVar i
  ev := fun s Δ => match Δ[i]? with
    | some (some d) => .ok d s
    | _ => .bad
  ok := fun W σ B H Δ s e sm rd Q h => by
    revert h
    split
    · rename_i d hd
      intro h
      obtain ⟨v, hv, r⟩ := rd.1 i d hd
      exact ⟨v, hv, h v B H [] (Stp.refl e List.nodup_nil) sm (r.mono (Ex.refl B) Kp.nil)⟩
    · intro h; exact h.elim
/-- a constant -/
def XE.con (v : V) (d : D) (hr : ∀ K A B H, Rp K A B H v d []) : XE c where
  t := fun _ => tC v
  ev := fun s _ => .ok d s
  ok := fun W σ B H Δ s e sm rd Q h => h v B H [] (Stp.refl e List.nodup_nil) sm (hr _ _ _ _)
abbrev XE.int (i : Int) : XE c := .con (.int i) (.int i) fun _ _ _ _ => .int i
abbrev XE.str (x : Str) : XE c := .con (.str x) (.str x) fun _ _ _ _ => .str x
abbrev XE.non : XE c := .con .non .non fun _ _ _ _ => .non
abbrev XE.bl (b : Bool) : XE c := .con (.bl b) (.bl b) fun _ _ _ _ => .bl b
abbrev XE.opq (v : V) : XE c := .con v (.opq v) fun _ _ _ _ => .opq v
/-- arguments -/
def XA.nil : XA c where
  t := fun _ => tNil
  ev := fun s _ => .ok [] s
  ok := fun W σ B H Δ s e sm rd Q h => h [] B H [] (Stp.refl e List.nodup_nil) sm .nil
theorem Rp.bsd {K : PySem.W.Frag} {A : Str → Addr} {S : List Addr} {B H : Hp} {v : V} {d : D} {F : List Addr} (r : Rp K A B H v d F) (hs : ∀ a ∈ F, a ∉ S) : Bsd S B H [] F :=
  ⟨fun a m => (r.at a m).1, fun a m => by obtain ⟨o, e⟩ := (r.at a m).2; rw [e]; simp, fun _ _ z => (nomatch z), hs⟩
theorem RpL.bsd {K : PySem.W.Frag} {A : Str → Addr} {S : List Addr} {B H : Hp} {v : List V} {d : List D} {F : List Addr} (r : RpL K A B H v d F) (hs : ∀ a ∈ F, a ∉ S) : Bsd S B H [] F :=
  ⟨fun a m => (r.at a m).1, fun a m => by obtain ⟨o, e⟩ := (r.at a m).2; rw [e]; simp, fun _ _ z => (nomatch z), hs⟩
theorem Stp.new {S : List Addr} {B H B' H' : Hp} {F : List Addr} (x : Stp S B H B' H' [] F) : ∀ a ∈ F, H a = none := fun a m => (x.nf a m).elim id fun z => nomatch z
def XA.cons (a : XE c) (r : XA c) : XA c where
  t := fun W => tCons (a.t W) (r.t W)
  ev := fun s Δ => (a.ev s Δ).bind fun d s1 => (r.ev s1 Δ).bind fun ds s2 => .ok (d :: ds) s2
  ok := fun W σ B H Δ s e sm rd Q h => by
    refine a.ok W σ B H Δ s e sm rd _ ?_
    revert h
    cases a.ev s Δ with
    | ok d s1 =>
      intro h v B1 H1 F1 st1 sm1 r1
      have n1 := sm.new st1.new
      refine r.ok W σ B1 H1 Δ s1 st1.bh sm1 (rd.mono st1.bb) _ ?_
      revert h
      show AnsA c B H σ W Q ((r.ev s1 Δ).bind fun ds s2 => .ok (d :: ds) s2) → _
      cases r.ev s1 Δ with
      | ok ds s2 =>
        intro h vs B2 H2 F2 st2 sm2 r2
        have g := r1.bsd (S := c.S) n1
        have st3 := st2.ext g st1.nd
        rw [List.append_nil] at st3
        exact h (v :: vs) B2 H2 (F1 ++ F2) (st1.trans st3 fun _ m => m) sm2 (.cons (r1.mono st2.bb (st2.kp g)) r2)
      | er k p s2 => intro h; exact Er.step h st1
      | bad => intro h; exact h
    | er k p s1 => intro h; exact h
    | bad => intro h; exact h
/-- what a rule on values does on data -/
def DoA (c : Cf) (r : List V → Hp → VK → Prop) (g : List D → Option D) : Prop :=
  ∀ (B H : Hp) (xs : List V) (ds : List D) (F : List Addr) (z : D), Ex B H → RpL c.K c.A B H xs ds F → F.Nodup → g ds = some z → ∀ Q : VK,
    (∀ v B' H' F', Stp [] B H B' H' F F' → Rp c.K c.A B' H' v z F' → Q v H') → r xs H Q
def optR {α : Type} (s : Strm) : Option α → R α
  | some a => .ok a s
  | none => .bad
theorem Stp.then0 {B H B1 H1 B2 H2 : Hp} {F F2 : List Addr} (x : Stp c.S B H B1 H1 [] F) (y : Stp [] B1 H1 B2 H2 F F2) : Stp c.S B H B2 H2 [] F2 := x.trans y fun _ m => nomatch m
/-- a built-in's call by its rule -/
def XE.app (r : List V → Hp → VK → Prop) (g : List D → Option D) (hr : DoA c r g) (a : XA c) : XE c where
  t := fun W => tCB r (a.t W)
  ev := fun s Δ => (a.ev s Δ).bind fun ds s1 => optR s1 (g ds)
  ok := fun W σ B H Δ s e sm rd Q h => by
    refine a.ok W σ B H Δ s e sm rd _ ?_
    revert h
    cases a.ev s Δ with
    | ok ds s1 =>
      show AnsE c B H σ W Q (optR s1 (g ds)) → _
      cases hz : g ds with
      | none => intro h; exact h.elim
      | some z =>
        intro h vs B1 H1 F1 st1 sm1 r1
        exact hr B1 H1 vs ds F1 z st1.bh r1 st1.nd hz _ fun v B2 H2 F2 st2 r2 => h v B2 H2 F2 (st1.then0 st2) (sm1.stp st2 (sm.new st1.new) r1.noc) r2
    | er k p s1 => intro h; exact h
    | bad => intro h; exact h
def DoA2 (c : Cf) (r : R2) (g : D → D → Option D) : Prop :=
  ∀ (B H : Hp) (x y : V) (d e : D) (F1 F2 : List Addr) (z : D), Ex B H → Rp c.K c.A B H x d F1 → Rp c.K c.A B H y e F2 → (F1 ++ F2).Nodup → g d e = some z → ∀ Q : VK,
    (∀ v B' H' F', Stp [] B H B' H' (F1 ++ F2) F' → Rp c.K c.A B' H' v z F' → Q v H') → r x y H Q
def DoA1 (c : Cf) (r : V → Hp → VK → Prop) (g : D → Option D) : Prop :=
  ∀ (B H : Hp) (x : V) (d : D) (F : List Addr) (z : D), Ex B H → Rp c.K c.A B H x d F → F.Nodup → g d = some z → ∀ Q : VK,
    (∀ v B' H' F', Stp [] B H B' H' F F' → Rp c.K c.A B' H' v z F' → Q v H') → r x H Q
/-- two operands by a rule -/
def XE.op (r : R2) (g : D → D → Option D) (hr : DoA2 c r g) (a b : XE c) : XE c where
  t := fun W => tOp r (a.t W) (b.t W)
  ev := fun s Δ => (a.ev s Δ).bind fun d s1 => (b.ev s1 Δ).bind fun e s2 => optR s2 (g d e)
  ok := fun W σ B H Δ s e sm rd Q h => by
    refine a.ok W σ B H Δ s e sm rd _ ?_
    revert h
    cases a.ev s Δ with
    | ok d s1 =>
      intro h v B1 H1 F1 st1 sm1 r1
      have n1 := sm.new st1.new
      refine b.ok W σ B1 H1 Δ s1 st1.bh sm1 (rd.mono st1.bb) _ ?_
      revert h
      show AnsE c B H σ W Q ((b.ev s1 Δ).bind fun e s2 => optR s2 (g d e)) → _
      cases b.ev s1 Δ with
      | ok d2 s2 =>
        show AnsE c B H σ W Q (optR s2 (g d d2)) → _
        cases hz : g d d2 with
        | none => intro h; exact h.elim
        | some z =>
          intro h u B2 H2 F2 st2 sm2 r2
          have gg := r1.bsd (S := c.S) n1
          have st3 := st2.ext gg st1.nd
          rw [List.append_nil] at st3
          have st4 := st1.trans st3 fun _ m => m
          exact hr B2 H2 v u d d2 F1 F2 z st2.bh (r1.mono st2.bb (st2.kp gg)) r2 st4.nd hz Q fun w B3 H3 F3 st5 r3 => h w B3 H3 F3 (st4.then0 st5) (sm2.stp st5 (sm.new st4.new) ((r1.mono st2.bb (st2.kp gg)).noc.app r2.noc)) r3
      | er k p s2 => intro h; exact Er.step h st1
      | bad => intro h; exact h
    | er k p s1 => intro h; exact h
    | bad => intro h; exact h
/-- one operand by a rule -/
def XE.un (r : V → Hp → VK → Prop) (g : D → Option D) (hr : DoA1 c r g) (a : XE c) : XE c where
  t := fun W => tUn r (a.t W)
  ev := fun s Δ => (a.ev s Δ).bind fun d s1 => optR s1 (g d)
  ok := fun W σ B H Δ s e sm rd Q h => by
    refine a.ok W σ B H Δ s e sm rd _ ?_
    revert h
    cases a.ev s Δ with
    | ok d s1 =>
      show AnsE c B H σ W Q (optR s1 (g d)) → _
      cases hz : g d with
      | none => intro h; exact h.elim
      | some z =>
        intro h v B1 H1 F1 st1 sm1 r1
        exact hr B1 H1 v d F1 z st1.bh r1 st1.nd hz Q fun w B2 H2 F2 st2 r2 => h w B2 H2 F2 (st1.then0 st2) (sm1.stp st2 (sm.new st1.new) r1.noc) r2
    | er k p s1 => intro h; exact h
    | bad => intro h; exact h
/-! ### tests -/
def dB : D → Option Bool
  | .bl b => some b
  | _ => none
/-- an expression that gives a truth value, as a test (tTest of Call; tB of Base is the same) -/
theorem test_ok (a : XE c) (W : WX) (σ : L2.St) (B H : Hp) (Δ : Env) (s : Strm) (e : Ex B H) (sm : Sm c B H s) (rd : RdE c B σ Δ) (Q : Bool → Hp → Prop) (h : AnsT c B H σ W Q ((a.ev s Δ).bind fun d s1 => optR s1 (dB d))) :
    a.t W σ H fun x H1 => ∃ k, x = .bl k ∧ Q k H1 := by
  refine a.ok W σ B H Δ s e sm rd _ ?_
  revert h
  cases a.ev s Δ with
  | ok d s1 =>
    show AnsT c B H σ W Q (optR s1 (dB d)) → _
    cases d with
    | bl b =>
      intro h v B1 H1 F1 st1 sm1 r1
      cases r1
      exact ⟨b, rfl, h B1 H1 st1 sm1⟩
    | _ => intro h; exact h.elim
  | er k p s1 => intro h; exact h
  | bad => intro h; exact h
def XT.test (a : XE c) : XT c where
  t := fun W => tTest (a.t W)
  ev := fun s Δ => (a.ev s Δ).bind fun d s1 => optR s1 (dB d)
  ok := test_ok a
def XT.val (a : XE c) : XT c where
  t := fun W => tB (a.t W)
  ev := fun s Δ => (a.ev s Δ).bind fun d s1 => optR s1 (dB d)
  ok := test_ok a
def XT.not (a : XT c) : XT c where
  t := fun W => tNot (a.t W)
  ev := fun s Δ => (a.ev s Δ).bind fun b s1 => .ok (!b) s1
  ok := fun W σ B H Δ s e sm rd Q h => by
    refine a.ok W σ B H Δ s e sm rd _ ?_
    revert h
    cases a.ev s Δ with
    | ok b s1 => intro h; exact h
    | er k p s1 => intro h; exact h
    | bad => intro h; exact h
def XT.and (a b : XT c) : XT c where
  t := fun W => tAnd (a.t W) (b.t W)
  ev := fun s Δ => (a.ev s Δ).bind fun x s1 => if x then b.ev s1 Δ else .ok false s1
  ok := fun W σ B H Δ s e sm rd Q h => by
    refine a.ok W σ B H Δ s e sm rd _ ?_
    revert h
    cases a.ev s Δ with
    | ok x s1 =>
      cases x with
      | true =>
        show AnsT c B H σ W Q (b.ev s1 Δ) → _
        intro h B1 H1 st1 sm1
        refine b.ok W σ B1 H1 Δ s1 st1.bh sm1 (rd.mono st1.bb) Q ?_
        revert h
        cases b.ev s1 Δ with
        | ok y s2 => intro h B2 H2 st2 sm2; exact h B2 H2 (st1.trans st2 fun _ m => m) sm2
        | er k p s2 => intro h; exact Er.step h st1
        | bad => intro h; exact h
      | false => intro h; exact h
    | er k p s1 => intro h; exact h
    | bad => intro h; exact h
def XT.or (a b : XT c) : XT c where
  t := fun W => tOr (a.t W) (b.t W)
  ev := fun s Δ => (a.ev s Δ).bind fun x s1 => if x then .ok true s1 else b.ev s1 Δ
  ok := fun W σ B H Δ s e sm rd Q h => by
    refine a.ok W σ B H Δ s e sm rd _ ?_
    revert h
    cases a.ev s Δ with
    | ok x s1 =>
      cases x with
      | false =>
        show AnsT c B H σ W Q (b.ev s1 Δ) → _
        intro h B1 H1 st1 sm1
        refine b.ok W σ B1 H1 Δ s1 st1.bh sm1 (rd.mono st1.bb) Q ?_
        revert h
        cases b.ev s1 Δ with
        | ok y s2 => intro h B2 H2 st2 sm2; exact h B2 H2 (st1.trans st2 fun _ m => m) sm2
        | er k p s2 => intro h; exact Er.step h st1
        | bad => intro h; exact h
      | true => intro h; exact h
    | er k p s1 => intro h; exact h
    | bad => intro h; exact h
/-- behind a test, an expression -/
theorem after_t (b : XE c) {W : WX} {σ : L2.St} {B H B1 H1 : Hp} {F : List Addr} {Δ : Env} {s1 : Strm} {Q : VK} (rd : RdE c B σ Δ) (st1 : Stp c.S B H B1 H1 [] []) (sm1 : Sm c B1 H1 s1) (h : AnsE c B H σ W Q (b.ev s1 Δ)) : b.t W σ H1 Q := by
  refine b.ok W σ B1 H1 Δ s1 st1.bh sm1 (rd.mono st1.bb) Q ?_
  revert h
  cases b.ev s1 Δ with
  | ok y s2 => intro h v B2 H2 F2 st2 sm2 r2; exact h v B2 H2 F2 (st1.trans st2 fun _ m => m) sm2 r2
  | er k p s2 => intro h; exact Er.step h st1
  | bad => intro h; exact h
def XE.ite (t : XT c) (a b : XE c) : XE c where
  t := fun W => tIf (t.t W) (a.t W) (b.t W)
  ev := fun s Δ => (t.ev s Δ).bind fun x s1 => if x then a.ev s1 Δ else b.ev s1 Δ
  ok := fun W σ B H Δ s e sm rd Q h => by
    refine t.ok W σ B H Δ s e sm rd _ ?_
    revert h
    cases t.ev s Δ with
    | ok x s1 =>
      cases x with
      | true => intro h B1 H1 st1 sm1; exact after_t (F := []) a rd st1 sm1 h
      | false => intro h B1 H1 st1 sm1; exact after_t (F := []) b rd st1 sm1 h
    | er k p s1 => intro h; exact h
    | bad => intro h; exact h
/-- and, or, not as values; all but the last are truth values -/
theorem bool_ok (a : XE c) (W : WX) (σ : L2.St) (B H : Hp) (Δ : Env) (s : Strm) (e : Ex B H) (sm : Sm c B H s) (rd : RdE c B σ Δ) (f : Bool → Strm → R D) (Q : VK) (Q' : Bool → Hp → Prop)
    (h : AnsE c B H σ W Q ((a.ev s Δ).bind fun d s1 => (optR s1 (dB d)).bind f)) (hq : ∀ b s1 B1 H1, Stp c.S B H B1 H1 [] [] → Sm c B1 H1 s1 → AnsE c B H σ W Q (f b s1) → Q' b H1) : a.t W σ H fun x H1 => ∃ k, x = .bl k ∧ Q' k H1 := by
  refine a.ok W σ B H Δ s e sm rd _ ?_
  revert h
  cases a.ev s Δ with
  | ok d s1 =>
    show AnsE c B H σ W Q ((optR s1 (dB d)).bind f) → _
    cases d with
    | bl b =>
      intro h v B1 H1 F1 st1 sm1 r1
      cases r1
      exact ⟨b, rfl, hq b s1 B1 H1 st1 sm1 h⟩
    | _ => intro h; exact h.elim
  | er k p s1 => intro h; exact h
  | bad => intro h; exact h
def XE.and (a b : XE c) : XE c where
  t := fun W => tAndV (a.t W) (b.t W)
  ev := fun s Δ => (a.ev s Δ).bind fun d s1 => (optR s1 (dB d)).bind fun x s1 => if x then b.ev s1 Δ else .ok (.bl false) s1
  ok := fun W σ B H Δ s e sm rd Q h => bool_ok a W σ B H Δ s e sm rd _ Q _ h fun x s1 B1 H1 st1 sm1 h => by
    cases x with
    | true => exact after_t (F := []) b rd st1 sm1 h
    | false => exact h (.bl false) B1 H1 [] st1 sm1 (.bl false)
def XE.or (a b : XE c) : XE c where
  t := fun W => tOrV (a.t W) (b.t W)
  ev := fun s Δ => (a.ev s Δ).bind fun d s1 => (optR s1 (dB d)).bind fun x s1 => if x then .ok (.bl true) s1 else b.ev s1 Δ
  ok := fun W σ B H Δ s e sm rd Q h => bool_ok a W σ B H Δ s e sm rd _ Q _ h fun x s1 B1 H1 st1 sm1 h => by
    cases x with
    | false => exact after_t (F := []) b rd st1 sm1 h
    | true => exact h (.bl true) B1 H1 [] st1 sm1 (.bl true)
def XE.not (a : XE c) : XE c where
  t := fun W => tNotV (a.t W)
  ev := fun s Δ => (a.ev s Δ).bind fun d s1 => (optR s1 (dB d)).bind fun x s1 => .ok (.bl (!x)) s1
  ok := fun W σ B H Δ s e sm rd Q h => bool_ok a W σ B H Δ s e sm rd _ Q _ h fun x s1 B1 H1 st1 sm1 h => h (.bl (!x)) B1 H1 [] st1 sm1 (.bl _)
end
end Ly

end
section
set_option Elab.async false
set_option linter.all false
set_option maxRecDepth 100000
set_option maxHeartbeats 4000000
namespace Ly
open PySem L2
def lim : Nat := 16777216
theorem lim_eq : (sizeLine : Nat) = lim := sizeLine_eq
theorem lim_le {n : Nat} (h : n ≤ lim) : n ≤ sizeLine := by rw [lim_eq]; exact h
section
variable {c : Cf}
/-- an answer that makes nothing -/
theorem Stp.same {B H : Hp} {F : List Addr} (e : Ex B H) : Stp [] B H B H F [] := ⟨Ex.refl B, e, fun _ _ q _ _ => q, fun _ q => q, fun _ q n => absurd q n, fun _ m => (nomatch m), List.nodup_nil⟩
/-- a new object over owned ones -/
theorem Stp.obj {B H : Hp} {F G : List Addr} {p : Addr} {o : HO} (e : Ex B H) (hp : H p = none) (hs : ∀ a ∈ G, a ∈ F) (hG : ∀ a ∈ G, H a ≠ none) (n : G.Nodup) : Stp [] B H B (upd H p o) F (p :: G) :=
  ⟨Ex.refl B, e.trans (Ex.upd hp), fun a u q _ _ => Ex.upd hp a u q, fun a q => by
      by_cases z : a = p
      · rw [z]; exact hp
      · rw [upd_ne z] at q; exact q,
    fun _ q n => absurd q n, fun a m => by
      rcases List.mem_cons.mp m with rfl | m
      · exact .inl hp
      · exact .inr (hs a m),
    List.nodup_cons.mpr ⟨fun m => hG p m hp, n⟩⟩
/-- the objects at F are no more owned -/
def tkn (B H : Hp) (F : List Addr) : Hp := fun a => if a ∈ F then H a else B a
theorem tkn_ex {B H : Hp} {F : List Addr} (n : ∀ a ∈ F, B a = none) : Ex B (tkn B H F) := fun a o e => by
  unfold tkn
  rw [if_neg fun m => by rw [n a m] at e; cases e]
  exact e
theorem tkn_in {B H : Hp} {F : List Addr} (e : Ex B H) : Ex (tkn B H F) H := fun a o q => by
  unfold tkn at q
  split at q
  · exact q
  · exact e a o q
theorem tkn_tk {B H : Hp} {F : List Addr} : Tk H (tkn B H F) F := fun a m o e => by
  unfold tkn; rw [if_pos m]; exact e
theorem Stp.tkn {B H : Hp} {F F2 : List Addr} (e : Ex B H) (n : ∀ a ∈ F, B a = none) (h2 : F2.Nodup) (hs : ∀ a ∈ F2, a ∈ F ∨ H a = none) : Stp [] B H (tkn B H F) H F F2 :=
  ⟨tkn_ex n, tkn_in e, fun _ _ q _ _ => q, fun _ q => q, fun a q m => by
    unfold Ly.tkn at m
    split at m
    · rename_i hh; exact .inr hh
    · exact absurd q m, fun a m => (hs a m).symm, h2⟩
theorem Rp.nb {K : PySem.W.Frag} {A : Str → Addr} {B H : Hp} {v : V} {d : D} {F : List Addr} (r : Rp K A B H v d F) : ∀ a ∈ F, B a = none := fun a m => (r.at a m).1
theorem RpL.nb {K : PySem.W.Frag} {A : Str → Addr} {B H : Hp} {v : List V} {d : List D} {F : List Addr} (r : RpL K A B H v d F) : ∀ a ∈ F, B a = none := fun a m => (r.at a m).1
theorem Rp.th {K : PySem.W.Frag} {A : Str → Addr} {B H : Hp} {v : V} {d : D} {F : List Addr} (r : Rp K A B H v d F) : ∀ a ∈ F, H a ≠ none := fun a m => by obtain ⟨o, e⟩ := (r.at a m).2; rw [e]; simp
theorem RpL.th {K : PySem.W.Frag} {A : Str → Addr} {B H : Hp} {v : List V} {d : List D} {F : List Addr} (r : RpL K A B H v d F) : ∀ a ∈ F, H a ≠ none := fun a m => by obtain ⟨o, e⟩ := (r.at a m).2; rw [e]; simp
/-- a list, a tuple: what stands at its address, what its items are; its items' own objects -/
theorem Rp.lst_at {K : PySem.W.Frag} {A : Str → Addr} {B H : Hp} {v : V} {o : Bool} {ds : List D} {F : List Addr} (e : Ex B H) (r : Rp K A B H v (.lst o ds) F) :
    ∃ a xs G, v = .ref a ∧ H a = some (.lst xs) ∧ RpL K A B H xs ds G ∧ (∀ b ∈ G, b ∈ F) ∧ (F.Nodup → G.Nodup) ∧ ((o = false ∧ B a = some (.lst xs) ∧ F = [] ∧ G = []) ∨ (o = true ∧ F = a :: G)) := by
  cases r with
  | lsS h q => exact ⟨_, _, [], rfl, e _ _ h, q, fun _ m => m, fun n => n, .inl ⟨rfl, h, rfl, rfl⟩⟩
  | lsO h n q => exact ⟨_, _, _, rfl, h, q, fun _ m => List.mem_cons_of_mem _ m, fun n => (List.nodup_cons.mp n).2, .inr ⟨rfl, rfl⟩⟩
theorem Rp.tup_at {K : PySem.W.Frag} {A : Str → Addr} {B H : Hp} {v : V} {o : Bool} {ds : List D} {F : List Addr} (e : Ex B H) (r : Rp K A B H v (.tup o ds) F) :
    ∃ a xs G, v = .ref a ∧ SqT K H a xs ∧ RpL K A B H xs ds G ∧ (∀ b ∈ G, b ∈ F) ∧ (F.Nodup → G.Nodup) := by
  cases r with
  | tpS h q => exact ⟨_, _, [], rfl, e.sqT h, q, fun _ m => m, fun n => n⟩
  | tpO h n q => exact ⟨_, _, _, rfl, SqT.of h, q, fun _ m => List.mem_cons_of_mem _ m, fun n => (List.nodup_cons.mp n).2⟩
/-- the items of a list or a tuple -/
def seqD : D → Option (List D)
  | .lst _ ds => some ds
  | .tup _ ds => some ds
  | _ => none
theorem Rp.seq_at {K : PySem.W.Frag} {A : Str → Addr} {B H : Hp} {v : V} {d : D} {ds : List D} {F : List Addr} (e : Ex B H) (r : Rp K A B H v d F) (h : seqD d = some ds) :
    ∃ a xs G, v = .ref a ∧ (SqL K H a xs ∨ SqT K H a xs) ∧ RpL K A B H xs ds G ∧ (∀ b ∈ G, b ∈ F) ∧ (F.Nodup → G.Nodup) := by
  cases d with
  | lst o es =>
    cases h
    obtain ⟨a, xs, G, rfl, h1, h2, h3, h4, _⟩ := r.lst_at e
    exact ⟨a, xs, G, rfl, .inl (SqL.of h1), h2, h3, h4⟩
  | tup o es =>
    cases h
    obtain ⟨a, xs, G, rfl, h1, h2, h3, h4⟩ := r.tup_at e
    exact ⟨a, xs, G, rfl, .inr h1, h2, h3, h4⟩
  | _ => cases h
/-! ### two operands -/
theorem DoA2.int {r : R2} {C : Int → Int → Prop} {f : Int → Int → Int} {g : D → D → Option D} (hr : r = rI C fun i j => .int (f i j)) (hg : ∀ d e z, g d e = some z → ∃ i j, d = .int i ∧ e = .int j ∧ C i j ∧ z = .int (f i j)) : DoA2 c r g := by
  intro B H x y d e F1 F2 z ex rx ry nd hz Q k
  obtain ⟨i, j, rfl, rfl, hc, rfl⟩ := hg d e z hz
  cases rx; cases ry
  rw [hr]
  exact ⟨i, j, rfl, rfl, hc, k _ B H [] (Stp.same ex) (.int _)⟩
theorem DoA2.int0 {r : R2} {f : Int → Int → Int} {g : D → D → Option D} (hr : r = rI0 fun i j => .int (f i j)) (hg : ∀ d e z, g d e = some z → ∃ i j, d = .int i ∧ e = .int j ∧ z = .int (f i j)) : DoA2 c r g := by
  intro B H x y d e F1 F2 z ex rx ry nd hz Q k
  obtain ⟨i, j, rfl, rfl, rfl⟩ := hg d e z hz
  cases rx; cases ry
  rw [hr]
  exact ⟨i, j, rfl, rfl, k _ B H [] (Stp.same ex) (.int _)⟩
theorem DoA2.bool0 {r : R2} {f : Int → Int → Bool} {g : D → D → Option D} (hr : r = rI0 fun i j => .bl (f i j)) (hg : ∀ d e z, g d e = some z → ∃ i j, d = .int i ∧ e = .int j ∧ z = .bl (f i j)) : DoA2 c r g := by
  intro B H x y d e F1 F2 z ex rx ry nd hz Q k
  obtain ⟨i, j, rfl, rfl, rfl⟩ := hg d e z hz
  cases rx; cases ry
  rw [hr]
  exact ⟨i, j, rfl, rfl, k _ B H [] (Stp.same ex) (.bl _)⟩
theorem DoA2.or {r r' : R2} {g g' : D → D → Option D} (h : DoA2 c r g) (h' : DoA2 c r' g') : DoA2 c (fun x y H Q => r x y H Q ∨ r' x y H Q) (fun d e => match g d e with
    | some z => some z
    | none => g' d e) := by
  intro B H x y d e F1 F2 z ex rx ry nd hz Q k
  simp only at hz
  split at hz
  · rename_i w hw
    cases hz
    exact .inl (h B H x y d e F1 F2 _ ex rx ry nd hw Q k)
  · exact .inr (h' B H x y d e F1 F2 z ex rx ry nd hz Q k)
theorem DoA1.or {r r' : V → Hp → VK → Prop} {g g' : D → Option D} (h : DoA1 c r g) (h' : DoA1 c r' g') : DoA1 c (fun x H Q => r x H Q ∨ r' x H Q) (fun d => match g d with
    | some z => some z
    | none => g' d) := by
  intro B H x d F z ex rx nd hz Q k
  simp only at hz
  split at hz
  · rename_i w hw
    cases hz
    exact .inl (h B H x d F _ ex rx nd hw Q k)
  · exact .inr (h' B H x d F z ex rx nd hz Q k)
theorem DoA.or {r r' : List V → Hp → VK → Prop} {g g' : List D → Option D} (h : DoA c r g) (h' : DoA c r' g') : DoA c (fun x H Q => r x H Q ∨ r' x H Q) (fun d => match g d with
    | some z => some z
    | none => g' d) := by
  intro B H x d F z ex rx nd hz Q k
  simp only at hz
  split at hz
  · rename_i w hw
    cases hz
    exact .inl (h B H x d F _ ex rx nd hw Q k)
  · exact .inr (h' B H x d F z ex rx nd hz Q k)
-- a + b
def gAddI : D → D → Option D
  | .int i, .int j => some (.int (i + j))
  | _, _ => none
theorem do_addI : DoA2 c (rI0 fun i j => .int (i + j)) gAddI := DoA2.int0 rfl fun d e z h => by
  cases d <;> cases e <;> first | (cases h; exact ⟨_, _, rfl, rfl, rfl⟩) | cases h
def gSub : D → D → Option D
  | .int i, .int j => some (.int (i - j))
  | _, _ => none
theorem do_sub : DoA2 c (rI0 fun i j => .int (i - j)) gSub := DoA2.int0 rfl fun d e z h => by
  cases d <;> cases e <;> first | (cases h; exact ⟨_, _, rfl, rfl, rfl⟩) | cases h
def gXor : D → D → Option D
  | .int i, .int j => some (.int (Builtin.bitXor i j))
  | _, _ => none
theorem do_xor : DoA2 c (rI0 fun i j => .int (Builtin.bitXor i j)) gXor := DoA2.int0 rfl fun d e z h => by
  cases d <;> cases e <;> first | (cases h; exact ⟨_, _, rfl, rfl, rfl⟩) | cases h
def gMulI : D → D → Option D
  | .int i, .int j => if i.natAbs < 2 ^ 64 ∨ j.natAbs < 2 ^ 64 then some (.int (i * j)) else none
  | _, _ => none
theorem natAbs_lt {i : Int} (h : i.natAbs < 2 ^ 64) : -(2 ^ 64) < i ∧ i < 2 ^ 64 := by omega
theorem do_mulI : DoA2 c (rI CMul fun i j => .int (i * j)) gMulI := DoA2.int rfl fun d e z h => by
  cases d <;> cases e <;> first | (simp [gMulI] at h; done) | skip
  rename_i i j
  simp only [gMulI] at h
  split at h
  · rename_i hc
    cases h
    exact ⟨i, j, rfl, rfl, hc.imp natAbs_lt natAbs_lt, rfl⟩
  · cases h
def gDiv : D → D → Option D
  | .int i, .int j => if 0 < j ∧ j.natAbs < 2 ^ 64 then some (.int (i / j)) else none
  | _, _ => none
theorem do_div : DoA2 c (rI CDivW fun i j => .int (i / j)) gDiv := DoA2.int rfl fun d e z h => by
  cases d <;> cases e <;> first | (simp [gDiv] at h; done) | skip
  rename_i i j
  simp only [gDiv] at h
  split at h
  · rename_i hc
    cases h
    exact ⟨i, j, rfl, rfl, wide_div hc.1 hc.2 (by decide) (by decide), rfl⟩
  · cases h
def gMod : D → D → Option D
  | .int i, .int j => if 0 < j then some (.int (i % j)) else none
  | _, _ => none
theorem do_mod : DoA2 c (rI (fun _ j => 0 < j) fun i j => .int (i % j)) gMod := DoA2.int rfl fun d e z h => by
  cases d <;> cases e <;> first | (simp [gMod] at h; done) | skip
  rename_i i j
  simp only [gMod] at h
  split at h
  · rename_i hc
    cases h
    exact ⟨i, j, rfl, rfl, hc, rfl⟩
  · cases h
def gPow : D → D → Option D
  | .int i, .int j => if 0 ≤ j ∧ j ≤ 1000 ∧ i.natAbs < 2 ^ 64 then some (.int (i ^ j.toNat)) else none
  | _, _ => none
theorem do_pow : DoA2 c (rI CPow fun i j => .int (i ^ j.toNat)) gPow := DoA2.int rfl fun d e z h => by
  cases d <;> cases e <;> first | (simp [gPow] at h; done) | skip
  rename_i i j
  simp only [gPow] at h
  split at h
  · rename_i hc
    cases h
    exact ⟨i, j, rfl, rfl, ⟨hc.1, by omega, hc.2.2⟩, rfl⟩
  · cases h
def gAddS : D → D → Option D
  | .str i, .str j => if i.length + j.length ≤ lim then some (.str (i ++ j)) else none
  | _, _ => none
theorem do_addS : DoA2 c (fun x y H Q => ∃ i j, x = .str i ∧ y = .str j ∧ i.length + j.length ≤ sizeLine ∧ Q (.str (i ++ j)) H) gAddS := by
  intro B H x y d e F1 F2 z ex rx ry nd hz Q k
  cases d <;> cases e <;> first | (simp [gAddS] at hz; done) | skip
  cases rx; cases ry
  simp only [gAddS] at hz
  split at hz
  · rename_i hc
    cases hz
    exact ⟨_, _, rfl, rfl, lim_le hc, k _ B H [] (Stp.same ex) (.str _)⟩
  · cases hz
def gCat : D → D → Option D
  | .lst _ ds, .lst _ es => if ds.length + es.length ≤ lim then some (.lst true (ds ++ es)) else none
  | _, _ => none
theorem RpL.app {K : PySem.W.Frag} {A : Str → Addr} {B H : Hp} : ∀ {xs ys : List V} {ds es : List D} {F G : List Addr}, RpL K A B H xs ds F → RpL K A B H ys es G → RpL K A B H (xs ++ ys) (ds ++ es) (F ++ G)
  | _, _, _, _, _, _, .nil, s => s
  | _, _, _, _, _, _, .cons r t, s => by
    rw [List.append_assoc]
    exact .cons r (RpL.app t s)
theorem do_cat : DoA2 c rCat gCat := by
  intro B H x y d e F1 F2 z ex rx ry nd hz Q k
  cases d <;> cases e <;> first | (simp [gCat] at hz; done) | skip
  rename_i o ds o' es
  simp only [gCat] at hz
  split at hz
  · rename_i hc
    cases hz
    obtain ⟨a, xs, G, rfl, ha, hr, hs, hn, _⟩ := rx.lst_at ex
    obtain ⟨b, ys, G', rfl, hb, hr', hs', hn', _⟩ := ry.lst_at ex
    refine ⟨a, b, xs, ys, rfl, rfl, ha, hb, lim_le (by rw [hr.len, hr'.len]; exact hc), fun p hp => ?_⟩
    have nn := List.nodup_append.mp nd
    have ng : (G ++ G').Nodup := List.nodup_append.mpr ⟨hn nn.1, hn' nn.2.1, fun u m v m' => nn.2.2 u (hs u m) v (hs' v m')⟩
    have hr2 := hr.app hr'
    refine k (.ref p) B _ (p :: (G ++ G')) (Stp.obj ex hp (fun u m => ?_) hr2.th ng) (.lsO upd_same (ex.none hp) (hr2.mono (Ex.refl B) fun u m => ⟨fun o q => Ex.upd hp u o q, hr2.nb u m⟩))
    rcases List.mem_append.mp m with m | m
    · exact List.mem_append_left _ (hs u m)
    · exact List.mem_append_right _ (hs' u m)
  · cases hz
def rAddAll (c : Cf) : R2 := fun x y H Q => (rI0 fun i j => .int (i + j)) x y H Q ∨ ((fun x y H Q => ∃ i j, x = .str i ∧ y = .str j ∧ i.length + j.length ≤ sizeLine ∧ Q (.str (i ++ j)) H) x y H Q ∨ rCat x y H Q)
def gAdd : D → D → Option D
  | .int i, .int j => some (.int (i + j))
  | .str i, .str j => if i.length + j.length ≤ lim then some (.str (i ++ j)) else none
  | .lst _ ds, .lst _ es => if ds.length + es.length ≤ lim then some (.lst true (ds ++ es)) else none
  | _, _ => none
theorem do_add : DoA2 c (rAddAll c) gAdd := by
  intro B H x y d e F1 F2 z ex rx ry nd hz Q k
  refine (do_addI.or (do_addS.or do_cat)) B H x y d e F1 F2 z ex rx ry nd ?_ Q k
  cases d <;> cases e <;> first | (cases hz; done) | exact hz | skip
  rename_i i j
  have e1 : gAddS (.str i) (.str j) = some z := hz
  show (match gAddS (.str i) (.str j) with
    | some z => some z
    | none => gCat (.str i) (.str j)) = some z
  rw [e1]
theorem op_addAll {X : Cx} (hK : X.K = c.K) : OpR X (binaryOp .Add) (rAddAll c) := op_add.or (op_add_str.or op_cat)
-- xs * n
def repl (n : Nat) (ds : List D) : List D := (List.replicate n ds).flatten
def gRep : D → D → Option D
  | .lst _ ds, .int i => if -(2 ^ 63) ≤ i ∧ i < 2 ^ 63 ∧ ds.length * i.toNat ≤ lim then some (.lst true (repl i.toNat (frzL ds))) else none
  | _, _ => none
theorem RpL.repl {K : PySem.W.Frag} {A : Str → Addr} {B H : Hp} {xs : List V} {ds : List D} (r : RpL K A B H xs ds []) : ∀ n : Nat, RpL K A B H (List.replicate n xs).flatten (Ly.repl n ds) []
  | 0 => .nil
  | n + 1 => by
    unfold Ly.repl
    rw [List.replicate_succ, List.replicate_succ, List.flatten_cons, List.flatten_cons]
    exact r.app (RpL.repl r n)
theorem do_rep : DoA2 c rRep gRep := by
  intro B H x y d e F1 F2 z ex rx ry nd hz Q k
  cases d <;> cases e <;> first | (simp [gRep] at hz; done) | skip
  rename_i o ds i
  simp only [gRep] at hz
  split at hz
  · rename_i hc
    cases hz
    cases ry
    obtain ⟨a, xs, G, rfl, ha, hr, hs, hn, _⟩ := rx.lst_at ex
    refine ⟨a, i, xs, rfl, rfl, ha, hc.1, hc.2.1, lim_le (by rw [hr.len]; exact hc.2.2), fun p hp => ?_⟩
    have nG := hn (List.nodup_append.mp nd).1
    have st : Stp [] B H (tkn B H G) H G [] := Stp.tkn ex hr.nb List.nodup_nil fun _ m => nomatch m
    have hr2 : RpL c.K c.A (tkn B H G) H xs (frzL ds) [] := hr.frz (tkn_ex hr.nb) tkn_tk
    have st2 : Stp [] (tkn B H G) H (tkn B H G) (upd H p (.lst ((List.replicate i.toNat xs).flatten))) [] [p] := Stp.obj st.bh hp (fun _ m => m) (fun _ m => nomatch m) List.nodup_nil
    have n2 : tkn B H G p = none := st.bh.none hp
    exact k (.ref p) _ _ [p] ((st.trans st2 fun _ m => m).more fun u m => List.mem_append_left _ (hs u m)) (.lsO upd_same n2 ((hr2.repl i.toNat).mono (Ex.refl _) Kp.nil))
  · cases hz
def rMulAll (c : Cf) : R2 := fun x y H Q => (rI CMul fun i j => .int (i * j)) x y H Q ∨ rRep x y H Q
def gMul : D → D → Option D
  | .int i, .int j => if i.natAbs < 2 ^ 64 ∨ j.natAbs < 2 ^ 64 then some (.int (i * j)) else none
  | .lst _ ds, .int i => if -(2 ^ 63) ≤ i ∧ i < 2 ^ 63 ∧ ds.length * i.toNat ≤ lim then some (.lst true (repl i.toNat (frzL ds))) else none
  | _, _ => none
theorem do_mul : DoA2 c (rMulAll c) gMul := by
  intro B H x y d e F1 F2 z ex rx ry nd hz Q k
  refine (do_mulI.or do_rep) B H x y d e F1 F2 z ex rx ry nd ?_ Q k
  cases d <;> cases e <;> first | (simp [gMul] at hz; done) | skip
  · rename_i i j
    show (match gMulI (.int i) (.int j) with
      | some z => some z
      | none => gRep (.int i) (.int j)) = some z
    have e1 : gMulI (.int i) (.int j) = some z := hz
    rw [e1]
  · exact hz
theorem op_mulAll {X : Cx} : OpR X (binaryOp .Mult) (rMulAll c) := op_mul.or op_rep
/-! ### comparisons -/
def gLt : D → D → Option D
  | .int i, .int j => some (.bl (decide (i < j)))
  | _, _ => none
theorem do_lt : DoA2 c (rI0 fun i j => .bl (decide (i < j))) gLt := DoA2.bool0 rfl fun d e z h => by
  cases d <;> cases e <;> first | (cases h; exact ⟨_, _, rfl, rfl, rfl⟩) | cases h
def gLe : D → D → Option D
  | .int i, .int j => some (.bl (decide (i ≤ j)))
  | _, _ => none
theorem do_le : DoA2 c (rI0 fun i j => .bl (decide (i ≤ j))) gLe := DoA2.bool0 rfl fun d e z h => by
  cases d <;> cases e <;> first | (cases h; exact ⟨_, _, rfl, rfl, rfl⟩) | cases h
def gGt : D → D → Option D
  | .int i, .int j => some (.bl (decide (j < i)))
  | _, _ => none
theorem do_gt : DoA2 c (rI0 fun i j => .bl (decide (j < i))) gGt := DoA2.bool0 rfl fun d e z h => by
  cases d <;> cases e <;> first | (cases h; exact ⟨_, _, rfl, rfl, rfl⟩) | cases h
def gGe : D → D → Option D
  | .int i, .int j => some (.bl (decide (j ≤ i)))
  | _, _ => none
theorem do_ge : DoA2 c (rI0 fun i j => .bl (decide (j ≤ i))) gGe := DoA2.bool0 rfl fun d e z h => by
  cases d <;> cases e <;> first | (cases h; exact ⟨_, _, rfl, rfl, rfl⟩) | cases h
mutual
def toP : D → Option PyData
  | .non => some .none
  | .bl b => some (.bool b)
  | .int i => some (.int i)
  | .str x => some (.str x)
  | .lst _ ds => (toPL ds).map .list
  | .tup _ ds => (toPL ds).map .tuple
  | _ => none
def toPL : List D → Option (List PyData)
  | [] => some []
  | d :: ds => match toP d, toPL ds with
    | some p, some ps => some (p :: ps)
    | _, _ => none
end
mutual
theorem Rp.dp {K : PySem.W.Frag} {A : Str → Addr} {B H : Hp} (e : Ex B H) : ∀ {v : V} {d : D} {F : List Addr}, Rp K A B H v d F → ∀ {p : PyData}, toP d = some p → Dp K H v p
  | _, _, _, .non, _, h => by cases h; exact .non
  | _, _, _, .bl b, _, h => by cases h; exact .bl b
  | _, _, _, .int i, _, h => by cases h; exact .int i
  | _, _, _, .str x, _, h => by cases h; exact .str x
  | _, _, _, .opq v, _, h => by cases h
  | _, _, _, .lsS (ds := ds) q r, _, h => by
    simp only [toP, Option.map_eq_some_iff] at h
    obtain ⟨ps, h1, rfl⟩ := h
    exact .lst (SqL.of (e _ _ q)) (RpL.dp e r h1)
  | _, _, _, .lsO (ds := ds) q _ r, _, h => by
    simp only [toP, Option.map_eq_some_iff] at h
    obtain ⟨ps, h1, rfl⟩ := h
    exact .lst (SqL.of q) (RpL.dp e r h1)
  | _, _, _, .tpS (ds := ds) q r, _, h => by
    simp only [toP, Option.map_eq_some_iff] at h
    obtain ⟨ps, h1, rfl⟩ := h
    exact .tup (e.sqT q) (RpL.dp e r h1)
  | _, _, _, .tpO (ds := ds) q _ r, _, h => by
    simp only [toP, Option.map_eq_some_iff] at h
    obtain ⟨ps, h1, rfl⟩ := h
    exact .tup (SqT.of q) (RpL.dp e r h1)
  | _, _, _, .diS .., _, h => by cases h
  | _, _, _, .diO .., _, h => by cases h
  | _, _, _, .inS .., _, h => by cases h
  | _, _, _, .inO .., _, h => by cases h
theorem RpL.dp {K : PySem.W.Frag} {A : Str → Addr} {B H : Hp} (e : Ex B H) : ∀ {v : List V} {d : List D} {F : List Addr}, RpL K A B H v d F → ∀ {p : List PyData}, toPL d = some p → DpAll K H v p
  | _, _, _, .nil, _, h => by cases h; exact .nil
  | _, _, _, .cons (d := d) (ds := ds) r t, _, h => by
    simp only [toPL] at h
    cases h1 : toP d with
    | none => rw [h1] at h; cases h
    | some p =>
      cases h2 : toPL ds with
      | none => rw [h1, h2] at h; cases h
      | some ps =>
        rw [h1, h2] at h
        cases h
        exact .cons (Rp.dp e r h1) (RpL.dp e t h2)
end
def eqD (d e : D) : Option Bool := match toP d, toP e with
  | some p, some q => if SeqAt.shaped p && SeqAt.shaped q then some (PyData.eqv p q) else none
  | _, _ => none
def gEq (d e : D) : Option D := match d, e with
  | .str a, .str b => some (.bl (decide (a = b)))
  | d, e => (eqD d e).map .bl
def gNe (d e : D) : Option D := match d, e with
  | .str a, .str b => some (.bl (!decide (a = b)))
  | d, e => (eqD d e).map fun b => .bl (!b)
theorem eqD_some {d e : D} {b : Bool} (h : eqD d e = some b) : ∃ p q, toP d = some p ∧ toP e = some q ∧ SeqAt.shaped p = true ∧ SeqAt.shaped q = true ∧ PyData.eqv p q = b := by
  unfold eqD at h
  cases h1 : toP d with
  | none => rw [h1] at h; cases h
  | some p =>
    cases h2 : toP e with
    | none => rw [h1, h2] at h; cases h
    | some q =>
      rw [h1, h2] at h
      simp only at h
      split at h
      · rename_i hc
        simp only [Bool.and_eq_true] at hc
        cases h
        exact ⟨p, q, rfl, rfl, hc.1, hc.2, rfl⟩
      · cases h
def rEqA (K : PySem.W.Frag) : R2 := fun x y H Q => rEq x y H Q ∨ rEqD K x y H Q
def rNeA (K : PySem.W.Frag) : R2 := fun x y H Q => rNe x y H Q ∨ rNeD K x y H Q
theorem gEq_cases {d e z : D} (h : gEq d e = some z) : (∃ a b, d = .str a ∧ e = .str b ∧ z = .bl (decide (a = b))) ∨ (eqD d e).map .bl = some z := by
  unfold gEq at h
  split at h
  · cases h; exact .inl ⟨_, _, rfl, rfl, rfl⟩
  · exact .inr h
theorem gNe_cases {d e z : D} (h : gNe d e = some z) : (∃ a b, d = .str a ∧ e = .str b ∧ z = .bl (!decide (a = b))) ∨ ((eqD d e).map fun b => .bl (!b)) = some z := by
  unfold gNe at h
  split at h
  · cases h; exact .inl ⟨_, _, rfl, rfl, rfl⟩
  · exact .inr h
theorem do_eq : DoA2 c (rEqA c.K) gEq := by
  intro B H x y d e F1 F2 z ex rx ry nd hz Q k
  rcases gEq_cases hz with ⟨a, b, rfl, rfl, rfl⟩ | hz
  · cases rx; cases ry
    exact .inl ⟨rfl, by rw [show decide (V.str a = V.str b) = decide (a = b) from by simp]; exact k _ B H [] (Stp.same ex) (.bl _)⟩
  simp only [Option.map_eq_some_iff] at hz
  obtain ⟨b, hb, rfl⟩ := hz
  obtain ⟨p, q, h1, h2, h3, h4, rfl⟩ := eqD_some hb
  exact .inr ⟨p, q, rx.dp ex h1, ry.dp ex h2, h3, h4, k _ B H [] (Stp.same ex) (.bl _)⟩
theorem do_ne : DoA2 c (rNeA c.K) gNe := by
  intro B H x y d e F1 F2 z ex rx ry nd hz Q k
  rcases gNe_cases hz with ⟨a, b, rfl, rfl, rfl⟩ | hz
  · cases rx; cases ry
    exact .inl ⟨rfl, by rw [show decide (V.str a = V.str b) = decide (a = b) from by simp]; exact k _ B H [] (Stp.same ex) (.bl _)⟩
  simp only [Option.map_eq_some_iff] at hz
  obtain ⟨b, hb, rfl⟩ := hz
  obtain ⟨p, q, h1, h2, h3, h4, rfl⟩ := eqD_some hb
  exact .inr ⟨p, q, rx.dp ex h1, ry.dp ex h2, h3, h4, k _ B H [] (Stp.same ex) (.bl _)⟩
def isNon : D → Option Bool
  | .non => some true
  | .opq _ => none
  | _ => some false
theorem isNon_ok {K : PySem.W.Frag} {A : Str → Addr} {B H : Hp} {v : V} {d : D} {F : List Addr} {b : Bool} (r : Rp K A B H v d F) (h : isNon d = some b) : decide (v = .non) = b := by
  cases r <;> first | (cases h; rfl) | cases h
def gIsN (d e : D) : Option D := match e with
  | .non => (isNon d).map .bl
  | _ => none
def gNotN (d e : D) : Option D := match e with
  | .non => (isNon d).map fun b => .bl (!b)
  | _ => none
theorem do_isN : DoA2 c (fun x y H Q => y = .non ∧ Q (.bl (decide (x = .non))) H) gIsN := by
  intro B H x y d e F1 F2 z ex rx ry nd hz Q k
  cases e <;> first | (cases hz; done) | skip
  cases ry
  simp only [gIsN, Option.map_eq_some_iff] at hz
  obtain ⟨b, hb, rfl⟩ := hz
  refine ⟨rfl, ?_⟩
  rw [isNon_ok rx hb]
  exact k _ B H [] (Stp.same ex) (.bl _)
theorem do_notN : DoA2 c (fun x y H Q => y = .non ∧ Q (.bl (!decide (x = .non))) H) gNotN := by
  intro B H x y d e F1 F2 z ex rx ry nd hz Q k
  cases e <;> first | (cases hz; done) | skip
  cases ry
  simp only [gNotN, Option.map_eq_some_iff] at hz
  obtain ⟨b, hb, rfl⟩ := hz
  refine ⟨rfl, ?_⟩
  rw [isNon_ok rx hb]
  exact k _ B H [] (Stp.same ex) (.bl _)
/-! ### one operand -/
def gNeg : D → Option D
  | .int i => some (.int (-i))
  | _ => none
theorem do_neg : DoA1 c (rU fun i => .int (-i)) gNeg := by
  intro B H x d F z ex rx nd hz Q k
  cases d <;> first | (cases hz; done) | skip
  cases rx
  cases hz
  exact ⟨_, rfl, k _ B H [] (Stp.same ex) (.int _)⟩
end
end Ly

end
section
set_option Elab.async false
set_option linter.all false
set_option maxRecDepth 100000
set_option maxHeartbeats 4000000
namespace Ly
open PySem L2
section
variable {c : Cf}
theorem RpL.pick {K : PySem.W.Frag} {A : Str → Addr} {B H : Hp} : ∀ {vs : List V} {ds : List D} {F : List Addr}, RpL K A B H vs ds F → ∀ {i : Nat} {d : D}, ds[i]? = some d → ∃ v G, vs[i]? = some v ∧ Rp K A B H v d G ∧ (∀ a ∈ G, a ∈ F) ∧ (F.Nodup → G.Nodup)
  | _, _, _, .nil, _, _, e => by simp at e
  | _, _, _, .cons (v := v) (F := F) r t, 0, d, e => by
    simp at e; subst e
    exact ⟨v, F, by simp, r, fun a m => List.mem_append_left _ m, fun n => (List.nodup_append.mp n).1⟩
  | _, _, _, .cons r t, i + 1, d, e => by
    obtain ⟨v, G, h1, h2, h3, h4⟩ := RpL.pick t (i := i) (d := d) (by simpa using e)
    exact ⟨v, G, by simpa using h1, h2, fun a m => List.mem_append_right _ (h3 a m), fun n => h4 (List.nodup_append.mp n).2.1⟩
theorem RpL.drop {K : PySem.W.Frag} {A : Str → Addr} {B H : Hp} : ∀ (n : Nat) {vs : List V} {ds : List D} {F : List Addr}, RpL K A B H vs ds F → ∃ G, RpL K A B H (vs.drop n) (ds.drop n) G ∧ (∀ a ∈ G, a ∈ F) ∧ (F.Nodup → G.Nodup)
  | 0, _, _, F, r => ⟨F, r, fun _ m => m, fun n => n⟩
  | _ + 1, _, _, _, .nil => ⟨[], .nil, fun _ m => m, fun n => n⟩
  | n + 1, _, _, _, .cons r t => by
    obtain ⟨G, h1, h2, h3⟩ := RpL.drop n t
    exact ⟨G, h1, fun a m => List.mem_append_right _ (h2 a m), fun k => h3 (List.nodup_append.mp k).2.1⟩
theorem RpL.take {K : PySem.W.Frag} {A : Str → Addr} {B H : Hp} : ∀ (n : Nat) {vs : List V} {ds : List D} {F : List Addr}, RpL K A B H vs ds F → ∃ G, RpL K A B H (vs.take n) (ds.take n) G ∧ (∀ a ∈ G, a ∈ F) ∧ (F.Nodup → G.Nodup)
  | 0, _, _, F, r => ⟨[], .nil, fun _ m => (nomatch m), fun _ => List.nodup_nil⟩
  | _ + 1, _, _, _, .nil => ⟨[], .nil, fun _ m => m, fun n => n⟩
  | n + 1, _, _, _, .cons (F := F) r t => by
    obtain ⟨G, h1, h2, h3⟩ := RpL.take n t
    refine ⟨F ++ G, .cons r h1, fun a m => ?_, fun k => ?_⟩
    · rcases List.mem_append.mp m with m | m
      · exact List.mem_append_left _ m
      · exact List.mem_append_right _ (h2 a m)
    · have kk := List.nodup_append.mp k
      exact List.nodup_append.mpr ⟨kk.1, h3 kk.2.1, fun a m b m' => kk.2.2 a m b (h2 b m')⟩
/-! ### subscripts -/
def gIx : D → D → Option D
  | .lst _ ds, .int i => atI ds i
  | .tup _ ds, .int i => atI ds i
  | .str z, .int i => if z.length ≤ lim then (atI z.cps.toList i).map fun k => .str ⟨#[k]⟩ else none
  | _, _ => none
theorem atI_rel {xs : List V} {ds : List D} (h : xs.length = ds.length) {i : Int} {d : D} (e : atI ds i = some d) : ∃ j : Nat, ds[j]? = some d ∧ ∀ v, xs[j]? = some v → atI xs i = some v := by
  unfold atI at e
  cases q : ixN ds.length i with
  | none => rw [q] at e; cases e
  | some j =>
    rw [q] at e
    refine ⟨j, e, fun v hv => ?_⟩
    unfold atI
    rw [h, q]
    exact hv
theorem do_ix : DoA2 c (rIx c.K) gIx := by
  intro B H x y d e F1 F2 z ex rx ry nd hz Q k
  have nF := (List.nodup_append.mp nd).1
  cases d <;> cases e <;> first | (cases hz; done) | skip
  · rename_i z i
    cases rx; cases ry
    simp only [gIx] at hz
    split at hz
    · rename_i hl
      simp only [Option.map_eq_some_iff] at hz
      obtain ⟨q, hq, rfl⟩ := hz
      exact .inr (.inr ⟨z, i, q, rfl, rfl, lim_le hl, hq, k _ B H [] (Stp.same ex) (.str _)⟩)
    · cases hz
  · rename_i o ds i
    cases ry
    obtain ⟨a, xs, G, rfl, h1, h2, h3, h4, _⟩ := rx.lst_at ex
    obtain ⟨j, e1, e2⟩ := atI_rel h2.len (show atI ds i = some z from hz)
    obtain ⟨v, G2, e3, r, m, nn⟩ := h2.pick e1
    exact .inl ⟨a, xs, i, v, rfl, rfl, SqL.of h1, e2 v e3, k v B H G2 ((Stp.refl ex nd).sub (fun b mb => List.mem_append_left _ (h3 b (m b mb))) (nn (h4 nF))) r⟩
  · rename_i o ds i
    cases ry
    obtain ⟨a, xs, G, rfl, h1, h2, h3, h4⟩ := rx.tup_at ex
    obtain ⟨j, e1, e2⟩ := atI_rel h2.len (show atI ds i = some z from hz)
    obtain ⟨v, G2, e3, r, m, nn⟩ := h2.pick e1
    exact .inr (.inl ⟨a, xs, i, v, rfl, rfl, h1, e2 v e3, k v B H G2 ((Stp.refl ex nd).sub (fun b mb => List.mem_append_left _ (h3 b (m b mb))) (nn (h4 nF))) r⟩)
/-! ### slices -/
structure XO (c : Cf) where
  t : WX → TO
  ev : Strm → Env → R (Option Int)
  ok : ∀ (W : WX) (σ : L2.St) (B H : Hp) (Δ : Env) (s : Strm), Ex B H → Sm c B H s → RdE c B σ Δ → ∀ Q : Option Int → Hp → Prop,
    (match ev s Δ with
      | .ok o s' => ∀ B' H', Stp c.S B H B' H' [] [] → Sm c B' H' s' → Q o H'
      | .er k p s' => Er c B H σ W k p s'
      | .bad => False) → t W σ H Q
def dI : D → Option Int
  | .int i => some i
  | _ => none
def XO.none : XO c where
  t := fun _ => tNoPart
  ev := fun s _ => .ok Option.none s
  ok := fun W σ B H Δ s e sm rd Q h => h B H (Stp.refl e List.nodup_nil) sm
def XO.some (a : XE c) : XO c where
  t := fun W => tPart (a.t W)
  ev := fun s Δ => (a.ev s Δ).bind fun d s1 => (optR s1 (dI d)).bind fun i s1 => .ok (Option.some i) s1
  ok := fun W σ B H Δ s e sm rd Q h => by
    refine a.ok W σ B H Δ s e sm rd _ ?_
    revert h
    cases a.ev s Δ with
    | ok d s1 =>
      cases d <;> first
        | (intro h; exact h.elim)
        | (intro h v B1 H1 F1 st1 sm1 r1
           cases r1
           exact ⟨_, rfl, h B1 H1 st1 sm1⟩)
    | er k p s1 => intro h; exact h
    | bad => intro h; exact h
def cutD (ds : List D) (lo hi : Option Int) : List D := (ds.drop (HT.sIx ds.length 0 lo)).take (HT.sIx ds.length ds.length hi - HT.sIx ds.length 0 lo)
def gSl (d : D) (lo hi : Option Int) : Option D := match d with
  | .lst _ ds => some (.lst true (cutD ds lo hi))
  | .tup o ds => if HT.sIx ds.length 0 lo = 0 ∧ HT.sIx ds.length ds.length hi = ds.length then some (.tup o ds) else some (.tup true (cutD ds lo hi))
  | _ => none
def rSlAll (c : Cf) : V → Option Int → Option Int → Hp → VK → Prop := fun x lo hi H Q => rSlL c.K x lo hi H Q ∨ rSlA c.K x lo hi H Q
theorem RpL.cut {K : PySem.W.Frag} {A : Str → Addr} {B H : Hp} {vs : List V} {ds : List D} {F : List Addr} (r : RpL K A B H vs ds F) (lo hi : Option Int) : ∃ G, RpL K A B H (cutV vs lo hi) (cutD ds lo hi) G ∧ (∀ a ∈ G, a ∈ F) ∧ (F.Nodup → G.Nodup) := by
  unfold cutV cutD
  rw [r.len]
  obtain ⟨G, h1, h2, h3⟩ := r.drop (HT.sIx ds.length 0 lo)
  obtain ⟨G2, h4, h5, h6⟩ := h1.take (HT.sIx ds.length ds.length hi - HT.sIx ds.length 0 lo)
  exact ⟨G2, h4, fun a m => h2 a (h5 a m), fun n => h6 (h3 n)⟩
theorem do_sl {B H : Hp} {x : V} {d : D} {F : List Addr} {lo hi : Option Int} {z : D} (ex : Ex B H) (rx : Rp c.K c.A B H x d F) (nd : F.Nodup) (hz : gSl d lo hi = some z) {Q : VK}
    (k : ∀ v B' H' F', Stp [] B H B' H' F F' → Rp c.K c.A B' H' v z F' → Q v H') : rSlAll c x lo hi H Q := by
  cases d <;> first | (cases hz; done) | skip
  · rename_i o ds
    cases hz
    obtain ⟨a, xs, G, rfl, h1, h2, h3, h4, _⟩ := rx.lst_at ex
    obtain ⟨G2, r, m, nn⟩ := h2.cut lo hi
    exact .inl ⟨a, xs, rfl, SqL.of h1, fun p hp => k (.ref p) B _ (p :: G2) (Stp.obj ex hp (fun b mb => h3 b (m b mb)) r.th (nn (h4 nd))) (.lsO upd_same (ex.none hp) (r.mono (Ex.refl B) fun u m => ⟨fun o q => Ex.upd hp u o q, r.nb u m⟩))⟩
  · rename_i o ds
    simp only [gSl] at hz
    obtain ⟨a, xs, G, rfl, h1, h2, h3, h4⟩ := rx.tup_at ex
    have hl := h2.len
    refine .inr ⟨a, xs, rfl, h1, fun w => ?_, fun w p hp => ?_⟩
    · rw [hl] at w
      rw [if_pos w] at hz
      cases hz
      exact k _ B H F (Stp.refl ex nd) rx
    · rw [hl] at w
      rw [if_neg w] at hz
      cases hz
      obtain ⟨G2, r, m, nn⟩ := h2.cut lo hi
      exact k (.ref p) B _ (p :: G2) (Stp.obj ex hp (fun b mb => h3 b (m b mb)) r.th (nn (h4 nd))) (.tpO upd_same (ex.none hp) (r.mono (Ex.refl B) fun u m => ⟨fun o q => Ex.upd hp u o q, r.nb u m⟩))
def XE.sl (a : XE c) (lo hi : XO c) : XE c where
  t := fun W => tSl (rSlAll c) (a.t W) (lo.t W) (hi.t W)
  ev := fun s Δ => (a.ev s Δ).bind fun d s1 => (lo.ev s1 Δ).bind fun l s2 => (hi.ev s2 Δ).bind fun u s3 => optR s3 (gSl d l u)
  ok := fun W σ B H Δ s e sm rd Q h => by
    refine a.ok W σ B H Δ s e sm rd _ ?_
    revert h
    cases a.ev s Δ with
    | ok d s1 =>
      intro h v B1 H1 F1 st1 sm1 r1
      have n1 := sm.new st1.new
      have gg := r1.bsd (S := c.S) n1
      refine lo.ok W σ B1 H1 Δ s1 st1.bh sm1 (rd.mono st1.bb) _ ?_
      revert h
      show AnsE c B H σ W Q ((lo.ev s1 Δ).bind fun l s2 => (hi.ev s2 Δ).bind fun u s3 => optR s3 (gSl d l u)) → _
      cases lo.ev s1 Δ with
      | ok l s2 =>
        intro h B2 H2 st2 sm2
        have st2' := st2.ext gg st1.nd
        rw [List.append_nil] at st2'
        have st12 := st1.trans st2' fun _ m => m
        refine hi.ok W σ B2 H2 Δ s2 st2.bh sm2 (rd.mono st12.bb) _ ?_
        revert h
        show AnsE c B H σ W Q ((hi.ev s2 Δ).bind fun u s3 => optR s3 (gSl d l u)) → _
        cases hi.ev s2 Δ with
        | ok u s3 =>
          show AnsE c B H σ W Q (optR s3 (gSl d l u)) → _
          cases hz : gSl d l u with
          | none => intro h; exact h.elim
          | some z =>
            intro h B3 H3 st3 sm3
            have g2 := st2.bsd gg
            have st3' := st3.ext g2 st1.nd
            rw [List.append_nil] at st3'
            have st13 := st12.trans st3' fun _ m => m
            refine do_sl (c := c) st3.bh ((r1.mono st2.bb (st2.kp gg)).mono st3.bb (st3.kp g2)) st1.nd hz fun w B4 H4 F4 st4 r4 => h w B4 H4 F4 (st13.then0 st4) (sm3.stp st4 (sm.new st13.new) ((r1.mono st2.bb (st2.kp gg)).mono st3.bb (st3.kp g2)).noc) r4
        | er k p s3 => intro h; exact Er.step h st12
        | bad => intro h; exact h
      | er k p s2 => intro h; exact Er.step h st1
      | bad => intro h; exact h
    | er k p s1 => intro h; exact h
    | bad => intro h; exact h
/-! ### displays -/
def XE.lst (a : XA c) : XE c where
  t := fun W => tLst (a.t W)
  ev := fun s Δ => (a.ev s Δ).bind fun ds s1 => if ds.length ≤ lim then .ok (.lst true ds) s1 else .bad
  ok := fun W σ B H Δ s e sm rd Q h => by
    refine a.ok W σ B H Δ s e sm rd _ ?_
    revert h
    cases a.ev s Δ with
    | ok ds s1 =>
      show AnsE c B H σ W Q (if ds.length ≤ lim then .ok (.lst true ds) s1 else .bad) → _
      split
      · rename_i hl
        intro h vs B1 H1 F1 st1 sm1 r1
        refine ⟨lim_le (by rw [r1.len]; exact hl), fun p hp => ?_⟩
        have st2 : Stp [] B1 H1 B1 (upd H1 p (.lst vs)) F1 (p :: F1) := Stp.obj st1.bh hp (fun _ m => m) r1.th st1.nd
        exact h (.ref p) B1 _ (p :: F1) (st1.then0 st2) (sm1.stp st2 (sm.new st1.new) r1.noc) (.lsO upd_same (st1.bh.none hp) (r1.mono (Ex.refl _) fun u m => ⟨fun o q => Ex.upd hp u o q, r1.nb u m⟩))
      · intro h; exact h.elim
    | er k p s1 => intro h; exact h
    | bad => intro h; exact h
def XE.tup (a : XA c) : XE c where
  t := fun W => tTup (a.t W)
  ev := fun s Δ => (a.ev s Δ).bind fun ds s1 => if ds.length ≤ lim then .ok (.tup true ds) s1 else .bad
  ok := fun W σ B H Δ s e sm rd Q h => by
    refine a.ok W σ B H Δ s e sm rd _ ?_
    revert h
    cases a.ev s Δ with
    | ok ds s1 =>
      show AnsE c B H σ W Q (if ds.length ≤ lim then .ok (.tup true ds) s1 else .bad) → _
      split
      · rename_i hl
        intro h vs B1 H1 F1 st1 sm1 r1
        refine ⟨lim_le (by rw [r1.len]; exact hl), fun p hp => ?_⟩
        have st2 : Stp [] B1 H1 B1 (upd H1 p (.tup vs)) F1 (p :: F1) := Stp.obj st1.bh hp (fun _ m => m) r1.th st1.nd
        exact h (.ref p) B1 _ (p :: F1) (st1.then0 st2) (sm1.stp st2 (sm.new st1.new) r1.noc) (.tpO upd_same (st1.bh.none hp) (r1.mono (Ex.refl _) fun u m => ⟨fun o q => Ex.upd hp u o q, r1.nb u m⟩))
      · intro h; exact h.elim
    | er k p s1 => intro h; exact h
    | bad => intro h; exact h
/-! ### built-ins -/
theorem RpL.one {K : PySem.W.Frag} {A : Str → Addr} {B H : Hp} {xs : List V} {d : D} {F : List Addr} (r : RpL K A B H xs [d] F) : ∃ x, xs = [x] ∧ Rp K A B H x d F := by
  cases r with
  | cons r t => cases t with
    | nil => rw [List.append_nil]; exact ⟨_, rfl, r⟩
theorem RpL.two {K : PySem.W.Frag} {A : Str → Addr} {B H : Hp} {xs : List V} {d e : D} {F : List Addr} (r : RpL K A B H xs [d, e] F) : ∃ x y F1 F2, xs = [x, y] ∧ Rp K A B H x d F1 ∧ Rp K A B H y e F2 ∧ F = F1 ++ F2 := by
  cases r with
  | cons r t => cases t with
    | cons r2 t => cases t with
      | nil => rw [List.append_nil]; exact ⟨_, _, _, _, rfl, r, r2, rfl⟩
def gLen : List D → Option D
  | [.lst _ ds] => some (.int ds.length)
  | [.tup _ ds] => some (.int ds.length)
  | [.str z] => if z.length ≤ lim then some (.int z.length) else none
  | _ => none
theorem do_len : DoA c (fun xs H Q => ∃ x n, xs = [x] ∧ LenV c.K x H n ∧ Q (.int n) H) gLen := by
  intro B H xs ds F z ex r nd hz Q k
  match ds, hz with
  | [.lst o es], hz =>
    obtain ⟨x, rfl, rx⟩ := r.one
    cases hz
    obtain ⟨a, ys, G, rfl, h1, h2, _⟩ := rx.lst_at ex
    refine ⟨_, ys.length, rfl, .inl ⟨ys, SqL.of h1, rfl⟩, ?_⟩
    rw [h2.len]
    exact k _ B H [] (Stp.same ex) (.int _)
  | [.tup o es], hz =>
    obtain ⟨x, rfl, rx⟩ := r.one
    cases hz
    obtain ⟨a, ys, G, rfl, h1, h2, _⟩ := rx.tup_at ex
    refine ⟨_, ys.length, rfl, .inr ⟨ys, h1, rfl⟩, ?_⟩
    rw [h2.len]
    exact k _ B H [] (Stp.same ex) (.int _)
  | [.str w], hz =>
    obtain ⟨x, rfl, rx⟩ := r.one
    cases rx
    simp only [gLen] at hz
    split at hz
    · rename_i hl
      cases hz
      exact ⟨_, w.length, rfl, ⟨lim_le hl, rfl⟩, k _ B H [] (Stp.same ex) (.int _)⟩
    · cases hz
def gList : List D → Option D
  | [.lst _ ds] => some (.lst true ds)
  | [.tup _ ds] => some (.lst true ds)
  | _ => none
theorem do_list : DoA c (fun xs H Q => ∃ p ys, xs = [.ref p] ∧ (SqL c.K H p ys ∨ SqT c.K H p ys) ∧ ∀ l, H l = none → Q (.ref l) (upd H l (.lst ys))) gList := by
  intro B H xs ds F z ex r nd hz Q k
  have main : ∀ {d : D} {es : List D}, ds = [d] → seqD d = some es → z = .lst true es → ∃ p ys, xs = [.ref p] ∧ (SqL c.K H p ys ∨ SqT c.K H p ys) ∧ ∀ l, H l = none → Q (.ref l) (upd H l (.lst ys)) := by
    intro d es e1 e2 e3
    subst e1; subst e3
    obtain ⟨x, rfl, rx⟩ := r.one
    obtain ⟨a, ys, G, rfl, h1, h2, h3, h4⟩ := rx.seq_at ex e2
    exact ⟨a, ys, rfl, h1, fun p hp => k (.ref p) B _ (p :: G) (Stp.obj ex hp h3 h2.th (h4 nd)) (.lsO upd_same (ex.none hp) (h2.mono (Ex.refl _) fun u m => ⟨fun o q => Ex.upd hp u o q, h2.nb u m⟩))⟩
  match ds, hz with
  | [.lst o es], hz => cases hz; exact main rfl rfl rfl
  | [.tup o es], hz => cases hz; exact main rfl rfl rfl
def gTuple : List D → Option D
  | [.lst _ ds] => some (.tup true ds)
  | [.tup o ds] => some (.tup o ds)
  | _ => none
theorem do_tuple : DoA c (fun xs H Q => ∃ p ys, xs = [.ref p] ∧ ((SqL c.K H p ys ∧ ∀ l, H l = none → Q (.ref l) (upd H l (.tup ys))) ∨ (SqT c.K H p ys ∧ Q (.ref p) H))) gTuple := by
  intro B H xs ds F z ex r nd hz Q k
  match ds, hz with
  | [.lst o es], hz =>
    cases hz
    obtain ⟨x, rfl, rx⟩ := r.one
    obtain ⟨a, ys, G, rfl, h1, h2, h3, h4, _⟩ := rx.lst_at ex
    exact ⟨a, ys, rfl, .inl ⟨SqL.of h1, fun p hp => k (.ref p) B _ (p :: G) (Stp.obj ex hp h3 h2.th (h4 nd)) (.tpO upd_same (ex.none hp) (h2.mono (Ex.refl _) fun u m => ⟨fun o q => Ex.upd hp u o q, h2.nb u m⟩))⟩⟩
  | [.tup o es], hz =>
    cases hz
    obtain ⟨x, rfl, rx⟩ := r.one
    obtain ⟨a, ys, G, rfl, h1, h2, h3, h4⟩ := rx.tup_at ex
    exact ⟨a, ys, rfl, .inr ⟨h1, k _ B H F (Stp.refl ex nd) rx⟩⟩
def blsD : List D → Option (List Bool)
  | [] => some []
  | .bl b :: r => (blsD r).map (b :: ·)
  | _ :: _ => none
theorem RpL.bls {K : PySem.W.Frag} {A : Str → Addr} {B H : Hp} : ∀ {xs : List V} {ds : List D} {F : List Addr}, RpL K A B H xs ds F → ∀ {bs : List Bool}, blsD ds = some bs → xs = bs.map V.bl
  | _, _, _, .nil, _, h => by cases h; rfl
  | _, _, _, .cons (d := d) r t, _, h => by
    cases d <;> first | (cases h; done) | skip
    cases r
    simp only [blsD, Option.map_eq_some_iff] at h
    obtain ⟨bs, h1, rfl⟩ := h
    rw [RpL.bls t h1]; rfl
def gAll : List D → Option D
  | [.lst _ ds] => (blsD ds).map fun bs => .bl (bs.all id)
  | _ => none
def gAny : List D → Option D
  | [.lst _ ds] => (blsD ds).map fun bs => .bl (bs.any id)
  | _ => none
theorem do_all : DoA c (rAll c.K) gAll := by
  intro B H xs ds F z ex r nd hz Q k
  match ds, hz with
  | [.lst o es], hz =>
    obtain ⟨x, rfl, rx⟩ := r.one
    simp only [gAll, Option.map_eq_some_iff] at hz
    obtain ⟨bs, hb, rfl⟩ := hz
    obtain ⟨a, ys, G, rfl, h1, h2, _⟩ := rx.lst_at ex
    rw [h2.bls hb] at h1
    exact ⟨a, bs, rfl, SqL.of h1, k _ B H [] (Stp.same ex) (.bl _)⟩
theorem do_any : DoA c (rAny c.K) gAny := by
  intro B H xs ds F z ex r nd hz Q k
  match ds, hz with
  | [.lst o es], hz =>
    obtain ⟨x, rfl, rx⟩ := r.one
    simp only [gAny, Option.map_eq_some_iff] at hz
    obtain ⟨bs, hb, rfl⟩ := hz
    obtain ⟨a, ys, G, rfl, h1, h2, _⟩ := rx.lst_at ex
    rw [h2.bls hb] at h1
    exact ⟨a, bs, rfl, SqL.of h1, k _ B H [] (Stp.same ex) (.bl _)⟩
def intsD : List D → Option (List Int)
  | [] => some []
  | .int i :: r => (intsD r).map (i :: ·)
  | _ :: _ => none
theorem RpL.ints {K : PySem.W.Frag} {A : Str → Addr} {B H : Hp} : ∀ {xs : List V} {ds : List D} {F : List Addr}, RpL K A B H xs ds F → ∀ {bs : List Int}, intsD ds = some bs → xs = bs.map V.int
  | _, _, _, .nil, _, h => by cases h; rfl
  | _, _, _, .cons (d := d) r t, _, h => by
    cases d <;> first | (cases h; done) | skip
    cases r
    simp only [intsD, Option.map_eq_some_iff] at h
    obtain ⟨bs, h1, rfl⟩ := h
    rw [RpL.ints t h1]; rfl
theorem intsD_map : ∀ ns : List Int, intsD (ns.map D.int) = some ns
  | [] => rfl
  | n :: ns => by show (intsD (ns.map D.int)).map (n :: ·) = _; rw [intsD_map ns]; rfl
def gSum : List D → Option D
  | [.lst _ ds] => (intsD ds).map fun ns => .int ns.sum
  | _ => none
theorem do_sum : DoA c (rSum c.K) gSum := by
  intro B H xs ds F z ex r nd hz Q k
  match ds, hz with
  | [.lst o es], hz =>
    obtain ⟨x, rfl, rx⟩ := r.one
    simp only [gSum, Option.map_eq_some_iff] at hz
    obtain ⟨bs, hb, rfl⟩ := hz
    obtain ⟨a, ys, G, rfl, h1, h2, _⟩ := rx.lst_at ex
    rw [h2.ints hb] at h1
    exact ⟨a, bs, rfl, SqL.of h1, k _ B H [] (Stp.same ex) (.int _)⟩
def gMax2 : List D → Option D
  | [.int i, .int j] => some (.int (if j > i then j else i))
  | _ => none
theorem do_max2 : DoA c (fun xs H Q => ∃ i j, xs = [.int i, .int j] ∧ Q (.int (if j > i then j else i)) H) gMax2 := by
  intro B H xs ds F z ex r nd hz Q k
  match ds, hz with
  | [.int i, .int j], hz =>
    obtain ⟨x, y, F1, F2, rfl, rx, ry, _⟩ := r.two
    cases rx; cases ry; cases hz
    exact ⟨i, j, rfl, k _ B H [] (Stp.same ex) (.int _)⟩
def gMin2 : List D → Option D
  | [.int i, .int j] => some (.int (if j < i then j else i))
  | _ => none
theorem do_min2 : DoA c (fun xs H Q => ∃ i j, xs = [.int i, .int j] ∧ Q (.int (if j < i then j else i)) H) gMin2 := by
  intro B H xs ds F z ex r nd hz Q k
  match ds, hz with
  | [.int i, .int j], hz =>
    obtain ⟨x, y, F1, F2, rfl, rx, ry, _⟩ := r.two
    cases rx; cases ry; cases hz
    exact ⟨i, j, rfl, k _ B H [] (Stp.same ex) (.int _)⟩
def gInt : List D → Option D
  | [.int i] => some (.int i)
  | [.bl b] => some (.int (if b then 1 else 0))
  | _ => none
theorem do_int : DoA c (fun xs H Q => (∃ i, xs = [.int i] ∧ Q (.int i) H) ∨ ∃ k, xs = [.bl k] ∧ Q (.int (if k then 1 else 0)) H) gInt := by
  intro B H xs ds F z ex r nd hz Q k
  match ds, hz with
  | [.int i], hz =>
    obtain ⟨x, rfl, rx⟩ := r.one
    cases rx; cases hz
    exact .inl ⟨i, rfl, k _ B H [] (Stp.same ex) (.int _)⟩
  | [.bl b], hz =>
    obtain ⟨x, rfl, rx⟩ := r.one
    cases rx; cases hz
    exact .inr ⟨b, rfl, k _ B H [] (Stp.same ex) (.int _)⟩
/-! ### isinstance, for built-in classes -/
def tyN : D → Option String
  | .non => some "NoneType" | .bl _ => some "bool" | .int _ => some "int" | .str _ => some "str"
  | .lst _ _ => some "list" | .tup _ _ => some "tuple" | .dic _ _ _ => some "dict"
  | _ => none
theorem Rp.ty {K : PySem.W.Frag} {A : Str → Addr} {B H : Hp} (e : Ex B H) {v : V} {d : D} {F : List Addr} (r : Rp K A B H v d F) {n : String} (h : tyN d = some n) : TyX K H v (.type n) := by
  cases r with
  | non => cases h; exact .base .non
  | bl b => cases h; exact .base (.bl b)
  | int i => cases h; exact .base (.int i)
  | str x => cases h; exact .base (.str x)
  | opq v => cases h
  | lsS q _ => cases h; exact .base (.lst (e _ _ q))
  | lsO q _ _ => cases h; exact .base (.lst q)
  | tpS q _ =>
    cases h
    rcases e.sqT q with (q | ⟨o, q⟩) | ⟨o, its, k, hk, hc, _⟩
    · exact .base (.tup q)
    · exact .fTuple q
    · exact .kTuple hk hc
  | tpO q _ _ => cases h; exact .base (.tup q)
  | diS q _ _ => cases h; exact .base (.dK (e _ _ q))
  | diO q _ _ _ => cases h; exact .base (.dK q)
  | inS => cases h
  | inO => cases h
/-- a class of Python's own: which types are beneath it -/
def subN (a b : String) : Option Bool := kitB a b
def anyN (a : String) : List String → Option Bool
  | [] => some false
  | b :: r => match subN a b with
    | some true => some true
    | some false => anyN a r
    | none => none
theorem anyN_kit {K : PySem.W.Frag} {a : String} : ∀ {l : List String} {b : Bool}, anyN a l = some b → PySem.W.kitAny K (.type a) (l.map Value.type) = some b
  | [], _, h => by cases h; exact kitAny_nil
  | x :: r, b, h => by
    unfold anyN at h
    cases q : subN a x with
    | none => rw [q] at h; cases h
    | some w =>
      rw [q] at h
      cases w with
      | true => cases h; exact kitAny_cons (b := true) (r := true) (kit_ty q) (fun z => by cases z) fun _ => rfl
      | false => exact kitAny_cons (b := false) (kit_ty q) (fun _ => anyN_kit h) fun z => by cases z
def tysD : List D → Option (List String)
  | [] => some []
  | .opq (.ty n) :: r => (tysD r).map (n :: ·)
  | _ :: _ => none
theorem RpL.tys {K : PySem.W.Frag} {A : Str → Addr} {B H : Hp} : ∀ {xs : List V} {ds : List D} {F : List Addr}, RpL K A B H xs ds F → ∀ {bs : List String}, tysD ds = some bs → xs = bs.map V.ty
  | _, _, _, .nil, _, h => by cases h; rfl
  | _, _, _, .cons (d := d) r t, _, h => by
    cases d <;> first | (cases h; done) | skip
    rename_i v
    cases v <;> first | (cases h; done) | skip
    cases r
    simp only [tysD, Option.map_eq_some_iff] at h
    obtain ⟨bs, h1, rfl⟩ := h
    rw [RpL.tys t h1]; rfl
theorem clsV_all : ∀ l : List String, Paired ClsV (l.map V.ty) (l.map Value.type)
  | [] => .nil
  | n :: r => .cons (.ty n) (clsV_all r)
def gIsi : List D → Option D
  | [d, .opq (.ty n)] => match tyN d with
    | some m => (subN m n).map .bl
    | none => none
  | [d, .tup true ts] => match tyN d, tysD ts with
    | some m, some ns => (anyN m ns).map .bl
    | _, _ => none
  | _ => none
def rIsiAll (c : Cf) : List V → Hp → VK → Prop := fun xs H Q => rIsi c.K xs H Q ∨ rIsiT c.K xs H Q
theorem do_isi : DoA c (rIsiAll c) gIsi := by
  intro B H xs ds F z ex r nd hz Q k
  match ds, hz with
  | [d, .opq (.ty n)], hz =>
    obtain ⟨x, y, F1, F2, rfl, rx, ry, _⟩ := r.two
    cases ry
    simp only [gIsi] at hz
    cases hm : tyN d with
    | none => rw [hm] at hz; cases hz
    | some m =>
      rw [hm] at hz
      simp only [Option.map_eq_some_iff] at hz
      obtain ⟨b, hb, rfl⟩ := hz
      exact .inl ⟨x, _, _, _, b, rfl, .ty n, rx.ty ex hm, kit_ty hb, k _ B H [] (Stp.same ex) (.bl _)⟩
  | [d, .tup true ts], hz =>
    obtain ⟨x, y, F1, F2, rfl, rx, ry, _⟩ := r.two
    simp only [gIsi] at hz
    cases hm : tyN d with
    | none => rw [hm] at hz; cases hz
    | some m =>
      cases ht : tysD ts with
      | none => rw [hm, ht] at hz; cases hz
      | some ns =>
        rw [hm, ht] at hz
        simp only [Option.map_eq_some_iff] at hz
        obtain ⟨b, hb, rfl⟩ := hz
        cases ry with
        | tpO h1 h2 h3 =>
          rw [h3.tys ht] at h1
          exact .inr ⟨x, _, _, _, _, b, rfl, h1, clsV_all ns, rx.ty ex hm, anyN_kit hb, k _ B H [] (Stp.same ex) (.bl _)⟩
/-! ### own defs -/
abbrev Fn := Strm → List D → R D
/-- the promise of a def that answers by F -/
def spD (c : Cf) (F : Fn) : Sp := fun vs H Q E => ∃ (B : Hp) (s : Strm) (ds : List D), Ex B H ∧ Sm c B H s ∧ RpL c.K c.A B B vs ds [] ∧ AnsE c B H [] (fun cls d _ H' => E cls d H') Q (F s ds)
def XE.call (F : Fn) (a : XA c) : XE c where
  t := fun W => tCallS (spD c F) (WE W) (a.t W)
  ev := fun s Δ => (a.ev s Δ).bind fun ds s1 => F s1 (frzL ds)
  ok := fun W σ B H Δ s e sm rd Q h => by
    refine a.ok W σ B H Δ s e sm rd _ ?_
    revert h
    cases a.ev s Δ with
    | ok ds s1 =>
      intro h vs B1 H1 F1 st1 sm1 r1
      have st2 : Stp [] B1 H1 (tkn B1 H1 F1) H1 F1 [] := Stp.tkn st1.bh r1.nb List.nodup_nil fun _ m => nomatch m
      have st := st1.then0 st2
      have sm2 := sm1.stp st2 (sm.new st1.new) r1.noc
      refine ⟨tkn B1 H1 F1, s1, frzL ds, st2.bh, sm2, r1.frz (tkn_ex r1.nb) tkn_tk, ?_⟩
      have h' : AnsE c B H σ W Q (F s1 (frzL ds)) := h
      revert h'
      cases F s1 (frzL ds) with
      | ok d s2 => intro h' v B3 H3 F3 st3 sm3 r3; exact h' v B3 H3 F3 (st.trans st3 fun _ m => m) sm3 r3
      | er k p s2 => intro h' B3 H3 d st3 sm3 pay; exact h' B3 H3 d (st.trans st3 fun _ m => m) sm3 pay
      | bad => intro h'; exact h'
    | er k p s1 => intro h; exact h
    | bad => intro h; exact h
end
end Ly

end
section
set_option Elab.async false
set_option linter.all false
set_option maxRecDepth 100000
set_option maxHeartbeats 4000000
namespace Ly
open PySem L2
section
variable {c : Cf}
/-! ### targets -/
def setV (σ : L2.St) : List Nat → List V → L2.St
  | i :: is, v :: vs => setV (σ.set i (some v)) is vs
  | _, _ => σ
def setD (Δ : Env) : List Nat → List D → Env
  | i :: is, d :: ds => setD (Δ.set i (some d)) is ds
  | _, _ => Δ
structure XG (c : Cf) where
  t : TG
  sl : List Nat
  ev : D → Option (List D)
  ok : ∀ (B H : Hp) (v : V) (d : D) (F : List Addr) (ds : List D), Ex B H → Rp c.K c.A B H v d F → F.Nodup → ev d = some ds → ds.length = sl.length ∧ ∀ (σ : L2.St) (Q : L2.St → Hp → Prop),
    (∀ vs G, RpL c.K c.A B H vs ds G → (∀ a ∈ G, a ∈ F) → G.Nodup → Q (setV σ sl vs) H) → t v σ H Q
def XG.name (i : Nat) : XG c where
  t := gName i
  sl := [i]
  ev := fun d => some [d]
  ok := fun B H v d F ds ex r nd h => by
    cases h
    exact ⟨rfl, fun σ Q k => k [v] (F ++ []) (.cons r .nil) (fun a m => by rw [List.append_nil] at m; exact m) (by rw [List.append_nil]; exact nd)⟩
theorem setV_app : ∀ (is : List Nat) (vs : List V) (js : List Nat) (us : List V) (σ : L2.St), is.length = vs.length → setV σ (is ++ js) (vs ++ us) = setV (setV σ is vs) js us
  | [], [], _, _, _, _ => rfl
  | [], _ :: _, _, _, _, h => by cases h
  | _ :: _, [], _, _, _, h => by cases h
  | i :: is, v :: vs, js, us, σ, h => setV_app is vs js us (σ.set i (some v)) (Nat.succ.inj h)
/-- several targets -/
structure XGs (c : Cf) where
  t : TGs
  n : Nat
  sl : List Nat
  ev : List D → Option (List D)
  ok : ∀ (B H : Hp) (vs : List V) (es : List D) (F : List Addr) (ds : List D), Ex B H → RpL c.K c.A B H vs es F → F.Nodup → ev es = some ds → vs.length = n ∧ ds.length = sl.length ∧ ∀ (σ : L2.St) (Q : L2.St → Hp → Prop),
    (∀ vs G, RpL c.K c.A B H vs ds G → (∀ a ∈ G, a ∈ F) → G.Nodup → Q (setV σ sl vs) H) → t vs σ H Q
def XGs.nil : XGs c where
  t := gNil
  n := 0
  sl := []
  ev := fun es => match es with
    | [] => some []
    | _ :: _ => none
  ok := fun B H vs es F ds ex r nd h => by
    cases es with
    | cons => cases h
    | nil =>
      cases h
      cases r
      exact ⟨rfl, rfl, fun σ Q k => ⟨rfl, k [] [] .nil (fun _ m => m) List.nodup_nil⟩⟩
def XGs.cons (g : XG c) (r : XGs c) : XGs c where
  t := gCons g.t r.t
  n := r.n + 1
  sl := g.sl ++ r.sl
  ev := fun es => match es with
    | [] => none
    | e :: es => match g.ev e, r.ev es with
      | some ds, some ds' => some (ds ++ ds')
      | _, _ => none
  ok := fun B H vs es F ds ex rr nd h => by
    cases es with
    | nil => cases h
    | cons e es =>
      cases h1 : g.ev e with
      | none => simp only [h1] at h; cases h
      | some d1 =>
        cases h2 : r.ev es with
        | none => simp only [h1, h2] at h; cases h
        | some d2 =>
          simp only [h1, h2] at h
          cases h
          cases rr with
          | @cons v vs _ _ F1 F2 ra rb =>
            have nn := List.nodup_append.mp nd
            obtain ⟨l1, k1⟩ := g.ok B H v e F1 d1 ex ra nn.1 h1
            obtain ⟨ln, l2, k2⟩ := r.ok B H vs es F2 d2 ex rb nn.2.1 h2
            refine ⟨by rw [List.length_cons, ln], by rw [List.length_append, List.length_append, l1, l2], fun σ Q k => ⟨v, vs, rfl, k1 σ _ fun us1 G1 r1 m1 n1 => k2 _ _ fun us2 G2 r2 m2 n2 => ?_⟩⟩
            have hl : g.sl.length = us1.length := by rw [r1.len, l1]
            rw [← setV_app _ _ _ _ _ hl]
            refine k (us1 ++ us2) (G1 ++ G2) (r1.app r2) (fun a m => ?_) (List.nodup_append.mpr ⟨n1, n2, fun a m b m' => nn.2.2 a (m1 a m) b (m2 b m')⟩)
            rcases List.mem_append.mp m with m | m
            · exact List.mem_append_left _ (m1 a m)
            · exact List.mem_append_right _ (m2 a m)
/-- a tuple or a list of that many -/
def gSeq (K : PySem.W.Frag) (n : Nat) (t : TGs) : TG := fun v σ H Q => gTup K n t v σ H Q ∨ gLst K n t v σ H Q
def XG.seq (r : XGs c) : XG c where
  t := gSeq c.K r.n r.t
  sl := r.sl
  ev := fun d => match seqD d with
    | some es => r.ev es
    | none => none
  ok := fun B H v d F ds ex rr nd h => by
    cases d <;> first | (cases h; done) | skip
    · rename_i o es
      obtain ⟨a, xs, G, rfl, h1, h2, h3, h4, _⟩ := rr.lst_at ex
      obtain ⟨ln, l, k⟩ := r.ok B H xs es G ds ex h2 (h4 nd) h
      exact ⟨l, fun σ Q q => .inr ⟨a, xs, rfl, SqL.of h1, ln, k σ Q fun vs G' r' m n => q vs G' r' (fun b mb => h3 b (m b mb)) n⟩⟩
    · rename_i o es
      obtain ⟨a, xs, G, rfl, h1, h2, h3, h4⟩ := rr.tup_at ex
      obtain ⟨ln, l, k⟩ := r.ok B H xs es G ds ex h2 (h4 nd) h
      exact ⟨l, fun σ Q q => .inl ⟨a, xs, rfl, h1, ln, k σ Q fun vs G' r' m n => q vs G' r' (fun b mb => h3 b (m b mb)) n⟩⟩
/-- the target as the rules have it: of a tuple alone (the rule for new pairs) -/
def XG.tup (r : XGs c) : XG c where
  t := gTup c.K r.n r.t
  sl := r.sl
  ev := fun d => match d with
    | .tup _ es => r.ev es
    | _ => none
  ok := fun B H v d F ds ex rr nd h => by
    cases d <;> first | (cases h; done) | skip
    rename_i o es
    obtain ⟨a, xs, G, rfl, h1, h2, h3, h4⟩ := rr.tup_at ex
    obtain ⟨ln, l, k⟩ := r.ok B H xs es G ds ex h2 (h4 nd) h
    exact ⟨l, fun σ Q q => ⟨a, xs, rfl, h1, ln, k σ Q fun vs G' r' m n => q vs G' r' (fun b mb => h3 b (m b mb)) n⟩⟩
/-! ### what is walked -/
def IterOk (c : Cf) (J : It) (B1 : Hp) (ds : List D) : Prop := ∀ B' H', Ex B1 B' → Ex B' H' →
  (∀ (i : Nat) (d : D), ds[i]? = some d → J.go i H' ∧ ∀ x H2, J.yld i H' x H2 → ∃ F, Stp [] B' H' B' H2 [] F ∧ Rp c.K c.A B' H2 x d F) ∧ J.stop ds.length H'
def AnsI (c : Cf) (B H : Hp) (σ : L2.St) (W : WX) (Q : It → Hp → Prop) : R (Bool × List D) → Prop
  | .ok p s => ∀ J B' H' F, Stp c.S B H B' H' [] F → Sm c B' H' s → (∀ a ∈ F, B' a = none) ∧ Noc H' F → (∀ B2, (p.1 = true → Ex B' B2) → (∀ a ∈ F, ∀ o, H' a = some o → B2 a = some o) → IterOk c J B2 p.2) → Q J H'
  | .er k p s => Er c B H σ W k p s
  | .bad => False
structure XI (c : Cf) where
  t : WX → TI
  ev : Strm → Env → R (Bool × List D)
  ok : ∀ (W : WX) (σ : L2.St) (B H : Hp) (Δ : Env) (s : Strm), Ex B H → Sm c B H s → RdE c B σ Δ → ∀ Q : It → Hp → Prop, AnsI c B H σ W Q (ev s Δ) → t W σ H Q
mutual
theorem Rp.ofrz {K : PySem.W.Frag} {A : Str → Addr} {B H B2 H2 : Hp} : ∀ {v : V} {d : D} {F : List Addr}, Rp K A B H v d F → shr d = false → (∀ a ∈ F, ∀ o, H a = some o → B2 a = some o) → Rp K A B2 H2 v (frz d) []
  | _, _, _, .non, _, _ => .non
  | _, _, _, .bl b, _, _ => .bl b
  | _, _, _, .int i, _, _ => .int i
  | _, _, _, .str x, _, _ => .str x
  | _, _, _, .opq v, _, _ => .opq v
  | _, _, _, .lsS h r, s, k => by simp [shr] at s
  | _, _, _, .lsO h n r, s, k => .lsS (k _ List.mem_cons_self _ h) (RpL.ofrz r (by simpa [shr] using s) fun a m => k a (List.mem_cons_of_mem _ m))
  | _, _, _, .tpS h r, s, k => by simp [shr] at s
  | _, _, _, .tpO h n r, s, k => .tpS (SqT.of (k _ List.mem_cons_self _ h)) (RpL.ofrz r (by simpa [shr] using s) fun a m => k a (List.mem_cons_of_mem _ m))
  | _, _, _, .diS h l r, s, k => by simp [shr] at s
  | _, _, _, .diO h n l r, s, k => .diS (k _ List.mem_cons_self _ h) l (RpL.ofrz r (by simpa [shr] using s) fun a m => k a (List.mem_cons_of_mem _ m))
  | _, _, _, .inS h l r, s, k => by simp [shr] at s
  | _, _, _, .inO h n l r, s, k => .inS (k _ List.mem_cons_self _ h) l (RpL.ofrz r (by simpa [shr] using s) fun a m => k a (List.mem_cons_of_mem _ m))
theorem RpL.ofrz {K : PySem.W.Frag} {A : Str → Addr} {B H B2 H2 : Hp} : ∀ {vs : List V} {ds : List D} {F : List Addr}, RpL K A B H vs ds F → shrL ds = false → (∀ a ∈ F, ∀ o, H a = some o → B2 a = some o) → RpL K A B2 H2 vs (frzL ds) []
  | _, _, _, .nil, _, _ => .nil
  | _, _, _, .cons r t, s, k => .cons (F := []) (G := []) (Rp.ofrz r (shr_or s).1 fun a m => k a (List.mem_append_left _ m)) (RpL.ofrz t (shr_or s).2 fun a m => k a (List.mem_append_right _ m))
end
/-- an answer told whole: its frozen form stands in every B2 that holds what it leans on -/
theorem Rp.any {B H B2 : Hp} {v : V} {d : D} {F : List Addr} (r : Rp c.K c.A B H v d F) (h1 : shr d = true → Ex B B2) (h2 : ∀ a ∈ F, ∀ o, H a = some o → B2 a = some o) : Rp c.K c.A B2 B2 v (Ly.frz d) [] := by
  cases h : shr d with
  | true => exact r.frz (h1 h) h2
  | false => exact r.ofrz h h2
def strD (z : Str) : List D := z.cps.toList.map fun k => .str ⟨#[k]⟩
def itD : D → Option (Bool × List D)
  | .lst o ds => some (shr (.lst o ds), frzL ds)
  | .tup o ds => some (shr (.tup o ds), frzL ds)
  | .str z => some (false, strD z)
  | _ => none
def iSeq (K : PySem.W.Frag) (tl : TE) : TI := fun σ H Z => tl σ H fun x H1 => ∃ a : Addr, (x = .ref a ∧ (∃ xs, SqL K H1 a xs) ∧ Z (L2.Itl K a) H1) ∨ (x = .ref a ∧ (∃ xs, SqT K H1 a xs) ∧ Z (L2.Itt K a) H1) ∨ ∃ z : Str, x = .str z ∧ Z (L2.Its z) H1
theorem Ex.sqL {K : PySem.W.Frag} {B B' : Hp} (h : Ex B B') {a : Addr} {xs : List V} (q : B a = some (.lst xs)) : SqL K B' a xs := SqL.of (h _ _ q)
theorem pi_seq {X : Cx} {tg l : Expr} {tl : TE} (hl : PE X l tl) : PI X tg l (iSeq X.K tl) := by
  constructor
  intro pins s σ H R I h
  refine thn (hl.run pins s σ H _ I h) ?_
  rintro v s1 ⟨x, H1, J, rx, a, q⟩
  have fr : ∀ b : Addr, b ∈ [s1.heap.objs.size] → FpOk X pins H1 b := fun b hb => by
    rw [List.mem_singleton.mp hb]
    exact J.fpOk (Nat.le_refl _) (J.hok.fresh (Nat.le_refl _))
  have kp : ∀ (o' : Obj) (b : Addr) (o : Obj), s1.heap.get? b = some o → (s1.heap.push o').get? b = some o := fun o' b o e => Heap.get?_push_of_some _ e
  rcases q with ⟨ex, ⟨xs, hx⟩, q⟩ | ⟨ex, ⟨xs, hx⟩, q⟩ | ⟨z, ex, q⟩
  · subst ex
    cases rx
    obtain ⟨us, _, pl, _⟩ := J.list hx
    exact wpAny_pyIter_list pl.isList ⟨_, _, _, _, H1, rfl, J.kept (t' := s1.toks) (kp _), turn_list a _, ⟨_, Heap.get?_push_size _ rfl, rfl, rfl⟩, fr, q⟩
  · subst ex
    cases rx
    obtain ⟨us, _, pt, _⟩ := J.tuple hx
    exact wpAny_pyIter_tuple (items := us.toArray) pt ⟨_, _, _, _, H1, rfl, J.kept (t' := s1.toks) (kp _), turn_tuple a _, ⟨_, Heap.get?_push_size _ rfl, rfl, rfl⟩, fr, q⟩
  · subst ex
    obtain ⟨t, et⟩ := rx
    subst et
    cases ha : z.cps.all (· < 128)
    · refine wpAny_pyIter_wide ha ?_
      exact pi_one (tk := s1.toks) J _ (turn_str _ z t "str_iterator" (.inr rfl)) ⟨_, Heap.get?_push_size _ rfl, rfl, rfl⟩ q
    · refine wpAny_pyIter_ascii ha ?_
      exact pi_one (tk := s1.toks) J _ (turn_str _ z t "str_ascii_iterator" (.inl rfl)) ⟨_, Heap.get?_push_size _ rfl, rfl, rfl⟩ q
end
end Ly

end
section
set_option Elab.async false
set_option linter.all false
set_option maxRecDepth 100000
set_option maxHeartbeats 4000000
namespace Ly
open PySem L2
section
variable {c : Cf}
theorem iter_seq {B2 : Hp} {a : Addr} {ds : List D} {o : Bool} (r : Rp c.K c.A B2 B2 (.ref a) (.lst false ds) []) : IterOk c (Itl c.K a) B2 ds := fun B' H' e1 e2 => by
  have r' := (r.mono e1 (H' := H') Kp.nil)
  cases r' with
  | @lsS _ xs _ h1 h2 =>
    have sq : SqL c.K H' a xs := SqL.of (e2 _ _ h1)
    refine ⟨fun i d hd => ?_, ⟨xs, sq, by rw [h2.len]; exact Nat.le_refl _⟩⟩
    obtain ⟨v, G, hv, rv, m, _⟩ := h2.pick hd
    refine ⟨⟨xs, v, sq, hv⟩, fun x H2 y => ?_⟩
    obtain ⟨rfl, y⟩ := y
    have ex := y xs sq
    rw [hv] at ex
    cases ex
    have eG : G = [] := List.eq_nil_iff_forall_not_mem.mpr fun b mb => nomatch m b mb
    rw [eG] at rv
    exact ⟨[], Stp.refl e2 List.nodup_nil, rv⟩
theorem iter_tup {B2 : Hp} {a : Addr} {ds : List D} (r : Rp c.K c.A B2 B2 (.ref a) (.tup false ds) []) : IterOk c (Itt c.K a) B2 ds := fun B' H' e1 e2 => by
  have r' := (r.mono e1 (H' := H') Kp.nil)
  cases r' with
  | @tpS _ xs _ h1 h2 =>
    have sq : SqT c.K H' a xs := e2.sqT h1
    refine ⟨fun i d hd => ?_, ⟨xs, sq, by rw [h2.len]; exact Nat.le_refl _⟩⟩
    obtain ⟨v, G, hv, rv, m, _⟩ := h2.pick hd
    refine ⟨⟨xs, v, sq, hv⟩, fun x H2 y => ?_⟩
    obtain ⟨rfl, y⟩ := y
    have ex := y xs sq
    rw [hv] at ex
    cases ex
    have eG : G = [] := List.eq_nil_iff_forall_not_mem.mpr fun b mb => nomatch m b mb
    rw [eG] at rv
    exact ⟨[], Stp.refl e2 List.nodup_nil, rv⟩
theorem iter_str {B2 : Hp} (z : Str) : IterOk c (Its z) B2 (strD z) := fun B' H' e1 e2 => by
  have hl : (strD z).length = z.cps.size := by unfold strD; rw [List.length_map, Array.length_toList]
  refine ⟨fun i d hd => ?_, by show z.cps.size ≤ (strD z).length; rw [hl]; exact Nat.le_refl _⟩
  unfold strD at hd
  rw [List.getElem?_map, Option.map_eq_some_iff] at hd
  obtain ⟨k, hk, rfl⟩ := hd
  rw [Array.getElem?_toList] at hk
  refine ⟨(Array.getElem?_eq_some_iff.mp hk).1, fun x H2 y => ?_⟩
  obtain ⟨rfl, k', hk', rfl⟩ := y
  rw [hk] at hk'
  cases hk'
  exact ⟨[], Stp.refl e2 List.nodup_nil, .str _⟩
/-- a list, a tuple, a text -/
def XI.seq (a : XE c) : XI c where
  t := fun W => iSeq c.K (a.t W)
  ev := fun s Δ => (a.ev s Δ).bind fun d s1 => optR s1 (itD d)
  ok := fun W σ B H Δ s e sm rd Q h => by
    refine a.ok W σ B H Δ s e sm rd _ ?_
    revert h
    cases a.ev s Δ with
    | ok d s1 =>
      show AnsI c B H σ W Q (optR s1 (itD d)) → _
      cases d <;> first | (intro h; exact h.elim) | skip
      · rename_i z
        intro h v B1 H1 F1 st1 sm1 r1
        cases r1
        exact ⟨0, .inr (.inr ⟨z, rfl, h _ B1 H1 [] st1 sm1 ⟨fun _ m => (nomatch m), Noc.nil⟩ fun B2 _ _ => iter_str z⟩)⟩
      · rename_i o ds
        intro h v B1 H1 F1 st1 sm1 r1
        obtain ⟨a, xs, G, rfl, h1, h2, _⟩ := r1.lst_at st1.bh
        exact ⟨a, .inl ⟨rfl, ⟨xs, SqL.of h1⟩, h _ B1 H1 F1 st1 sm1 ⟨r1.nb, r1.noc⟩ fun B2 e1 e2 => iter_seq (o := o) (r1.any e1 e2)⟩⟩
      · rename_i o ds
        intro h v B1 H1 F1 st1 sm1 r1
        obtain ⟨a, xs, G, rfl, h1, h2, _⟩ := r1.tup_at st1.bh
        exact ⟨a, .inr (.inl ⟨rfl, ⟨xs, h1⟩, h _ B1 H1 F1 st1 sm1 ⟨r1.nb, r1.noc⟩ fun B2 e1 e2 => iter_tup (r1.any e1 e2)⟩)⟩
    | er k p s1 => intro h; exact h
    | bad => intro h; exact h
def rngD (lo : Int) (n : Nat) : List D := (List.range n).map fun k => .int (lo + (k : Nat))
theorem iter_rng {B2 : Hp} (lo : Int) (n : Nat) : IterOk c (Itr lo n) B2 (rngD lo n) := fun B' H' e1 e2 => by
  have hl : (rngD lo n).length = n := by unfold rngD; rw [List.length_map, List.length_range]
  refine ⟨fun i d hd => ?_, by show n ≤ (rngD lo n).length; rw [hl]; exact Nat.le_refl _⟩
  have hi : i < n := by
    have := (List.getElem?_eq_some_iff.mp hd).1
    rw [hl] at this; exact this
  unfold rngD at hd
  rw [List.getElem?_map, List.getElem?_range hi] at hd
  cases hd
  refine ⟨hi, fun x H2 y => ?_⟩
  obtain ⟨rfl, rfl⟩ := y
  exact ⟨[], Stp.refl e2 List.nodup_nil, .int _⟩
def b62 (i : Int) : Bool := decide (-(2 ^ 62) ≤ i) && decide (i < 2 ^ 62)
theorem b62_ok {i : Int} (h : b62 i = true) : -(2 ^ 62) ≤ i ∧ i < 2 ^ 62 := by
  unfold b62 at h
  simp only [Bool.and_eq_true, decide_eq_true_eq] at h
  exact h
def rng1D : List D → Option (Bool × List D)
  | [.int j] => if b62 j then some (false, rngD 0 j.toNat) else none
  | _ => none
def rng2D : List D → Option (Bool × List D)
  | [.int i, .int j] => if b62 i && b62 j then some (false, rngD i (j - i).toNat) else none
  | _ => none
def XI.rng1 (a : XA c) : XI c where
  t := fun W => iRng1 (a.t W)
  ev := fun s Δ => (a.ev s Δ).bind fun ds s1 => optR s1 (rng1D ds)
  ok := fun W σ B H Δ s e sm rd Q h => by
    refine a.ok W σ B H Δ s e sm rd _ ?_
    revert h
    cases a.ev s Δ with
    | ok ds s1 =>
      show AnsI c B H σ W Q (optR s1 (rng1D ds)) → _
      match ds with
      | [.int j] =>
        show AnsI c B H σ W Q (optR s1 (if b62 j then some (false, rngD 0 j.toNat) else none)) → _
        split
        · rename_i hj
          intro h v B1 H1 F1 st1 sm1 r1
          obtain ⟨x, rfl, rx⟩ := r1.one
          cases rx
          exact ⟨j, rfl, (b62_ok hj).1, (b62_ok hj).2, h _ B1 H1 [] st1 sm1 ⟨fun _ m => (nomatch m), Noc.nil⟩ fun B2 _ _ => iter_rng 0 _⟩
        · intro h; exact h.elim
      | [] => intro h; exact h.elim
      | .int _ :: _ :: _ => intro h; exact h.elim
      | .non :: _ | .bl _ :: _ | .str _ :: _ | .lst _ _ :: _ | .tup _ _ :: _ | .dic _ _ _ :: _ | .ins _ _ _ _ :: _ | .opq _ :: _ => intro h; exact h.elim
    | er k p s1 => intro h; exact h
    | bad => intro h; exact h
def XI.rng2 (a : XA c) : XI c where
  t := fun W => iRng2 (a.t W)
  ev := fun s Δ => (a.ev s Δ).bind fun ds s1 => optR s1 (rng2D ds)
  ok := fun W σ B H Δ s e sm rd Q h => by
    refine a.ok W σ B H Δ s e sm rd _ ?_
    revert h
    cases a.ev s Δ with
    | ok ds s1 =>
      show AnsI c B H σ W Q (optR s1 (rng2D ds)) → _
      cases hz : rng2D ds with
      | none => intro h; exact h.elim
      | some p =>
        intro h v B1 H1 F1 st1 sm1 r1
        unfold rng2D at hz
        split at hz
        · rename_i i j
          split at hz
          · rename_i hj
            cases hz
            simp only [Bool.and_eq_true] at hj
            obtain ⟨x, y, G1, G2, rfl, rx, ry, rfl⟩ := r1.two
            cases rx; cases ry
            exact ⟨i, j, rfl, ⟨(b62_ok hj.1).1, (b62_ok hj.1).2, (b62_ok hj.2).1, (b62_ok hj.2).2⟩, h _ B1 H1 [] st1 sm1 ⟨fun _ m => (nomatch m), Noc.nil⟩ fun B2 _ _ => iter_rng i _⟩
          · cases hz
        · cases hz
    | er k p s1 => intro h; exact h
    | bad => intro h; exact h
/-! ### comprehensions -/
def wipeE (Δ : Env) : List Nat → Env
  | [] => Δ
  | v :: vs => (wipeE Δ vs).set v none
theorem wipeE_get {Δ : Env} {i : Nat} {d : D} : ∀ {vs : List Nat}, (wipeE Δ vs)[i]? = some (some d) → Δ[i]? = some (some d) ∧ i ∉ vs
  | [], h => ⟨h, by simp⟩
  | v :: vs, h => by
    unfold wipeE at h
    by_cases hi : v = i
    · subst hi
      by_cases hv : v < (wipeE Δ vs).length
      · rw [List.getElem?_set_self hv] at h; cases h
      · rw [List.getElem?_eq_none (by simpa using hv)] at h; cases h
    · rw [List.getElem?_set_ne hi] at h
      obtain ⟨h1, h2⟩ := wipeE_get h
      exact ⟨h1, by simp only [List.mem_cons, not_or]; exact ⟨fun e => hi e.symm, h2⟩⟩
theorem wipeE_len (Δ : Env) : ∀ vs : List Nat, (wipeE Δ vs).length = Δ.length
  | [] => rfl
  | v :: vs => by unfold wipeE; rw [List.length_set, wipeE_len Δ vs]
theorem RdE.wipe {B : Hp} {σ : L2.St} {Δ : Env} (h : RdE c B σ Δ) (vs : List Nat) : RdE c B (L2.wipe σ vs) (wipeE Δ vs) := ⟨fun i d e => by
  obtain ⟨h1, h2⟩ := wipeE_get e
  obtain ⟨v, e1, r⟩ := h.1 i d h1
  exact ⟨v, by rw [wipe_out h2]; exact e1, r⟩, by rw [wipe_length, wipeE_len, h.2]⟩
theorem RdE.set {B : Hp} {σ : L2.St} {Δ : Env} (h : RdE c B σ Δ) {i : Nat} {v : V} {d : D} (r : Rp c.K c.A B B v d []) : RdE c B (σ.set i (some v)) (Δ.set i (some d)) := ⟨fun j e q => by
  by_cases hi : i = j
  · subst hi
    have hj : i < Δ.length := by
      have := (List.getElem?_eq_some_iff.mp q).1
      simpa using this
    rw [List.getElem?_set_self hj] at q
    cases q
    exact ⟨v, by rw [List.getElem?_set_self (by rw [h.2]; exact hj)], r⟩
  · rw [List.getElem?_set_ne hi] at q
    obtain ⟨u, h1, h2⟩ := h.1 j e q
    exact ⟨u, by rw [List.getElem?_set_ne hi]; exact h1, h2⟩, by rw [List.length_set, List.length_set]; exact h.2⟩
theorem setV_nil (σ : L2.St) (vs : List V) : setV σ [] vs = σ := by cases vs <;> simp [setV]
theorem setD_nil (Δ : Env) (vs : List D) : setD Δ [] vs = Δ := by cases vs <;> simp [setD]
theorem setV_cons (σ : L2.St) (i : Nat) (is : List Nat) (v : V) (vs : List V) : setV σ (i :: is) (v :: vs) = setV (σ.set i (some v)) is vs := by simp [setV]
theorem setD_cons (σ : Env) (i : Nat) (is : List Nat) (v : D) (vs : List D) : setD σ (i :: is) (v :: vs) = setD (σ.set i (some v)) is vs := by simp [setD]
theorem RdE.sets0 {B : Hp} : ∀ {is : List Nat} {vs : List V} {ds : List D} {F : List Addr} {σ : L2.St} {Δ : Env}, F = [] → RdE c B σ Δ → RpL c.K c.A B B vs ds F → RdE c B (setV σ is vs) (setD Δ is ds)
  | [], _, _, _, _, _, _, h, _ => by rw [setV_nil, setD_nil]; exact h
  | _ :: _, _, _, _, _, _, _, h, .nil => h
  | i :: is, _, _, _, σ, Δ, e, h, .cons r1 r2 => by
    obtain ⟨rfl, rfl⟩ := List.append_eq_nil_iff.mp e
    rw [setV_cons, setD_cons]
    exact RdE.sets0 rfl (h.set r1) r2
theorem RdE.sets {B : Hp} {is : List Nat} {vs : List V} {ds : List D} {σ : L2.St} {Δ : Env} (h : RdE c B σ Δ) (r : RpL c.K c.A B B vs ds []) : RdE c B (setV σ is vs) (setD Δ is ds) := RdE.sets0 rfl h r
theorem wipe_len (σ : L2.St) (vs : List Nat) : (L2.wipe σ vs).length = σ.length := wipe_length σ vs
theorem set_comm {α : Type} {l : List α} {i j : Nat} {a b : α} (h : i ≠ j) : (l.set i a).set j b = (l.set j b).set i a := List.set_comm a b h
theorem wipe_set {σ : L2.St} {i : Nat} {x : V} : ∀ {vs : List Nat}, i ∈ vs → L2.wipe (σ.set i (some x)) vs = L2.wipe σ vs
  | [], h => nomatch h
  | v :: vs, h => by
    unfold L2.wipe
    by_cases hi : i ∈ vs
    · rw [wipe_set hi]
    · have e : i = v := by
        rcases List.mem_cons.mp h with e | e
        · exact e
        · exact absurd e hi
      subst e
      have out : ∀ {us : List Nat}, i ∉ us → L2.wipe (σ.set i (some x)) us = (L2.wipe σ us).set i (some x) := by
        intro us
        induction us with
        | nil => intro _; rfl
        | cons u us ih =>
          intro hu
          simp only [List.mem_cons, not_or] at hu
          unfold L2.wipe
          rw [ih hu.2, set_comm hu.1]
      rw [out hi, List.set_set]
theorem wipe_sets : ∀ {is : List Nat} {xs : List V} {σ : L2.St} {vs : List Nat}, (∀ i ∈ is, i ∈ vs) → L2.wipe (setV σ is xs) vs = L2.wipe σ vs
  | [], _, _, _, _ => rfl
  | _ :: _, [], _, _, _ => rfl
  | i :: is, x :: xs, σ, vs, h => by
    show L2.wipe (setV (σ.set i (some x)) is xs) vs = _
    rw [wipe_sets fun j m => h j (List.mem_cons_of_mem _ m), wipe_set (h i List.mem_cons_self)]
theorem wipe_wipe {σ : L2.St} {vs : List Nat} : L2.wipe (L2.wipe σ vs) vs = L2.wipe σ vs := by
  have key : ∀ (us : List Nat) (τ : L2.St), (∀ u ∈ us, ∀ x, τ[u]? = some (some x) → False) → L2.wipe τ us = τ := by
    intro us
    induction us with
    | nil => intro τ _; rfl
    | cons u us ih =>
      intro τ h
      unfold L2.wipe
      rw [ih τ fun w m => h w (List.mem_cons_of_mem _ m)]
      apply List.ext_getElem?
      intro j
      by_cases hj : u = j
      · subst hj
        by_cases hl : u < τ.length
        · rw [List.getElem?_set_self hl]
          cases q : τ[u]? with
          | none => exact absurd (List.getElem?_eq_none_iff.mp q) (by omega)
          | some o =>
            cases o with
            | none => rfl
            | some x => exact (h u List.mem_cons_self x q).elim
        · rw [List.getElem?_eq_none (by simpa using hl), List.getElem?_eq_none (by simpa using hl)]
      · rw [List.getElem?_set_ne hj]
  exact key vs _ fun u m x e => (wipe_some e).2 m
/-- the turns of a comprehension -/
def cmpE (g : XG c) (t : XT c) (e : XE c) (Δ : Env) : List D → Strm → R (List D)
  | [], s => .ok [] s
  | d :: ds, s => match g.ev (frz d) with
    | none => .bad
    | some bs => match t.ev s (setD Δ g.sl bs) with
      | .ok true s1 => match e.ev s1 (setD Δ g.sl bs) with
        | .ok x s2 => match cmpE g t e Δ ds s2 with
          | .ok xs s3 => .ok (x :: xs) s3
          | _ => .bad
        | _ => .bad
      | .ok false s1 => cmpE g t e Δ ds s1
      | _ => .bad
abbrev W0 : WX := fun _ _ _ _ => False
theorem no_mem {F : List Addr} (h : ∀ a ∈ F, a ∈ ([] : List Addr)) : F = [] := List.eq_nil_iff_forall_not_mem.mpr fun b mb => nomatch h b mb
/-- one turn told -/
theorem cmpE_cons {g : XG c} {t : XT c} {e : XE c} {Δ : Env} {d : D} {ds xs : List D} {s s2 : Strm} (h : cmpE g t e Δ (d :: ds) s = .ok xs s2) :
    ∃ bs, g.ev (frz d) = some bs ∧ ((∃ s1 x s3 ys, t.ev s (setD Δ g.sl bs) = .ok true s1 ∧ e.ev s1 (setD Δ g.sl bs) = .ok x s3 ∧ cmpE g t e Δ ds s3 = .ok ys s2 ∧ xs = x :: ys) ∨
      ∃ s1, t.ev s (setD Δ g.sl bs) = .ok false s1 ∧ cmpE g t e Δ ds s1 = .ok xs s2) := by
  unfold cmpE at h
  cases h1 : g.ev (frz d) with
  | none => rw [h1] at h; cases h
  | some bs =>
    rw [h1] at h
    simp only at h
    refine ⟨bs, rfl, ?_⟩
    cases h2 : t.ev s (setD Δ g.sl bs) with
    | er k p s1 => rw [h2] at h; cases h
    | bad => rw [h2] at h; cases h
    | ok b s1 =>
      rw [h2] at h
      cases b with
      | false => exact .inr ⟨s1, rfl, h⟩
      | true =>
        dsimp only at h
        cases h3 : e.ev s1 (setD Δ g.sl bs) with
        | er k p s1 => rw [h3] at h; cases h
        | bad => rw [h3] at h; cases h
        | ok x s3 =>
          rw [h3] at h
          simp only at h
          cases h4 : cmpE g t e Δ ds s3 with
          | er k p s1 => rw [h4] at h; cases h
          | bad => rw [h4] at h; cases h
          | ok ys s4 =>
            rw [h4] at h
            cases h
            exact .inl ⟨s1, x, s3, ys, rfl, h3, h4, rfl⟩
/-- [e for g in it if t]; vs: the slots of its own names -/
def XE.comp (it : XI c) (g : XG c) (t : XT c) (e : XE c) (vs : List Nat) (hvb : (g.sl.all fun i => vs.contains i) = true) : XE c where
  t := fun W => tLc (it.t W) g.t (t.t W0) (e.t W0) vs
  ev := fun s Δ => (it.ev s Δ).bind fun p s1 => if p.2.length ≤ lim then match cmpE g t e (wipeE Δ vs) p.2 s1 with
    | .ok ds s2 => .ok (.lst true ds) s2
    | _ => .bad else .bad
  ok := fun W σ B H Δ s ex sm rd Q h => by
    have hv : ∀ i ∈ g.sl, i ∈ vs := fun i m => by simpa using List.all_eq_true.mp hvb i m
    refine it.ok W σ B H Δ s ex sm rd _ ?_
    revert h
    cases it.ev s Δ with
    | er k p s1 => intro h; exact h
    | bad => intro h; exact h
    | ok p s1 =>
      obtain ⟨sh, ds⟩ := p
      show AnsE c B H σ W Q (if ds.length ≤ lim then match cmpE g t e (wipeE Δ vs) ds s1 with
        | .ok ds s2 => .ok (.lst true ds) s2
        | _ => .bad else .bad) → _
      split
      case isFalse => intro h; exact h.elim
      rename_i hlim
      cases hc : cmpE g t e (wipeE Δ vs) ds s1 with
      | er k p s1 => intro h; exact h.elim
      | bad => intro h; exact h.elim
      | ok all s2 =>
        intro h J B' H' F st1 sm1 ⟨nb1, nc1⟩ hit Dl hD
        have stk : Stp [] B' H' (tkn B' H' F) H' F [] := Stp.tkn st1.bh nb1 List.nodup_nil fun _ m => nomatch m
        have st2 := st1.then0 stk
        have sm2 := sm1.stp stk (sm.new st1.new) nc1
        have hI : IterOk c J (tkn B' H' F) ds := hit _ (fun _ => stk.bb) fun a m o eo => tkn_tk a m o eo
        have st3 : Stp [] (tkn B' H' F) H' (tkn B' H' F) (upd H' Dl (.lst [])) [] [Dl] := Stp.obj stk.bh hD (fun _ m => m) (fun _ m => nomatch m) List.nodup_nil
        let Inv : Nat → Hp → Prop := fun i Hi => ∃ (Bi : Hp) (s' : Strm) (accd xs : List D) (acc : List V) (Fi : List Addr),
          Stp c.S B H Bi Hi [] (Dl :: Fi) ∧ Sm c Bi Hi s' ∧ Ex (tkn B' H' F) Bi ∧ RpL c.K c.A Bi Hi acc accd Fi ∧ Hi Dl = some (.lst acc) ∧ Bi Dl = none ∧ acc.length ≤ i ∧
          cmpE g t e (wipeE Δ vs) (ds.drop i) s' = .ok xs s2 ∧ accd ++ xs = all
        refine ⟨fun i m Hi => i ≤ ds.length ∧ m = ds.length - i ∧ Inv i Hi, ⟨ds.length, Nat.zero_le _, rfl, tkn B' H' F, s1, [], all, [], [], st2.then0 st3, sm2.stp st3 (fun _ m => (nomatch m)) Noc.nil, Ex.refl _, .nil, upd_same, stk.bh.none hD, Nat.le_refl _, hc, rfl⟩, ?_⟩
        rintro i m Hi ⟨hi, rfl, Bi, s', accd, xs, acc, Fi, sti, smi, exi, ri, hDi, bDi, li, ci, ai⟩
        obtain ⟨hgo, hstop⟩ := hI Bi Hi exi sti.bh
        rcases Nat.lt_or_eq_of_le hi with hlt | heq
        case inr =>
          left
          rw [heq]
          refine ⟨hstop, ?_⟩
          rw [heq, List.drop_length] at ci
          cases ci
          rw [List.append_nil] at ai
          rw [← ai] at h
          exact h (.ref Dl) Bi Hi (Dl :: Fi) sti smi (.lsO hDi bDi ri)
        right
        obtain ⟨d, hd⟩ : ∃ d, ds[i]? = some d := ⟨ds[i], List.getElem?_eq_getElem hlt⟩
        obtain ⟨hgo1, hy⟩ := hgo i d hd
        refine ⟨hgo1, Inv (i + 1), fun Hn hn => ⟨ds.length - (i + 1), by omega, hlt, rfl, hn⟩, ?_⟩
        intro x H2 y
        obtain ⟨Fx, stx, rx⟩ := hy x H2 y
        have hdrop : ds.drop i = d :: ds.drop (i + 1) := by
          have e1 : ds[i] = d := (List.getElem?_eq_some_iff.mp hd).2
          rw [List.drop_eq_getElem_cons hlt, e1]
        rw [hdrop] at ci
        obtain ⟨bs, hg, hturn⟩ := cmpE_cons ci
        have sti1 : Stp c.S B H Bi Hi [] (Dl :: Fi) := sti
        have own0 : Bsd c.S Bi Hi [] (Dl :: Fi) := ⟨fun a ma => by
            rcases List.mem_cons.mp ma with rfl | ma
            · exact bDi
            · exact ri.nb a ma, fun a ma => by
            rcases List.mem_cons.mp ma with rfl | ma
            · rw [hDi]; simp
            · exact ri.th a ma, fun _ _ z => (nomatch z), sm.new sti.new⟩
        have stx' : Stp c.S Bi Hi Bi H2 [] Fx := stx.trans (Stp.refl (S := []) stx.bh stx.nd) (fun _ m => nomatch m) |> fun q => ⟨q.bb, q.bh, fun a o e1 e2 _ => q.fr a o e1 e2 (by simp), q.th, q.nb, q.nf, q.nd⟩
        have smx : Sm c Bi H2 s' := smi.stp stx (fun _ m => (nomatch m)) Noc.nil
        have stf : Stp [] Bi H2 (tkn Bi H2 Fx) H2 Fx [] := Stp.tkn stx.bh rx.nb List.nodup_nil fun _ m => nomatch m
        have rx2 : Rp c.K c.A (tkn Bi H2 Fx) H2 x (frz d) [] := rx.frz (tkn_ex rx.nb) tkn_tk
        have stt := stx'.then0 stf
        have smt := smx.stp stf (smi.new stx'.new) rx.noc
        obtain ⟨_, hgk⟩ := g.ok _ _ x (frz d) [] bs stf.bh rx2 List.nodup_nil hg
        refine hgk _ _ fun us G ru mu _ => ⟨?_, ?_⟩
        · rw [wipe_sets hv, wipe_wipe]
        · have eG := no_mem mu
          subst eG
          have rdw : RdE c (tkn Bi H2 Fx) (setV (L2.wipe σ vs) g.sl us) (setD (wipeE Δ vs) g.sl bs) := ((rd.mono (st2.bb.trans (exi.trans stt.bb))).wipe vs).sets (ru.mono (Ex.refl _) Kp.nil)
          refine t.ok W0 _ _ _ _ s' stf.bh smt rdw _ ?_
          rcases hturn with ⟨s3, x', s4, ys, ht, he, hr, rfl⟩ | ⟨s3, ht, hr⟩
          · rw [ht]
            intro B4 H4 st4 sm4
            refine e.ok W0 _ B4 H4 _ s3 st4.bh sm4 (rdw.mono st4.bb) _ ?_
            rw [he]
            intro v B5 H5 F5 st5 sm5 r5
            have stA := (stt.trans st4 fun _ m => m).trans st5 fun _ m => m
            have kpA := stA.kp own0
            have nd0 := sti.nd
            have stB := stA.ext own0 nd0
            rw [List.append_nil] at stB
            have stC := sti.trans stB fun _ m => m
            have hD5 : H5 Dl = some (.lst acc) := (kpA Dl List.mem_cons_self).1 _ hDi
            have nn := List.nodup_append.mp stC.nd
            have nD : Dl ∉ Fi := (List.nodup_cons.mp nd0).1
            have nD5 : Dl ∉ F5 := fun z => nn.2.2 Dl List.mem_cons_self Dl z rfl
            have bD5 : B5 Dl = none := (kpA Dl List.mem_cons_self).2
            have exu : Ex B5 (upd H5 Dl (.lst (acc ++ [v]))) := fun a o e1 => by
              rw [upd_ne (ne_of_none e1 bD5)]; exact st5.bh a o e1
            have kpu : ∀ {G : List Addr}, (∀ a ∈ G, B5 a = none) → Dl ∉ G → Kp H5 B5 (upd H5 Dl (.lst (acc ++ [v]))) G := fun {G} h1 h2 a m => ⟨fun o e1 => by rw [upd_ne (fun z => h2 (by rw [← z]; exact m))]; exact e1, h1 a m⟩
            refine ⟨acc, hD5, ?_, B5, s4, accd ++ [x'], ys, acc ++ [v], Fi ++ (F5 ++ []), ?_, ?_, ?_, ?_, upd_same, bD5, ?_, hr, ?_⟩
            · rw [lim_eq]; omega
            · rw [List.append_nil]
              refine ⟨stC.bb, exu, fun a o e1 e2 e3 => ?_, fun a e1 => ?_, stC.nb, fun a m => stC.nf a m, stC.nd⟩
              · have ne : a ≠ Dl := fun z => by
                  rcases sti.nf Dl List.mem_cons_self with q | q
                  · rw [z, q] at e1; cases e1
                  · exact nomatch q
                rw [upd_ne ne]
                exact stC.fr a o e1 e2 e3
              · by_cases z : a = Dl
                · rw [z, upd_same] at e1; cases e1
                · rw [upd_ne z] at e1
                  exact stC.th a e1
            · refine sm5.stp (F := [Dl]) (F1 := []) ⟨Ex.refl _, exu, fun a o e1 e2 _ => by rw [upd_ne (fun z => e2 (by rw [z]; simp))]; exact e1, fun a e1 => ?_, fun _ e1 e2 => absurd e1 e2, fun _ m => (nomatch m), List.nodup_nil⟩ (fun a m => ?_) (fun a m o e => ?_)
              · by_cases z : a = Dl
                · rw [z, upd_same] at e1; cases e1
                · rw [upd_ne z] at e1; exact e1
              · rw [List.mem_singleton.mp m]
                exact own0.ns Dl List.mem_cons_self
              · rw [List.mem_singleton.mp m, hD5] at e
                cases e
                exact fun b q z => by unfold LamX.CodeO at z; cases z
            · exact exi.trans (stA.bb)
            · refine RpL.app ((ri.mono stA.bb (kpA.tl)).mono (Ex.refl _) (kpu (fun a m => (kpA a (List.mem_cons_of_mem _ m)).2) nD)) (.cons (r5.mono (Ex.refl _) (kpu r5.nb nD5)) .nil)
            · rw [List.length_append, List.length_singleton]; omega
            · rw [List.append_assoc]; exact ai
          · rw [ht]
            intro B4 H4 st4 sm4
            have stA := stt.trans st4 fun _ m => m
            have kpA := stA.kp own0
            have stB := stA.ext own0 sti.nd
            rw [List.append_nil] at stB
            have stC := sti.trans stB fun _ m => m
            exact ⟨B4, s3, accd, xs, acc, Fi, stC, sm4, exi.trans stA.bb, ri.mono stA.bb kpA.tl, (kpA Dl List.mem_cons_self).1 _ hDi, (kpA Dl List.mem_cons_self).2, by omega, hr, ai⟩
end
end Ly

end
section
set_option Elab.async false
set_option linter.all false
set_option maxRecDepth 100000
set_option maxHeartbeats 4000000
namespace Ly
open PySem L2
/-- a step of a body: P, P' tell what is owned -/
structure Stq (S : List Addr) (B H B' H' : Hp) (P P' : Addr → Prop) : Prop where
  bb : Ex B B'
  bh : Ex B' H'
  fr : ∀ a o, H a = some o → ¬ P a → a ∉ S → H' a = some o
  th : ∀ a, H' a = none → H a = none
  nb : ∀ a, B a = none → B' a ≠ none → H a = none ∨ P a
  nf : ∀ a, P' a → H a = none ∨ P a
section
variable {S S' : List Addr} {B H B1 H1 B2 H2 : Hp} {P P1 P2 : Addr → Prop} {F F1 : List Addr}
theorem Stq.refl (h : Ex B H) : Stq S B H B H P P := ⟨Ex.refl B, h, fun _ _ e _ _ => e, fun _ e => e, fun _ e n => absurd e n, fun _ m => .inr m⟩
theorem Stq.trans (x : Stq S B H B1 H1 P P1) (y : Stq S' B1 H1 B2 H2 P1 P2) (hs : ∀ a ∈ S', a ∈ S) : Stq S B H B2 H2 P P2 where
  bb := x.bb.trans y.bb
  bh := y.bh
  fr := fun a o e n m => y.fr a o (x.fr a o e n m) (fun z => by
    rcases x.nf a z with q | q
    · rw [e] at q; cases q
    · exact n q) fun z => m (hs a z)
  th := fun a e => x.th a (y.th a e)
  nb := fun a e n => by
    cases q : B1 a with
    | some u => exact x.nb a e (by rw [q]; simp)
    | none =>
      rcases y.nb a q n with z | z
      · exact .inl (x.th a z)
      · exact x.nf a z
  nf := fun a m => by
    rcases y.nf a m with q | q
    · exact .inl (x.th a q)
    · exact x.nf a q
theorem Stq.sub (x : Stq S B H B1 H1 P P1) (h : ∀ a, P2 a → P1 a) : Stq S B H B1 H1 P P2 := ⟨x.bb, x.bh, x.fr, x.th, x.nb, fun a m => x.nf a (h a m)⟩
theorem Stq.more (x : Stq S B H B1 H1 P P1) (h : ∀ a, P a → P2 a) : Stq S B H B1 H1 P2 P1 := ⟨x.bb, x.bh, fun a o e n m => x.fr a o e (fun z => n (h a z)) m, x.th, fun a e n => (x.nb a e n).imp id (h a), fun a m => (x.nf a m).imp id (h a)⟩
theorem Stp.q (x : Stp S B H B1 H1 F F1) (h : ∀ a ∈ F, P a) : Stq S B H B1 H1 P (fun a => P a ∨ a ∈ F1) :=
  ⟨x.bb, x.bh, fun a o e n m => x.fr a o e (fun z => n (h a z)) m, x.th, fun a e n => (x.nb a e n).imp id (h a), fun a m => m.elim .inr fun m => (x.nf a m).imp id (h a)⟩
end
section
variable {c : Cf}
structure RpE (c : Cf) (B H : Hp) (σ : L2.St) (Δ : Env) (fp : Nat → List Addr) : Prop where
  sl : ∀ (i : Nat) (d : D), Δ[i]? = some (some d) → ∃ v, σ[i]? = some (some v) ∧ Rp c.K c.A B H v d (fp i)
  nd : ∀ i, (fp i).Nodup
  dj : ∀ i j a, a ∈ fp i → a ∈ fp j → i = j
  em : ∀ i, (∀ d, Δ[i]? ≠ some (some d)) → fp i = []
  ln : σ.length = Δ.length
def Ow (fp : Nat → List Addr) : Addr → Prop := fun a => ∃ i, a ∈ fp i
structure Sta (c : Cf) (B H : Hp) (σ : L2.St) (Δ : Env) (fp : Nat → List Addr) (s : Strm) : Prop where
  ex : Ex B H
  en : RpE c B H σ Δ fp
  sm : Sm c B H s
  ns : ∀ a, Ow fp a → a ∉ c.S
variable {B H : Hp} {σ : L2.St} {Δ : Env} {fp : Nat → List Addr} {s : Strm}
theorem RpE.at (h : RpE c B H σ Δ fp) {a : Addr} (m : Ow fp a) : B a = none ∧ H a ≠ none := by
  obtain ⟨i, m⟩ := m
  cases q : Δ[i]? with
  | none => rw [h.em i (by rw [q]; intro d; simp)] at m; exact nomatch m
  | some o =>
    cases o with
    | none => rw [h.em i (by rw [q]; intro d; simp)] at m; exact nomatch m
    | some d =>
      obtain ⟨v, _, r⟩ := h.sl i d q
      exact ⟨r.nb a m, r.th a m⟩
/-! ### what an expression sees -/
def viewF (fv : List Nat) : Nat → Env → Env
  | _, [] => []
  | n, o :: r => (if fv.contains n then o.map frz else none) :: viewF fv (n + 1) r
abbrev view (fv : List Nat) (Δ : Env) : Env := viewF fv 0 Δ
theorem viewF_get {fv : List Nat} : ∀ {Δ : Env} {n i : Nat} {d : D}, (viewF fv n Δ)[i]? = some (some d) → n + i ∈ fv ∧ ∃ d0, Δ[i]? = some (some d0) ∧ d = frz d0
  | [], n, i, d, h => by simp [viewF] at h
  | o :: r, n, 0, d, h => by
    simp only [viewF, List.getElem?_cons_zero, Option.some.injEq] at h
    split at h
    · rename_i hc
      simp only [Option.map_eq_some_iff] at h
      obtain ⟨d0, rfl, rfl⟩ := h
      exact ⟨by simpa using hc, d0, by simp, rfl⟩
    · cases h
  | o :: r, n, i + 1, d, h => by
    obtain ⟨h1, d0, h2, h3⟩ := viewF_get (Δ := r) (n := n + 1) (i := i) (by simpa [viewF] using h)
    exact ⟨by rw [show n + (i + 1) = n + 1 + i by omega]; exact h1, d0, by simpa using h2, h3⟩
theorem viewF_len {fv : List Nat} : ∀ {Δ : Env} {n : Nat}, (viewF fv n Δ).length = Δ.length
  | [], _ => rfl
  | _ :: r, n => by simp only [viewF, List.length_cons, viewF_len]
def frzF (fv : List Nat) : Nat → Env → Env
  | _, [] => []
  | n, o :: r => (if fv.contains n then o.map frz else o) :: frzF fv (n + 1) r
abbrev frzAt (fv : List Nat) (Δ : Env) : Env := frzF fv 0 Δ
theorem frzF_get {fv : List Nat} : ∀ {Δ : Env} {n i : Nat}, (frzF fv n Δ)[i]? = if n + i ∈ fv then (Δ[i]?).map (·.map frz) else Δ[i]?
  | [], n, i => by simp [frzF]
  | o :: r, n, 0 => by
    simp only [frzF, List.getElem?_cons_zero, Nat.add_zero, List.contains_iff_mem]
    split <;> simp
  | o :: r, n, i + 1 => by
    simp only [frzF, List.getElem?_cons_succ]
    rw [frzF_get, show n + 1 + i = n + (i + 1) by omega]
theorem frzF_len {fv : List Nat} : ∀ {Δ : Env} {n : Nat}, (frzF fv n Δ).length = Δ.length
  | [], _ => rfl
  | _ :: r, n => by simp only [frzF, List.length_cons, frzF_len]
def fvF (fv : List Nat) (fp : Nat → List Addr) : List Addr := fv.flatMap fp
theorem mem_fvF {fv : List Nat} {fp : Nat → List Addr} {a : Addr} : a ∈ fvF fv fp ↔ ∃ i ∈ fv, a ∈ fp i := by unfold fvF; rw [List.mem_flatMap]
def fpOff (fv : List Nat) (fp : Nat → List Addr) : Nat → List Addr := fun i => if fv.contains i then [] else fp i
theorem fpOff_mem {fv : List Nat} {fp : Nat → List Addr} {i : Nat} {a : Addr} (h : a ∈ fpOff fv fp i) : i ∉ fv ∧ a ∈ fp i := by
  unfold fpOff at h
  split at h
  · exact nomatch h
  · rename_i hc; exact ⟨by simpa using hc, h⟩
/-- the frozen part for an expression that reads fv -/
abbrev Be (fv : List Nat) (B H : Hp) (fp : Nat → List Addr) : Hp := tkn B H (fvF fv fp)
theorem Sta.fvB (st : Sta c B H σ Δ fp s) (fv : List Nat) : ∀ a ∈ fvF fv fp, B a = none := fun a m => by
  obtain ⟨i, _, m⟩ := mem_fvF.mp m
  exact (st.en.at ⟨i, m⟩).1
theorem Sta.smBe (st : Sta c B H σ Δ fp s) (fv : List Nat) : Sm c (Be fv B H fp) H s := by
  have out : ∀ z ∈ c.S, Be fv B H fp z = none := fun z m => by
    show (if z ∈ fvF fv fp then H z else B z) = none
    rw [if_neg fun q => by
      obtain ⟨i, _, q⟩ := mem_fvF.mp q
      exact st.ns z ⟨i, q⟩ m]
    exact (st.sm.out z m).1
  exact st.sm.re out
theorem Sta.rdBe (st : Sta c B H σ Δ fp s) (fv : List Nat) : RdE c (Be fv B H fp) σ (view fv Δ) := ⟨fun i d q => by
  obtain ⟨h1, d0, h2, rfl⟩ := viewF_get q
  rw [Nat.zero_add] at h1
  obtain ⟨v, hv, r⟩ := st.en.sl i d0 h2
  exact ⟨v, hv, r.frz (tkn_ex (st.fvB fv)) fun a m o e => tkn_tk a (mem_fvF.mpr ⟨i, h1, m⟩) o e⟩, by rw [viewF_len, st.en.ln]⟩
/-- the state behind: the old frozen part, or the new one with fv frozen -/
theorem Sta.keep {B' H' : Hp} {F : List Addr} {s' : Strm} {fv : List Nat} (st : Sta c B H σ Δ fp s) (x : Stp c.S (Be fv B H fp) H B' H' [] F) (sm : Sm c B' H' s') :
    Sta c B H' σ Δ fp s' ∧ Stq c.S B H B H' (Ow fp) (fun a => Ow fp a ∨ a ∈ F) := by
  have eBH : Ex B H' := ((tkn_ex (st.fvB fv)).trans x.bb).trans x.bh
  have kp : ∀ i, Kp H B H' (fp i) := fun i a m => ⟨fun o e => x.fr a o e (fun z => nomatch z) (st.ns a ⟨i, m⟩), (st.en.at ⟨i, m⟩).1⟩
  refine ⟨⟨eBH, ⟨fun i d q => ?_, st.en.nd, st.en.dj, st.en.em, st.en.ln⟩, ?_, st.ns⟩, ⟨Ex.refl B, eBH, fun a o e n m => x.fr a o e (fun z => nomatch z) m, x.th, fun a e n => absurd e n, fun a m => m.elim .inr fun m => .inl (x.new a m)⟩⟩
  · obtain ⟨v, hv, r⟩ := st.en.sl i d q
    exact ⟨v, hv, r.mono (Ex.refl B) (kp i)⟩
  · exact sm.re fun a m => (st.sm.out a m).1
theorem Sta.froz {B' H' : Hp} {F : List Addr} {s' : Strm} {fv : List Nat} (st : Sta c B H σ Δ fp s) (x : Stp c.S (Be fv B H fp) H B' H' [] F) (sm : Sm c B' H' s') :
    Sta c B' H' σ (frzAt fv Δ) (fpOff fv fp) s' ∧ Stq c.S B H B' H' (Ow fp) (fun a => Ow (fpOff fv fp) a ∨ a ∈ F) := by
  have eB : Ex B B' := (tkn_ex (st.fvB fv)).trans x.bb
  have kp : ∀ i, Kp H B' H' (fpOff fv fp i) := fun i a m => by
    obtain ⟨ni, m⟩ := fpOff_mem m
    have at_ := st.en.at ⟨i, m⟩
    refine ⟨fun o e => x.fr a o e (fun z => nomatch z) (st.ns a ⟨i, m⟩), ?_⟩
    cases q : B' a with
    | none => rfl
    | some u =>
      have z : Be fv B H fp a = none := by
        show (if a ∈ fvF fv fp then H a else B a) = none
        rw [if_neg fun z => by
          obtain ⟨j, hj, mj⟩ := mem_fvF.mp z
          exact ni (st.en.dj i j a m mj ▸ hj)]
        exact at_.1
      rcases x.nb a z (by rw [q]; simp) with w | w
      · exact absurd w at_.2
      · exact nomatch w
  refine ⟨⟨x.bh, ⟨fun i d q => ?_, fun i => ?_, fun i j a m m' => st.en.dj i j a (fpOff_mem m).2 (fpOff_mem m').2, fun i q => ?_, by rw [frzF_len, st.en.ln]⟩, sm, fun a ⟨i, m⟩ => st.ns a ⟨i, (fpOff_mem m).2⟩⟩,
    ⟨eB, x.bh, fun a o e n m => x.fr a o e (fun z => nomatch z) m, x.th, fun a e n => ?_, fun a m => ?_⟩⟩
  · rw [frzF_get, Nat.zero_add] at q
    by_cases hi : i ∈ fv
    · rw [if_pos hi] at q
      simp only [Option.map_eq_some_iff] at q
      obtain ⟨o, ho, d0, rfl, rfl⟩ := q
      obtain ⟨v, hv, r⟩ := st.en.sl i d0 ho
      refine ⟨v, hv, ?_⟩
      have e0 : fpOff fv fp i = [] := by unfold fpOff; rw [if_pos (by simpa using hi)]
      rw [e0]
      exact (r.frz (H' := H) (tkn_ex (st.fvB fv)) fun a m o e => tkn_tk a (mem_fvF.mpr ⟨i, hi, m⟩) o e).mono x.bb Kp.nil
    · rw [if_neg hi] at q
      obtain ⟨v, hv, r⟩ := st.en.sl i d q
      have e0 : fpOff fv fp i = fp i := by unfold fpOff; rw [if_neg (by simpa using hi)]
      have k := kp i
      rw [e0] at k ⊢
      exact ⟨v, hv, r.mono eB k⟩
  · unfold fpOff
    split
    · exact List.nodup_nil
    · exact st.en.nd i
  · unfold fpOff
    split
    · rfl
    · rename_i hi
      refine st.en.em i fun d e => q d ?_
      rw [frzF_get, Nat.zero_add, if_neg (by simpa using hi)]
      exact e
  · by_cases z : a ∈ fvF fv fp
    · obtain ⟨i, _, m⟩ := mem_fvF.mp z
      exact .inr ⟨i, m⟩
    · have e0 : Be fv B H fp a = none := by
        show (if a ∈ fvF fv fp then H a else B a) = none
        rw [if_neg z]; exact e
      exact (x.nb a e0 n).imp id fun w => (nomatch w)
  · rcases m with ⟨i, m⟩ | m
    · exact .inr ⟨i, (fpOff_mem m).2⟩
    · exact .inl (x.new a m)
/-- the slots behind an expression that gave d -/
def aft (fv : List Nat) (d : D) (Δ : Env) : Env := if shr d then frzAt fv Δ else Δ
/-- an expression in a body -/
theorem XE.st (e : XE c) (fv : List Nat) (W : WX) (st : Sta c B H σ Δ fp s) {Q : VK} {d : D} {s' : Strm} (he : e.ev s (view fv Δ) = .ok d s')
    (k : ∀ v B1 H1 fp1 G, Sta c B1 H1 σ (aft fv d Δ) fp1 s' → Stq c.S B H B1 H1 (Ow fp) (fun a => Ow fp1 a ∨ a ∈ G) → Rp c.K c.A B1 H1 v d G → G.Nodup → (∀ a ∈ G, ¬ Ow fp1 a ∧ a ∉ c.S) → Q v H1) : e.t W σ H Q := by
  refine e.ok W σ (Be fv B H fp) H (view fv Δ) s (tkn_in st.ex) (st.smBe fv) (st.rdBe fv) Q ?_
  rw [he]
  intro v B' H' F x sm r
  have nw : ∀ a ∈ F, H a = none := x.new
  have no : ∀ a ∈ F, ¬ Ow fp a ∧ a ∉ c.S := fun a m => ⟨fun z => (st.en.at z).2 (nw a m), fun z => (st.sm.out a z).2 (nw a m)⟩
  cases hs : shr d with
  | false =>
    obtain ⟨s1, q1⟩ := st.keep x sm
    have ed : aft fv d Δ = Δ := by unfold aft; rw [hs]; rfl
    rw [ed] at k
    refine k v B H' fp F s1 q1 (r.own hs fun a m => ⟨fun _ e => e, ?_⟩) x.nd no
    cases q : B a with
    | none => rfl
    | some o => have := st.ex a o q; rw [nw a m] at this; cases this
  | true =>
    obtain ⟨s1, q1⟩ := st.froz x sm
    have ed : aft fv d Δ = frzAt fv Δ := by unfold aft; rw [hs]; rfl
    rw [ed] at k
    exact k v B' H' (fpOff fv fp) F s1 q1 r x.nd fun a m => ⟨fun ⟨i, z⟩ => (no a m).1 ⟨i, (fpOff_mem z).2⟩, (no a m).2⟩
/-- an exception out of a body -/
def ErS (c : Cf) (B H : Hp) (fp : Nat → List Addr) (W : WX) (k : Str) (p : Option (List Str × List D)) (s : Strm) : Prop :=
  ∀ B' H' σ' d, Stq c.S B H B' H' (Ow fp) (fun _ => False) → Sm c B' H' s → Pay c B' H' d p → W (.ref (c.A k)) d σ' H'
theorem XE.stE (e : XE c) (fv : List Nat) (W : WX) (st : Sta c B H σ Δ fp s) {Q : VK} {k : Str} {p : Option (List Str × List D)} {s' : Strm} (he : e.ev s (view fv Δ) = .er k p s') (h : ErS c B H fp W k p s') : e.t W σ H Q := by
  refine e.ok W σ (Be fv B H fp) H (view fv Δ) s (tkn_in st.ex) (st.smBe fv) (st.rdBe fv) Q ?_
  rw [he]
  intro B' H' d x sm pay
  exact h B' H' σ d ((st.froz x sm).2.sub fun a z => z.elim) sm pay
theorem XT.st (e : XT c) (fv : List Nat) (W : WX) (st : Sta c B H σ Δ fp s) {Q : Bool → Hp → Prop} {d : Bool} {s' : Strm} (he : e.ev s (view fv Δ) = .ok d s')
    (k : ∀ H1, Sta c B H1 σ Δ fp s' → Stq c.S B H B H1 (Ow fp) (Ow fp) → Q d H1) : e.t W σ H Q := by
  refine e.ok W σ (Be fv B H fp) H (view fv Δ) s (tkn_in st.ex) (st.smBe fv) (st.rdBe fv) Q ?_
  rw [he]
  intro B' H' x sm
  obtain ⟨s1, q1⟩ := st.keep x sm
  exact k H' s1 (q1.sub fun a z => .inl z)
theorem XT.stE (e : XT c) (fv : List Nat) (W : WX) (st : Sta c B H σ Δ fp s) {Q : Bool → Hp → Prop} {k : Str} {p : Option (List Str × List D)} {s' : Strm} (he : e.ev s (view fv Δ) = .er k p s') (h : ErS c B H fp W k p s') : e.t W σ H Q := by
  refine e.ok W σ (Be fv B H fp) H (view fv Δ) s (tkn_in st.ex) (st.smBe fv) (st.rdBe fv) Q ?_
  rw [he]
  intro B' H' d x sm pay
  exact h B' H' σ d ((st.froz x sm).2.sub fun a z => z.elim) sm pay
/-! ### statements -/
inductive Fl where
  | nx (Δ : Env) | rt (d : D) | bk (Δ : Env) | ct (Δ : Env)
def Gon (c : Cf) (B H : Hp) (fp : Nat → List Addr) (Δ : Env) (s : Strm) (N : L2.St → Hp → Prop) : Prop :=
  ∀ σ' B' H' fp', Stq c.S B H B' H' (Ow fp) (Ow fp') → Sta c B' H' σ' Δ fp' s → N σ' H'
def AnsS (c : Cf) (B H : Hp) (fp : Nat → List Addr) (W : WX) (Z : Ends) : R Fl → Prop
  | .ok (.nx Δ) s => Gon c B H fp Δ s Z.nx
  | .ok (.bk Δ) s => Gon c B H fp Δ s Z.bk
  | .ok (.ct Δ) s => Gon c B H fp Δ s Z.ct
  | .ok (.rt d) s => ∀ v B' H' G, Stq c.S B H B' H' (Ow fp) (· ∈ G) → Sm c B' H' s → Rp c.K c.A B' H' v d G → G.Nodup → Z.rt v H'
  | .er k p s => ErS c B H fp W k p s
  | .bad => False
structure XS (c : Cf) where
  t : WX → TS
  ev : Strm → Env → R Fl
  ok : ∀ (W : WX) (Z : Ends) (σ : L2.St) (B H : Hp) (Δ : Env) (fp : Nat → List Addr) (s : Strm), Sta c B H σ Δ fp s → AnsS c B H fp W Z (ev s Δ) → t W Z σ H
theorem AnsS.step {B1 H1 : Hp} {fp1 : Nat → List Addr} {W : WX} {Z : Ends} {r : R Fl} (h : AnsS c B H fp W Z r) (x : Stq c.S B H B1 H1 (Ow fp) (Ow fp1)) : AnsS c B1 H1 fp1 W Z r := by
  cases r with
  | bad => exact h
  | er k p s => exact fun B' H' σ' d y sm pay => h B' H' σ' d (x.trans y fun _ m => m) sm pay
  | ok f s =>
    cases f with
    | nx Δ => exact fun σ' B' H' fp' y st => h σ' B' H' fp' (x.trans y fun _ m => m) st
    | bk Δ => exact fun σ' B' H' fp' y st => h σ' B' H' fp' (x.trans y fun _ m => m) st
    | ct Δ => exact fun σ' B' H' fp' y st => h σ' B' H' fp' (x.trans y fun _ m => m) st
    | rt d => exact fun v B' H' G y sm r n => h v B' H' G (x.trans y fun _ m => m) sm r n
def XS.pass : XS c where
  t := fun _ => tNext
  ev := fun s Δ => .ok (.nx Δ) s
  ok := fun W Z σ B H Δ fp s st h => h σ B H fp (Stq.refl st.ex) st
def XS.brk : XS c where
  t := fun _ => tBreak
  ev := fun s Δ => .ok (.bk Δ) s
  ok := fun W Z σ B H Δ fp s st h => h σ B H fp (Stq.refl st.ex) st
def XS.cont : XS c where
  t := fun _ => tCont
  ev := fun s Δ => .ok (.ct Δ) s
  ok := fun W Z σ B H Δ fp s st h => h σ B H fp (Stq.refl st.ex) st
/-- what goes on, what stops -/
def R.nxt (r : R Fl) (f : Env → Strm → R Fl) : R Fl := match r with
  | .ok (.nx Δ) s => f Δ s
  | o => o
def XS.seq (a b : XS c) : XS c where
  t := fun W => tSeq (a.t W) (b.t W)
  ev := fun s Δ => (a.ev s Δ).nxt fun Δ1 s1 => b.ev s1 Δ1
  ok := fun W Z σ B H Δ fp s st h => by
    refine a.ok W { Z with nx := b.t W Z } σ B H Δ fp s st ?_
    revert h
    cases a.ev s Δ with
    | bad => intro h; exact h
    | er k p s1 => intro h; exact h
    | ok f s1 =>
      cases f with
      | nx Δ1 => exact fun h σ' B' H' fp' y st' => b.ok W Z σ' B' H' Δ1 fp' s1 st' (AnsS.step h y)
      | bk Δ1 => exact fun h => h
      | ct Δ1 => exact fun h => h
      | rt d => exact fun h => h
def XS.ite (fv : List Nat) (t : XT c) (a b : XS c) : XS c where
  t := fun W => tIfS (t.t W) (a.t W) (b.t W)
  ev := fun s Δ => (t.ev s (view fv Δ)).bind fun x s1 => if x then a.ev s1 Δ else b.ev s1 Δ
  ok := fun W Z σ B H Δ fp s st h => by
    cases he : t.ev s (view fv Δ) with
    | bad => rw [he] at h; exact h.elim
    | er k p s1 => rw [he] at h; exact t.stE fv W st he h
    | ok x s1 =>
      rw [he] at h
      refine t.st fv W st he fun H1 st1 q => ?_
      cases x with
      | true => exact a.ok W Z σ B H1 Δ fp s1 st1 (AnsS.step h q)
      | false => exact b.ok W Z σ B H1 Δ fp s1 st1 (AnsS.step h q)
def XS.retN : XS c where
  t := fun _ => tRetN
  ev := fun s Δ => .ok (.rt .non) s
  ok := fun W Z σ B H Δ fp s st h => h .non B H [] ((Stq.refl st.ex).sub fun a m => nomatch m) st.sm .non List.nodup_nil
def XS.ret (fv : List Nat) (e : XE c) : XS c where
  t := fun W => tRet (e.t W)
  ev := fun s Δ => (e.ev s (view fv Δ)).bind fun d s1 => .ok (.rt d) s1
  ok := fun W Z σ B H Δ fp s st h => by
    cases he : e.ev s (view fv Δ) with
    | bad => rw [he] at h; exact h.elim
    | er k p s1 => rw [he] at h; exact e.stE fv W st he h
    | ok d s1 =>
      rw [he] at h
      exact e.st fv W st he fun v B1 H1 fp1 G st1 q r nd _ => h v B1 H1 G (q.sub fun a m => .inr m) st1.sm r nd
/-- return x, x a local that is no more wanted -/
def XS.retV (i : Nat) : XS c where
  t := fun _ => tRet (tVar i)
  ev := fun s Δ => match Δ[i]? with
    | some (some d) => .ok (.rt d) s
    | _ => .bad
  ok := fun W Z σ B H Δ fp s st h => by
    revert h
    split
    · rename_i d hd
      intro h
      obtain ⟨v, hv, r⟩ := st.en.sl i d hd
      exact ⟨v, hv, h v B H (fp i) ((Stq.refl st.ex).sub fun a m => ⟨i, m⟩) st.sm r (st.en.nd i)⟩
    · intro h; exact h.elim
def XS.drop (fv : List Nat) (e : XE c) : XS c where
  t := fun W => tDrop (e.t W)
  ev := fun s Δ => (e.ev s (view fv Δ)).bind fun d s1 => .ok (.nx (aft fv d Δ)) s1
  ok := fun W Z σ B H Δ fp s st h => by
    cases he : e.ev s (view fv Δ) with
    | bad => rw [he] at h; exact h.elim
    | er k p s1 => rw [he] at h; exact e.stE fv W st he h
    | ok d s1 =>
      rw [he] at h
      exact e.st fv W st he fun v B1 H1 fp1 G st1 q r nd _ => h σ B1 H1 fp1 (q.sub fun a m => .inl m) st1
/-- a slot set -/
theorem Sta.set (st : Sta c B H σ Δ fp s) {i : Nat} {v : V} {d : D} {G : List Addr} (r : Rp c.K c.A B H v d G) (nd : G.Nodup) (hG : ∀ a ∈ G, ¬ Ow fp a ∧ a ∉ c.S) (hi : i < Δ.length) :
    Sta c B H (σ.set i (some v)) (Δ.set i (some d)) (fun j => if j = i then G else fp j) s := by
  refine ⟨st.ex, ⟨fun j e q => ?_, fun j => ?_, fun j k a m m' => ?_, fun j q => ?_, by rw [List.length_set, List.length_set]; exact st.en.ln⟩, st.sm, fun a ⟨j, m⟩ => ?_⟩
  · by_cases hj : j = i
    · subst hj
      rw [List.getElem?_set_self hi] at q
      cases q
      exact ⟨v, by rw [List.getElem?_set_self (by rw [st.en.ln]; exact hi)], by simpa using r⟩
    · rw [List.getElem?_set_ne (Ne.symm hj)] at q
      obtain ⟨u, h1, h2⟩ := st.en.sl j e q
      exact ⟨u, by rw [List.getElem?_set_ne (Ne.symm hj)]; exact h1, by rw [if_neg hj]; exact h2⟩
  · by_cases hj : j = i
    · rw [if_pos hj]; exact nd
    · rw [if_neg hj]; exact st.en.nd j
  · by_cases hj : j = i
    · rw [if_pos hj] at m
      by_cases hk : k = i
      · rw [hj, hk]
      · rw [if_neg hk] at m'
        exact absurd ⟨k, m'⟩ (hG a m).1
    · rw [if_neg hj] at m
      by_cases hk : k = i
      · rw [if_pos hk] at m'
        exact absurd ⟨j, m⟩ (hG a m').1
      · rw [if_neg hk] at m'
        exact st.en.dj j k a m m'
  · by_cases hj : j = i
    · subst hj
      exact absurd (List.getElem?_set_self hi) (q d)
    · rw [if_neg hj]
      refine st.en.em j fun e z => q e ?_
      rw [List.getElem?_set_ne (Ne.symm hj)]; exact z
  · by_cases hj : j = i
    · simp only [hj, if_true] at m
      exact (hG a m).2
    · simp only [hj, if_false] at m
      exact st.ns a ⟨j, m⟩
theorem ow_set {i : Nat} {G : List Addr} {a : Addr} (h : Ow (fun j => if j = i then G else fp j) a) : Ow fp a ∨ a ∈ G := by
  obtain ⟨j, m⟩ := h
  by_cases hj : j = i
  · simp only [hj, if_true] at m; exact .inr m
  · simp only [hj, if_false] at m; exact .inl ⟨j, m⟩
theorem Sta.sets : ∀ {is : List Nat} {vs : List V} {ds : List D} {G : List Addr} {σ : L2.St} {Δ : Env} {fp : Nat → List Addr}, Sta c B H σ Δ fp s → RpL c.K c.A B H vs ds G → G.Nodup → (∀ a ∈ G, ¬ Ow fp a ∧ a ∉ c.S) → (∀ i ∈ is, i < Δ.length) →
    ∃ fp', Sta c B H (setV σ is vs) (setD Δ is ds) fp' s ∧ ∀ a, Ow fp' a → Ow fp a ∨ a ∈ G
  | [], vs, ds, G, σ, Δ, fp, st, _, _, _, _ => by rw [setV_nil, setD_nil]; exact ⟨fp, st, fun a m => .inl m⟩
  | _ :: _, _, _, _, _, _, fp, st, .nil, _, _, _ => ⟨fp, st, fun a m => .inl m⟩
  | i :: is, _, _, _, σ, Δ, fp, st, .cons (v := v) (vs := vs) (d := d) (ds := ds) (F := F) (G := G) r1 r2, nd, hG, hi => by
    rw [setV_cons, setD_cons]
    have nn := List.nodup_append.mp nd
    have st1 := st.set r1 nn.1 (fun a m => hG a (List.mem_append_left _ m)) (hi i List.mem_cons_self)
    obtain ⟨fp', st2, h2⟩ := Sta.sets st1 r2 nn.2.1 (fun a m => ⟨fun z => by
      rcases ow_set z with z | z
      · exact (hG a (List.mem_append_right _ m)).1 z
      · exact nn.2.2 a z a m rfl, (hG a (List.mem_append_right _ m)).2⟩) (fun j m => by rw [List.length_set]; exact hi j (List.mem_cons_of_mem _ m))
    refine ⟨fp', st2, fun a m => ?_⟩
    rcases h2 a m with z | z
    · rcases ow_set z with z | z
      · exact .inl z
      · exact .inr (List.mem_append_left _ z)
    · exact .inr (List.mem_append_right _ z)
def inEnv (Δ : Env) (is : List Nat) : Bool := is.all fun i => decide (i < Δ.length)
def XS.asg (fv : List Nat) (e : XE c) (g : XG c) : XS c where
  t := fun W => tAsg (e.t W) g.t
  ev := fun s Δ => (e.ev s (view fv Δ)).bind fun d s1 => match g.ev d with
    | some bs => if inEnv Δ g.sl then .ok (.nx (setD (aft fv d Δ) g.sl bs)) s1 else .bad
    | none => .bad
  ok := fun W Z σ B H Δ fp s st h => by
    cases he : e.ev s (view fv Δ) with
    | bad => rw [he] at h; exact h.elim
    | er k p s1 => rw [he] at h; exact e.stE fv W st he h
    | ok d s1 =>
      rw [he] at h
      have h' : AnsS c B H fp W Z (match g.ev d with
        | some bs => if inEnv Δ g.sl then .ok (.nx (setD (aft fv d Δ) g.sl bs)) s1 else .bad
        | none => .bad) := h
      cases hg : g.ev d with
      | none => rw [hg] at h'; exact h'.elim
      | some bs =>
        rw [hg] at h'
        dsimp only at h'
        split at h'
        case isFalse => exact h'.elim
        rename_i hin
        refine e.st fv W st he fun v B1 H1 fp1 G st1 q r nd hG => ?_
        obtain ⟨_, hk⟩ := g.ok B1 H1 v d G bs st1.ex r nd hg
        refine hk σ _ fun vs G' r' m n => ?_
        have ha : (aft fv d Δ).length = Δ.length := by unfold aft; split <;> first | exact frzF_len | rfl
        obtain ⟨fp', st2, h2⟩ := st1.sets (is := g.sl) r' n (fun a z => hG a (m a z)) fun i z => by
          rw [ha]
          exact of_decide_eq_true (List.all_eq_true.mp hin i z)
        exact h' _ B1 H1 fp' (q.sub fun a z => (h2 a z).imp id (m a)) st2
end
end Ly

end
section
set_option Elab.async false
set_option linter.all false
set_option maxRecDepth 100000
set_option maxHeartbeats 4000000
namespace Ly
open PySem L2
section
variable {c : Cf} {B H : Hp} {σ : L2.St} {Δ : Env} {fp : Nat → List Addr} {s : Strm}
/-! ### a list of one's own, changed -/
theorem Sta.lst_at (st : Sta c B H σ Δ fp s) {i : Nat} {ds : List D} (h : Δ[i]? = some (some (.lst true ds))) :
    ∃ a xs G, σ[i]? = some (some (.ref a)) ∧ H a = some (.lst xs) ∧ B a = none ∧ RpL c.K c.A B H xs ds G ∧ fp i = a :: G := by
  obtain ⟨v, hv, r⟩ := st.en.sl i _ h
  generalize hF : fp i = F at r
  cases r with
  | lsO h1 h2 h3 => exact ⟨_, _, _, hv, h1, h2, h3, rfl⟩
/-- the list at slot i becomes ys -/
theorem Sta.lstUpd (st : Sta c B H σ Δ fp s) {i : Nat} {ds es : List D} {a : Addr} {xs ys : List V} {G G1 : List Addr} (hΔ : Δ[i]? = some (some (.lst true ds))) (hv : σ[i]? = some (some (.ref a))) (ha : H a = some (.lst xs)) (hf : fp i = a :: G)
    (r : RpL c.K c.A B H ys es G1) (n1 : G1.Nodup) (hG : ∀ b ∈ G1, b ∈ G ∨ (¬ Ow fp b ∧ b ∉ c.S)) :
    Sta c B (upd H a (.lst ys)) σ (Δ.set i (some (.lst true es))) (fun j => if j = i then a :: G1 else fp j) s ∧ Stq c.S B H B (upd H a (.lst ys)) (fun b => Ow fp b ∨ b ∈ G1) (Ow fun j => if j = i then a :: G1 else fp j) := by
  have hi : i < Δ.length := (List.getElem?_eq_some_iff.mp hΔ).1
  have oa : Ow fp a := ⟨i, by rw [hf]; exact List.mem_cons_self⟩
  have ba := st.en.at oa
  have nd := st.en.nd i
  rw [hf] at nd
  have na : a ∉ G1 := fun m => by
    rcases hG a m with q | q
    · exact (List.nodup_cons.mp nd).1 q
    · exact q.1 oa
  have eH : ∀ b o, b ≠ a → H b = some o → upd H a (.lst ys) b = some o := fun b o n e => by rw [upd_ne n]; exact e
  have th : ∀ b, upd H a (.lst ys) b = none → H b = none := fun b e => by
    by_cases z : b = a
    · rw [z, upd_same] at e; cases e
    · rw [upd_ne z] at e; exact e
  have exB : Ex B (upd H a (.lst ys)) := fun b o e => eH b o (ne_of_none e ba.1) (st.ex b o e)
  have kp : ∀ {F : List Addr}, (∀ b ∈ F, B b = none) → a ∉ F → Kp H B (upd H a (.lst ys)) F := fun {F} h1 h2 b m => ⟨fun o e => eH b o (fun z => h2 (by rw [← z]; exact m)) e, h1 b m⟩
  have off : ∀ j, j ≠ i → a ∉ fp j := fun j hj m => hj (st.en.dj j i a m (by rw [hf]; exact List.mem_cons_self))
  have inG : ∀ j, j ≠ i → ∀ b, b ∈ G1 → b ∉ fp j := fun j hj b m z => by
    rcases hG b m with q | q
    · exact hj (st.en.dj j i b z (by rw [hf]; exact List.mem_cons_of_mem _ q))
    · exact q.1 ⟨j, z⟩
  refine ⟨⟨exB, ⟨fun j d q => ?_, fun j => ?_, fun j k b m m' => ?_, fun j q => ?_, by rw [List.length_set]; exact st.en.ln⟩, ?_, fun b ⟨j, m⟩ => ?_⟩, ⟨Ex.refl B, exB, fun b o e n _ => eH b o (fun z => n (.inl (by rw [z]; exact oa))) e, th, fun b e n => absurd e n, fun b ⟨j, m⟩ => ?_⟩⟩
  · by_cases hj : j = i
    · subst hj
      rw [List.getElem?_set_self hi] at q
      cases q
      refine ⟨.ref a, hv, ?_⟩
      rw [if_pos rfl]
      exact .lsO upd_same ba.1 (r.mono (Ex.refl B) (kp r.nb na))
    · rw [List.getElem?_set_ne (Ne.symm hj)] at q
      obtain ⟨u, h1, h2⟩ := st.en.sl j d q
      refine ⟨u, h1, ?_⟩
      rw [if_neg hj]
      exact h2.mono (Ex.refl B) (kp h2.nb (off j hj))
  · by_cases hj : j = i
    · rw [if_pos hj]; exact List.nodup_cons.mpr ⟨na, n1⟩
    · rw [if_neg hj]; exact st.en.nd j
  · by_cases hj : j = i
    · rw [if_pos hj] at m
      by_cases hk : k = i
      · rw [hj, hk]
      · rw [if_neg hk] at m'
        rcases List.mem_cons.mp m with z | m
        · rw [z] at m'; exact absurd m' (off k hk)
        · exact absurd m' (inG k hk b m)
    · rw [if_neg hj] at m
      by_cases hk : k = i
      · rw [if_pos hk] at m'
        rcases List.mem_cons.mp m' with z | m'
        · rw [z] at m; exact absurd m (off j hj)
        · exact absurd m (inG j hj b m')
      · rw [if_neg hk] at m'
        exact st.en.dj j k b m m'
  · by_cases hj : j = i
    · subst hj
      exact absurd (List.getElem?_set_self hi) (q _)
    · rw [if_neg hj]
      refine st.en.em j fun e z => q e ?_
      rw [List.getElem?_set_ne (Ne.symm hj)]; exact z
  · refine st.sm.stp (F := [a]) (F1 := []) ⟨Ex.refl _, exB, fun b o e n _ => eH b o (fun z => n (by rw [z]; simp)) e, th, fun _ e n => absurd e n, fun _ m => (nomatch m), List.nodup_nil⟩ (fun b m => ?_) (fun b m o e => ?_)
    · rw [List.mem_singleton.mp m]
      exact st.ns a oa
    · rw [List.mem_singleton.mp m, ha] at e
      cases e
      exact fun b q z => by unfold LamX.CodeO at z; cases z
  · by_cases hj : j = i
    · simp only [hj, if_true] at m
      rcases List.mem_cons.mp m with z | m
      · rw [z]; exact st.ns a oa
      · rcases hG b m with q | q
        · exact st.ns b ⟨i, by rw [hf]; exact List.mem_cons_of_mem _ q⟩
        · exact q.2
    · simp only [hj, if_false] at m
      exact st.ns b ⟨j, m⟩
  · by_cases hj : j = i
    · simp only [hj, if_true] at m
      rcases List.mem_cons.mp m with z | m
      · rw [z]; exact .inr (.inl oa)
      · exact .inr (.inr m)
    · simp only [hj, if_false] at m
      exact .inr (.inl ⟨j, m⟩)
def lstAt (Δ : Env) (i : Nat) : Option (List D) := match Δ[i]? with
  | some (some (.lst true ds)) => some ds
  | _ => none
theorem lstAt_ok {Δ : Env} {i : Nat} {ds : List D} (h : lstAt Δ i = some ds) : Δ[i]? = some (some (.lst true ds)) := by
  unfold lstAt at h
  split at h
  · rename_i q; cases h; exact q
  · cases h
/-- x.append(e) -/
def XS.app (i : Nat) (fv : List Nat) (e : XE c) : XS c where
  t := fun W => tDrop (tBM c.K "list" rAppend (tVar i) (tCons (e.t W) tNil))
  ev := fun s Δ => match lstAt Δ i with
    | none => .bad
    | some _ => (e.ev s (view fv Δ)).bind fun d s1 => match lstAt (aft fv d Δ) i with
      | some ds => if ds.length < lim then .ok (.nx ((aft fv d Δ).set i (some (.lst true (ds ++ [d]))))) s1 else .bad
      | none => .bad
  ok := fun W Z σ B H Δ fp s st h => by
    cases h0 : lstAt Δ i with
    | none => simp only [h0] at h; exact h.elim
    | some ds0 =>
      simp only [h0] at h
      obtain ⟨a, xs0, G0, hv, ha, hb, hr, hf⟩ := st.lst_at (lstAt_ok h0)
      refine ⟨.ref a, hv, .inl ⟨rfl, xs0, SqL.of ha⟩, ?_⟩
      cases he : e.ev s (view fv Δ) with
      | bad => rw [he] at h; exact h.elim
      | er k p s1 => rw [he] at h; exact e.stE fv W st he h
      | ok d s1 =>
        rw [he] at h
        have h' : AnsS c B H fp W Z (match lstAt (aft fv d Δ) i with
          | some ds => if ds.length < lim then .ok (.nx ((aft fv d Δ).set i (some (.lst true (ds ++ [d]))))) s1 else .bad
          | none => .bad) := h
        cases h1 : lstAt (aft fv d Δ) i with
        | none => simp only [h1] at h'; exact h'.elim
        | some ds =>
          simp only [h1] at h'
          split at h'
          case isFalse => exact h'.elim
          rename_i hl
          refine e.st fv W st he fun v B1 H1 fp1 G st1 q r nd hG => ?_
          obtain ⟨a1, xs, G1, hv1, ha1, hb1, hr1, hf1⟩ := st1.lst_at (lstAt_ok h1)
          have ea : a1 = a := by rw [hv] at hv1; cases hv1; rfl
          subst ea
          have nd1 := st1.en.nd i
          rw [hf1] at nd1
          have nn : (G1 ++ (G ++ [])).Nodup := by
            rw [List.append_nil]
            exact List.nodup_append.mpr ⟨(List.nodup_cons.mp nd1).2, nd, fun b m b' m' z => (hG b' m').1 ⟨i, by rw [hf1, ← z]; exact List.mem_cons_of_mem _ m⟩⟩
          obtain ⟨st2, q2⟩ := st1.lstUpd (lstAt_ok h1) hv1 ha1 hf1 (hr1.app (.cons r .nil)) nn fun b m => by
            rw [List.append_nil] at m
            exact (List.mem_append.mp m).imp id fun m => hG b m
          refine ⟨a1, xs, v, rfl, rfl, ha1, by rw [hr1.len, lim_eq]; exact hl, h' _ B1 _ _ (q.trans (q2.more fun b z => z.elim .inl fun m => (List.mem_append.mp m).elim (fun m => .inl ⟨i, by rw [hf1]; exact List.mem_cons_of_mem _ m⟩) fun m => .inr (by rw [List.append_nil] at m; exact m)) fun _ m => m) st2⟩
def extR (Δ1 : Env) (i : Nat) (d : D) (s1 : Strm) : R Fl := match lstAt Δ1 i, d with
  | some ds, .lst _ es => if ds.length + es.length ≤ lim then .ok (.nx (Δ1.set i (some (.lst true (ds ++ es))))) s1 else .bad
  | _, _ => .bad
def setR (Δ1 : Env) (i : Nat) (k : Option Int) (d : D) (s1 : Strm) : R Fl := match lstAt Δ1 i, k with
  | some ds, some j => match ixN ds.length j with
    | some n => .ok (.nx (Δ1.set i (some (.lst true (ds.set n d))))) s1
    | none => .bad
  | _, _ => .bad
/-- x.extend(e) -/
def XS.ext (i : Nat) (fv : List Nat) (e : XE c) : XS c where
  t := fun W => tDrop (tBM c.K "list" rExtend (tVar i) (tCons (e.t W) tNil))
  ev := fun s Δ => match lstAt Δ i with
    | none => .bad
    | some _ => (e.ev s (view fv Δ)).bind fun d s1 => extR (aft fv d Δ) i d s1
  ok := fun W Z σ B H Δ fp s st h => by
    cases h0 : lstAt Δ i with
    | none => simp only [h0] at h; exact h.elim
    | some ds0 =>
      simp only [h0] at h
      obtain ⟨a, xs0, G0, hv, ha, hb, hr, hf⟩ := st.lst_at (lstAt_ok h0)
      refine ⟨.ref a, hv, .inl ⟨rfl, xs0, SqL.of ha⟩, ?_⟩
      cases he : e.ev s (view fv Δ) with
      | bad => rw [he] at h; exact h.elim
      | er k p s1 => rw [he] at h; exact e.stE fv W st he h
      | ok d s1 =>
        rw [he] at h
        have h' : AnsS c B H fp W Z (extR (aft fv d Δ) i d s1) := h
        unfold extR at h'
        cases h1 : lstAt (aft fv d Δ) i with
        | none => simp only [h1] at h'; exact h'.elim
        | some ds =>
          simp only [h1] at h'
          cases d <;> first | exact h'.elim | skip
          rename_i o es
          dsimp only at h'
          split at h'
          case isFalse => exact h'.elim
          rename_i hl
          refine e.st fv W st he fun v B1 H1 fp1 G st1 q r nd hG => ?_
          obtain ⟨a1, xs, G1, hv1, ha1, hb1, hr1, hf1⟩ := st1.lst_at (lstAt_ok h1)
          have ea : a1 = a := by rw [hv] at hv1; cases hv1; rfl
          subst ea
          obtain ⟨b, ys, G2, rfl, hb2, hr2, hs2, hn2, _⟩ := r.lst_at st1.ex
          have nd1 := st1.en.nd i
          rw [hf1] at nd1
          have nn : (G1 ++ G2).Nodup := List.nodup_append.mpr ⟨(List.nodup_cons.mp nd1).2, hn2 nd, fun b m b' m' z => (hG b' (hs2 b' m')).1 ⟨i, by rw [hf1, ← z]; exact List.mem_cons_of_mem _ m⟩⟩
          obtain ⟨st2, q2⟩ := st1.lstUpd (lstAt_ok h1) hv1 ha1 hf1 (hr1.app hr2) nn fun b m => (List.mem_append.mp m).imp id fun m => hG b (hs2 b m)
          exact ⟨a1, b, xs, ys, rfl, rfl, ha1, hb2, by rw [hr1.len, hr2.len]; exact lim_le hl, h' _ B1 _ _ (q.trans (q2.more fun b z => z.elim .inl fun m => (List.mem_append.mp m).elim (fun m => .inl ⟨i, by rw [hf1]; exact List.mem_cons_of_mem _ m⟩) fun m => .inr (hs2 b m)) fun _ m => m) st2⟩
theorem RpL.setAt {K : PySem.W.Frag} {A : Str → Addr} {v : V} {d : D} {Gv : List Addr} (r : Rp K A B H v d Gv) : ∀ {xs : List V} {ds : List D} {G : List Addr} (n : Nat), RpL K A B H xs ds G → G.Nodup → Gv.Nodup → (∀ b ∈ Gv, b ∉ G) →
    ∃ G', RpL K A B H (xs.set n v) (ds.set n d) G' ∧ G'.Nodup ∧ ∀ b ∈ G', b ∈ G ∨ b ∈ Gv
  | _, _, _, _, .nil, _, _, _ => ⟨[], .nil, List.nodup_nil, fun _ m => (nomatch m)⟩
  | _, _, _, 0, .cons (F := F) (G := G) r1 r2, n1, n2, h => by
    have nn := List.nodup_append.mp n1
    refine ⟨Gv ++ G, .cons r r2, List.nodup_append.mpr ⟨n2, nn.2.1, fun a m b m' z => h a m (by rw [z]; exact List.mem_append_right _ m')⟩, fun b m => ?_⟩
    rcases List.mem_append.mp m with m | m
    · exact .inr m
    · exact .inl (List.mem_append_right _ m)
  | _, _, _, n + 1, .cons (F := F) (G := G) r1 r2, n1, n2, h => by
    have nn := List.nodup_append.mp n1
    obtain ⟨G', h1, h2, h3⟩ := RpL.setAt r n r2 nn.2.1 n2 fun b m z => h b m (List.mem_append_right _ z)
    refine ⟨F ++ G', .cons r1 h1, List.nodup_append.mpr ⟨nn.1, h2, fun a m b m' z => ?_⟩, fun b m => ?_⟩
    · rcases h3 b m' with q | q
      · exact nn.2.2 a m b q z
      · exact h b q (List.mem_append_left _ (by rw [← z]; exact m))
    · rcases List.mem_append.mp m with m | m
      · exact .inl (List.mem_append_left _ m)
      · exact (h3 b m).imp (List.mem_append_right _) id
/-- an int that is a constant or a slot's -/
structure XN where
  t : TE
  ev : Env → Option Int
  ok : ∀ (σ : L2.St) (Δ : Env) (H : Hp) (Q : VK) (n : Int), (∀ (i : Nat) (n : Int), Δ[i]? = some (some (.int n)) → σ[i]? = some (some (.int n))) → ev Δ = some n → Q (.int n) H → t σ H Q
def XN.con (n : Int) : XN := ⟨tC (.int n), fun _ => some n, fun σ Δ H Q m _ e q => by cases e; exact q⟩
def XN.neg (n : Int) : XN := ⟨tUn (rU fun i => .int (-i)) (tC (.int n)), fun _ => some (-n), fun σ Δ H Q m _ e q => by cases e; exact ⟨n, rfl, q⟩⟩
def XN.var (i : Nat) : XN := ⟨tVar i, fun Δ => match Δ[i]? with
  | some (some (.int n)) => some n
  | _ => none, fun σ Δ H Q m h e q => by
    split at e
    · rename_i hd
      cases e
      exact ⟨_, h i _ hd, q⟩
    · cases e⟩
theorem RpE.ints (h : RpE c B H σ Δ fp) : ∀ (i : Nat) (n : Int), Δ[i]? = some (some (.int n)) → σ[i]? = some (some (.int n)) := fun i n e => by
  obtain ⟨v, hv, r⟩ := h.sl i _ e
  generalize fp i = F at r
  cases r
  exact hv
/-- x[k] = e -/
def XS.setI (i : Nat) (fv : List Nat) (e : XE c) (k : XN) : XS c where
  t := fun W => tAsg (e.t W) (L2.gSub (tVar i) k.t rSetL)
  ev := fun s Δ => (e.ev s (view fv Δ)).bind fun d s1 => setR (aft fv d Δ) i (k.ev (aft fv d Δ)) d s1
  ok := fun W Z σ B H Δ fp s st h => by
    cases he : e.ev s (view fv Δ) with
    | bad => rw [he] at h; exact h.elim
    | er k p s1 => rw [he] at h; exact e.stE fv W st he h
    | ok d s1 =>
      rw [he] at h
      have h' : AnsS c B H fp W Z (setR (aft fv d Δ) i (k.ev (aft fv d Δ)) d s1) := h
      unfold setR at h'
      cases h1 : lstAt (aft fv d Δ) i with
      | none => simp only [h1] at h'; exact h'.elim
      | some ds =>
        cases hk : k.ev (aft fv d Δ) with
        | none => simp only [h1, hk] at h'; exact h'.elim
        | some j =>
          simp only [h1, hk] at h'
          cases hj : ixN ds.length j with
          | none => simp only [hj] at h'; exact h'.elim
          | some n =>
            simp only [hj] at h'
            refine e.st fv W st he fun v B1 H1 fp1 G st1 q r nd hG => ?_
            obtain ⟨a, xs, G1, hv1, ha1, hb1, hr1, hf1⟩ := st1.lst_at (lstAt_ok h1)
            refine ⟨.ref a, hv1, k.ok σ _ H1 _ j st1.en.ints hk ?_⟩
            have nd1 := st1.en.nd i
            rw [hf1] at nd1
            obtain ⟨G', hs1, hs2, hs3⟩ := hr1.setAt r n (List.nodup_cons.mp nd1).2 nd fun b m z => (hG b m).1 ⟨i, by rw [hf1]; exact List.mem_cons_of_mem _ z⟩
            obtain ⟨st3, q3⟩ := st1.lstUpd (lstAt_ok h1) hv1 ha1 hf1 hs1 hs2 fun b m => (hs3 b m).imp id fun m => hG b m
            exact ⟨a, xs, j, n, rfl, rfl, ha1, by rw [hr1.len]; exact hj, h' _ B1 _ _ (q.trans (q3.more fun b z => z.elim .inl fun m => (hs3 b m).elim (fun m => .inl ⟨i, by rw [hf1]; exact List.mem_cons_of_mem _ m⟩) .inr) fun _ m => m) st3⟩
/-- x += e, ints -/
def XS.aug (i : Nat) (fv : List Nat) (e : XE c) (f : Int → Int → Int) : XS c where
  t := fun W => tAug i (e.t W) (ipI f)
  ev := fun s Δ => match Δ[i]? with
    | some (some (.int a)) => (e.ev s (view fv Δ)).bind fun d s1 => match d with
      | .int b => .ok (.nx (Δ.set i (some (.int (f a b))))) s1
      | _ => .bad
    | _ => .bad
  ok := fun W Z σ B H Δ fp s st h => by
    revert h
    split
    case h_2 => intro h; exact h.elim
    rename_i a ha
    intro h
    refine ⟨.int a, st.en.ints i a ha, ?_⟩
    cases he : e.ev s (view fv Δ) with
    | bad => rw [he] at h; exact h.elim
    | er k p s1 => rw [he] at h; exact e.stE fv W st he h
    | ok d s1 =>
      rw [he] at h
      cases d <;> first | exact h.elim | skip
      rename_i b
      refine e.st fv W st he fun v B1 H1 fp1 G st1 q r nd hG => ?_
      cases r
      refine ⟨a, b, rfl, rfl, ?_⟩
      have st2 := st1.set (i := i) (v := .int (f a b)) (d := .int (f a b)) (.int _) List.nodup_nil (fun _ m => (nomatch m)) (List.getElem?_eq_some_iff.mp ha).1
      exact h _ B1 H1 _ (q.sub fun x m => .inl ((ow_set (fp := fp1) (G := []) m).elim id fun z => (nomatch z))) st2
/-- arguments in a body -/
def aftL (fv : List Nat) (ds : List D) (Δ : Env) : Env := if shrL ds then frzAt fv Δ else Δ
theorem XA.st (e : XA c) (fv : List Nat) (W : WX) (st : Sta c B H σ Δ fp s) {Q : List V → Hp → Prop} {d : List D} {s' : Strm} (he : e.ev s (view fv Δ) = .ok d s')
    (k : ∀ v B1 H1 fp1 G, Sta c B1 H1 σ (aftL fv d Δ) fp1 s' → Stq c.S B H B1 H1 (Ow fp) (fun a => Ow fp1 a ∨ a ∈ G) → RpL c.K c.A B1 H1 v d G → G.Nodup → (∀ a ∈ G, ¬ Ow fp1 a ∧ a ∉ c.S) → Q v H1) : e.t W σ H Q := by
  refine e.ok W σ (Be fv B H fp) H (view fv Δ) s (tkn_in st.ex) (st.smBe fv) (st.rdBe fv) Q ?_
  rw [he]
  intro v B' H' F x sm r
  have nw : ∀ a ∈ F, H a = none := x.new
  have no : ∀ a ∈ F, ¬ Ow fp a ∧ a ∉ c.S := fun a m => ⟨fun z => (st.en.at z).2 (nw a m), fun z => (st.sm.out a z).2 (nw a m)⟩
  cases hs : shrL d with
  | false =>
    obtain ⟨s1, q1⟩ := st.keep x sm
    have ed : aftL fv d Δ = Δ := by unfold aftL; rw [hs]; rfl
    rw [ed] at k
    refine k v B H' fp F s1 q1 (r.own hs fun a m => ⟨fun _ e => e, ?_⟩) x.nd no
    cases q : B a with
    | none => rfl
    | some o => have := st.ex a o q; rw [nw a m] at this; cases this
  | true =>
    obtain ⟨s1, q1⟩ := st.froz x sm
    have ed : aftL fv d Δ = frzAt fv Δ := by unfold aftL; rw [hs]; rfl
    rw [ed] at k
    exact k v B' H' (fpOff fv fp) F s1 q1 r x.nd fun a m => ⟨fun ⟨i, z⟩ => (no a m).1 ⟨i, (fpOff_mem z).2⟩, (no a m).2⟩
theorem XA.stE (e : XA c) (fv : List Nat) (W : WX) (st : Sta c B H σ Δ fp s) {Q : List V → Hp → Prop} {k : Str} {p : Option (List Str × List D)} {s' : Strm} (he : e.ev s (view fv Δ) = .er k p s') (h : ErS c B H fp W k p s') : e.t W σ H Q := by
  refine e.ok W σ (Be fv B H fp) H (view fv Δ) s (tkn_in st.ex) (st.smBe fv) (st.rdBe fv) Q ?_
  rw [he]
  intro B' H' d x sm pay
  exact h B' H' σ d ((st.froz x sm).2.sub fun a z => z.elim) sm pay
/-- x, y = e1, e2: two plain names -/
def XS.par (i j : Nat) (fv : List Nat) (a : XA c) : XS c where
  t := fun W => tPar i j (a.t W)
  ev := fun s Δ => (a.ev s (view fv Δ)).bind fun ds s1 => match ds with
    | [d, e] => if inEnv Δ [i, j] then .ok (.nx (setD (aftL fv ds Δ) [i, j] [d, e])) s1 else .bad
    | _ => .bad
  ok := fun W Z σ B H Δ fp s st h => by
    cases he : a.ev s (view fv Δ) with
    | bad => rw [he] at h; exact h.elim
    | er k p s1 => rw [he] at h; exact a.stE fv W st he h
    | ok ds s1 =>
      rw [he] at h
      match ds, h with
      | [d, e], h =>
        have h' : AnsS c B H fp W Z (if inEnv Δ [i, j] then .ok (.nx (setD (aftL fv [d, e] Δ) [i, j] [d, e])) s1 else .bad) := h
        split at h'
        case isFalse => exact h'.elim
        rename_i hin
        refine a.st fv W st he fun v B1 H1 fp1 G st1 q r nd hG => ?_
        obtain ⟨x, y, F1, F2, rfl, rx, ry, eF⟩ := r.two
        have ha : (aftL fv [d, e] Δ).length = Δ.length := by unfold aftL; split <;> first | exact frzF_len | rfl
        obtain ⟨fp', st2, h2⟩ := st1.sets (is := [i, j]) r nd hG fun n z => by
          rw [ha]
          exact of_decide_eq_true (List.all_eq_true.mp hin n z)
        exact ⟨x, y, rfl, h' _ B1 H1 fp' (q.sub fun a z => h2 a z) st2⟩
/-! ### loops -/
theorem Sta.tkn (st : Sta c B H σ Δ fp s) {F : List Addr} (hF : ∀ a ∈ F, ¬ Ow fp a ∧ a ∉ c.S ∧ B a = none) : Sta c (Ly.tkn B H F) H σ Δ fp s := by
  have e1 : Ex B (Ly.tkn B H F) := tkn_ex fun a m => (hF a m).2.2
  have off : ∀ a, a ∉ F → B a = none → Ly.tkn B H F a = none := fun a n e => by
    show (if a ∈ F then H a else B a) = none
    rw [if_neg n]; exact e
  refine ⟨tkn_in st.ex, ⟨fun i d q => ?_, st.en.nd, st.en.dj, st.en.em, st.en.ln⟩, ?_, st.ns⟩
  · obtain ⟨v, hv, r⟩ := st.en.sl i d q
    exact ⟨v, hv, r.mono e1 fun a m => ⟨fun _ e => e, off a (fun z => (hF a z).1 ⟨i, m⟩) (st.en.at ⟨i, m⟩).1⟩⟩
  · exact st.sm.re fun a m => off a (fun z => (hF a z).2.1 m) (st.sm.out a m).1
def forE (g : XG c) (b : XS c) : List D → Strm → Env → R Fl
  | [], s, Δ => .ok (.nx Δ) s
  | d :: ds, s, Δ => match g.ev (frz d) with
    | none => .bad
    | some bs => if inEnv Δ g.sl then match b.ev s (setD Δ g.sl bs) with
      | .ok (.nx Δ2) s2 => forE g b ds s2 Δ2
      | .ok (.ct Δ2) s2 => forE g b ds s2 Δ2
      | .ok (.bk Δ2) s2 => .ok (.nx Δ2) s2
      | r => r else .bad
/-- for g in it: b -/
def XS.for (fv : List Nat) (it : XI c) (g : XG c) (b : XS c) : XS c where
  t := fun W => tFor (it.t W) g.t (b.t W)
  ev := fun s Δ => (it.ev s (view fv Δ)).bind fun p s1 => forE g b p.2 s1 (if p.1 then frzAt fv Δ else Δ)
  ok := fun W Z σ B H Δ fp s st h => by
    refine it.ok W σ (Be fv B H fp) H (view fv Δ) s (tkn_in st.ex) (st.smBe fv) (st.rdBe fv) _ ?_
    cases he : it.ev s (view fv Δ) with
    | bad => rw [he] at h; exact h.elim
    | er k p s1 =>
      rw [he] at h
      intro B' H' d x sm pay
      exact h B' H' σ d ((st.froz x sm).2.sub fun a z => z.elim) sm pay
    | ok p s1 =>
      rw [he] at h
      obtain ⟨sh, ds⟩ := p
      have h0 : AnsS c B H fp W Z (forE g b ds s1 (if sh then frzAt fv Δ else Δ)) := h
      intro J B' H' F x sm ⟨nbF, ncF⟩ hit
      have nw : ∀ a ∈ F, H a = none := x.new
      have no : ∀ a ∈ F, ¬ Ow fp a ∧ a ∉ c.S := fun a m => ⟨fun z => (st.en.at z).2 (nw a m), fun z => (st.sm.out a z).2 (nw a m)⟩
      -- the state at the first turn: what is walked is frozen
      have start : ∃ (B1 : Hp) (fp1 : Nat → List Addr), Sta c B1 H' σ (if sh then frzAt fv Δ else Δ) fp1 s1 ∧ Stq c.S B H B1 H' (Ow fp) (Ow fp1) ∧ IterOk c J B1 ds := by
        cases sh with
        | false =>
          obtain ⟨s2, q2⟩ := st.keep x sm
          have hF : ∀ a ∈ F, ¬ Ow fp a ∧ a ∉ c.S ∧ B a = none := fun a m => ⟨(no a m).1, (no a m).2, by
            cases q : B a with
            | none => rfl
            | some o => have := st.ex a o q; rw [nw a m] at this; cases this⟩
          refine ⟨Ly.tkn B H' F, fp, s2.tkn hF, ⟨tkn_ex fun a m => (hF a m).2.2, tkn_in q2.bh, q2.fr, q2.th, fun a e n => ?_, fun a m => .inr m⟩, hit _ (fun z => by cases z) fun a m o e => tkn_tk a m o e⟩
          by_cases z : a ∈ F
          · exact .inl (nw a z)
          · unfold Ly.tkn at n
            rw [if_neg z] at n
            exact absurd e n
        | true =>
          obtain ⟨s2, q2⟩ := st.froz x sm
          have hF : ∀ a ∈ F, ¬ Ow (fpOff fv fp) a ∧ a ∉ c.S ∧ B' a = none := fun a m => ⟨fun ⟨i, z⟩ => (no a m).1 ⟨i, (fpOff_mem z).2⟩, (no a m).2, nbF a m⟩
          refine ⟨Ly.tkn B' H' F, fpOff fv fp, s2.tkn hF, ⟨q2.bb.trans (tkn_ex nbF), tkn_in q2.bh, q2.fr, q2.th, fun a e n => ?_, fun a m => q2.nf a (.inl m)⟩, hit _ (fun _ => tkn_ex nbF) fun a m o e => tkn_tk a m o e⟩
          by_cases z : a ∈ F
          · exact .inl (nw a z)
          · unfold Ly.tkn at n
            rw [if_neg z] at n
            exact q2.nb a e n
      obtain ⟨B1, fp1, st1, q1, hI⟩ := start
      let Inv : Nat → L2.St → Hp → Prop := fun i σ' Hi => ∃ (Bi : Hp) (fpi : Nat → List Addr) (Δi : Env) (si : Strm), Ex B1 Bi ∧ Sta c Bi Hi σ' Δi fpi si ∧ AnsS c Bi Hi fpi W Z (forE g b (ds.drop i) si Δi)
      refine ⟨fun i m σ' Hi => i ≤ ds.length ∧ m = ds.length - i ∧ Inv i σ' Hi, ⟨ds.length, Nat.zero_le _, rfl, B1, fp1, _, s1, Ex.refl _, st1, AnsS.step h0 q1⟩, ?_⟩
      rintro i m σ' Hi ⟨hi, rfl, Bi, fpi, Δi, si, exi, sti, ai⟩
      obtain ⟨hgo, hstop⟩ := hI Bi Hi exi sti.ex
      rcases Nat.lt_or_eq_of_le hi with hlt | heq
      case inr =>
        left
        rw [heq]
        refine ⟨hstop, ?_⟩
        rw [heq, List.drop_length] at ai
        exact ai σ' Bi Hi fpi (Stq.refl sti.ex) sti
      right
      obtain ⟨d, hd⟩ : ∃ d, ds[i]? = some d := ⟨ds[i], List.getElem?_eq_getElem hlt⟩
      obtain ⟨hgo1, hy⟩ := hgo i d hd
      refine ⟨hgo1, Inv (i + 1), fun σ2 Hn hn => ⟨ds.length - (i + 1), by omega, hlt, rfl, hn⟩, ?_⟩
      intro v H2 y
      obtain ⟨Fx, stx, rx⟩ := hy v H2 y
      have hdrop : ds.drop i = d :: ds.drop (i + 1) := by
        have e1 : ds[i] = d := (List.getElem?_eq_some_iff.mp hd).2
        rw [List.drop_eq_getElem_cons hlt, e1]
      rw [hdrop] at ai
      have nwx : ∀ a ∈ Fx, Hi a = none := stx.new
      have nox : ∀ a ∈ Fx, ¬ Ow fpi a ∧ a ∉ c.S ∧ Bi a = none := fun a m => ⟨fun z => (sti.en.at z).2 (nwx a m), fun z => (sti.sm.out a z).2 (nwx a m), rx.nb a m⟩
      -- the state behind the yield
      have sty : Sta c Bi H2 σ' Δi fpi si := by
        refine ⟨stx.bh, ⟨fun j e q => ?_, sti.en.nd, sti.en.dj, sti.en.em, sti.en.ln⟩, sti.sm.stp stx (fun _ m => (nomatch m)) Noc.nil, sti.ns⟩
        obtain ⟨u, hu, ru⟩ := sti.en.sl j e q
        exact ⟨u, hu, ru.mono (Ex.refl _) fun a m => ⟨fun o e => stx.fr a o e (by simp) (by simp), (sti.en.at ⟨j, m⟩).1⟩⟩
      have stz := sty.tkn (F := Fx) nox
      have qz : Stq c.S Bi Hi (Ly.tkn Bi H2 Fx) H2 (Ow fpi) (Ow fpi) := ⟨tkn_ex rx.nb, stz.ex, fun a o e _ _ => stx.fr a o e (by simp) (by simp), stx.th, fun a e n => by
        by_cases z : a ∈ Fx
        · exact .inl (nwx a z)
        · unfold Ly.tkn at n
          rw [if_neg z] at n
          exact absurd e n, fun a m => .inr m⟩
      have rx2 : Rp c.K c.A (Ly.tkn Bi H2 Fx) H2 v (frz d) [] := rx.frz (tkn_ex rx.nb) tkn_tk
      unfold forE at ai
      cases hg : g.ev (frz d) with
      | none => rw [hg] at ai; exact ai.elim
      | some bs =>
        rw [hg] at ai
        dsimp only at ai
        split at ai
        case isFalse => exact ai.elim
        rename_i hin
        obtain ⟨_, hgk⟩ := g.ok _ _ v (frz d) [] bs stz.ex rx2 List.nodup_nil hg
        refine hgk σ' _ fun us G ru mu nu => ?_
        obtain ⟨fp2, st2, hs2⟩ := stz.sets (is := g.sl) ru nu (fun a m => nomatch mu a m) fun n z => of_decide_eq_true (List.all_eq_true.mp hin n z)
        have q2 : Stq c.S Bi Hi (Ly.tkn Bi H2 Fx) H2 (Ow fpi) (Ow fp2) := qz.sub fun a m => (hs2 a m).elim id fun z => nomatch mu a z
        refine b.ok W _ _ _ _ _ fp2 si st2 ?_
        revert ai
        cases hb : b.ev si (setD Δi g.sl bs) with
        | bad => intro ai; exact ai.elim
        | er k p s' => intro ai; exact AnsS.step (r := .er k p s') ai q2
        | ok f s' =>
          cases f with
          | nx Δ2 => exact fun ai σ3 B3 H3 fp3 q3 st3 => ⟨B3, fp3, Δ2, s', (exi.trans q2.bb).trans q3.bb, st3, AnsS.step ai (q2.trans q3 fun _ m => m)⟩
          | ct Δ2 => exact fun ai σ3 B3 H3 fp3 q3 st3 => ⟨B3, fp3, Δ2, s', (exi.trans q2.bb).trans q3.bb, st3, AnsS.step ai (q2.trans q3 fun _ m => m)⟩
          | bk Δ2 => exact fun ai σ3 B3 H3 fp3 q3 st3 => ai σ3 B3 H3 fp3 (q2.trans q3 fun _ m => m) st3
          | rt d' => exact fun ai => AnsS.step (r := .ok (.rt d') s') ai q2
/-- while t: b, of at most n turns -/
def whE (fv : List Nat) (t : XT c) (b : XS c) : Nat → Strm → Env → R Fl
  | 0, _, _ => .bad
  | n + 1, s, Δ => (t.ev s (view fv Δ)).bind fun x s1 => if x then match b.ev s1 Δ with
      | .ok (.nx Δ2) s2 => whE fv t b n s2 Δ2
      | .ok (.ct Δ2) s2 => whE fv t b n s2 Δ2
      | .ok (.bk Δ2) s2 => .ok (.nx Δ2) s2
      | r => r else .ok (.nx Δ) s1
def XS.whl (n : Nat) (fv : List Nat) (t : XT c) (b : XS c) : XS c where
  t := fun W => tWhile (t.t W) (b.t W)
  ev := fun s Δ => whE fv t b n s Δ
  ok := fun W Z σ B H Δ fp s st h => by
    refine ⟨fun m σ' Hi => ∃ (Bi : Hp) (fpi : Nat → List Addr) (Δi : Env) (si : Strm), Sta c Bi Hi σ' Δi fpi si ∧ AnsS c Bi Hi fpi W Z (whE fv t b m si Δi), ⟨n, B, fp, Δ, s, st, h⟩, ?_⟩
    rintro m σ' Hi ⟨Bi, fpi, Δi, si, sti, ai⟩
    cases m with
    | zero => exact ai.elim
    | succ m =>
      unfold whE at ai
      cases ht : t.ev si (view fv Δi) with
      | bad => rw [ht] at ai; exact ai.elim
      | er k p s1 => rw [ht] at ai; exact t.stE fv W sti ht ai
      | ok x s1 =>
        rw [ht] at ai
        refine t.st fv W sti ht fun H1 st1 q1 => ?_
        cases x with
        | false => exact (ai : Gon c Bi Hi fpi Δi s1 Z.nx) σ' Bi H1 fpi q1 st1
        | true =>
          refine ⟨fun σ2 H2 => ∃ m', m' < m + 1 ∧ ∃ (Bj : Hp) (fpj : Nat → List Addr) (Δj : Env) (sj : Strm), Sta c Bj H2 σ2 Δj fpj sj ∧ AnsS c Bj H2 fpj W Z (whE fv t b m' sj Δj), fun _ _ hn => hn, ?_⟩
          refine b.ok W _ _ _ _ _ fpi s1 st1 ?_
          have ai2 : AnsS c Bi Hi fpi W Z (match b.ev s1 Δi with
            | .ok (.nx Δ2) s2 => whE fv t b m s2 Δ2
            | .ok (.ct Δ2) s2 => whE fv t b m s2 Δ2
            | .ok (.bk Δ2) s2 => .ok (.nx Δ2) s2
            | r => r) := ai
          revert ai2
          cases hb : b.ev s1 Δi with
          | bad => intro ai; exact ai.elim
          | er k p s' => intro ai; exact AnsS.step (r := .er k p s') ai q1
          | ok f s' =>
            cases f with
            | nx Δ2 => exact fun ai σ3 B3 H3 fp3 q3 st3 => ⟨m, Nat.lt_succ_self m, B3, fp3, Δ2, s', st3, AnsS.step ai (q1.trans q3 fun _ m => m)⟩
            | ct Δ2 => exact fun ai σ3 B3 H3 fp3 q3 st3 => ⟨m, Nat.lt_succ_self m, B3, fp3, Δ2, s', st3, AnsS.step ai (q1.trans q3 fun _ m => m)⟩
            | bk Δ2 => exact fun ai σ3 B3 H3 fp3 q3 st3 => ai σ3 B3 H3 fp3 (q1.trans q3 fun _ m => m) st3
            | rt d' => exact fun ai => AnsS.step (r := .ok (.rt d') s') ai q1
end
end Ly

end
section
set_option Elab.async false
set_option linter.all false
set_option maxRecDepth 100000
set_option maxHeartbeats 4000000
namespace Ly
open PySem L2 PySem.Spec PyProof.Rows
section
variable {c : Cf} {B H : Hp} {σ : L2.St} {Δ : Env} {fp : Nat → List Addr} {s : Strm}
/-! ### own errors of one field -/
/-- what an error's own __init__ does: self.f = y -/
def spX (C : Addr) (f : Str) : Sp := fun vs H Q _ => ∃ (a : Addr) (y : V), vs = [.ref a, y] ∧ H a = some (exo a C none) ∧ ∀ dx, H dx = none → dx ≠ a → Q .non (upd (upd H dx (exd dx [(f, y)])) a (exo a C (some dx)))
theorem upd_back {H : Hp} {a d : Addr} {o u w : HO} {z : HO} (ha : H a = none) (hd : d ≠ a) : upd (del (upd (upd (upd H a o) d u) a w) a) d z = upd H d z := by
  funext b
  by_cases h1 : b = d
  · rw [h1, upd_same, upd_same]
  · rw [upd_ne h1, upd_ne h1]
    by_cases h2 : b = a
    · rw [h2, del_same, ha]
    · rw [del_ne h2, upd_ne h2, upd_ne h1, upd_ne h2]
def XS.raise1 (k f : Str) (fv : List Nat) (e : XE c) : XS c where
  t := fun W _ σ H => tMkO (c.A k) (spX (c.A k) f) [] (tCons (e.t W) tNil) σ H fun cls d H' => W cls d σ H'
  ev := fun s Δ => (e.ev s (view fv Δ)).bind fun d s1 => .er k (some ([f], [frz d])) s1
  ok := fun W Z σ B H Δ fp s st h => by
    show e.t W σ H fun x H1 => _
    cases he : e.ev s (view fv Δ) with
    | bad => rw [he] at h; exact h.elim
    | er k p s1 => rw [he] at h; exact e.stE fv W st he h
    | ok d s1 =>
      rw [he] at h
      refine e.st fv W st he fun v B1 H1 fp1 G st1 q r nd hG => ⟨by simp, fun a ha => ⟨a, v, rfl, upd_same, fun dx hdx nda => ⟨rfl, dx, [(f, v)], upd_same, by rw [upd_ne nda, upd_same], ?_, ?_⟩⟩⟩
      · rw [upd_ne nda] at hdx; exact hdx
      · rw [upd_ne nda] at hdx
        rw [upd_back ha nda]
        have e1 : Ex B1 (tkn B1 H1 G) := tkn_ex r.nb
        have e2 : Ex H1 (upd H1 dx (.xd [(f, v)])) := Ex.upd hdx
        have e3 : Ex (tkn B1 H1 G) (upd H1 dx (.xd [(f, v)])) := (tkn_in st1.ex).trans e2
        have th : ∀ b, upd H1 dx (.xd [(f, v)]) b = none → H1 b = none := fun b e => by
          by_cases z : b = dx
          · rw [z, upd_same] at e; cases e
          · rw [upd_ne z] at e; exact e
        refine (h : ErS c B H fp W k (some ([f], [frz d])) s1) (tkn B1 H1 G) _ σ (some dx) ⟨q.bb.trans e1, e3, fun b o e n m => e2 b o (q.fr b o e n m), fun b e => q.th b (th b e), fun b e n => ?_, fun _ z => z.elim⟩ ?_ ⟨dx, [v], rfl, upd_same, rfl, .cons (F := []) (G := []) (r.frz e1 tkn_tk) .nil⟩
        · by_cases z : b ∈ G
          · exact q.nf b (.inr z)
          · unfold tkn at n
            rw [if_neg z] at n
            exact q.nb b e n
        · have st2 : Stp [] B1 H1 (tkn B1 H1 G) (upd H1 dx (.xd [(f, v)])) G [] := (Stp.tkn st1.ex r.nb (F2 := []) List.nodup_nil fun _ m => (nomatch m)).trans (S' := []) (F1 := []) ⟨Ex.refl _, e3, fun b o e _ _ => e2 b o e, th, fun _ e n => absurd e n, fun _ m => (nomatch m), List.nodup_nil⟩ fun _ m => m
          exact st1.sm.stp st2 (fun b m => (hG b m).2) r.noc
/-! ### a def -/
def startE (n : Nat) (ds : List D) : Env := ds.map some ++ List.replicate (n - ds.length) none
def runF (np n : Nat) (b : XS c) : Fn := fun s ds => if ds.length = np then match b.ev s (startE n ds) with
  | .ok (.nx _) s' => .ok .non s'
  | .ok (.rt d) s' => .ok d s'
  | .er k p s' => .er k p s'
  | _ => .bad else .bad
theorem RpL.slot {K : PySem.W.Frag} {A : Str → Addr} : ∀ {vs : List V} {ds : List D} {F : List Addr}, RpL K A B H vs ds F → F = [] → ∀ (m m' : Nat) (i : Nat) (d : D), (ds.map some ++ List.replicate m none)[i]? = some (some d) →
    ∃ v, (vs.map some ++ List.replicate m' (none : Option V))[i]? = some (some v) ∧ Rp K A B H v d []
  | _, _, _, .nil, _, m, m', i, d, h => by
    rw [List.map_nil, List.nil_append] at h
    have := List.eq_of_mem_replicate (List.mem_of_getElem? h)
    cases this
  | _, _, _, .cons (v := v) r t, e, m, m', 0, d, h => by
    obtain ⟨rfl, rfl⟩ := List.append_eq_nil_iff.mp e
    simp only [List.map_cons, List.cons_append, List.getElem?_cons_zero, Option.some.injEq] at h
    subst h
    exact ⟨v, by simp, r⟩
  | _, _, _, .cons (v := v) r t, e, m, m', i + 1, d, h => by
    obtain ⟨rfl, rfl⟩ := List.append_eq_nil_iff.mp e
    simp only [List.map_cons, List.cons_append, List.getElem?_cons_succ] at h
    obtain ⟨u, h1, h2⟩ := RpL.slot t rfl m m' i d h
    exact ⟨u, by simpa using h1, h2⟩
theorem fn_sound {N : List Str} {np : Nat} (b : XS c) {vs : List V} {Q : VK} {E : XK} (hn : np ≤ N.length) (h : spD c (runF np N.length b) vs H Q E) :
    b.t (fun cls d _ H' => E cls d H') { nx := fun _ H' => Q .non H', rt := Q } (L2.start N vs) H := by
  obtain ⟨B, s, ds, ex, sm, r, h⟩ := h
  unfold runF at h
  split at h
  case isFalse => exact h.elim
  rename_i hl
  have el := r.len
  have st0 : Sta c B H (L2.start N vs) (startE N.length ds) (fun _ => []) s := by
    refine ⟨ex, ⟨fun i d q => ?_, fun _ => List.nodup_nil, fun _ _ _ m => (nomatch m), fun _ _ => rfl, ?_⟩, sm, fun a ⟨i, m⟩ => (nomatch m)⟩
    · obtain ⟨v, hv, rv⟩ := RpL.slot r rfl _ (N.length - vs.length) i d q
      exact ⟨v, hv, rv.mono (Ex.refl B) Kp.nil⟩
    · unfold L2.start startE
      rw [List.length_append, List.length_append, List.length_map, List.length_map, List.length_replicate, List.length_replicate]
      omega
  refine b.ok _ _ _ B H _ _ s st0 ?_
  have p0 : ∀ {B' H' : Hp} {G : List Addr}, Stq c.S B H B' H' (Ow fun _ => []) (· ∈ G) → G.Nodup → Stp c.S B H B' H' [] G := fun x n =>
    ⟨x.bb, x.bh, fun a o e _ m => x.fr a o e (fun ⟨_, z⟩ => nomatch z) m, x.th, fun a e n => (x.nb a e n).imp id fun ⟨_, z⟩ => (nomatch z), fun a m => (x.nf a m).imp id fun ⟨_, z⟩ => (nomatch z), n⟩
  revert h
  cases b.ev s (startE N.length ds) with
  | bad => intro h; exact h.elim
  | er k p s' => exact fun h B' H' σ' d x sm' pay => h B' H' d (p0 (x.sub fun a m => (nomatch (show False from by simpa using m))) List.nodup_nil) sm' pay
  | ok f s' =>
    cases f with
    | nx Δ' => exact fun h σ' B' H' fp' x st' => h .non B' H' [] (p0 (x.sub fun a m => (nomatch (show False from by simpa using m))) List.nodup_nil) st'.sm .non
    | rt d => exact fun h v B' H' G x sm' rv n => h v B' H' G (p0 x n) sm' rv
    | bk Δ' => exact fun h => h.elim
    | ct Δ' => exact fun h => h.elim
/-- room, and no repr under way -/
structure Rm (k : Nat) (A : Around) : Prop where
  r : Room k A
  g : A.guards = some []
theorem Rm.mono {j k : Nat} {A : Around} (x : Rm k A) (h : j ≤ k) : Rm j A := ⟨x.r.mono h, x.g⟩
theorem Rm.units {k : Nat} {A : Around} (x : Rm k A) : A.units + 64 < cLine := x.r.units
/-- a def's promise where no repr is under way -/
structure FnG (P : Program) (w : World) (K : PySem.W.Frag) (mg : Str → Option Value) (base : Heap) (k : Nat) (f : Addr) (fd : FuncData) (ps : List Str) (sp : Sp) : Prop where
  len : ∀ vs H Q E, sp vs H Q E → vs.length = ps.length
  run : ∀ (A : Around) (outer : List PySem.Env) (s : Shared) (H : Hp) (args : Args) (us : List Value) (vs : List V) (Q : VK) (E : XK), Rm k A → Env0 P w K mg base A outer s H → BindsTo s fd args (ps.zip us) → Vals vs us → sp vs H Q E →
    codeAny (model P w) A (.call (.ref f) args) (CR (L2.CX P w) outer P w H s Q E) s
/-- v is the code of the def at f -/
def CodeAt (K : PySem.W.Frag) (f : Addr) (v : Value) : Prop := ∃ (oc : Value) (od : Option Addr) (fd : FuncData) (osl : Array (Option Value)) (q : Str), K.lookup f = some ⟨oc, od, .func fd, osl⟩ ∧ fd.code = v ∧ PySem.W.codeIn K v q = true
/-- by the body's reading, chosen at each entry -/
theorem fng_of {P : Program} {w : World} {K : PySem.W.Frag} {mg : Str → Option Value} {base : Heap} {x qual : Str} {params : Arguments} {body : List Stmt} {scope : Scope} {f : Addr} {fd : FuncData} {N ps : List Str} {k : Nat} {sp : Sp}
    (F : FunD K x qual params body scope [] [] f fd) (S : FnScope N ps scope) (len : ∀ vs H Q E, sp vs H Q E → vs.length = ps.length)
    (hb : ∀ (cdv : Value) (A : Around) (outer : List PySem.Env) (s : Shared) (H : Hp) (vs : List V) (Q : VK) (E : XK), CodeAt K f cdv → Rm k (A.deeper (envOfC qual scope s.heap.objs.size f cdv)) → sp vs H Q E →
      ∃ t, PSs (cxOf (L2.CX P w) P w K mg base N qual scope f cdv A outer s H E) body t ∧ t { nx := fun _ H' => Q .non H', rt := Q } (L2.start N vs) H) : FnG P w K mg base (k + 1) f fd ps sp := by
  obtain ⟨oc, od, dV, kV, doc, pm, an, cdv, ct, osl, rfl, lk, hcd, _, _⟩ := F.ex
  exact ⟨len, fun A outer s H args us vs Q E hr e0 b r hs => LamX.run_ofS lk hcd S hr.r e0 b r (len _ _ _ _ hs) fun hr' => hb cdv A outer s H vs Q E ⟨oc, od, _, osl, qual, lk, rfl, hcd⟩ ⟨hr', hr.g⟩ hs⟩
/-- a def of the text keeps the promise that its evaluator says -/
theorem def_ok {P : Program} {w : World} {mg : Str → Option Value} {base : Heap} {x qual : Str} {params : Arguments} {body : List Stmt} {scope : Scope} {f : Addr} {fd : FuncData} {N ps : List Str} {k : Nat}
    (F : FunD c.K x qual params body scope [] [] f fd) (S : FnScope N ps scope) (b : XS c) (hn : ps.length ≤ N.length)
    (hder : ∀ (cdv : Value) (A : Around) (outer : List PySem.Env) (s : Shared) (H : Hp) (E : XK), CodeAt c.K f cdv → Rm k (A.deeper (envOfC qual scope s.heap.objs.size f cdv)) →
      PSs (cxOf (L2.CX P w) P w c.K mg base N qual scope f cdv A outer s H E) body (b.t fun cls d _ H' => E cls d H')) :
    FnG P w c.K mg base (k + 1) f fd ps (spD c (runF ps.length N.length b)) := by
  refine fng_of F S (fun vs H Q E h => ?_) (fun cdv A outer s H vs Q E hc hr h => ⟨_, hder cdv A outer s H E hc hr, fn_sound b hn h⟩)
  obtain ⟨B, s, ds, _, _, r, h⟩ := h
  unfold runF at h
  split at h
  · rename_i hl
    rw [r.len, hl]
  · exact h.elim
end
end Ly

end
section
set_option Elab.async false
set_option linter.all false
set_option maxRecDepth 100000
set_option maxHeartbeats 4000000
namespace Ly
open PySem L2 PySem.Spec PyProof.Rows
/-! ### further forms -/
section
variable {c : Cf}
def chnR (g g' : D → D → Option D) (ev : Strm → R D) (d d2 : D) (s2 : Strm) : R D := match d, d2 with
  | .int i, .int j => (optR s2 ((g (.int i) (.int j)).bind dB)).bind fun k s3 => if k then (ev s3).bind fun d3 s4 => optR s4 (g' (.int j) d3) else .ok (.bl false) s3
  | _, _ => .bad
/-- a < b < c -/
def XE.chn (r : R2) (g : D → D → Option D) (hr : DoA2 c r g) (r' : R2) (g' : D → D → Option D) (hr' : DoA2 c r' g') (a b e : XE c) : XE c where
  t := fun W => tChain r r' (a.t W) (b.t W) (e.t W)
  ev := fun s Δ => (a.ev s Δ).bind fun d s1 => (b.ev s1 Δ).bind fun d2 s2 => chnR g g' (fun s3 => e.ev s3 Δ) d d2 s2
  ok := fun W σ B H Δ s ex sm rd Q h => by
    refine a.ok W σ B H Δ s ex sm rd _ ?_
    revert h
    cases a.ev s Δ with
    | er k p s1 => intro h; exact h
    | bad => intro h; exact h
    | ok d s1 =>
      intro h v B1 H1 F1 st1 sm1 r1
      refine b.ok W σ B1 H1 Δ s1 st1.bh sm1 (rd.mono st1.bb) _ ?_
      have h1 : AnsE c B H σ W Q ((b.ev s1 Δ).bind fun d2 s2 => chnR g g' (fun s3 => e.ev s3 Δ) d d2 s2) := h
      revert h1
      cases b.ev s1 Δ with
      | er k p s2 => intro h; exact Er.step h st1
      | bad => intro h; exact h
      | ok d2 s2 =>
        cases d <;> first | (intro h; exact h.elim) | skip
        rename_i i
        cases d2 <;> first | (intro h; exact h.elim) | skip
        rename_i j
        cases r1
        intro h u B2 H2 F2 st2 sm2 r2
        cases r2
        have st12 := st1.trans st2 fun _ m => m
        have h2 : AnsE c B H σ W Q ((optR s2 ((g (.int i) (.int j)).bind dB)).bind fun k s3 => if k then (e.ev s3 Δ).bind fun d3 s4 => optR s4 (g' (.int j) d3) else .ok (.bl false) s3) := h
        cases hz : g (.int i) (.int j) with
        | none => rw [hz] at h2; exact h2.elim
        | some z =>
          rw [hz] at h2
          cases z <;> first | exact h2.elim | skip
          rename_i k
          have h3 : AnsE c B H σ W Q (if k then (e.ev s2 Δ).bind fun d3 s4 => optR s4 (g' (.int j) d3) else .ok (.bl false) s2) := h2
          refine hr B2 H2 _ _ _ _ [] [] _ st2.bh (.int i) (.int j) List.nodup_nil hz _ fun w B3 H3 F3 st3 r3 => ?_
          cases r3
          have sm3 := sm2.stp st3 (fun _ m => nomatch m) Noc.nil
          have st13 := st12.then0 st3
          refine ⟨k, rfl, ?_⟩
          cases k with
          | false => exact h3 (.bl false) B3 H3 [] st13 sm3 (.bl false)
          | true =>
            refine e.ok W σ B3 H3 Δ s2 st3.bh sm3 (rd.mono st13.bb) _ ?_
            have h4 : AnsE c B H σ W Q ((e.ev s2 Δ).bind fun d3 s4 => optR s4 (g' (.int j) d3)) := h3
            revert h4
            cases e.ev s2 Δ with
            | er k p s4 => intro h; exact Er.step h st13
            | bad => intro h; exact h
            | ok d3 s4 =>
              intro h4
              have h5 : AnsE c B H σ W Q (optR s4 (g' (.int j) d3)) := h4
              cases hz' : g' (.int j) d3 with
              | none => rw [hz'] at h5; exact h5.elim
              | some z' =>
                rw [hz'] at h5
                intro x B4 H4 F4 st4 sm4 r4
                have st14 := st13.trans st4 fun _ m => m
                exact hr' B4 H4 _ x _ d3 [] F4 z' st4.bh (.int j) r4 st4.nd hz' _ fun w B5 H5 F5 st5 r5 => h5 w B5 H5 F5 (st14.then0 st5) (sm4.stp st5 (sm.new st14.new) r4.noc) r5
/-- truth of a value -/
def dT : D → Option Bool
  | .non => some false
  | .bl b => some b
  | .int i => some (i != 0)
  | .str z => if z.length ≤ lim then some ((z.length : Int) != 0) else none
  | .lst _ ds => some (!ds.isEmpty)
  | .tup _ ds => some (!ds.isEmpty)
  | .dic _ ks _ => some (!ks.isEmpty)
  | _ => none
theorem isEmpty_len {α β : Type} {xs : List α} {ys : List β} (h : xs.length = ys.length) : xs.isEmpty = ys.isEmpty := by
  cases xs <;> cases ys <;> first | rfl | cases h
theorem isEmpty_zip {α β : Type} {xs : List α} {ys : List β} (h : xs.length = ys.length) : (xs.zip ys).isEmpty = xs.isEmpty := by
  cases xs <;> cases ys <;> first | rfl | cases h
theorem Rp.tru {B H : Hp} {v : V} {d : D} {F : List Addr} {b : Bool} (e : Ex B H) (r : Rp c.K c.A B H v d F) (h : dT d = some b) : TruV c.K v H b := by
  cases r with
  | non => cases h; rfl
  | bl _ => cases h; rfl
  | int _ => cases h; rfl
  | str z =>
    simp only [dT] at h
    split at h
    · rename_i hl
      cases h
      exact ⟨lim_le hl, rfl⟩
    · cases h
  | opq _ => cases h
  | lsS q t => cases h; exact .inl ⟨_, SqL.of (e _ _ q), by rw [isEmpty_len t.len]⟩
  | lsO q _ t => cases h; exact .inl ⟨_, SqL.of q, by rw [isEmpty_len t.len]⟩
  | tpS q t => cases h; exact .inr (.inl ⟨_, e.sqT q, by rw [isEmpty_len t.len]⟩)
  | tpO q _ t => cases h; exact .inr (.inl ⟨_, SqT.of q, by rw [isEmpty_len t.len]⟩)
  | diS q l t => cases h; exact .inr (.inr ⟨_, e _ _ q, by rw [isEmpty_zip l]⟩)
  | diO q _ l t => cases h; exact .inr (.inr ⟨_, q, by rw [isEmpty_zip l]⟩)
  | inS => cases h
  | inO => cases h
def XT.tru (a : XE c) : XT c where
  t := fun W σ H Q => a.t W σ H fun x H' => ∃ k, TruV c.K x H' k ∧ Q k H'
  ev := fun s Δ => (a.ev s Δ).bind fun d s1 => optR s1 (dT d)
  ok := fun W σ B H Δ s e sm rd Q h => by
    refine a.ok W σ B H Δ s e sm rd _ ?_
    revert h
    cases a.ev s Δ with
    | er k p s1 => intro h; exact h
    | bad => intro h; exact h
    | ok d s1 =>
      show AnsT c B H σ W Q (optR s1 (dT d)) → _
      cases hd : dT d with
      | none => intro h; exact h.elim
      | some b => exact fun h v B1 H1 F1 st1 sm1 r1 => ⟨b, r1.tru st1.bh hd, h B1 H1 (st1.sub (fun _ m => nomatch m) List.nodup_nil) sm1⟩
/-! ### short names of the built-ins -/
abbrev XE.len (a : XA c) : XE c := XE.app _ gLen do_len a
abbrev XE.list (a : XA c) : XE c := XE.app _ gList do_list a
abbrev XE.tuple (a : XA c) : XE c := XE.app _ gTuple do_tuple a
abbrev XE.all (a : XA c) : XE c := XE.app _ gAll do_all a
abbrev XE.any (a : XA c) : XE c := XE.app _ gAny do_any a
abbrev XE.sum (a : XA c) : XE c := XE.app _ gSum do_sum a
abbrev XE.max2 (a : XA c) : XE c := XE.app _ gMax2 do_max2 a
abbrev XE.min2 (a : XA c) : XE c := XE.app _ gMin2 do_min2 a
abbrev XE.toInt (a : XA c) : XE c := XE.app _ gInt do_int a
abbrev XE.isi (a : XA c) : XE c := XE.app _ gIsi do_isi a
abbrev XE.add (a b : XE c) : XE c := XE.op _ gAdd do_add a b
abbrev XE.sub (a b : XE c) : XE c := XE.op _ gSub do_sub a b
abbrev XE.mul (a b : XE c) : XE c := XE.op _ gMul do_mul a b
abbrev XE.div (a b : XE c) : XE c := XE.op _ gDiv do_div a b
abbrev XE.mod (a b : XE c) : XE c := XE.op _ gMod do_mod a b
abbrev XE.pow (a b : XE c) : XE c := XE.op _ gPow do_pow a b
abbrev XE.xor (a b : XE c) : XE c := XE.op _ gXor do_xor a b
abbrev XE.ix (a b : XE c) : XE c := XE.op _ gIx do_ix a b
abbrev XE.lt (a b : XE c) : XE c := XE.op _ gLt do_lt a b
abbrev XE.le (a b : XE c) : XE c := XE.op _ gLe do_le a b
abbrev XE.gt (a b : XE c) : XE c := XE.op _ gGt do_gt a b
abbrev XE.ge (a b : XE c) : XE c := XE.op _ gGe do_ge a b
abbrev XE.eq (a b : XE c) : XE c := XE.op _ gEq do_eq a b
abbrev XE.ne (a b : XE c) : XE c := XE.op _ gNe do_ne a b
abbrev XE.isN (a b : XE c) : XE c := XE.op _ gIsN do_isN a b
abbrev XE.notN (a b : XE c) : XE c := XE.op _ gNotN do_notN a b
abbrev XE.neg (a : XE c) : XE c := XE.un _ gNeg do_neg a
end
/-! ### the derivations -/
section
variable {c : Cf} {X : Cx} {W : WX} {e a b o : Expr} {es : List Expr} {pos p p1 p2 : Pos} {xa xb xc : XE c} {ta tb : XT c} {xs : XA c}
theorem v_ (i : Nat) {x : Str} (hN : X.N[i]? = some x := by rfl) (hv : Vis X.env.scope x := by first | exact Or.inl rfl | exact Or.inr (Or.inl rfl) | exact Or.inr (Or.inr rfl)) (hd : (x == ("__debug__" : Str)) = false := by decide)
    (hcd : (x == ("__classdict__" : Str)) = false := by decide) : PE X (.Name x pos) ((XE.var (c := c) i).t W) := pe_var hN hv hd hcd
theorem int_ {i : Int} {j : Nat} : PE X (.Constant (.int i) j pos) ((XE.int (c := c) i).t W) := pe_int
theorem str_ {z : Str} {j : Nat} : PE X (.Constant (.str z) j pos) ((XE.str (c := c) z).t W) := pe_str
theorem bl_ {k : Bool} {j : Nat} : PE X (.Constant (.bool k) j pos) ((XE.bl (c := c) k).t W) := pe_bl
theorem non_ {j : Nat} : PE X (.Constant .none j pos) ((XE.non (c := c)).t W) := pe_non
theorem gint_ {x : Str} {i : Int} (hm : ∃ t, X.mg x = some (.int i t)) (hg : Gl X x := by rfl) (hd : (x == ("__debug__" : Str)) = false := by decide) : PE X (.Name x pos) ((XE.int (c := c) i).t W) := by
  obtain ⟨t, hm⟩ := hm
  exact pe_glob hg hm ⟨t, rfl⟩ hd
theorem gstr_ {x z : Str} (hm : ∃ t, X.mg x = some (.str z t)) (hg : Gl X x := by rfl) (hd : (x == ("__debug__" : Str)) = false := by decide) : PE X (.Name x pos) ((XE.str (c := c) z).t W) := by
  obtain ⟨t, hm⟩ := hm
  exact pe_glob hg hm ⟨t, rfl⟩ hd
theorem gty_ {x : Str} {n : String} (hm : X.mg x = none) (hv : bootBuiltins x = some (.type n)) (hg : Gl X x := by rfl) (hn : x ≠ "__name__" := by decide) (hd : (x == ("__debug__" : Str)) = false := by decide) :
    PE X (.Name x pos) ((XE.opq (c := c) (.ty n)).t W) := pe_bltn (v := .ty n) hg hm hv rfl hn hd
theorem anil_ : PA X [] ((XA.nil (c := c)).t W) := pa_nil
theorem acons_ (ha : PE X e (xa.t W)) (hr : PA X es (xs.t W)) (hs : starEach (e :: es) X.env = (false, eval e X.env) :: starEach es X.env := by rfl) : PA X (e :: es) ((XA.cons xa xs).t W) := pa_cons ha hr hs
theorem opc {f : Value → Value → Sem Value} {r : Cf → R2} (h : ∀ c' : Cf, c'.K = X.K → OpR X f (r c')) (hK : X.K = c.K) : OpR X f (r c) := h c hK.symm
theorem add_ (ha : PE X a (xa.t W)) (hb : PE X b (xb.t W)) : PE X (.BinOp a .Add b pos) ((XE.add xa xb).t W) := pe_op (op_add.or (op_add_str.or op_cat)) ha hb
theorem sub_ (ha : PE X a (xa.t W)) (hb : PE X b (xb.t W)) : PE X (.BinOp a .Sub b pos) ((XE.sub xa xb).t W) := pe_op op_sub ha hb
theorem mul_ (ha : PE X a (xa.t W)) (hb : PE X b (xb.t W)) : PE X (.BinOp a .Mult b pos) ((XE.mul xa xb).t W) := pe_op (op_mul.or op_rep) ha hb
theorem div_ (ha : PE X a (xa.t W)) (hb : PE X b (xb.t W)) : PE X (.BinOp a .FloorDiv b pos) ((XE.div xa xb).t W) := pe_op op_fdivW ha hb
theorem mod_ (ha : PE X a (xa.t W)) (hb : PE X b (xb.t W)) : PE X (.BinOp a .Mod b pos) ((XE.mod xa xb).t W) := pe_op op_mod ha hb
theorem pow_ (ha : PE X a (xa.t W)) (hb : PE X b (xb.t W)) : PE X (.BinOp a .Pow b pos) ((XE.pow xa xb).t W) := pe_op op_pow ha hb
theorem xor_ (ha : PE X a (xa.t W)) (hb : PE X b (xb.t W)) : PE X (.BinOp a .BitXor b pos) ((XE.xor xa xb).t W) := pe_op op_xor ha hb
theorem neg_ (ha : PE X a (xa.t W)) : PE X (.UnaryOp .USub a pos) ((XE.neg xa).t W) := pe_un (ta := xa.t W) (r := rU fun i => .int (-i)) un_neg ha
theorem ix_ (ha : PE X a (xa.t W)) (hb : PE X b (xb.t W)) (hK : X.K = c.K := by rfl) (hs : PlainIx b := by exact fun _ _ => rfl) : PE X (.Subscript a b pos) ((XE.ix xa xb).t W) := by
  have h : IxR X (rIx c.K) := by rw [← hK]; exact ix_seq
  exact pe_ix h ha hb hs
theorem onone_ : PO X none ((XO.none (c := c)).t W) := po_none
theorem osome_ (h : PE X e (xa.t W)) : PO X (some e) ((XO.some xa).t W) := po_some h
theorem sl_ {lo hi : Option Expr} {xl xh : XO c} (ha : PE X a (xa.t W)) (hl : PO X lo (xl.t W)) (hh : PO X hi (xh.t W)) (hK : X.K = c.K := by rfl) : PE X (.Subscript a (.Slice lo hi none p2) pos) ((XE.sl xa xl xh).t W) := by
  have h : SlR X (rSlAll c) := by
    have h1 := sl_list (X := X)
    have h2 := sl_tupA (X := X)
    rw [hK] at h1 h2
    exact h1.or h2
  exact pe_slice h ha hl hh
theorem lst_ (h : PA X es (xs.t W)) : PE X (.List es pos) ((XE.lst xs).t W) := pe_lst h
theorem tup_ {k : Nat} (h : PA X es (xs.t W)) : PE X (.Tuple es k pos) ((XE.tup xs).t W) := pe_tup h
theorem ite_ {t : Expr} (ht : PT X t (ta.t W)) (ha : PE X a (xa.t W)) (hb : PE X b (xb.t W)) : PE X (.IfExp t a b pos) ((XE.ite ta xa xb).t W) := pe_ifExp ht ha hb
-- comparisons as values, as tests
section
variable (ha : PE X a (xa.t W)) (hb : PE X b (xb.t W))
include ha hb
theorem lt_ : PE X (.Compare a [.Lt] [b] pos) ((XE.lt xa xb).t W) := pe_cmpR op_lt ha hb (nomark _)
theorem le_ : PE X (.Compare a [.LtE] [b] pos) ((XE.le xa xb).t W) := pe_cmpR op_le ha hb (nomark _)
theorem gt_ : PE X (.Compare a [.Gt] [b] pos) ((XE.gt xa xb).t W) := pe_cmpR op_gt ha hb (nomark _)
theorem ge_ : PE X (.Compare a [.GtE] [b] pos) ((XE.ge xa xb).t W) := pe_cmpR op_ge ha hb (nomark _)
theorem isN_ : PE X (.Compare a [.Is] [b] pos) ((XE.isN xa xb).t W) := pe_cmpR op_isN ha hb (nomark _)
theorem notN_ : PE X (.Compare a [.IsNot] [b] pos) ((XE.notN xa xb).t W) := pe_cmpR op_notN ha hb (nomark _)
theorem eq_ (hu : X.A.units + 64 < cLine) (hK : X.K = c.K := by rfl) : PE X (.Compare a [.Eq] [b] pos) ((XE.eq xa xb).t W) := by
  have h := op_eq.or (op_eqD (X := X) hu)
  rw [hK] at h
  exact pe_cmpR h ha hb (nomark _)
theorem ne_ (hu : X.A.units + 64 < cLine) (hK : X.K = c.K := by rfl) : PE X (.Compare a [.NotEq] [b] pos) ((XE.ne xa xb).t W) := by
  have h := op_ne.or (op_neD (X := X) hu)
  rw [hK] at h
  exact pe_cmpR h ha hb (nomark _)
theorem ltT_ : PT X (.Compare a [.Lt] [b] pos) ((XT.test (XE.lt xa xb)).t W) := pt_cmpR op_lt ha hb (nomark _)
theorem leT_ : PT X (.Compare a [.LtE] [b] pos) ((XT.test (XE.le xa xb)).t W) := pt_cmpR op_le ha hb (nomark _)
theorem gtT_ : PT X (.Compare a [.Gt] [b] pos) ((XT.test (XE.gt xa xb)).t W) := pt_cmpR op_gt ha hb (nomark _)
theorem geT_ : PT X (.Compare a [.GtE] [b] pos) ((XT.test (XE.ge xa xb)).t W) := pt_cmpR op_ge ha hb (nomark _)
theorem isNT_ : PT X (.Compare a [.Is] [b] pos) ((XT.test (XE.isN xa xb)).t W) := pt_cmpR op_isN ha hb (nomark _)
theorem notNT_ : PT X (.Compare a [.IsNot] [b] pos) ((XT.test (XE.notN xa xb)).t W) := pt_cmpR op_notN ha hb (nomark _)
theorem eqT_ (hu : X.A.units + 64 < cLine) (hK : X.K = c.K := by rfl) : PT X (.Compare a [.Eq] [b] pos) ((XT.test (XE.eq xa xb)).t W) := by
  have h := op_eq.or (op_eqD (X := X) hu)
  rw [hK] at h
  exact pt_cmpR h ha hb (nomark _)
theorem neT_ (hu : X.A.units + 64 < cLine) (hK : X.K = c.K := by rfl) : PT X (.Compare a [.NotEq] [b] pos) ((XT.test (XE.ne xa xb)).t W) := by
  have h := op_ne.or (op_neD (X := X) hu)
  rw [hK] at h
  exact pt_cmpR h ha hb (nomark _)
end
section
variable {op op' : CmpOp} {r r' : R2} {g g' : D → D → Option D} {hr : DoA2 c r g} {hr' : DoA2 c r' g'}
theorem chn_ (ho : OpR X (compareOp op) r) (ho' : OpR X (compareOp op') r') (ha : PE X a (xa.t W)) (hb : PE X b (xb.t W)) (hc : PE X e (xc.t W)) (hm : lastMarks [op, op'] [b, e] = false := by with_unfolding_all rfl) :
    PE X (.Compare a [op, op'] [b, e] pos) ((XE.chn r g hr r' g' hr' xa xb xc).t W) := pe_chain ho ho' ha hb hc hm
theorem chnT_ (ho : OpR X (compareOp op) r) (ho' : OpR X (compareOp op') r') (ha : PE X a (xa.t W)) (hb : PE X b (xb.t W)) (hc : PE X e (xc.t W)) (hm : lastMarks [op, op'] [b, e] = false := by with_unfolding_all rfl) :
    PT X (.Compare a [op, op'] [b, e] pos) ((XT.test (XE.chn r g hr r' g' hr' xa xb xc)).t W) := pt_chain ho ho' ha hb hc hm
end
theorem tru_ (ha : PE X a (xa.t W)) (hK : X.K = c.K := by rfl) (he : ∀ whole, isTrue a X.env whole = (do let v ← whole; standAt a.pos; holding [v] (truthy v)) := by exact fun _ => rfl) : PT X a ((XT.tru xa).t W) := by
  have h := pt_truth ha he
  rw [hK] at h
  exact h
theorem notT_ (ha : PT X a (ta.t W)) : PT X (.UnaryOp .Not a pos) ((XT.not ta).t W) := pt_not ha
theorem and1_ (ha : PT X a (ta.t W)) : PW X (.BoolOp .And [a] pos) (ta.t W) := pw_and1 ha
theorem and2_ {rest : List Expr} (ha : PT X a (ta.t W)) (hb : PW X (.BoolOp .And (b :: rest) pos) (tb.t W)) : PW X (.BoolOp .And (a :: b :: rest) pos) ((XT.and ta tb).t W) := pw_and ha hb
theorem or1_ (ha : PT X a (ta.t W)) : PW X (.BoolOp .Or [a] pos) (ta.t W) := pw_or1 ha
theorem or2_ {rest : List Expr} (ha : PT X a (ta.t W)) (hb : PW X (.BoolOp .Or (b :: rest) pos) (tb.t W)) : PW X (.BoolOp .Or (a :: b :: rest) pos) ((XT.or ta tb).t W) := pw_or ha hb
theorem notV_ (ha : PE X a (xa.t W)) : PE X (.UnaryOp .Not a pos) ((XE.not xa).t W) := pe_not ha
theorem one_ {op : BoolOp} (ha : PE X a (xa.t W)) : PE X (.BoolOp op [a] pos) (xa.t W) := pe_one ha
theorem andV_ {rest : List Expr} (ha : PE X a (xa.t W)) (hb : PE X (.BoolOp .And (b :: rest) pos) (xb.t W)) : PE X (.BoolOp .And (a :: b :: rest) pos) ((XE.and xa xb).t W) := pe_and ha hb
theorem orV_ {rest : List Expr} (ha : PE X a (xa.t W)) (hb : PE X (.BoolOp .Or (b :: rest) pos) (xb.t W)) : PE X (.BoolOp .Or (a :: b :: rest) pos) ((XE.or xa xb).t W) := pe_or ha hb
-- built-ins
section
variable (ha : PA X (e :: es) (xs.t W)) (he : starEach (e :: es) X.env = (false, eval e X.env) :: starEach es X.env) (hpl : (backTo pos (starEach es X.env)).any (·.1) = false)
theorem len_ (hm : X.mg "len" = none) (ha : PA X (e :: es) (xs.t W)) (hK : X.K = c.K := by rfl) (hg : Gl X "len" := by rfl) (he : starEach (e :: es) X.env = (false, eval e X.env) :: starEach es X.env := by rfl) (hpl : (backTo pos (starEach es X.env)).any (·.1) = false := by rfl) :
    PE X (.Call (.Name "len" p) (e :: es) [] pos) ((XE.len xs).t W) := by
  have h := call_len (X := X)
  rw [hK] at h
  exact pe_callB h hg hm PySem.boot_len ha (by decide) (by decide) he hpl
theorem list_ (hm : X.mg "list" = none) (ha : PA X (e :: es) (xs.t W)) (hK : X.K = c.K := by rfl) (hg : Gl X "list" := by rfl) (he : starEach (e :: es) X.env = (false, eval e X.env) :: starEach es X.env := by rfl) (hpl : (backTo pos (starEach es X.env)).any (·.1) = false := by rfl) :
    PE X (.Call (.Name "list" p) (e :: es) [] pos) ((XE.list xs).t W) := by
  have h := call_list_of (X := X)
  rw [hK] at h
  exact pe_callTy h hg hm PyProof.Rows.boot_list ha (by decide) (by decide) he hpl
theorem tuple_ (hm : X.mg "tuple" = none) (ha : PA X (e :: es) (xs.t W)) (hK : X.K = c.K := by rfl) (hg : Gl X "tuple" := by rfl) (he : starEach (e :: es) X.env = (false, eval e X.env) :: starEach es X.env := by rfl) (hpl : (backTo pos (starEach es X.env)).any (·.1) = false := by rfl) :
    PE X (.Call (.Name "tuple" p) (e :: es) [] pos) ((XE.tuple xs).t W) := by
  have h := call_tuple_of (X := X)
  rw [hK] at h
  exact pe_callTy h hg hm PyProof.Rows.boot_tuple ha (by decide) (by decide) he hpl
theorem boot_all_ : bootBuiltins "all" = some (.builtin "all") := by decide +kernel
theorem boot_any_ : bootBuiltins "any" = some (.builtin "any") := by decide +kernel
theorem all_ (hm : X.mg "all" = none) (ha : PA X (e :: es) (xs.t W)) (hK : X.K = c.K := by rfl) (hc : X.calm = true := by rfl) (hg : Gl X "all" := by rfl) (he : starEach (e :: es) X.env = (false, eval e X.env) :: starEach es X.env := by rfl) (hpl : (backTo pos (starEach es X.env)).any (·.1) = false := by rfl) :
    PE X (.Call (.Name "all" p) (e :: es) [] pos) ((XE.all xs).t W) := by
  have h := cr_all (X := X) hc
  rw [hK] at h
  exact pe_callB h hg hm boot_all_ ha (by decide) (by decide) he hpl
theorem any_ (hm : X.mg "any" = none) (ha : PA X (e :: es) (xs.t W)) (hK : X.K = c.K := by rfl) (hc : X.calm = true := by rfl) (hg : Gl X "any" := by rfl) (he : starEach (e :: es) X.env = (false, eval e X.env) :: starEach es X.env := by rfl) (hpl : (backTo pos (starEach es X.env)).any (·.1) = false := by rfl) :
    PE X (.Call (.Name "any" p) (e :: es) [] pos) ((XE.any xs).t W) := by
  have h := cr_any (X := X) hc
  rw [hK] at h
  exact pe_callB h hg hm boot_any_ ha (by decide) (by decide) he hpl
theorem sum_ (hm : X.mg "sum" = none) (ha : PA X (e :: es) (xs.t W)) (hK : X.K = c.K := by rfl) (hc : X.calm = true := by rfl) (hg : Gl X "sum" := by rfl) (he : starEach (e :: es) X.env = (false, eval e X.env) :: starEach es X.env := by rfl) (hpl : (backTo pos (starEach es X.env)).any (·.1) = false := by rfl) :
    PE X (.Call (.Name "sum" p) (e :: es) [] pos) ((XE.sum xs).t W) := by
  have h := cr_sum (X := X) hc
  rw [hK] at h
  exact pe_callB h hg hm PyProof.Rows.boot_sum ha (by decide) (by decide) he hpl
theorem max2_ (hm : X.mg "max" = none) (ha : PA X (e :: es) (xs.t W)) (hc : X.calm = true := by rfl) (hg : Gl X "max" := by rfl) (he : starEach (e :: es) X.env = (false, eval e X.env) :: starEach es X.env := by rfl) (hpl : (backTo pos (starEach es X.env)).any (·.1) = false := by rfl) :
    PE X (.Call (.Name "max" p) (e :: es) [] pos) ((XE.max2 xs).t W) := pe_callB (call_max2 hc) hg hm PyProof.Rows.boot_max ha (by decide) (by decide) he hpl
theorem min2_ (hm : X.mg "min" = none) (ha : PA X (e :: es) (xs.t W)) (hc : X.calm = true := by rfl) (hg : Gl X "min" := by rfl) (he : starEach (e :: es) X.env = (false, eval e X.env) :: starEach es X.env := by rfl) (hpl : (backTo pos (starEach es X.env)).any (·.1) = false := by rfl) :
    PE X (.Call (.Name "min" p) (e :: es) [] pos) ((XE.min2 xs).t W) := pe_callB (call_min2 hc) hg hm PyProof.Rows.boot_min ha (by decide) (by decide) he hpl
theorem toInt_ (hm : X.mg "int" = none) (ha : PA X (e :: es) (xs.t W)) (hg : Gl X "int" := by rfl) (he : starEach (e :: es) X.env = (false, eval e X.env) :: starEach es X.env := by rfl) (hpl : (backTo pos (starEach es X.env)).any (·.1) = false := by rfl) :
    PE X (.Call (.Name "int" p) (e :: es) [] pos) ((XE.toInt xs).t W) := pe_callTy call_int1 hg hm PyProof.Rows.boot_int ha (by decide) (by decide) he hpl
theorem isi_ (hm : X.mg "isinstance" = none) (ha : PA X (e :: es) (xs.t W)) (hK : X.K = c.K := by rfl) (hg : Gl X "isinstance" := by rfl) (he : starEach (e :: es) X.env = (false, eval e X.env) :: starEach es X.env := by rfl) (hpl : (backTo pos (starEach es X.env)).any (·.1) = false := by rfl) :
    PE X (.Call (.Name "isinstance" p) (e :: es) [] pos) ((XE.isi xs).t W) := by
  have h1 := call_isi (X := X)
  have h2 := call_isiT (X := X)
  rw [hK] at h1 h2
  exact pe_callB (h1.or h2) hg hm PyProof.Rows.boot_isinstance ha (by decide) (by decide) he hpl
end
/-- a def of the text, as callers know it -/
structure Dok (c : Cf) (P : Program) (w : World) (mg : Str → Option Value) (base : Heap) (x : Str) (ps : List Str) (k : Nat) (F : Fn) : Prop where
  fn : ∃ fd, FnG P w c.K mg base k (c.A x) fd ps (spD c F) ∧ Binds c.K fd ps []
  gl : mg x = some (.ref (c.A x))
  kp : PySem.W.keepIn c.K (.ref (c.A x)) = true
/-- the callee runs -/
theorem run_g {k : Nat} {f : Addr} {fd : FuncData} {ps : List Str} {sp : Sp} {E : XK} {Q : VK} {pins : List (Addr × Obj)} {σ : L2.St} {H : Hp} {s : Shared} {us : List Value} {vs : List V} (G : FnG X.prog X.w X.K X.mg X.base k f fd ps sp) (hr : Rm k X.A)
    (hb : Binds X.K fd ps []) (hx : PassesAt (L2.CX X.prog X.w) X σ E) (I : Inv X pins σ H s) (rv : Vals vs us) (h : sp vs H Q E) : wpAny (model X.prog X.w) X.A (PySem.call (.ref f) us) (EP X pins σ Q) X.xe s := by
  have ln : (us ++ []).length = ps.length := by rw [List.append_nil, ← rv.length, G.len _ _ _ _ h]
  have bt := hb s us I.kIn ln
  rw [List.append_nil] at bt
  have run := G.run X.A X.stack s H _ _ vs Q E hr I.env0 bt rv h
  refine wpAny_call (codeAny_mono run fun out z done => ?_)
  match out, done with
  | .error _, done => exact hx _ _ _ _ _ I done
  | .ok (.ret _), done => exact I.after done
theorem pe_callG {k : Nat} {x : Str} {f : Addr} {fd : FuncData} {ps : List Str} {sp : Sp} {E : L2.St → XK} {ta : TA} (G : FnG X.prog X.w X.K X.mg X.base k f fd ps sp) (hr : Rm k X.A) (gx : Gl X x) (mx : X.mg x = some (.ref f)) (kp : PySem.W.keepIn X.K (.ref f) = true)
    (hb : Binds X.K fd ps []) (hx : ∀ σ, PassesAt (L2.CX X.prog X.w) X σ (E σ)) (pa : PA X (e :: es) ta) (nd : (x == ("__debug__" : Str)) = false := by decide) (s1 : starEach (e :: es) X.env = (false, eval e X.env) :: starEach es X.env := by rfl)
    (s2 : (backTo pos (starEach es X.env)).any (·.1) = false := by rfl) : PE X (.Call (.Name x p) (e :: es) [] pos) (tCallS sp E ta) := by
  constructor
  intro pins s σ H Q I h
  apply wpAny_Call_Name_kw
  apply ld_glob I gx mx _ nd
  have args := pa.run pos pins s σ H _ I h
  refine PySem.W.callWith_K (h₀ := X.base) I.ok.mod.kin kp (thn args ?_) s1 s2
  rintro us s' ⟨vs, H', I', rv, q⟩
  exact ⟨I'.kIn, run_g G hr hb (hx σ) I' rv q⟩
theorem pe_callG0 {k : Nat} {x : Str} {f : Addr} {fd : FuncData} {ps : List Str} {sp : Sp} {E : L2.St → XK} (G : FnG X.prog X.w X.K X.mg X.base k f fd ps sp) (hr : Rm k X.A) (gx : Gl X x) (mx : X.mg x = some (.ref f)) (kp : PySem.W.keepIn X.K (.ref f) = true)
    (hb : Binds X.K fd ps []) (hx : ∀ σ, PassesAt (L2.CX X.prog X.w) X σ (E σ)) (nd : (x == ("__debug__" : Str)) = false := by decide) : PE X (.Call (.Name x p) [] [] pos) (tCallS sp E tNil) := by
  constructor
  intro pins s σ H Q I h
  apply wpAny_Call_Name_kw
  apply ld_glob I gx mx _ nd
  exact PySem.W.callWith_K0 I.kIn kp (run_g (us := []) (vs := []) G hr hb (hx σ) I .nil h)
theorem call_ {x : Str} {ps : List Str} {k : Nat} {F : Fn} (O : Dok c X.prog X.w X.mg X.base x ps k F) (hr : Rm k X.A) (tk : Takes X W) (ha : PA X (e :: es) (xs.t W)) (hK : X.K = c.K := by rfl) (hg : Gl X x := by rfl)
    (hd : (x == ("__debug__" : Str)) = false := by decide) (he : starEach (e :: es) X.env = (false, eval e X.env) :: starEach es X.env := by rfl) (hpl : (backTo pos (starEach es X.env)).any (·.1) = false := by rfl) :
    PE X (.Call (.Name x p) (e :: es) [] pos) ((XE.call F xs).t W) := by
  obtain ⟨fd, f1, f2⟩ := O.fn
  have kp := O.kp
  rw [← hK] at f1 f2 kp
  exact pe_callG f1 hr hg O.gl kp f2 (fun σ => passAt tk σ) ha hd he hpl
theorem call0_ {x : Str} {ps : List Str} {k : Nat} {F : Fn} (O : Dok c X.prog X.w X.mg X.base x ps k F) (hr : Rm k X.A) (tk : Takes X W) (hK : X.K = c.K := by rfl) (hg : Gl X x := by rfl)
    (hd : (x == ("__debug__" : Str)) = false := by decide) : PE X (.Call (.Name x p) [] [] pos) ((XE.call F (XA.nil (c := c))).t W) := by
  obtain ⟨fd, f1, f2⟩ := O.fn
  have kp := O.kp
  rw [← hK] at f1 f2 kp
  exact pe_callG0 f1 hr hg O.gl kp f2 (fun σ => passAt tk σ) hd
-- what is walked
variable {tg : Expr}
theorem seq_ (ha : PE X a (xa.t W)) (hK : X.K = c.K := by rfl) : PI X tg a ((XI.seq xa).t W) := by
  have h := pi_seq (tg := tg) ha
  rw [hK] at h
  exact h
theorem rng1_ (hm : X.mg "range" = none) (ha : PA X [a] (xs.t W)) (hg : Gl X "range" := by rfl) (hs : starEach [a] X.env = [(false, eval a X.env)] := by rfl) : PI X tg (.Call (.Name "range" p) [a] [] pos) ((XI.rng1 xs).t W) := pi_range1 hg hm ha hs
theorem rng2_ (hm : X.mg "range" = none) (ha : PA X [a, b] (xs.t W)) (hg : Gl X "range" := by rfl) (hs : starEach [a, b] X.env = [(false, eval a X.env), (false, eval b X.env)] := by rfl) (hs2 : starEach [b] X.env = [(false, eval b X.env)] := by rfl) : PI X tg (.Call (.Name "range" p) [a, b] [] pos) ((XI.rng2 xs).t W) := pi_range2 hg hm ha hs hs2
end
end Ly

end
section
set_option Elab.async false
set_option linter.all false
set_option maxRecDepth 100000
set_option maxHeartbeats 4000000
namespace Ly
open PySem L2 PySem.Spec PyProof.Rows
section
variable {c : Cf} {X : Cx} {W : WX} {e a b tg : Expr} {es : List Expr} {pos p p1 p2 : Pos} {xa xb : XE c} {ta tb : XT c} {xs : XA c} {st : Stmt} {rest sts : List Stmt} {sa sb : XS c}
-- targets
theorem gn_ (i : Nat) {x : Str} (hN : X.N.Nodup) (hi : X.N[i]? = some x := by rfl) (hx : Loc X.env.scope x := by first | exact Or.inl rfl | exact Or.inr rfl) (hf : X.fn x = true ∨ X.env.scope.names.lookup x = some .local := by first | exact .inl rfl | exact .inr rfl) :
    PG X (.Name x pos) ((XG.name (c := c) i).t) := pg_name hN hi hx hf
theorem gnil_ : PGs X [] ((XGs.nil (c := c)).t) := pgs_nil
theorem gcons_ {g : XG c} {gs : XGs c} (h1 : PG X e g.t) (h2 : PGs X es gs.t) (hs : (assignEach (e :: es) X.env).map (·.2) = assign e X.env :: (assignEach es X.env).map (·.2) := by rfl) : PGs X (e :: es) ((XGs.cons g gs).t) := pgs_cons h1 h2 hs
theorem pg_or {t t' : TG} (h : PG X tg t) (h' : PG X tg t') : PG X tg (fun v σ H Q => t v σ H Q ∨ t' v σ H Q) :=
  ⟨fun pins s σ H v u Q I r q => q.elim (h.run pins s σ H v u Q I r) (h'.run pins s σ H v u Q I r)⟩
theorem gseq_ {gs : XGs c} {k : Nat} (h : PGs X es gs.t) (hc : X.calm = true := by rfl) (hK : X.K = c.K := by rfl) (hn : (assignEach es X.env).length = gs.n := by rfl) (hst : (assignEach es X.env).findIdx? (·.1) = none := by rfl) :
    PG X (.Tuple es k pos) ((XG.seq gs).t) := by
  have h1 := pg_tup (pos := pos) (k := k) hc h hn hst
  have h2 := pg_lst (pos := pos) (k := k) hc h hn hst
  rw [hK] at h1 h2
  exact pg_or h1 h2
theorem gtup_ {gs : XGs c} {k : Nat} (h : PGs X es gs.t) (hc : X.calm = true := by rfl) (hK : X.K = c.K := by rfl) (hn : (assignEach es X.env).length = gs.n := by rfl) (hst : (assignEach es X.env).findIdx? (·.1) = none := by rfl) :
    PG X (.Tuple es k pos) ((XG.tup gs).t) := by
  have h1 := pg_tup (pos := pos) (k := k) hc h hn hst
  rw [hK] at h1
  exact h1
-- blocks
theorem snil_ : PSs X [] ((XS.pass (c := c)).t W) := pss_nil
theorem scons_ (h1 : PS X st (sa.t W)) (h2 : PSs X rest (sb.t W)) : PSs X (st :: rest) ((XS.seq sa sb).t W) := pss_cons (t := sa.t W) (u := sb.t W) h1 h2
theorem sone_ (h1 : PS X st (sa.t W)) : PSs X [st] (sa.t W) := pss_one h1
theorem pass_ : PS X (.Pass pos) ((XS.pass (c := c)).t W) := ps_pass
theorem break_ : PS X (.Break pos) ((XS.brk (c := c)).t W) := ps_break
theorem continue_ : PS X (.Continue pos) ((XS.cont (c := c)).t W) := ps_continue
theorem if_ {fv : List Nat} {t : Expr} {x y : List Stmt} (ht : PT X t (ta.t W)) (ha : PSs X x (sa.t W)) (hb : PSs X y (sb.t W)) : PS X (.If t x y pos) ((XS.ite fv ta sa sb).t W) := ps_if ht ha hb
theorem ret_ {fv : List Nat} (h : PE X e (xa.t W)) : PS X (.Return (some e) pos) ((XS.ret fv xa).t W) := ps_ret h
theorem retV_ (i : Nat) {x : Str} (hN : X.N[i]? = some x := by rfl) (hv : Vis X.env.scope x := by first | exact Or.inl rfl | exact Or.inr (Or.inl rfl) | exact Or.inr (Or.inr rfl)) (hd : (x == ("__debug__" : Str)) = false := by decide)
    (hcd : (x == ("__classdict__" : Str)) = false := by decide) : PS X (.Return (some (.Name x p)) pos) ((XS.retV (c := c) i).t W) := ps_ret (pe_var hN hv hd hcd)
theorem retN_ : PS X (.Return none pos) ((XS.retN (c := c)).t W) := ps_retN
theorem drop_ {fv : List Nat} (h : PE X e (xa.t W)) (hs : swapsWith e none pos.line X.env = pure false := by rfl) : PS X (.Expr e pos) ((XS.drop fv xa).t W) := ps_expr h hs
theorem asg_ {fv : List Nat} {g : XG c} (he : PE X e (xa.t W)) (hg : PG X tg g.t) (hs : swapsWithSole [tg] e pos.line X.env = pure false := by rfl) (hw : swappedStores [tg] e X.env = pure none := by rfl)
    (h1 : (assignEach [tg] X.env).map (·.2) = [assign tg X.env] := by rfl) : PS X (.Assign [tg] e pos) ((XS.asg fv xa g).t W) := ps_asg he hg hs hw h1
theorem par_ {fv : List Nat} {i j : Nat} {x y : Str} {px py pt : Pos} {kt k2 : Nat} {pt2 : Pos} (hN : X.N.Nodup) (h : PA X [a, b] (xs.t W)) (hc : X.calm = true := by rfl) (hi : X.N[i]? = some x := by rfl) (hj : X.N[j]? = some y := by rfl) (hij : i ≠ j := by decide)
    (hx : List.lookup x X.env.scope.names = some .local := by rfl) (hy : List.lookup y X.env.scope.names = some .local := by rfl)
    (hs : swappedStores [.Tuple [.Name x px, .Name y py] kt pt] (.Tuple [a, b] k2 pt2) X.env = pure (some [x, y]) := by rfl) (hw : swapsWithSole [.Tuple [.Name x px, .Name y py] kt pt] (.Tuple [a, b] k2 pt2) pos.line X.env = pure false := by rfl) :
    PS X (.Assign [.Tuple [.Name x px, .Name y py] kt pt] (.Tuple [a, b] k2 pt2) pos) ((XS.par i j fv xs).t W) := ps_par hc hN hi hj hij hx hy h hs hw
theorem augA_ {fv : List Nat} {i : Nat} {x : Str} {pos' : Pos} (hN : X.N.Nodup) (he : PE X e (xa.t W)) (hi : X.N[i]? = some x := by rfl) (hx : Loc X.env.scope x := by first | exact Or.inl rfl | exact Or.inr rfl) (hf : X.fn x = true ∨ X.env.scope.names.lookup x = some .local := by first | exact .inl rfl | exact .inr rfl) :
    PS X (.AugAssign (.Name x pos') .Add e pos) ((XS.aug i fv xa fun i j => i + j).t W) := ps_aug hN hi hx he ip_add hf
theorem augS_ {fv : List Nat} {i : Nat} {x : Str} {pos' : Pos} (hN : X.N.Nodup) (he : PE X e (xa.t W)) (hi : X.N[i]? = some x := by rfl) (hx : Loc X.env.scope x := by first | exact Or.inl rfl | exact Or.inr rfl) (hf : X.fn x = true ∨ X.env.scope.names.lookup x = some .local := by first | exact .inl rfl | exact .inr rfl) :
    PS X (.AugAssign (.Name x pos') .Sub e pos) ((XS.aug i fv xa fun i j => i - j).t W) := ps_aug hN hi hx he ip_sub hf
section
variable {fv : List Nat} {x : Str} {p3 p4 : Pos}
/-- x.append(e), x.extend(e) -/
theorem app_ (i : Nat) (he : PE X e (xa.t W)) (hN : X.N[i]? = some x := by rfl) (hv : Vis X.env.scope x := by first | exact Or.inl rfl | exact Or.inr (Or.inl rfl) | exact Or.inr (Or.inr rfl)) (hd : (x == ("__debug__" : Str)) = false := by decide)
    (hcd : (x == ("__classdict__" : Str)) = false := by decide) (hK : X.K = c.K := by rfl)
    (h1 : attributeBase (.Name x p1) "append" X.env (eval (.Name x p1) X.env) = eval (.Name x p1) X.env := by rfl)
    (h2 : (((backTo p3 (starEach [e] X.env)).all fun x => !x.1) && ((backToKw p3 (keywordEach [] X.env)).all fun x => x.1.isSome) && decide ((([e] : List Expr).length + ([] : List Keyword).length + if ([] : List Keyword).isEmpty then 0 else 1) < 30)) = true := by rfl)
    (h3 : (p2.endLine == p3.line) = true := by rfl) (h4 : starEach [e] X.env = (false, eval e X.env) :: starEach [] X.env := by rfl) (h5 : (backTo p3 (starEach [] X.env)).any (·.1) = false := by rfl)
    (h6 : swapsWith (.Call (.Attribute (.Name x p1) "append" p2) [e] [] p3) none p4.line X.env = pure false := by rfl) :
    PS X (.Expr (.Call (.Attribute (.Name x p1) "append" p2) [e] [] p3) p4) ((XS.app i fv xa).t W) := by
  have h := pe_bm PySem.F.plainAttrs_list PySem.F.slot_list_append PySem.F.type_list_append mt_append (pe_var (pos := p1) hN hv hd hcd) (pa_cons he pa_nil h4) h1 h2 h3 h4 h5
  rw [hK] at h
  exact ps_expr h h6
theorem ext_ (i : Nat) (he : PE X e (xa.t W)) (hN : X.N[i]? = some x := by rfl) (hv : Vis X.env.scope x := by first | exact Or.inl rfl | exact Or.inr (Or.inl rfl) | exact Or.inr (Or.inr rfl)) (hd : (x == ("__debug__" : Str)) = false := by decide)
    (hcd : (x == ("__classdict__" : Str)) = false := by decide) (hK : X.K = c.K := by rfl)
    (h1 : attributeBase (.Name x p1) "extend" X.env (eval (.Name x p1) X.env) = eval (.Name x p1) X.env := by rfl)
    (h2 : (((backTo p3 (starEach [e] X.env)).all fun x => !x.1) && ((backToKw p3 (keywordEach [] X.env)).all fun x => x.1.isSome) && decide ((([e] : List Expr).length + ([] : List Keyword).length + if ([] : List Keyword).isEmpty then 0 else 1) < 30)) = true := by rfl)
    (h3 : (p2.endLine == p3.line) = true := by rfl) (h4 : starEach [e] X.env = (false, eval e X.env) :: starEach [] X.env := by rfl) (h5 : (backTo p3 (starEach [] X.env)).any (·.1) = false := by rfl)
    (h6 : swapsWith (.Call (.Attribute (.Name x p1) "extend" p2) [e] [] p3) none p4.line X.env = pure false := by rfl) :
    PS X (.Expr (.Call (.Attribute (.Name x p1) "extend" p2) [e] [] p3) p4) ((XS.ext i fv xa).t W) := by
  have h := pe_bm PySem.F.plainAttrs_list PySem.F.slot_list_extend PySem.F.type_list_extend mt_extend (pe_var (pos := p1) hN hv hd hcd) (pa_cons he pa_nil h4) h1 h2 h3 h4 h5
  rw [hK] at h
  exact ps_expr h h6
/-- x[k] = e -/
theorem setI_ (i : Nat) {k : Expr} {xn : XN} (he : PE X e (xa.t W)) (hg : PG X (.Subscript (.Name x p1) k p2) (L2.gSub (tVar i) xn.t rSetL))
    (hs : swapsWithSole [.Subscript (.Name x p1) k p2] e p3.line X.env = pure false := by rfl) (hw : swappedStores [.Subscript (.Name x p1) k p2] e X.env = pure none := by rfl)
    (h1 : (assignEach [.Subscript (.Name x p1) k p2] X.env).map (·.2) = [assign (.Subscript (.Name x p1) k p2) X.env] := by rfl) :
    PS X (.Assign [.Subscript (.Name x p1) k p2] e p3) ((XS.setI i fv xa xn).t W) := ps_asg he hg hs hw h1
theorem xn_con {i : Int} {j : Nat} : PE X (.Constant (.int i) j pos) (XN.con i).t := pe_int
theorem xn_neg {i : Int} {j : Nat} : PE X (.UnaryOp .USub (.Constant (.int i) j p1) pos) (XN.neg i).t := pe_un (ta := tC (.int i)) (r := rU fun i => .int (-i)) un_neg pe_int
theorem xn_var (i : Nat) (hN : X.N[i]? = some x := by rfl) (hv : Vis X.env.scope x := by first | exact Or.inl rfl | exact Or.inr (Or.inl rfl) | exact Or.inr (Or.inr rfl)) (hd : (x == ("__debug__" : Str)) = false := by decide)
    (hcd : (x == ("__classdict__" : Str)) = false := by decide) : PE X (.Name x pos) (XN.var i).t := pe_var hN hv hd hcd
end
/-- loops -/
theorem for_ {fv : List Nat} {it : XI c} {g : XG c} {iter : Expr} {body : List Stmt} (hi : PI X tg iter (it.t W)) (hg : PG X tg g.t) (hb : PSs X body (sa.t W)) (hp : PassesOwn (model X.prog X.w) X.A X.env X.xe := by exact passes_of rfl) (hc : X.calm = true := by rfl)
    (hf : ∀ x, foldedSetIterable iter X.env x = pure x := by exact fun _ => rfl) : PS X (.For tg iter body [] pos) ((XS.for fv it g sa).t W) := ps_for hp hc hi hg hb hf
theorem while_ {fv : List Nat} (n : Nat) {t : Expr} {body : List Stmt} (ht : PT X t (ta.t W)) (hb : PSs X body (sa.t W)) (hp : PassesOwn (model X.prog X.w) X.A X.env X.xe := by exact passes_of rfl) : PS X (.While t body [] pos) ((XS.whl n fv ta sa).t W) := ps_while hp ht hb
/-- comprehensions -/
def XT.yes : XT c where
  t := fun _ => tYes
  ev := fun s _ => .ok true s
  ok := fun W σ B H Δ s e sm rd Q h => h B H (Stp.refl e List.nodup_nil) sm
theorem yes_ : PTs X [] ((XT.yes (c := c)).t W) := pts_nil
theorem ifs_ {t : Expr} (h : PT X t (ta.t W)) : PTs X [t] (ta.t W) := pts_one h
theorem comp_ {it : XI c} {g : XG c} {elt iter : Expr} {ifs : List Expr} {scope : Scope} (own : List (Str × Nat)) {hv : (g.sl.all fun i => (own.map (·.2)).contains i) = true} (hN : X.N.Nodup) (hi : PI X tg iter (it.t W)) (hk : BlkOk X.N X.env.scope scope own)
    (hg : ∀ (s : Shared) (H : Hp) (C : Addr) (cl : List (Str × Addr)) (fp : List Addr), PG (X.blk s H scope (compEnvC scope cl C X.env) fp) tg g.t)
    (ht : ∀ (s : Shared) (H : Hp) (C : Addr) (cl : List (Str × Addr)) (fp : List Addr), PTs (X.blk s H scope (compEnvC scope cl C X.env) fp) ifs (ta.t W0))
    (he : ∀ (s : Shared) (H : Hp) (C : Addr) (cl : List (Str × Addr)) (fp : List Addr), PE (X.blk s H scope (compEnvC scope cl C X.env) fp) elt (xa.t W0)) (hc : X.calm = true := by rfl)
    (hf : ∀ x, foldedSetIterable iter X.env x = pure x := by exact fun _ => rfl) : PE X (.ListComp elt [⟨tg, iter, ifs, 0⟩] scope pos) ((XE.comp it g ta xa (own.map (·.2)) hv).t W) := pe_lc hc hN hi hk hg ht he hf
/-- y = [..], y a local -/
theorem asgc_ {fv : List Nat} {i : Nat} {y : Str} {py : Pos} {it : XI c} {g : XG c} {elt iter : Expr} {ifs : List Expr} {scope : Scope} {spos : Pos} (own : List (Str × Nat)) {hv : (g.sl.all fun i => (own.map (·.2)).contains i) = true} (hN : X.N.Nodup) (hi : PI X tg iter (it.t W)) (hk : BlkOk X.N X.env.scope scope own)
    (hg : ∀ (s : Shared) (H : Hp) (C : Addr) (cl : List (Str × Addr)) (fp : List Addr), PG (X.blk s H scope (compEnvC scope cl C X.env) fp) tg g.t)
    (ht : ∀ (s : Shared) (H : Hp) (C : Addr) (cl : List (Str × Addr)) (fp : List Addr), PTs (X.blk s H scope (compEnvC scope cl C X.env) fp) ifs (ta.t W0))
    (he : ∀ (s : Shared) (H : Hp) (C : Addr) (cl : List (Str × Addr)) (fp : List Addr), PE (X.blk s H scope (compEnvC scope cl C X.env) fp) elt (xa.t W0)) (hy : X.N[i]? = some y := by rfl) (hyl : X.env.scope.names.lookup y = some .local := by rfl)
    (hsw : swapsWith (.ListComp elt [⟨tg, iter, ifs, 0⟩] scope pos) (some (.Name y py)) spos.line X.env = pure true := by exact sw_true rfl rfl rfl (by decide +kernel)) (hc : X.calm = true := by rfl)
    (hf : ∀ x, foldedSetIterable iter X.env x = pure x := by exact fun _ => rfl) : PS X (.Assign [.Name y py] (.ListComp elt [⟨tg, iter, ifs, 0⟩] scope pos) spos) ((XS.asg fv (XE.comp it g ta xa (own.map (·.2)) hv) (XG.name i)).t W) :=
  ps_setLc hc hN hy hyl hsw hi hk hg ht he hf
/-- raise C(e), C an own error of one field -/
structure Eok (c : Cf) (P : Program) (w : World) (mg : Str → Option Value) (base : Heap) (x f : Str) (j : Nat) : Prop where
  oe : OexC c.K (c.A x)
  fn : ∃ fI fd, PySem.W.findIn c.K (.ref (c.A x)) "__init__" = some (some (.ref fI)) ∧ PySem.W.typeIn c.K (.ref fI) = some (.type "function") ∧ FnOk P w c.K mg base (L2.CX P w) j fI fd ["self", f] (spX (c.A x) f) ∧ Binds c.K fd ["self", f] []
  gl : mg x = some (.ref (c.A x))
theorem raise_ {fv : List Nat} {k f : Str} {j : Nat} (O : Eok c X.prog X.w X.mg X.base k f j) (hr : Rm (j + 1) X.A) (tk : Takes X W) (he : PE X e (xa.t W)) (hc : X.calm = true := by rfl) (hK : X.K = c.K := by rfl) (hg : Gl X k := by rfl)
    (hd : (k == ("__debug__" : Str)) = false := by decide) (h4 : starEach [e] X.env = (false, eval e X.env) :: starEach [] X.env := by rfl) (h5 : (backTo p1 (starEach [] X.env)).any (·.1) = false := by rfl) :
    PS X (.Raise (some (.Call (.Name k p) [e] [] p1)) none pos) ((XS.raise1 k f fv xa).t W) := by
  obtain ⟨fI, fd, f1, f2, f3, f4⟩ := O.fn
  have oe := O.oe
  rw [← hK] at f1 f2 f3 f4 oe
  exact ps_raise hc tk (pmk_oex oe f1 f2 f3 hr.r f4 .nil passL hg O.gl (pa_cons he pa_nil h4) hd h4 h5)
end
end Ly

end
section
set_option Elab.async false
set_option linter.all false
set_option maxRecDepth 100000
set_option maxHeartbeats 4000000
namespace Ly
open PySem L2 PySem.Spec PyProof.Rows
/-! ### except clauses, with names and without, whose suites only return -/
structure Cl where
  c : Value
  n : Option Nat
  ts : Addr → Value → Option Addr → TS
def Cl.sl (q : Cl) (a : Addr) (σ : L2.St) : L2.St := match q.n with
  | none => σ
  | some i => σ.set i (some (.ref a))
def rEnds (rt : VK) : Ends := { nx := fun _ _ => False, rt := rt }
def wCl (K : PySem.W.Frag) (rt : VK) : List Cl → WX
  | [] => fun _ _ _ _ => False
  | q :: r => fun cls d σ H => ∃ b, PySem.W.exmOne K cls q.c = some b ∧ (b = true → ∀ a, H a = none → q.ts a cls d (rEnds rt) (q.sl a σ) H) ∧ (b = false → wCl K rt r cls d σ H)
/-- a suite's reading -/
def Sui (X : Cx) (l : List Stmt) (ts : Addr → Value → Option Addr → TS) : Prop :=
  ∀ (a : Addr) (oe : Obj) (cls : Value) (d : Option Addr) (pn : List (Addr × Obj)), Zc cls d oe → (∃ vs, oe.data = .fields vs) → PSs (X.suite a ((a, oe) :: pn)) l (ts a cls d)
inductive ClsOk (X : Cx) : List ExceptHandler → List Cl → Prop
  | nil : ClsOk X [] []
  | bare {x : Str} {v : Value} {ts : Addr → Value → Option Addr → TS} {s0 : Stmt} {ss : List Stmt} {p1 p2 : Pos} {hs : List ExceptHandler} {l : List Cl} (nm : Names X x v) (su : Sui X (s0 :: ss) ts) (r : ClsOk X hs l) :
      ClsOk X (.ExceptHandler (some (.Name x p1)) none (s0 :: ss) p2 :: hs) (⟨v, none, ts⟩ :: l)
  | named {x n : Str} {i : Nat} {v : Value} {ts : Addr → Value → Option Addr → TS} {s0 : Stmt} {ss : List Stmt} {p1 p2 : Pos} {hs : List ExceptHandler} {l : List Cl} (nm : Names X x v) (hi : X.N[i]? = some n) (hl : X.env.kindOf n = some .local) (su : Sui X (s0 :: ss) ts) (r : ClsOk X hs l) :
      ClsOk X (.ExceptHandler (some (.Name x p1)) (some n) (s0 :: ss) p2 :: hs) (⟨v, some i, ts⟩ :: l)
/-- what the handlers stand on: the exception a landed -/
structure Land (X : Cx) (pins : List (Addr × Obj)) (σ : L2.St) (H : Hp) (B : Heap) (a : Addr) (cls : Value) (d : Option Addr) (s : Shared) : Prop where
  fl : HandSPX.FlyingZ B (X.env :: X.outer) a (Zc cls d) s.heap
  inv : ∀ h, HandSPX.FlyingZ B (X.env :: X.outer) a (Zc cls d) h → s.heap.UpToSlots h → Inv X pins σ H { s with heap := h }
  nH : H a = none
section
variable {X : Cx} {pins : List (Addr × Obj)} {σ : L2.St} {H : Hp} {B : Heap} {a : Addr} {cls : Value} {d : Option Addr} {s : Shared} {D : Ends}
theorem Land.su (L : Land X pins σ H B a cls d s) {h : Heap} (fl : HandSPX.FlyingZ B (X.env :: X.outer) a (Zc cls d) h) (up : s.heap.UpToSlots h) (hf : X.env.frame = some X.env.locals) :
    ∃ oe, h.get? a = some oe ∧ Zc cls d oe ∧ (∃ vs, oe.data = .fields vs) ∧ Inv (X.suite a ((a, oe) :: (X.pn ++ pins))) [] σ H { s with heap := h } := by
  obtain ⟨oe, vs, g, z, e⟩ := fl.there
  have off : a ∉ frs (X.env :: X.outer) := fun m => by
    obtain ⟨_, o2, g2, n2⟩ := fl.2.2.1.mem m
    rw [g] at g2
    cases g2
    exact n2 _ e
  have offF : ∀ y, y ∈ X.env :: X.outer → ∀ k, y.frame = some k → a ≠ k := fun y m k q z => off (List.mem_filterMap.mpr ⟨y, m, by rw [q, z]⟩)
  refine ⟨oe, g, z, ⟨vs, e⟩, (L.inv h fl up).suite g e L.nH (offF _ List.mem_cons_self _ hf) fun m => ?_⟩
  obtain ⟨y, my, qy⟩ := List.mem_filterMap.mp m
  exact offF y (List.mem_cons_of_mem _ my) _ qy rfl
theorem clauses_run (ok : X.Ok) (hf : X.env.frame = some X.env.locals) (hN : X.N.Nodup) {hs : List ExceptHandler} {l : List Cl} (hk : ClsOk X hs l) : ∀ {s : Shared}, Land X pins σ H B a cls d s → wCl X.K D.rt l cls d σ H →
    wpAny (model X.prog X.w) X.A (handleBy (.ref a) X.env hs) (SP X pins D) X.xe s := by
  -- the test of a clause
  have test : ∀ {s : Shared} {x : Str} {v : Value} {p1 : Pos} {b : Bool} {Q : Bool → Shared → Prop} {E E2 : Value → Shared → Prop}, Land X pins σ H B a cls d s → Names X x v → PySem.W.exmOne X.K cls v = some b → Q b s →
      wpAny (model X.prog X.w) (X.A.mark (some (.ref a))) (eval (.Name x p1) X.env) (fun c s1 => wpAny (model X.prog X.w) (X.A.mark (some (.ref a))) (excMatches (.ref a) c) Q E s1) E2 s := by
    intro s x v p1 b Q E E2 L nm hb q
    obtain ⟨oe, g, z, _, S⟩ := L.su (h := s.heap) L.fl (fun b o e _ => ⟨o.slots, e⟩) hf
    have ty : PySem.W.Looks (model X.prog X.w) s.heap (typeOf (.ref a)) cls := fun _ _ _ _ k w => wpAny_typeOf_ref (k _ _ g) (by rw [z.1]; exact w)
    have hit := (PySem.W.exm_one (M := model X.prog X.w) S.kIn ty hb).here (A := X.A.mark (some (.ref a))) (E := E) q
    obtain ⟨g1, g2, g3⟩ := nm
    rcases g3 with m | ⟨m, m2, m3⟩
    · exact ld_glob (X := X.suite a ((a, oe) :: (X.pn ++ pins))) S g1 m hit g2
    · exact ld_blt (X := X.suite a ((a, oe) :: (X.pn ++ pins))) S g1 m m2 hit m3 g2
  induction hk with
  | nil => exact fun _ w => w.elim
  | @bare x v ts s0 ss p1 p2 hs l nm su r ih =>
    rintro s L ⟨b, hb, yes, no⟩
    refine wpAny_handleBy_cons (codeAny_handlers_test ?_) (by rintro ⟨⟩)
    refine test L nm hb ?_
    cases b with
    | false => exact ih L (no rfl)
    | true =>
      refine codeAny_handlers_suite (HandSPX.lands_againZ L.fl fun h fl up => ?_)
      obtain ⟨oe, _, z, dt, S⟩ := L.su fl up hf
      refine wpAny_mono ((su a oe cls d _ z dt).run [] _ σ H _ S (yes rfl a L.nH)) (fun f s6 out => ?_) fun _ _ z => z.elim
      match f, out with
      | .ret _, ⟨v6, _, _, S6, r6, q6⟩ => exact ⟨v6, _, _, S6.unsuite ok, r6, q6⟩
      | .next, ⟨_, _, _, q6⟩ => exact q6.elim
      | .brk, ⟨_, _, _, q6⟩ => exact q6.elim
      | .cont, ⟨_, _, _, q6⟩ => exact q6.elim
  | @named x n i v ts s0 ss p1 p2 hs l nm hi hl su r ih =>
    rintro s L ⟨b, hb, yes, no⟩
    refine wpAny_handleBy_cons (codeAny_handlers_test ?_) (by rintro ⟨⟩)
    refine test L nm hb ?_
    cases b with
    | false => exact ih L (no rfl)
    | true =>
      refine codeAny_handlers_suite_as (HandSPX.lands_againZ L.fl fun h fl up => ?_)
      obtain ⟨oe, _, z, dt, S⟩ := L.su fl up hf
      refine store_ok (X := X.suite a ((a, oe) :: (X.pn ++ pins))) (v := .ref a) S hN hi (.inl hl) rfl (fun s5 S5 => ?_) (.inr hl)
      refine wpAny_mono ((su a oe cls d _ z dt).run [] s5 _ H _ S5 (yes rfl a L.nH)) (fun f s6 out => ?_) fun _ _ z => z.elim
      match f, out with
      | .ret _, ⟨v6, _, _, S6, r6, q6⟩ => exact gone_ok (S6.unsuite ok) hN hi hl fun s7 J => ⟨v6, _, _, J, r6, q6⟩
      | .next, ⟨_, _, _, q6⟩ => exact q6.elim
      | .brk, ⟨_, _, _, q6⟩ => exact q6.elim
      | .cont, ⟨_, _, _, q6⟩ => exact q6.elim
/-- try: body / except ..: THE RULE -/
theorem ps_try_cl {body : List Stmt} {h0 : ExceptHandler} {hs : List ExceptHandler} {l : List Cl} {pos : Pos} {tb : WX → TS} (hst : X.stack = X.env :: X.outer) (hf : X.env.frame = some X.env.locals) (hN : X.N.Nodup)
    (hb : ∀ (W : WX) (pn : List (Addr × Obj)) (xe : Value → Shared → Prop), Takes (X.tr pn xe) W → PSs (X.tr pn xe) body (tb W)) (hk : ClsOk X (h0 :: hs) l) :
    PS X (.Try body (h0 :: hs) [] [] pos) (fun D σ H => tb (wCl X.K D.rt l) D σ H) := by
  constructor
  intro pins s σ H D I h
  have ok := I.ok
  have fr : X.A.frames = some (X.env :: X.outer) := by rw [ok.frames, hst]
  let caught : Value → Shared → Prop := fun e s1 => wpAny (model X.prog X.w) X.A (noteFrame e X.env) (fun _ s2 => wpAny (model X.prog X.w) X.A (setFlight e none) (fun _ s3 => wpAny (model X.prog X.w) X.A (handleBy e X.env (h0 :: hs)) (SP X pins D) X.xe s3) X.xe s2) X.xe s1
  have tk : Takes (X.tr (X.pn ++ pins) caught) (wCl X.K D.rt l) := by
    rintro u s1 ⟨a, B, sI, pins', σ1, H1, cls, d, rfl, J, nb, up, sky, na, os, ag, w⟩
    have sky1 : Sky B (X.env :: X.outer) a (Zc cls d) X.env.locals s1.heap := by rw [← hst]; exact sky
    refine Sky.land Zc.steady fr hf sky1 fun h3 fl3 up3 => ?_
    exact clauses_run ok hf hN hk (s := { s1 with heap := h3 }) ⟨fl3, fun h4 fl4 up4 => (J.ofTry ok).landed nb fl4.1 ((up.trans up3).trans up4) os ag, na⟩ w
  refine wpAny_Try_except (wpAny_mono ((hb (wCl X.K D.rt l) _ caught tk).run [] s σ H D (I.toTry _) h) (fun f s1 out => ?_) fun _ _ z => z)
  match f, out with
  | .next, ⟨σ1, H1, J, q⟩ => exact wpAny_execs_nil ⟨σ1, H1, J.ofTry ok, q⟩
  | .brk, ⟨σ1, H1, J, q⟩ => exact ⟨σ1, H1, J.ofTry ok, q⟩
  | .cont, ⟨σ1, H1, J, q⟩ => exact ⟨σ1, H1, J.ofTry ok, q⟩
  | .ret _, ⟨v, σ1, H1, J, r, q⟩ => exact ⟨v, σ1, H1, J.ofTry ok, r, q⟩
end
end Ly

end
section
set_option Elab.async false
set_option linter.all false
set_option maxRecDepth 100000
set_option maxHeartbeats 4000000
namespace Ly
open PySem L2 PySem.Spec PyProof.Rows LamX
/-! ### a lambda is made: what becomes of the heap -/
/-- the heap behind: as it was, or the table has one entry more and its code object stands -/
def TabN (H : Hp) (P : Addr) (q : Str) (H1 : Hp) (c' : Addr) : Prop :=
  TabS H1 P q ∧ ((H1 = H ∧ H c' = some (CodeO c' q)) ∨ ∃ ps more, H P = some (.tbl ps) ∧ H c' = none ∧ H1 = upd (upd H P (.tbl (ps ++ more))) c' (CodeO c' q))
section
variable {X : Cx} {pins : List (Addr × Obj)} {σ : L2.St} {H : Hp} {s : Shared}
theorem lam_mk {P k : Addr} {params : Arguments} {body : Expr} {scope : Scope} {pos : Pos} {E : Value → Shared → Prop} {Q : Value → Shared → Prop} (I : Inv X pins σ H s) (TB : TabB X.base X.mg k P) (hk : X.env.code = .ref k) (tab : TabS H P (X.env.qual ++ "<lambda>"))
    (nd : defaultsOf params X.env = ([], [])) (L : LamS X.env.scope scope)
    (go : ∀ (f c' : Addr) (pm ctv : Value) (H1 : Hp) (z : Shared), Inv X pins σ H1 z → TabN H P (X.env.qual ++ "<lambda>") H1 c' →
      z.heap.get? f = some (PySem.W.kla_obj "<lambda>" (X.env.qual ++ "<lambda>") params body scope (cloFrom X.env.cells scope.names []) pm c' ctv) → H1 f = none → f ∉ frs X.stack → H1 c' = some (CodeO c' (X.env.qual ++ "<lambda>")) → Q (.ref f) z) :
    wpAny (model X.prog X.w) X.A (eval (.Lambda params body scope pos) X.env) Q E s := by
  obtain ⟨ps, eP, tr, inT⟩ := id tab
  have clo := closure_ok (L.has I.ok)
  have atP := I.hok P _ eP
  have glb := I.mod.glob.keeps I.bk
  have cod := TB.code.keeps I.bk
  have blt := TB.bm.keeps I.bk
  have beyond : ∀ g, s.heap.objs.size ≤ g → g ∉ frs X.stack := fun g hg m => by
    cases List.mem_cons.mp (I.stkSub _ m) with
    | inl z => exact absurd (z ▸ I.lt) (Nat.not_lt.mpr hg)
    | inr z => exact I.nofs hg z
  apply PySem.W.kla_eval nd
  rcases hc : codeAmong pos ps.toList with _ | cv
  · apply PySem.W.kla_makeFunction (mg := X.mg) (c := k) (P := P) (ps := ps) clo I.ok.glob glb hk cod atP tr hc TB.gP blt
    rintro c' ctv h' tk but ge lt ⟨c2, oc, fs, t, e2, g1, g2, g3⟩ tb'
    cases e2
    have new' : H c' = none := I.hok.fresh ge
    have big : s.heap.objs.size ≤ h'.objs.size := Nat.le_trans ge (Nat.le_of_lt lt)
    have J := inv_table (t' := tk) (more := #[rawInt pos.line, rawInt pos.col, .ref c']) (h' := h'.push (PySem.W.kla_obj "<lambda>" (X.env.qual ++ "<lambda>") params body scope (cloFrom X.env.cells scope.names []) ((X.mg "__name__").getD .none) c' ctv)) I eP
      (fun b o n e => Heap.get?_push_of_some _ (but b o n e)) (Heap.get?_push_of_some _ tb') ge ⟨oc, fs, t, Heap.get?_push_of_some _ g1, g2, g3⟩
    have ne : P ≠ c' := ne_of_none eP new'
    have keepC : ∀ b r, H b = some (CodeO b r) → upd (upd H P (.tbl (ps ++ #[rawInt pos.line, rawInt pos.col, .ref c']))) c' (CodeO c' (X.env.qual ++ "<lambda>")) b = some (CodeO b r) := fun b r e => by
      rw [upd_ne (ne_of_none e new'), upd_ne fun z => by rw [z, eP] at e; exact codeO_ne ps (Option.some.inj e).symm]
      exact e
    refine go h'.objs.size c' _ ctv _ _ J ⟨⟨_, by rw [upd_ne ne, upd_same], ?_, fun p2 v2 hv => ?_⟩, .inr ⟨ps, _, eP, new', rfl⟩⟩ (Heap.get?_push_size _ rfl) ?_ (beyond _ big) upd_same
    · rw [show (ps ++ #[rawInt pos.line, rawInt pos.col, Value.ref c']).toList = ps.toList ++ [rawInt pos.line, rawInt pos.col, .ref c'] from by simp]
      exact PySem.TriplesOk_snoc _ _ _ _ tr
    · rw [show (ps ++ #[rawInt pos.line, rawInt pos.col, Value.ref c']).toList = ps.toList ++ [rawInt pos.line, rawInt pos.col, .ref c'] from by simp] at hv
      cases among_app _ tr hv with
      | inl z =>
        obtain ⟨b, e1, e3⟩ := inT p2 v2 z
        exact ⟨b, e1, keepC b _ e3⟩
      | inr z => exact ⟨c', z, upd_same⟩
    · rw [upd_ne (Nat.ne_of_gt lt), upd_ne (Nat.ne_of_gt (Nat.lt_of_lt_of_le (Heap.lt_size atP) big))]
      exact I.hok.fresh big
  · obtain ⟨c', rfl, co⟩ := inT pos cv hc
    apply PySem.W.kla_makeFunctionHit (mg := X.mg) (c := k) (P := P) (ps := ps) clo I.ok.glob glb hk cod atP tr hc blt
    intro ctv h' tk old big
    exact go h'.objs.size c' _ ctv H _ (I.kept fun b o e => Heap.get?_push_of_some _ (old b o e)) ⟨tab, .inl ⟨rfl, co⟩⟩ (Heap.get?_push_size _ rfl) (I.hok.fresh big) (beyond _ big) co
end
section
variable {X : Cx} {pins : List (Addr × Obj)} {σ : L2.St} {H : Hp} {s : Shared}
/-- ask(), in the def that holds the lambda (slot i): the lambda's body runs over that def's frame -/
theorem act_g {CXg : CXT} {Eg : XK} {Ng : List Str} {qg : Str} {sg : Scope} {g f c' : Addr} {cdg pm ctv : Value} {params : Arguments} {body : Expr} {scope : Scope} {k i : Nat} {a : Str} {pn : List (Addr × Obj)} {xe : Value → Shared → Prop} {W : WX} {E : XK} {tb : TE} {p1 p2 : Pos}
    (I : Inv X pins σ H s) (L : LamS X.env.scope scope) (of : s.heap.get? f = some (PySem.W.kla_obj "<lambda>" (X.env.qual ++ "<lambda>") params body scope (cloFrom X.env.cells scope.names []) pm c' ctv)) (nf : H f = none) (ff : f ∉ frs X.stack)
    (nb : bindArgs (PySem.W.kla_fn "<lambda>" (X.env.qual ++ "<lambda>") params body scope (cloFrom X.env.cells scope.names []) pm (.ref c') ctv) ⟨[], []⟩ = pure [])
    (tk : Takes ((cxOf CXg X.prog X.w X.K X.mg X.base Ng qg sg g cdg X.A X.stack s H Eg).tr pn xe) W) (hW : ∀ cls d σ' H', σ'.length = Ng.length → E cls d H' → W cls d σ' H') (hr : Rm (k + 1) (X.A.deeper (envOfC qg sg s.heap.objs.size g cdg)))
    (hbody : ∀ (A : Around) (outer : List PySem.Env) (s : Shared) (H : Hp), Rm k (A.deeper (lamEnv X scope s.heap.objs.size f c')) → PE (lamCx X A outer s H E scope f c') body tb)
    (hN : Ng[i]? = some a) (hv : Vis sg a) (hd : (a == ("__debug__" : Str)) = false) (hcd : (a == ("__classdict__" : Str)) = false) :
    PE ((cxOf CXg X.prog X.w X.K X.mg X.base Ng qg sg g cdg X.A X.stack s H Eg).tr pn xe) (.Call (.Name a p1) [] [] p2)
      (fun σZ HZ Q => σZ[i]? = some (some (.ref f)) ∧ HZ c' = some (CodeO c' (X.env.qual ++ "<lambda>")) ∧ tb σ HZ Q) := by
  constructor
  rintro pinsZ sZ σZ HZ Q IZ ⟨at0, cod, todo⟩
  have name := (pe_var (pos := p1) (i := i) hN hv hd hcd).run pinsZ sZ σZ HZ (fun v H1 => v = .ref f ∧ H1 = HZ) IZ ⟨.ref f, at0, rfl, rfl⟩
  apply wpAny_Call_Name_kw
  refine thn name ?_
  rintro u s1 ⟨v, H1, I1, rv, rfl, rfl⟩
  obtain rfl : u = Value.ref f := rv
  have g1 := I1.base.keep f _ of nf ff (by intro m; exact nomatch (show f ∈ ([] : List Addr) from m))
  obtain ⟨⟨oc, vs, t, h1, h2, h3⟩, _, _⟩ := I1.hok c' _ cod
  have un : Un (frs X.stack) [] H H1 s.heap s1.heap := I1.base
  apply PySem.W.callWith_F0 ⟨_, _, _, _, g1⟩
  have run : codeAny (model X.prog X.w) (X.A.deeper (envOfC qg sg s.heap.objs.size g cdg)) (.call (.ref f) ⟨[], []⟩) (CR (L2.CX X.prog X.w) (envOfC qg sg s.heap.objs.size g cdg :: X.stack) X.prog X.w H1 s1 Q E) s1 := by
    apply PySem.W.kla_callFunE hr.r.depth g1 rfl L.co L.gen rfl ⟨c', oc, vs, t, rfl, h1, h2, h3⟩
    rw [nb]
    apply wpAny_pure
    refine wpAny_newFunctionEnv (fun y m => (L.own y m).2) (fun y m => nomatch m) (fun h₁ ns but => ⟨I1.nolimit.fresh _ but, ?_⟩) L.kind
    have up : ∀ b o, s1.heap.get? b = some o → h₁.get? b = some o := fun b o e => but.extBut b o (Nat.ne_of_lt (Heap.lt_size e)) (Heap.get?_push_of_some _ e)
    have J := lam_start2 (tk := s1.toks + ([] : List (Str × Value)).length) (E := E) (f := f) (c' := c') I L I1.env0 hr.r.hd un ns up
    refine PySem.W.kla_codeExpr (wpAny_mono ((hbody _ _ s1 H1 ⟨hr.r.deeper _, hr.g⟩).run [] _ _ H1 Q J todo) ?_ fun _ _ z => z)
    rintro v s2 ⟨x, H2, J2, r2, q2⟩
    exact ⟨x, H2, J2.os, J2.bare, J2.base, J2.hok, r2, q2⟩
  have tk2 : Takes ((cxOf CXg X.prog X.w X.K X.mg X.base Ng qg sg g cdg X.A X.stack s H Eg).tr pn xe) (fun cls d σ' H' => σ'.length = Ng.length → W cls d σ' H') := by
    rintro u z ⟨a1, B, sI, ps, σ1, HI, cls, d, e, J, r1, r2, r3, r4, r5, r6, w⟩
    exact tk u z ⟨a1, B, sI, ps, σ1, HI, cls, d, e, J, r1, r2, r3, r4, r5, r6, w J.len⟩
  have pass := passes_call (E := E) tk2 fun cls d σ' H' e l => hW cls d σ' H' l e
  refine wpAny_call (codeAny_mono run fun out z done => ?_)
  match out, done with
  | .error _, done => exact pass _ _ _ _ _ _ I1 done
  | .ok (.ret _), done => exact I1.after done
end
end Ly

end
section
set_option Elab.async false
set_option linter.all false
set_option maxRecDepth 100000
set_option maxHeartbeats 4000000
namespace Ly
open PySem L2 PySem.Spec PyProof.Rows LamX
/-- what a clause tells of the exception: a field, a number, two fields as a tuple -/
inductive Pl where
  | fld (f : Str) | k (i : Int) | pr (f g : Str)
/-- a clause: except cls (as slot n): return (w, ..) -/
structure Mcl where
  cls : Str
  n : Option Nat
  w : Str
  ps : List Pl
abbrev Pyl := Option (List Str × List D)
def fldD (p : Pyl) (f : Str) : Option D := match p with
  | some (fs, ds) => (fs.zip ds).lookup f
  | none => none
def Pl.ev (p : Pyl) : Pl → Option D
  | .fld f => fldD p f
  | .k i => some (.int i)
  | .pr f g => (fldD p f).bind fun d => (fldD p g).map fun e => .tup true [d, e]
def plEv (p : Pyl) : List Pl → Option (List D)
  | [] => some []
  | x :: r => (x.ev p).bind fun d => (plEv p r).map fun ds => d :: ds
def Pl.t (C : Addr) (i : Nat) (a : Addr) (cls : Value) (d : Option Addr) : Pl → TE
  | .fld f => tXf a cls d C f (tVar i)
  | .k n => tC (.int n)
  | .pr f g => tTup (tCons (tXf a cls d C f (tVar i)) (tCons (tXf a cls d C g (tVar i)) tNil))
def plT (C : Addr) (i : Nat) (a : Addr) (cls : Value) (d : Option Addr) : List Pl → TA
  | [] => tNil
  | x :: r => tCons (x.t C i a cls d) (plT C i a cls d r)
def Mcl.cl (c : Cf) (m : Mcl) : Cl := ⟨.ref (c.A m.cls), m.n, fun a cls d => tRet (tTup (tCons (tC (.str m.w)) (plT (c.A m.cls) (m.n.getD 0) a cls d m.ps)))⟩
def metE (c : Cf) (k : Str) (p : Pyl) : List Mcl → Option (List D)
  | [] => none
  | m :: r => match PySem.W.exmOne c.K (.ref (c.A k)) (.ref (c.A m.cls)) with
    | some true => if k = m.cls then (plEv p m.ps).map fun ds => .str m.w :: ds else none
    | some false => metE c k p r
    | none => none
section
variable {c : Cf} {B H B' H' : Hp} {σ : L2.St} {s : Strm}
theorem zip_look {K : PySem.W.Frag} {A : Str → Addr} {B H : Hp} {f : Str} {e : D} : ∀ {fs : List Str} {xs : List V} {ds : List D} {F : List Addr}, RpL K A B H xs ds F → F = [] → fs.length = xs.length → (fs.zip ds).lookup f = some e → ∃ v, (fs.zip xs).lookup f = some v ∧ Rp K A B H v e []
  | [], _, _, _, _, _, _, h => by simp at h
  | g :: fs, _, _, _, .nil, _, l, _ => by simp at l
  | g :: fs, _, _, _, .cons (v := v) (d := d) r t, z, l, h => by
    obtain ⟨rfl, rfl⟩ := List.append_eq_nil_iff.mp z
    simp only [List.zip_cons_cons, List.lookup_cons] at h ⊢
    split at h
    · cases h; exact ⟨v, rfl, r⟩
    · exact zip_look t rfl (by simpa using l) h
theorem Pay.fld {d : Option Addr} {p : Pyl} {f : Str} {e : D} (y : Pay c B H d p) (h : fldD p f = some e) : ∃ dd fs v, d = some dd ∧ H dd = some (.xd fs) ∧ fs.lookup f = some v ∧ Rp c.K c.A B B v e [] := by
  unfold fldD at h
  cases p with
  | none => cases h
  | some p =>
    obtain ⟨fs, ds⟩ := p
    obtain ⟨dx, xs, e1, e2, e3, e4⟩ := y
    obtain ⟨v, h1, h2⟩ := zip_look e4 rfl e3 h
    exact ⟨dx, _, v, e1, e2, h1, h2⟩
theorem Pay.keep {d : Option Addr} {p : Pyl} {F : List Addr} (y : Pay c B H d p) (x : Stp [] B H B H' [] F) : Pay c B H' d p := by
  cases p with
  | none => exact y
  | some p =>
    obtain ⟨fs, ds⟩ := p
    obtain ⟨dx, xs, e1, e2, e3, e4⟩ := y
    exact ⟨dx, xs, e1, x.fr _ _ e2 (by simp) (by simp), e3, e4⟩
theorem xf_ok {C : Addr} {i : Nat} {a : Addr} {d : Option Addr} {p : Pyl} {f : Str} {e : D} {Q : VK} (y : Pay c B H d p) (hs : σ[i]? = some (some (.ref a))) (h : fldD p f = some e) (q : ∀ v, Rp c.K c.A B B v e [] → Q v H) : tXf a (.ref C) d C f (tVar i) σ H Q := by
  obtain ⟨dd, fs, v, e1, e2, e3, e4⟩ := y.fld h
  exact ⟨.ref a, hs, rfl, rfl, dd, fs, v, e1, e2, e3, q v e4⟩
theorem Pl.ok {C : Addr} {i : Nat} {a : Addr} {d : Option Addr} {p : Pyl} {x : Pl} {z : D} {Q : VK} (ex : Ex B H) (y : Pay c B H d p) (hs : σ[i]? = some (some (.ref a)) ∨ ∃ n, x = .k n) (h : x.ev p = some z)
    (q : ∀ v H' F, Stp [] B H B H' [] F → Rp c.K c.A B H' v z F → Q v H') : x.t C i a (.ref C) d σ H Q := by
  cases x with
  | k n => cases h; exact q _ _ [] (Stp.refl ex List.nodup_nil) (.int n)
  | fld f =>
    rcases hs with hs | ⟨n, e⟩
    · exact xf_ok y hs h fun v r => q v H [] (Stp.refl ex List.nodup_nil) (r.mono (Ex.refl B) Kp.nil)
    · cases e
  | pr f g =>
    rcases hs with hs | ⟨n, e⟩
    case inr => cases e
    simp only [Pl.ev, Option.bind_eq_some_iff, Option.map_eq_some_iff] at h
    obtain ⟨d1, h1, d2, h2, rfl⟩ := h
    simp only [Pl.t, tTup, tCons, tNil]
    refine xf_ok y hs h1 fun v1 r1 => ?_
    refine xf_ok y hs h2 fun v2 r2 => ?_
    refine ⟨by simp [sizeLine_eq], fun w hw => ?_⟩
    refine q (.ref w) _ [w] (Stp.obj ex hw (fun _ m => m) (fun _ m => nomatch m) List.nodup_nil) (.tpO upd_same (ex.none hw) (F := []) ?_)
    exact .cons (F := []) (G := []) (r1.mono (Ex.refl B) Kp.nil) (.cons (F := []) (G := []) (r2.mono (Ex.refl B) Kp.nil) .nil)
theorem plT_ok {C : Addr} {i : Nat} {a : Addr} {d : Option Addr} {p : Pyl} : ∀ {l : List Pl} {H : Hp} {zs : List D} {Q : List V → Hp → Prop}, Ex B H → Pay c B H d p → (σ[i]? = some (some (.ref a)) ∨ ∀ x ∈ l, ∃ n, x = .k n) → plEv p l = some zs →
    (∀ vs H' F, Stp [] B H B H' [] F → RpL c.K c.A B H' vs zs F → Q vs H') → plT C i a (.ref C) d l σ H Q
  | [], H, zs, Q, ex, y, hs, h, q => by cases h; exact q [] H [] (Stp.refl ex List.nodup_nil) .nil
  | x :: l, H, zs, Q, ex, y, hs, h, q => by
    simp only [plEv, Option.bind_eq_some_iff, Option.map_eq_some_iff] at h
    obtain ⟨z, h1, zs, h2, rfl⟩ := h
    refine Pl.ok ex y (hs.imp id fun k => k x List.mem_cons_self) h1 fun v H1 F1 st1 r1 => ?_
    refine plT_ok st1.bh (y.keep st1) (hs.imp id fun k x m => k x (List.mem_cons_of_mem _ m)) h2 fun vs H2 F2 st2 r2 => ?_
    have g := r1.bsd (S := []) fun _ _ => by simp
    have st3 := st2.ext g st1.nd
    rw [List.append_nil] at st3
    exact q (v :: vs) H2 (F1 ++ F2) (st1.trans st3 fun _ m => m) (.cons (r1.mono (Ex.refl B) (st2.kp g)) r2)
theorem metE_ok {k : Str} {d : Option Addr} {p : Pyl} {rt : VK} (ex : Ex B H) (y : Pay c B H d p) {mm : Nat} (hl : σ.length = mm) : ∀ {l : List Mcl} {zs : List D}, (∀ m ∈ l, (∃ i, m.n = some i ∧ i < mm) ∨ ∀ x ∈ m.ps, ∃ n, x = Pl.k n) → metE c k p l = some zs →
    (∀ vs H' F w, zs.length ≤ sizeLine → H' w = none → Stp [] B H B (upd H' w (.tup vs)) [] (w :: F) → RpL c.K c.A B (upd H' w (.tup vs)) vs zs F → rt (.ref w) (upd H' w (.tup vs))) → zs.length ≤ sizeLine → wCl c.K rt (l.map (Mcl.cl c)) (.ref (c.A k)) d σ H
  | [], zs, _, h, _, _ => by cases h
  | m :: l, zs, hi, h, q, hz => by
    unfold metE at h
    cases hx : PySem.W.exmOne c.K (.ref (c.A k)) (.ref (c.A m.cls)) with
    | none => rw [hx] at h; cases h
    | some b =>
      refine ⟨b, hx, fun e a na => ?_, fun e => ?_⟩
      · subst e
        rw [hx] at h
        simp only at h
        split at h
        case isFalse => cases h
        rename_i hk
        subst hk
        obtain ⟨ds, h1, rfl⟩ := Option.map_eq_some_iff.mp h
        have hs : ((Mcl.cl c m).sl a σ)[m.n.getD 0]? = some (some (.ref a)) ∨ ∀ x ∈ m.ps, ∃ n, x = Pl.k n := by
          rcases hi m List.mem_cons_self with ⟨i, e1, e2⟩ | e
          · left
            show (match m.n with | none => σ | some i => σ.set i (some (.ref a)))[m.n.getD 0]? = _
            rw [e1]
            exact List.getElem?_set_self (by omega)
          · exact .inr e
        refine plT_ok (σ := (Mcl.cl c m).sl a σ) ex y hs h1 fun vs H1 F1 st1 r1 => ?_
        have ln := r1.len
        refine ⟨by simpa [ln] using hz, fun w hw => ?_⟩
        have st2 : Stp [] B H1 B (upd H1 w (.tup (V.str m.w :: vs))) F1 (w :: F1) := Stp.obj st1.bh hw (fun _ m => m) r1.th st1.nd
        exact q (V.str m.w :: vs) H1 F1 w hz hw (st1.trans st2 fun _ m => m) (.cons (F := []) (.str m.w) (r1.mono (Ex.refl B) fun u mu => ⟨fun o e => Ex.upd hw u o e, r1.nb u mu⟩))
      · subst e
        rw [hx] at h
        exact metE_ok ex y hl (fun m mm => hi m (List.mem_cons_of_mem _ mm)) h q hz
/-- the table at P bears the name q, alone -/
def tabOk (c : Cf) (P : Addr) (q : Str) : Bool := decide ((P, q) ∈ c.T) && c.T.all fun p => !decide (p.1 = P) || decide (p.2 = q)
theorem Sm.tabN {P : Addr} {q : Str} {c' : Addr} (sm : Sm c B H s) (ex : Ex B H) (ht : tabOk c P q = true) (x : TabN H P q H' c') : Stp c.S B H B H' [] [] ∧ Sm c B H' s := by
  unfold tabOk at ht
  obtain ⟨h1, h2⟩ := Bool.and_eq_true_iff.mp ht
  have mem : (P, q) ∈ c.T := of_decide_eq_true h1
  have mS : P ∈ c.S := List.mem_append_right _ (List.mem_map.mpr ⟨(P, q), mem, rfl⟩)
  obtain ⟨t1, x⟩ := x
  rcases x with ⟨rfl, _⟩ | ⟨ps, more, eP, nc, rfl⟩
  · exact ⟨Stp.refl ex List.nodup_nil, sm⟩
  · have off : ∀ b, b ≠ P → H b ≠ none → upd (upd H P (.tbl (ps ++ more))) c' (CodeO c' q) b = H b := fun b n e => by
      rw [upd_ne (fun z => e (by rw [z]; exact nc)), upd_ne n]
    have bP := (sm.out P mS).1
    refine ⟨⟨Ex.refl B, fun a o e => ?_, fun a o e _ n => ?_, fun a e => ?_, fun _ e n => absurd e n, fun _ m => (nomatch m), List.nodup_nil⟩, ⟨sm.st.eq fun a m => ?_, fun p hp => ?_, sm.bn⟩⟩
    · have e2 := ex a o e
      rw [off a (fun z => by rw [z, bP] at e; cases e) (by rw [e2]; simp)]; exact e2
    · rw [off a (fun z => n (by rw [z]; exact mS)) (by rw [e]; simp)]; exact e
    · by_cases z : a = c'
      · rw [z]; exact nc
      · rw [upd_ne z] at e
        by_cases z2 : a = P
        · rw [z2, upd_same] at e; cases e
        · rw [upd_ne z2] at e; exact e
    · refine off a (fun z => ?_) (sm.out a (Cf.mem0 m)).2
      subst z
      have w := sm.st
      unfold SmS at w
      cases e : c.st with
      | none => unfold Cf.S0 at m; rw [e] at m; exact nomatch m
      | some pr =>
        obtain ⟨u, v⟩ := pr
        rw [e] at w
        rw [Cf.S0_some e] at m
        rcases List.mem_cons.mp m with rfl | m
        · rw [w.2.1] at eP; cases eP
        · rw [List.mem_singleton.mp m, w.2.2] at eP; cases eP
    · by_cases z : p.1 = P
      · have zq : p.2 = q := by
          have := List.all_eq_true.mp h2 p hp
          rw [z] at this
          simpa using this
        rw [zq, z]; exact t1
      · obtain ⟨ps', a1, a2, a3⟩ := sm.tb p hp
        refine ⟨ps', by rw [off _ z (by rw [a1]; simp)]; exact a1, a2, fun pos cv hc => ?_⟩
        obtain ⟨b, e1, e2⟩ := a3 pos cv hc
        refine ⟨b, e1, ?_⟩
        rw [off b (fun z => by rw [z, eP] at e2; exact codeO_ne ps (Option.some.inj e2).symm) (by rw [e2]; simp)]
        exact e2
/-- the reading of x(lambda: body), x a def of clauses ms with mm names -/
def tMet (c : Cf) (mm : Nat) (P : Addr) (q : Str) (ms : List Mcl) (tb : XK → TE) : TE := fun σ H Q => TabS H P q ∧ ∀ H1 c', TabN H P q H1 c' →
  tb (fun cls d H2 => ∀ σ', σ'.length = mm → wCl c.K Q (ms.map (Mcl.cl c)) cls d σ' H2) σ H1 fun v H2 => ∀ p, H2 p = none → Q (.ref p) (upd H2 p (.tup [.str "told", v]))
def msOk (mm : Nat) (ms : List Mcl) : Bool := ms.all fun m => (match m.n with
  | some i => decide (i < mm)
  | none => false) || m.ps.all fun x => match x with
  | .k _ => true
  | _ => false
theorem msOk_to {mm : Nat} {ms : List Mcl} (h : msOk mm ms = true) : ∀ m ∈ ms, (∃ i, m.n = some i ∧ i < mm) ∨ ∀ x ∈ m.ps, ∃ n, x = Pl.k n := fun m hm => by
  have := List.all_eq_true.mp h m hm
  rcases Bool.or_eq_true_iff.mp this with e | e
  · left
    cases hn : m.n with
    | none => rw [hn] at e; cases e
    | some i => rw [hn] at e; exact ⟨i, rfl, of_decide_eq_true e⟩
  · right
    intro x hx
    have := List.all_eq_true.mp e x hx
    cases x <;> first | (cases this; done) | exact ⟨_, rfl⟩
def XE.met (P : Addr) (q : Str) (mm : Nat) (ms : List Mcl) (b : XE c) : XE c where
  t := fun W => tMet c mm P q ms fun E => b.t fun cls d _ H => E cls d H
  ev := fun s Δ => if tabOk c P q && msOk mm ms then match b.ev s Δ with
    | .ok d s' => .ok (.tup true [.str "told", d]) s'
    | .er k p s' => match metE c k p ms with
      | some zs => if zs.length ≤ 16 then .ok (.tup true zs) s' else .bad
      | none => .bad
    | .bad => .bad else .bad
  ok := fun W σ B H Δ s e sm rd Q h => by
    split at h
    case isFalse => exact h.elim
    rename_i hc
    obtain ⟨ht, hm⟩ := Bool.and_eq_true_iff.mp hc
    have mem : (P, q) ∈ c.T := by
      unfold tabOk at ht
      exact of_decide_eq_true (Bool.and_eq_true_iff.mp ht).1
    refine ⟨sm.tb (P, q) mem, fun H1 c' tn => ?_⟩
    obtain ⟨st1, sm1⟩ := sm.tabN e ht tn
    refine b.ok _ σ B H1 Δ s st1.bh sm1 rd _ ?_
    revert h
    cases b.ev s Δ with
    | bad => intro h; exact h.elim
    | ok d s' =>
      intro h v B2 H2 F st2 sm2 r2 p hp
      have st3 : Stp [] B2 H2 B2 (upd H2 p (.tup [V.str "told", v])) F (p :: F) := Stp.obj st2.bh hp (fun _ m => m) r2.th st2.nd
      refine h (.ref p) B2 _ (p :: F) ((st1.trans st2 fun _ m => m).trans st3 fun _ m => nomatch m) (sm2.stp st3 (fun a m z => (sm1.out a z).2 (st2.new a m)) r2.noc) (.tpO upd_same (st2.bh.none hp) ?_)
      have r3 : RpL c.K c.A B2 (upd H2 p (.tup [V.str "told", v])) [V.str "told", v] [.str "told", d] ([] ++ (F ++ [])) := .cons (.str "told") (.cons (r2.mono (Ex.refl B2) fun u m => ⟨fun o q => Ex.upd hp u o q, r2.nb u m⟩) .nil)
      rw [List.append_nil, List.nil_append] at r3
      exact r3
    | er k p s' =>
      intro h
      have h' : AnsE c B H σ W Q (match metE c k p ms with
        | some zs => if zs.length ≤ 16 then .ok (.tup true zs) s' else .bad
        | none => .bad) := h
      cases hz : metE c k p ms with
      | none => rw [hz] at h'; exact h'.elim
      | some zs =>
        rw [hz] at h'
        dsimp only at h'
        split at h'
        case isFalse => exact h'.elim
        rename_i hl
        intro B2 H2 d st2 sm2 pay σ' ls
        have hl2 : zs.length ≤ sizeLine := by rw [sizeLine_eq]; omega
        refine metE_ok st2.bh pay ls (msOk_to hm) hz (fun vs H3 F w _ hw st3 r3 => ?_) hl2
        exact h' (.ref w) B2 _ (w :: F) ((st1.trans st2 fun _ m => m).trans st3 fun _ m => nomatch m) (sm2.stp st3 (fun _ m => nomatch m) Noc.nil) (.tpO upd_same (by
          rcases st3.nf w List.mem_cons_self with z | z
          · exact st2.bh.none z
          · exact nomatch z) r3)
end
end Ly

end
section
set_option Elab.async false
set_option linter.all false
set_option maxRecDepth 100000
set_option maxHeartbeats 4000000
namespace Ly
open PySem L2 PySem.Spec PyProof.Rows LamX
/-- a def x(a): try: return ('told', a()) / except ..: return (w, ..) -/
structure Mok (c : Cf) (P : Program) (w : World) (mg : Str → Option Value) (base : Heap) (x a : Str) (Ng : List Str) (ms : List Mcl) : Prop where
  fn : ∃ (pg : Arguments) (bg : List Stmt) (sg : Scope) (fd : FuncData), FunD c.K x x pg bg sg [] [] (c.A x) fd ∧ Binds c.K fd [a] [] ∧ FnScope Ng [a] sg ∧ Ng[0]? = some a ∧ Vis sg a ∧
    ∀ (cdg : Value) (A : Around) (outer : List PySem.Env) (s : Shared) (H : Hp) (E0 : XK) (ta : XK → TE),
      (∀ (W : WX) (pn : List (Addr × Obj)) (xe : Value → Shared → Prop) (E : XK) (p1 p2 : Pos), Takes ((cxOf (L2.CX P w) P w c.K mg base Ng x sg (c.A x) cdg A outer s H E0).tr pn xe) W → (∀ cls d σ' H', σ'.length = Ng.length → E cls d H' → W cls d σ' H') →
        PE ((cxOf (L2.CX P w) P w c.K mg base Ng x sg (c.A x) cdg A outer s H E0).tr pn xe) (.Call (.Name a p1) [] [] p2) (ta E)) →
      PSs (cxOf (L2.CX P w) P w c.K mg base Ng x sg (c.A x) cdg A outer s H E0) bg (fun D σ H => ta (fun cls d H' => ∀ σ', σ'.length = Ng.length → wCl c.K D.rt (ms.map (Mcl.cl c)) cls d σ' H') σ H fun v H' => ∀ p, H' p = none → D.rt (.ref p) (upd H' p (.tup [.str "told", v])))
  gl : mg x = some (.ref (c.A x))
  kp : PySem.W.keepIn c.K (.ref (c.A x)) = true
section
variable {c : Cf} {X : Cx}
theorem met_body {a : Str} {h0 : ExceptHandler} {hs : List ExceptHandler} {ms : List Mcl} {ta : XK → TE} {p1 p2 pc pt pr pos : Pos} {j kt : Nat} (h1 : X.stack = X.env :: X.outer) (h2 : X.env.frame = some X.env.locals) (nd : X.N.Nodup) (hK : X.K = c.K)
    (act : ∀ (W : WX) (pn : List (Addr × Obj)) (xe : Value → Shared → Prop) (E : XK) (p1 p2 : Pos), Takes (X.tr pn xe) W → (∀ cls d σ' H', σ'.length = X.N.length → E cls d H' → W cls d σ' H') → PE (X.tr pn xe) (.Call (.Name a p1) [] [] p2) (ta E))
    (hk : ClsOk X (h0 :: hs) (ms.map (Mcl.cl c)))
    (hs1 : starEach [.Constant (.str "told") j pc, .Call (.Name a p1) [] [] p2] X.env = (false, eval (.Constant (.str "told") j pc) X.env) :: starEach [.Call (.Name a p1) [] [] p2] X.env := by rfl)
    (hs2 : starEach [.Call (.Name a p1) [] [] p2] X.env = (false, eval (.Call (.Name a p1) [] [] p2) X.env) :: starEach [] X.env := by rfl) :
    PSs X [.Try [.Return (some (.Tuple [.Constant (.str "told") j pc, .Call (.Name a p1) [] [] p2] kt pt)) pr] (h0 :: hs) [] [] pos]
      (fun D σ H => ta (fun cls d H' => ∀ σ', σ'.length = X.N.length → wCl c.K D.rt (ms.map (Mcl.cl c)) cls d σ' H') σ H fun v H' => ∀ p, H' p = none → D.rt (.ref p) (upd H' p (.tup [.str "told", v]))) := by
  have h := ps_try_cl (pos := pos) (X := X) h1 h2 nd (tb := fun W => tRet (tTup (tCons (tC (.str "told")) (tCons (ta fun cls d H' => ∀ σ', σ'.length = X.N.length → W cls d σ' H') tNil))))
    (fun W pn xe tk => pss_one (ps_ret (pos := pr) (pe_tup (x1 := kt) (pos := pt) (pa_cons pe_str (pa_cons (act W pn xe _ p1 p2 tk fun cls d σ' H' l e => e σ' l) pa_nil hs2) hs1)))) hk
  have e : (fun D σ H => (fun W => tRet (tTup (tCons (tC (.str "told")) (tCons (ta fun cls d H' => ∀ σ', σ'.length = X.N.length → W cls d σ' H') tNil)))) (wCl X.K D.rt (ms.map (Mcl.cl c))) D σ H) =
      (fun (D : Ends) σ H => ta (fun cls d H' => ∀ σ', σ'.length = X.N.length → wCl c.K D.rt (ms.map (Mcl.cl c)) cls d σ' H') σ H fun v H' => ∀ p, H' p = none → D.rt (.ref p) (upd H' p (.tup [.str "told", v]))) := by
    funext D σ H
    simp only [tRet, tTup, tCons, tNil, tC, hK]
    congr 1
    funext v H1
    have z : 2 ≤ sizeLine := by rw [sizeLine_eq]; omega
    simp [z]
  rw [← e]
  exact pss_one h
/-- clauses -/
theorem clsN_ {x n w : Str} {i : Nat} {ps : List Pl} {es : List Expr} {j kt : Nat} {pc pt pr p1 p2 : Pos} {hs : List ExceptHandler} {ms : List Mcl} (hg : Gl X x) (hm : X.mg x = some (.ref (c.A x))) (hi : X.N[i]? = some n) (hl : X.env.kindOf n = some .local)
    (ha : ∀ (a : Addr) (oe : Obj) (cls : Value) (d : Option Addr) (pn : List (Addr × Obj)), Zc cls d oe → (∃ vs, oe.data = .fields vs) → PA (X.suite a ((a, oe) :: pn)) es (plT (c.A x) i a cls d ps)) (r : ClsOk X hs (ms.map (Mcl.cl c)))
    (h1 : ∀ (a : Addr) (pn : List (Addr × Obj)), starEach (.Constant (.str w) j pc :: es) (X.suite a pn).env = (false, eval (.Constant (.str w) j pc) (X.suite a pn).env) :: starEach es (X.suite a pn).env := by exact fun _ _ => rfl) (hd : (x == ("__debug__" : Str)) = false := by decide) :
    ClsOk X (.ExceptHandler (some (.Name x p1)) (some n) [.Return (some (.Tuple (.Constant (.str w) j pc :: es) kt pt)) pr] p2 :: hs) ((⟨x, some i, w, ps⟩ :: ms).map (Mcl.cl c)) :=
  .named ⟨hg, hd, .inl hm⟩ hi hl (fun a oe cls d pn hz hf => pss_one (ps_ret (pe_tup (pa_cons pe_str (ha a oe cls d pn hz hf) (h1 a _))))) r
theorem clsB_ {x w : Str} {ps : List Pl} {es : List Expr} {j kt : Nat} {pc pt pr p1 p2 : Pos} {hs : List ExceptHandler} {ms : List Mcl} (hg : Gl X x) (hm : X.mg x = some (.ref (c.A x)))
    (ha : ∀ (a : Addr) (oe : Obj) (cls : Value) (d : Option Addr) (pn : List (Addr × Obj)), Zc cls d oe → (∃ vs, oe.data = .fields vs) → PA (X.suite a ((a, oe) :: pn)) es (plT (c.A x) 0 a cls d ps)) (r : ClsOk X hs (ms.map (Mcl.cl c)))
    (h1 : ∀ (a : Addr) (pn : List (Addr × Obj)), starEach (.Constant (.str w) j pc :: es) (X.suite a pn).env = (false, eval (.Constant (.str w) j pc) (X.suite a pn).env) :: starEach es (X.suite a pn).env := by exact fun _ _ => rfl) (hd : (x == ("__debug__" : Str)) = false := by decide) :
    ClsOk X (.ExceptHandler (some (.Name x p1)) none [.Return (some (.Tuple (.Constant (.str w) j pc :: es) kt pt)) pr] p2 :: hs) ((⟨x, none, w, ps⟩ :: ms).map (Mcl.cl c)) :=
  .bare ⟨hg, hd, .inl hm⟩ (fun a oe cls d pn hz hf => pss_one (ps_ret (pe_tup (pa_cons pe_str (ha a oe cls d pn hz hf) (h1 a _))))) r
theorem clsE_ : ClsOk X [] (([] : List Mcl).map (Mcl.cl c)) := .nil
theorem plf_ {C a : Addr} {oe : Obj} {cls : Value} {d : Option Addr} {pn : List (Addr × Obj)} {pos p : Pos} {n f : Str} {i : Nat} (T : XfC X.K C) (no : PySem.W.findIn X.K (.ref C) f = some none) (hz : Zc cls d oe) (hf : ∃ vs, oe.data = .fields vs)
    (hN : X.N[i]? = some n) (hv : Vis X.env.scope n) (hd : (n == ("__debug__" : Str)) = false := by decide) (hcd : (n == ("__classdict__" : Str)) = false := by decide)
    (hb : attributeBase (.Name n p) f X.env (eval (.Name n p) X.env) = eval (.Name n p) X.env := by rfl) : PE (X.suite a ((a, oe) :: pn)) (.Attribute (.Name n p) f pos) (tXf a cls d C f (tVar i)) :=
  pe_xf T no hz hf (pe_var (X := X.suite a ((a, oe) :: pn)) hN hv hd hcd) hb
/-- x(lambda: body) -/
theorem met_ {W : WX} {x a : Str} {Ng : List Str} {ms : List Mcl} {k : Addr} {kk mm : Nat} {params : Arguments} {body : Expr} {scope : Scope} {xb : XE c} {p lpos pos : Pos} {tP : Addr} (O : Mok c X.prog X.w X.mg X.base x a Ng ms) (TB : TabB X.base X.mg k tP) (hk : X.env.code = .ref k)
    (hr : Rm (kk + 2) X.A) (L : LamS X.env.scope scope)
    (hbody : ∀ (A : Around) (outer : List PySem.Env) (s : Shared) (H : Hp) (E : XK) (f c' : Addr), Rm kk (A.deeper (lamEnv X scope s.heap.objs.size f c')) → PE (lamCx X A outer s H E scope f c') body (xb.t fun cls d _ H => E cls d H))
    (hmm : Ng.length = mm := by rfl) (hK : X.K = c.K := by rfl) (hg : Gl X x := by rfl) (nd : defaultsOf params X.env = ([], []) := by rfl)
    (nb : ∀ (q : Str) (cl : List (Str × Addr)) (pm cv ctv : Value), bindArgs (PySem.W.kla_fn "<lambda>" q params body scope cl pm cv ctv) ⟨[], []⟩ = pure [] := by exact fun _ _ _ _ _ => rfl) (hdb : (x == ("__debug__" : Str)) = false := by decide)
    (hd : (a == ("__debug__" : Str)) = false := by decide) (hcd : (a == ("__classdict__" : Str)) = false := by decide) :
    PE X (.Call (.Name x p) [.Lambda params body scope lpos] [] pos) ((XE.met tP (X.env.qual ++ "<lambda>") mm ms xb).t W) := by
  subst hmm
  obtain ⟨pg, bg, sg, fd, F, fb, S, n0, vis, bodyOk⟩ := O.fn
  have kp := O.kp
  rw [← hK] at kp F fb bodyOk
  obtain ⟨oc, od, dV, kV, doc, pm0, an, cdv, ct, osl, rfl, lk, hcd2, _, _⟩ := F.ex
  constructor
  rintro pins s σ H Q I ⟨tab, todo⟩
  apply wpAny_Call_Name_kw
  apply ld_glob I hg O.gl _ hdb
  refine PySem.W.callWith_K (h₀ := X.base) I.ok.mod.kin kp ?_ (by rfl) (by rfl)
  show wpAny _ _ (spliced ((false, eval (.Lambda params body scope lpos) X.env) :: backTo pos (starEach [] X.env))) _ _ s
  refine Calls.spliced_cons (lam_mk I TB hk tab nd L fun f c' pm ctv H1 z I1 tn of nf ff co => ?_)
  refine Calls.spliced_nil ⟨I1.kIn, ?_⟩
  have run : codeAny (model X.prog X.w) X.A (.call (.ref (c.A x)) ⟨[.ref f], []⟩) (CR (L2.CX X.prog X.w) X.stack X.prog X.w H1 z Q fun _ _ _ => False) z := by
    refine run_ofS (k := kk + 1) (N := Ng) (ps := [a]) (us := [.ref f]) (vs := [.ref f]) lk hcd2 S hr.r I1.env0 (fb z [.ref f] I1.kIn rfl) (.cons rfl .nil) rfl fun hr' => ?_
    have act := fun (W2 : WX) (pn : List (Addr × Obj)) (xe : Value → Shared → Prop) (E : XK) (q1 q2 : Pos) (tk : Takes ((cxOf (L2.CX X.prog X.w) X.prog X.w X.K X.mg X.base Ng x sg (c.A x) cdv X.A X.stack z H1 fun _ _ _ => False).tr pn xe) W2)
        (hW : ∀ cls d σ' H', σ'.length = Ng.length → E cls d H' → W2 cls d σ' H') => act_g (p1 := q1) (p2 := q2) (i := 0) I1 L of nf ff (nb _ _ _ _ _) tk hW ⟨hr', hr.g⟩ (fun A outer s H hr2 => hbody A outer s H E f c' hr2) n0 vis hd hcd
    have ps := bodyOk cdv X.A X.stack z H1 (fun _ _ _ => False) (fun E σZ HZ Q => σZ[0]? = some (some (.ref f)) ∧ HZ c' = some (CodeO c' (X.env.qual ++ "<lambda>")) ∧ xb.t (fun cls d _ H => E cls d H) σ HZ Q)
      (fun W2 pn xe E q1 q2 tk hW => act W2 pn xe E q1 q2 tk hW)
    refine ⟨_, ps, ?_⟩
    have at0 : (L2.start Ng [V.ref f])[0]? = some (some (V.ref f)) := by
      unfold L2.start
      simp
    have t := todo H1 c' tn
    rw [← hK] at t
    exact ⟨at0, co, t⟩
  refine wpAny_call (codeAny_mono run fun out z2 done => ?_)
  match out, done with
  | .error e, done =>
    obtain ⟨_, _, _, _, _, _, _, _, _, _, _, _, w⟩ := (show L2.CX X.prog X.w X.stack H1 z (fun _ _ _ => False) e z2 from done)
    exact w.elim
  | .ok (.ret _), done => exact I1.after done
end
end Ly

end
section
set_option Elab.async false
set_option linter.all false
set_option maxRecDepth 100000
set_option maxHeartbeats 4000000
namespace Ly
open PySem L2 PySem.Spec PyProof.Rows RZ
section
variable {c : Cf}
/-! ### repr -/
def isRf : D → Bool
  | .lst _ _ => true
  | .tup _ _ => true
  | _ => false
mutual
theorem dp_noDict {K : PySem.W.Frag} {H : Hp} : ∀ {v : V} {p : PyData}, Dp K H v p → p.hasDict = false
  | _, _, .non => by simp [PyData.hasDict]
  | _, _, .bl _ => by simp [PyData.hasDict]
  | _, _, .int _ => by simp [PyData.hasDict]
  | _, _, .str _ => by simp [PyData.hasDict]
  | _, _, .lst _ r => by simp [PyData.hasDict, dpAll_noDict r]
  | _, _, .tup _ r => by simp [PyData.hasDict, dpAll_noDict r]
theorem dpAll_noDict {K : PySem.W.Frag} {H : Hp} : ∀ {v : List V} {p : List PyData}, DpAll K H v p → PyData.hasDictAll p = false
  | _, _, .nil => by simp [PyData.hasDictAll]
  | _, _, .cons r t => by simp [PyData.hasDictAll, dp_noDict r, dpAll_noDict t]
end
def reprOk (p : PyData) : Bool := p.showable && (decide (p.depth ≤ 40) && decide (p.shown.length ≤ lim))
def gRepr : List D → Option D
  | [d] => if isRf d then match toP d with
    | some p => if reprOk p then some (.str p.shown) else none
    | none => none else none
  | _ => none
def rRepr (K : PySem.W.Frag) : List V → Hp → VK → Prop := fun xs H Q => ∃ a p, xs = [.ref a] ∧ Dp K H (.ref a) p ∧ reprOk p = true ∧ Q (.str p.shown) H
theorem call_repr {X : Cx} (hg : X.A.guards = some []) (hu : X.A.units + 64 < cLine) : CallR X (.builtin "repr") (rRepr X.K) := by
  intro pins s σ H xs us Q I r h
  obtain ⟨a, p, rfl, dp, ok, q⟩ := h
  unfold reprOk at ok
  simp only [Bool.and_eq_true, decide_eq_true_eq] at ok
  cases r with
  | cons r1 rn =>
    cases rn
    obtain rfl := (show _ = Value.ref a from r1)
    obtain ⟨as, rd⟩ := Dp.reads I p (.ref a) (.ref a) dp rfl
    exact repr_of_reads' rd ok.1 (fun z => absurd z (by rw [dp_noDict dp]; simp)) hg (by omega) (fun _ _ e => e) (fun h' u tk k => ⟨.str p.shown, H, I.kept k, ⟨u, rfl⟩, q⟩) (by rw [sizeLine_eq]; have := ok.2.2; unfold lim at this; exact this)
theorem Rp.isRef {K : PySem.W.Frag} {A : Str → Addr} {B H : Hp} {v : V} {d : D} {F : List Addr} (r : Rp K A B H v d F) (h : isRf d = true) : ∃ a, v = .ref a := by
  cases r <;> first | (cases h; done) | exact ⟨_, rfl⟩
theorem do_repr : DoA c (rRepr c.K) gRepr := by
  intro B H xs ds F z ex r nd hz Q k
  match ds, hz with
  | [d], hz =>
    obtain ⟨x, rfl, rx⟩ := r.one
    simp only [gRepr] at hz
    split at hz
    case isFalse => cases hz
    rename_i hr
    cases hp : toP d with
    | none => rw [hp] at hz; cases hz
    | some p =>
      rw [hp] at hz
      simp only at hz
      split at hz
      case isFalse => cases hz
      rename_i ho
      cases hz
      obtain ⟨a, rfl⟩ := Rp.isRef rx hr
      exact ⟨a, p, rfl, rx.dp ex hp, ho, k _ B H [] (Stp.same ex) (.str _)⟩
abbrev XE.repr (a : XA c) : XE c := XE.app _ gRepr do_repr a
theorem repr_ {X : Cx} {W : WX} {a : Expr} {xs : XA c} {p pos : Pos} {k : Nat} (hm : X.mg "repr" = none) (hr : Rm k X.A) (hgd : X.A.guards = some []) (ha : PA X [a] (xs.t W)) (hK : X.K = c.K := by rfl) (hg : Gl X "repr" := by rfl)
    (he : starEach [a] X.env = (false, eval a X.env) :: starEach [] X.env := by rfl) (hpl : (backTo pos (starEach [] X.env)).any (·.1) = false := by rfl) : PE X (.Call (.Name "repr" p) [a] [] pos) ((XE.repr xs).t W) := by
  have h := call_repr hgd hr.units
  rw [hK] at h
  exact pe_callB h hg hm boot_repr ha (by decide) (by decide) he hpl
/-! ### zip of two lists, of two tuples -/
def zipD : List D → Option (Bool × List D)
  | [.lst o ds, .lst o' es] => some (shr (.lst o ds) || shr (.lst o' es), (List.zip (frzL ds) (frzL es)).map fun p => .tup true [p.1, p.2])
  | [.tup o ds, .tup o' es] => some (shr (.tup o ds) || shr (.tup o' es), (List.zip (frzL ds) (frzL es)).map fun p => .tup true [p.1, p.2])
  | _ => none
theorem RpL.two' {K : PySem.W.Frag} {A : Str → Addr} {B H : Hp} {xs : List V} {d e : D} {F : List Addr} (r : RpL K A B H xs [d, e] F) : ∃ x y F1 F2, xs = [x, y] ∧ Rp K A B H x d F1 ∧ Rp K A B H y e F2 ∧ F = F1 ++ F2 := by
  cases r with
  | cons r1 t =>
    cases t with
    | cons r2 t2 =>
      cases t2
      exact ⟨_, _, _, _, rfl, r1, r2, by simp⟩
theorem zip_get {ds es : List D} {i : Nat} {z : D} (h : ((List.zip ds es).map fun p => D.tup true [p.1, p.2])[i]? = some z) : ∃ d e, ds[i]? = some d ∧ es[i]? = some e ∧ z = .tup true [d, e] := by
  rw [List.getElem?_map, Option.map_eq_some_iff] at h
  obtain ⟨⟨d, e⟩, h1, rfl⟩ := h
  rw [List.getElem?_zip_eq_some] at h1
  exact ⟨d, e, h1.1, h1.2, rfl⟩
theorem zip_yld {B' H' : Hp} {T : Addr} {x y : V} {d e : D} (ex : Ex B' H') (n : H' T = none) (r1 : Rp c.K c.A B' B' x d []) (r2 : Rp c.K c.A B' B' y e []) :
    ∃ F, Stp [] B' H' B' (upd H' T (.tup [x, y])) [] F ∧ Rp c.K c.A B' (upd H' T (.tup [x, y])) (.ref T) (.tup true [d, e]) F := by
  refine ⟨[T], Stp.obj ex n (fun _ m => m) (fun _ m => nomatch m) List.nodup_nil, .tpO upd_same (ex.none n) (F := []) ?_⟩
  exact .cons (F := []) (G := []) (r1.mono (Ex.refl B') Kp.nil) (.cons (F := []) (G := []) (r2.mono (Ex.refl B') Kp.nil) .nil)
theorem zip_len {ds es : List D} : ((List.zip ds es).map fun p => D.tup true [p.1, p.2]).length = min ds.length es.length := by rw [List.length_map, List.length_zip]
theorem iter_zipL {B2 : Hp} {a b : Addr} {ds es : List D} (r1 : Rp c.K c.A B2 B2 (.ref a) (.lst false ds) []) (r2 : Rp c.K c.A B2 B2 (.ref b) (.lst false es) []) : IterOk c (Itz c.K a b) B2 ((List.zip ds es).map fun p => .tup true [p.1, p.2]) := fun B' H' e1 e2 => by
  have p1 := r1.mono e1 (H' := B') Kp.nil
  have p2 := r2.mono e1 (H' := B') Kp.nil
  cases p1 with
  | @lsS _ xs _ h1 g1 =>
    cases p2 with
    | @lsS _ ys _ h2 g2 =>
      have q1 : SqL c.K H' a xs := SqL.of (e2 _ _ h1)
      have q2 : SqL c.K H' b ys := SqL.of (e2 _ _ h2)
      refine ⟨fun i z hz => ?_, ⟨xs, ys, q1, q2, by rw [zip_len, g1.len, g2.len]; omega⟩⟩
      obtain ⟨d, e, hd, he, rfl⟩ := zip_get hz
      obtain ⟨x, G1, hx, rx, m1, _⟩ := g1.pick hd
      obtain ⟨y, G2, hy, ry, m2, _⟩ := g2.pick he
      obtain rfl : G1 = [] := List.eq_nil_iff_forall_not_mem.mpr fun u m => nomatch m1 u m
      obtain rfl : G2 = [] := List.eq_nil_iff_forall_not_mem.mpr fun u m => nomatch m2 u m
      refine ⟨⟨xs, ys, x, y, q1, q2, hx, hy⟩, fun v H2 yd => ?_⟩
      obtain ⟨T, x', y', rfl, nT, rfl, k1, k2⟩ := yd
      have ex := k1 xs q1
      have ey := k2 ys q2
      rw [hx] at ex
      rw [hy] at ey
      cases ex
      cases ey
      exact zip_yld e2 nT rx ry
theorem iter_zipT {B2 : Hp} {a b : Addr} {ds es : List D} (r1 : Rp c.K c.A B2 B2 (.ref a) (.tup false ds) []) (r2 : Rp c.K c.A B2 B2 (.ref b) (.tup false es) []) : IterOk c (ItzT c.K a b) B2 ((List.zip ds es).map fun p => .tup true [p.1, p.2]) := fun B' H' e1 e2 => by
  have p1 := r1.mono e1 (H' := B') Kp.nil
  have p2 := r2.mono e1 (H' := B') Kp.nil
  cases p1 with
  | @tpS _ xs _ h1 g1 =>
    cases p2 with
    | @tpS _ ys _ h2 g2 =>
      have q1 : SqT c.K H' a xs := e2.sqT h1
      have q2 : SqT c.K H' b ys := e2.sqT h2
      refine ⟨fun i z hz => ?_, ⟨xs, ys, q1, q2, by rw [zip_len, g1.len, g2.len]; omega⟩⟩
      obtain ⟨d, e, hd, he, rfl⟩ := zip_get hz
      obtain ⟨x, G1, hx, rx, m1, _⟩ := g1.pick hd
      obtain ⟨y, G2, hy, ry, m2, _⟩ := g2.pick he
      obtain rfl : G1 = [] := List.eq_nil_iff_forall_not_mem.mpr fun u m => nomatch m1 u m
      obtain rfl : G2 = [] := List.eq_nil_iff_forall_not_mem.mpr fun u m => nomatch m2 u m
      refine ⟨⟨xs, ys, x, y, q1, q2, hx, hy⟩, fun v H2 yd => ?_⟩
      obtain ⟨T, x', y', rfl, nT, rfl, k1, k2⟩ := yd
      have ex := k1 xs q1
      have ey := k2 ys q2
      rw [hx] at ex
      rw [hy] at ey
      cases ex
      cases ey
      exact zip_yld e2 nT rx ry
def XI.zip (a : XA c) : XI c where
  t := fun W => iZipA c.K (a.t W)
  ev := fun s Δ => (a.ev s Δ).bind fun ds s1 => optR s1 (zipD ds)
  ok := fun W σ B H Δ s e sm rd Q h => by
    refine a.ok W σ B H Δ s e sm rd _ ?_
    revert h
    cases a.ev s Δ with
    | er k p s1 => intro h; exact h
    | bad => intro h; exact h
    | ok ds s1 =>
      show AnsI c B H σ W Q (optR s1 (zipD ds)) → _
      cases hz : zipD ds with
      | none => intro h; exact h.elim
      | some p =>
        intro h vs B1 H1 F1 st1 sm1 r1
        unfold zipD at hz
        split at hz
        · rename_i o ds' o' es'
          cases hz
          obtain ⟨x, y, G1, G2, rfl, rx, ry, rfl⟩ := r1.two'
          obtain ⟨u, xs, _, rfl, h1, _⟩ := rx.lst_at st1.bh
          obtain ⟨v, ys, _, rfl, h2, _⟩ := ry.lst_at st1.bh
          refine ⟨u, v, xs, ys, rfl, .inl ⟨SqL.of h1, SqL.of h2, h _ B1 H1 _ st1 sm1 ⟨r1.nb, r1.noc⟩ fun B2 f1 f2 => ?_⟩⟩
          have a1 := rx.any (B2 := B2) (fun z => f1 (by simp only [z, Bool.true_or])) fun a m => f2 a (List.mem_append_left _ m)
          have a2 := ry.any (B2 := B2) (fun z => f1 (by simp only [z, Bool.or_true])) fun a m => f2 a (List.mem_append_right _ m)
          exact iter_zipL a1 a2
        · rename_i o ds' o' es'
          cases hz
          obtain ⟨x, y, G1, G2, rfl, rx, ry, rfl⟩ := r1.two'
          obtain ⟨u, xs, _, rfl, h1, _⟩ := rx.tup_at st1.bh
          obtain ⟨v, ys, _, rfl, h2, _⟩ := ry.tup_at st1.bh
          refine ⟨u, v, xs, ys, rfl, .inr ⟨h1, h2, h _ B1 H1 _ st1 sm1 ⟨r1.nb, r1.noc⟩ fun B2 f1 f2 => ?_⟩⟩
          have a1 := rx.any (B2 := B2) (fun z => f1 (by simp only [z, Bool.true_or])) fun a m => f2 a (List.mem_append_left _ m)
          have a2 := ry.any (B2 := B2) (fun z => f1 (by simp only [z, Bool.or_true])) fun a m => f2 a (List.mem_append_right _ m)
          exact iter_zipT a1 a2
        · cases hz
theorem zip_ {X : Cx} {W : WX} {a b : Expr} {xs : XA c} {p pos tpos : Pos} {elts : List Expr} {kk : Nat} (hm : X.mg "zip" = none) (ha : PA X [a, b] (xs.t W)) (hK : X.K = c.K := by rfl) (hg : Gl X "zip" := by rfl)
    (hs : starEach [a, b] X.env = (false, eval a X.env) :: starEach [b] X.env := by rfl) (hpl : (backTo pos (starEach [b] X.env)).any (·.1) = false := by rfl) : PI X (.Tuple elts kk tpos) (.Call (.Name "zip" p) [a, b] [] pos) ((XI.zip xs).t W) := by
  have h := pi_zipA (tpos := tpos) (elts := elts) (kk := kk) (p := p) hg hm ha hs hpl
  rw [hK] at h
  exact h
/-! ### list(d.items()) -/
def keyD : Key → D
  | .inl i => .int i
  | .inr x => .str x
def gItems : D → Option D
  | .dic _ ks ds => some (.lst true ((List.zip ks (frzL ds)).map fun p => .tup false [keyD p.1, p.2]))
  | _ => none
theorem items_rp {K : PySem.W.Frag} {A : Str → Addr} {B' H' : Hp} : ∀ {ks : List Key} {xs : List V} {ds : List D} {F : List Addr} {ts : List Addr}, RpL K A B' B' xs ds F → F = [] → ks.length = xs.length →
    PySem.Paired (fun (t : Addr) (q : Key × V) => H' t = some (.tup [kV q.1, q.2])) ts (ks.zip xs) → (∀ t ∈ ts, ∀ o, H' t = some o → B' t = some o) → RpL K A B' H' (ts.map V.ref) ((List.zip ks ds).map fun p => .tup false [keyD p.1, p.2]) []
  | [], xs, ds, _, ts, r, e, l, pr, tk => by
    cases pr
    simp
    exact .nil
  | k :: ks, _, _, _, ts, .nil, e, l, pr, tk => by simp at l
  | k :: ks, _, _, _, ts, .cons (v := v) (d := d) r rs, e, l, pr, tk => by
    obtain ⟨rfl, rfl⟩ := List.append_eq_nil_iff.mp e
    rw [List.zip_cons_cons] at pr
    cases pr with
    | @cons t _ ts _ h1 h2 =>
      simp only [List.map_cons, List.zip_cons_cons]
      refine .cons (F := []) (G := []) (.tpS (SqT.of (tk t List.mem_cons_self _ h1)) ?_) (items_rp rs rfl (by simpa using l) h2 fun t m => tk t (List.mem_cons_of_mem _ m))
      refine .cons (F := []) (G := []) ?_ (.cons (F := []) (G := []) (r.mono (Ex.refl _) Kp.nil) .nil)
      cases k with
      | inl i => exact .int i
      | inr x => exact .str x
theorem do_items : DoA1 c (fun x H Q => LiI.rItemsL x H Q) gItems := by
  intro B H x d F z ex rx nd hz Q k
  cases d <;> first | (cases hz; done) | skip
  rename_i o ks ds
  cases hz
  -- where the dict stands, its values
  have at_ : ∃ a xs G, x = .ref a ∧ H a = some (.dK (ks.zip xs)) ∧ ks.length = xs.length ∧ RpL c.K c.A B H xs ds G ∧ (∀ u ∈ G, u ∈ F) := by
    cases rx with
    | diS h l r => exact ⟨_, _, [], rfl, ex _ _ h, l, r.mono (Ex.refl _) Kp.nil, fun _ m => nomatch m⟩
    | diO h n l r => exact ⟨_, _, _, rfl, h, l, r, fun u m => List.mem_cons_of_mem _ m⟩
  obtain ⟨a, xs, G, rfl, ha, l, r, hG⟩ := at_
  refine ⟨a, _, rfl, ha, fun H' p ts up np nts pts hp pr => ?_⟩
  have rB : ∀ u ∈ G, B u = none := r.nb
  have thG : ∀ u ∈ G, H u ≠ none := r.th
  let B' : Hp := tkn B H' (ts ++ G)
  have nbT : ∀ u ∈ ts ++ G, B u = none := fun u m => (List.mem_append.mp m).elim (fun m => ex.none (nts u m)) (rB u)
  have eB : Ex B B' := tkn_ex nbT
  have eH : Ex B' H' := tkn_in (ex.trans up)
  have pB : B' p = none := by
    show (if p ∈ ts ++ G then H' p else B p) = none
    rw [if_neg (fun m => (List.mem_append.mp m).elim pts fun m => thG p m np)]
    exact ex.none np
  have hasT : ∀ (o : HO) u, u ∈ ts ++ G → H' u = some o → B' u = some o := fun o u m e => by
    show (if u ∈ ts ++ G then H' u else B u) = some o
    rw [if_pos m]; exact e
  have rz : RpL c.K c.A B' B' xs (frzL ds) [] := r.frz (H' := B') eB fun u m o e => hasT o u (List.mem_append_right _ m) (up _ _ e)
  refine k (.ref p) B' H' [p] ⟨eB, eH, fun u o e _ _ => up u o e, fun u e => ?_, fun u e n => ?_, fun u m => .inl (by rw [List.mem_singleton.mp m]; exact np), by simp⟩ (.lsO hp pB (F := []) ?_)
  · cases q : H u with
    | none => rfl
    | some w => rw [up _ _ q] at e; cases e
  · by_cases m : u ∈ ts ++ G
    · rcases List.mem_append.mp m with m | m
      · exact .inl (nts u m)
      · exact .inr (hG u m)
    · exact absurd (show B' u = none by show (if u ∈ ts ++ G then H' u else B u) = none; rw [if_neg m]; exact e) n
  · exact items_rp rz rfl l pr fun t m o e => hasT o t (List.mem_append_left _ m) e
def XE.items (a : XE c) : XE c := XE.un _ gItems do_items a
theorem items_ {X : Cx} {W : WX} {a : Expr} {xa : XE c} {p apos cpos pos : Pos} (hm : X.mg "list" = none) (he : PE X a (xa.t W)) (hc : X.calm = true := by rfl) (hg : Gl X "list" := by rfl) (hbase : attributeBase a "items" X.env (eval a X.env) = eval a X.env := by rfl) (hline : (apos.endLine == cpos.line) = true := by rfl)
    (hs : starEach [.Call (.Attribute a "items" apos) [] [] cpos] X.env = (false, eval (.Call (.Attribute a "items" apos) [] [] cpos) X.env) :: starEach [] X.env := by rfl) :
    PE X (.Call (.Name "list" p) [.Call (.Attribute a "items" apos) [] [] cpos] [] pos) ((XE.items xa).t W) := LiI.pe_listItems hc he hg hm (by decide +kernel) hbase hline hs
/-! ### dicts as they are written, keys constants -/
def XE.dic0 : XE c where
  t := fun _ => tDNewK
  ev := fun s _ => .ok (.dic true [] []) s
  ok := fun W σ B H Δ s e sm rd Q h p hp => by
    have st := Stp.obj (F := []) (G := []) (o := .dK []) e hp (fun _ m => m) (fun _ m => nomatch m) List.nodup_nil
    exact h (.ref p) B _ [p] ((Stp.refl (S := c.S) e List.nodup_nil).then0 st) (sm.stp st (fun _ m => nomatch m) Noc.nil) (.diO (ks := []) (xs := []) upd_same (e.none hp) rfl .nil)
theorem dic0_ {X : Cx} {W : WX} {pos : Pos} : PE X (.Dict [] [] pos) ((XE.dic0 (c := c)).t W) := pe_dnewK
end
end Ly

end
section
set_option Elab.async false
set_option linter.all false
set_option maxRecDepth 100000
set_option maxHeartbeats 4000000
namespace Ly
open PySem L2 PySem.Spec PyProof.Rows
section
variable {c : Cf}
/-! ### x in y, x not in y -/
def flatD : D → Bool
  | .non => true
  | .bl _ => true
  | .int _ => true
  | .str _ => true
  | _ => false
/-- y == x, both flat -/
def eqF : D → D → Bool
  | .non, .non => true
  | .bl a, .bl b => a == b
  | .bl a, .int b => (if a then 1 else 0) == b
  | .int a, .bl b => a == (if b then 1 else 0)
  | .int a, .int b => a == b
  | .str a, .str b => a == b
  | _, _ => false
theorem Rp.flat {K : PySem.W.Frag} {A : Str → Addr} {B H : Hp} {v : V} {d : D} {F : List Addr} (r : Rp K A B H v d F) (h : flatD d = true) : flatV v = true := by
  cases r <;> first | rfl | cases h
theorem Rp.eqF {K : PySem.W.Frag} {A : Str → Addr} {B H : Hp} {v w : V} {d e : D} {F G : List Addr} (r : Rp K A B H v d F) (q : Rp K A B H w e G) (h : flatD d = true) (k : flatD e = true) : eqV v w = Ly.eqF d e := by
  cases r <;> (first | (cases h; done) | (cases q <;> first | (cases k; done) | rfl))
theorem RpL.flat {K : PySem.W.Frag} {A : Str → Addr} {B H : Hp} : ∀ {xs : List V} {ds : List D} {F : List Addr}, RpL K A B H xs ds F → ds.all flatD = true → xs.all flatV = true
  | _, _, _, .nil, _ => rfl
  | _, _, _, .cons r t, h => by
    simp only [List.all_cons, Bool.and_eq_true] at h ⊢
    exact ⟨Rp.flat r h.1, RpL.flat t h.2⟩
theorem RpL.inF {K : PySem.W.Frag} {A : Str → Addr} {B H : Hp} {w : V} {e : D} {G : List Addr} (q : Rp K A B H w e G) (k : flatD e = true) : ∀ {xs : List V} {ds : List D} {F : List Addr}, RpL K A B H xs ds F → ds.all flatD = true → inV w xs = ds.any fun d => eqF d e
  | _, _, _, .nil, _ => rfl
  | _, _, _, .cons r t, h => by
    simp only [List.all_cons, Bool.and_eq_true] at h
    have ih := RpL.inF q k t h.2
    unfold inV at ih ⊢
    rw [List.any_cons, List.any_cons, ih, r.eqF q h.1 k]
def inFl (d : D) (es : List D) : Option Bool := if flatD d && es.all flatD then some (es.any fun e => eqF e d) else none
def inDp (d : D) (es : List D) : Option Bool := match toP d, toPL es with
  | some p, some ps => if SeqAt.shaped p && SeqAt.shaped (.list ps) then some (ps.any fun z => PyData.eqv z p) else none
  | _, _ => none
def inD (d e : D) : Option Bool := match e with
  | .lst _ es => (match inFl d es with
    | some b => some b
    | none => inDp d es)
  | .tup _ es => inFl d es
  | _ => none
def rInA (K : PySem.W.Frag) (neg : Bool) : R2 := fun x y H Q => rIn K neg x y H Q ∨ (if neg then rNotInD K else rInD K) x y H Q
theorem op_inA {X : Cx} {k : Nat} (hr : Rm k X.A) : OpR X (compareOp .In) (rInA X.K false) := fun pins s σ H x y v u Q I rx ry h => by
  rcases h with h | h
  · exact op_in_seq pins s σ H x y v u Q I rx ry h
  · exact op_inD (by have := hr.r.un; omega) pins s σ H x y v u Q I rx ry h
theorem op_ninA {X : Cx} {k : Nat} (hr : Rm k X.A) : OpR X (compareOp .NotIn) (rInA X.K true) := fun pins s σ H x y v u Q I rx ry h => by
  rcases h with h | h
  · exact op_notIn_seq pins s σ H x y v u Q I rx ry h
  · exact op_notInD (by have := hr.r.un; omega) pins s σ H x y v u Q I rx ry h
def gIn (neg : Bool) (d e : D) : Option D := (inD d e).map fun b => .bl (if neg then !b else b)
theorem do_in (neg : Bool) : DoA2 c (rInA c.K neg) (gIn neg) := by
  intro B H x y d e F1 F2 z ex rx ry nd hz Q k
  simp only [gIn, Option.map_eq_some_iff] at hz
  obtain ⟨b, hb, rfl⟩ := hz
  have fin := k (.bl (if neg then !b else b)) B H [] (Stp.same ex) (.bl _)
  have flat : ∀ {es : List D} {p : Addr} {xs : List V} {G : List Addr}, y = .ref p → (SqL c.K H p xs ∨ SqT c.K H p xs) → RpL c.K c.A B H xs es G → inFl d es = some b → rInA c.K neg x y H Q := by
    intro es p xs G ey hs r hf
    unfold inFl at hf
    split at hf
    case isFalse => cases hf
    rename_i hc
    simp only [Bool.and_eq_true] at hc
    refine .inl ⟨p, xs, ey, hs, rx.flat hc.1, r.flat hc.2, ?_⟩
    rw [r.inF rx hc.1 hc.2]
    cases hf
    exact fin
  have deep : ∀ {o : Bool} {es : List D}, e = .lst o es → inDp d es = some b → rInA c.K neg x y H Q := by
    intro o es ee hf
    subst ee
    unfold inDp at hf
    cases h1 : toP d with
    | none => rw [h1] at hf; cases hf
    | some p =>
      cases h2 : toPL es with
      | none => rw [h1, h2] at hf; cases hf
      | some ps =>
        rw [h1, h2] at hf
        simp only at hf
        split at hf
        case isFalse => cases hf
        rename_i hc
        simp only [Bool.and_eq_true] at hc
        have hy := ry.dp ex (p := .list ps) (by simp [toP, h2])
        right
        cases hf
        cases neg with
        | false => exact ⟨p, ps, rx.dp ex h1, hy, hc.1, hc.2, fin⟩
        | true => exact ⟨p, ps, rx.dp ex h1, hy, hc.1, hc.2, fin⟩
  unfold inD at hb
  split at hb
  · rename_i o es
    obtain ⟨p, xs, G, e1, h1, h2, _⟩ := ry.lst_at ex
    split at hb
    · rename_i b' hf
      cases hb
      exact flat e1 (.inl (SqL.of h1)) h2 hf
    · exact deep rfl hb
  · rename_i o es
    obtain ⟨p, xs, G, e1, h1, h2, _⟩ := ry.tup_at ex
    exact flat e1 (.inr h1) h2 hb
  · cases hb
abbrev XE.isin (a b : XE c) : XE c := XE.op _ (gIn false) (do_in false) a b
abbrev XE.notin (a b : XE c) : XE c := XE.op _ (gIn true) (do_in true) a b
section
variable {X : Cx} {W : WX} {a b : Expr} {xa xb : XE c} {pos : Pos} {k : Nat}
theorem in_ (hr : Rm k X.A) (ha : PE X a (xa.t W)) (hb : PE X b (xb.t W)) (hK : X.K = c.K := by rfl) (hm : behindInMarks .In b = false := by with_unfolding_all rfl) : PE X (.Compare a [.In] [b] pos) ((XE.isin xa xb).t W) := by
  have h := op_inA hr
  rw [hK] at h
  exact pe_cmpR h ha hb hm
theorem notin_ (hr : Rm k X.A) (ha : PE X a (xa.t W)) (hb : PE X b (xb.t W)) (hK : X.K = c.K := by rfl) (hm : behindInMarks .NotIn b = false := by with_unfolding_all rfl) : PE X (.Compare a [.NotIn] [b] pos) ((XE.notin xa xb).t W) := by
  have h := op_ninA hr
  rw [hK] at h
  exact pe_cmpR h ha hb hm
theorem inT_ (hr : Rm k X.A) (ha : PE X a (xa.t W)) (hb : PE X b (xb.t W)) (hK : X.K = c.K := by rfl) (hm : behindInMarks .In b = false := by with_unfolding_all rfl) : PT X (.Compare a [.In] [b] pos) ((XT.test (XE.isin xa xb)).t W) := by
  have h := op_inA hr
  rw [hK] at h
  exact pt_cmpR h ha hb hm
theorem notinT_ (hr : Rm k X.A) (ha : PE X a (xa.t W)) (hb : PE X b (xb.t W)) (hK : X.K = c.K := by rfl) (hm : behindInMarks .NotIn b = false := by with_unfolding_all rfl) : PT X (.Compare a [.NotIn] [b] pos) ((XT.test (XE.notin xa xb)).t W) := by
  have h := op_ninA hr
  rw [hK] at h
  exact pt_cmpR h ha hb hm
end
/-! ### dicts as they are written: the keys are numbers and texts -/
structure XD (c : Cf) where
  t : WX → List (TE × TE)
  ks : List Key
  ev : Strm → Env → R (List D)
  ok : ∀ (W : WX) (σ : L2.St) (B H : Hp) (Δ : Env) (s : Strm), Ex B H → Sm c B H s → RdE c B σ Δ → ∀ Q : List (V × V) → Hp → Prop,
    AnsA c B H σ W (fun vs H' => vs.length = ks.length → Q ((ks.zip vs).map fun p => (kV p.1, p.2)) H') (ev s Δ) → tPairs (t W) σ H Q
def XD.nil : XD c where
  t := fun _ => []
  ks := []
  ev := fun s _ => .ok [] s
  ok := fun W σ B H Δ s e sm rd Q h => h [] B H [] (Stp.refl e List.nodup_nil) sm .nil rfl
def XD.cons (k : Key) (a : XE c) (r : XD c) : XD c where
  t := fun W => (tC (kV k), a.t W) :: r.t W
  ks := k :: r.ks
  ev := fun s Δ => (a.ev s Δ).bind fun d s1 => (r.ev s1 Δ).bind fun ds s2 => .ok (d :: ds) s2
  ok := fun W σ B H Δ s e sm rd Q h => by
    refine a.ok W σ B H Δ s e sm rd _ ?_
    revert h
    cases a.ev s Δ with
    | ok d s1 =>
      intro h v B1 H1 F1 st1 sm1 r1
      have n1 := sm.new st1.new
      refine r.ok W σ B1 H1 Δ s1 st1.bh sm1 (rd.mono st1.bb) _ ?_
      revert h
      show AnsA c B H σ W _ ((r.ev s1 Δ).bind fun ds s2 => .ok (d :: ds) s2) → _
      cases r.ev s1 Δ with
      | ok ds s2 =>
        intro h vs B2 H2 F2 st2 sm2 r2 hl
        have g := r1.bsd (S := c.S) n1
        have st3 := st2.ext g st1.nd
        rw [List.append_nil] at st3
        exact h (v :: vs) B2 H2 (F1 ++ F2) (st1.trans st3 fun _ m => m) sm2 (.cons (r1.mono st2.bb (st2.kp g)) r2) (by simp [hl])
      | er k p s2 => intro h; exact Er.step h st1
      | bad => intro h; exact h
    | er k p s1 => intro h; exact h
    | bad => intro h; exact h
theorem mergeK_app : ∀ {more acc : List (Key × V)}, ((acc ++ more).map (·.1)).Nodup → mergeK acc more = acc ++ more
  | [], acc, _ => by rw [List.append_nil]; rfl
  | p :: r, acc, h => by
    have hn : acc.any (fun kv => decide (kv.1 = p.1)) = false := by
      rw [List.any_eq_false]
      intro kv hk
      simp only [decide_eq_true_eq]
      intro e
      rw [List.map_append, List.map_cons] at h
      exact (List.nodup_append.mp h).2.2 _ (List.mem_map_of_mem hk) _ List.mem_cons_self e
    have e : putK acc p.1 p.2 = acc ++ [p] := by
      unfold putK
      rw [if_neg (by rw [hn]; simp)]
    show mergeK (putK acc p.1 p.2) r = _
    rw [e, mergeK_app (by rw [List.append_assoc]; exact h), List.append_assoc]
    rfl
def XE.dic (r : XD c) : XE c where
  t := fun W => tDisp (r.t W)
  ev := fun s Δ => if r.ks.length ≤ 15 ∧ r.ks.Nodup then (r.ev s Δ).bind fun ds s1 => .ok (.dic true r.ks ds) s1 else .bad
  ok := fun W σ B H Δ s e sm rd Q h p hp => by
    split at h
    case isFalse => exact h.elim
    rename_i hc
    have st0 := Stp.obj (F := []) (G := []) (o := .dK []) e hp (fun _ m => m) (fun _ m => nomatch m) List.nodup_nil
    have st0' : Stp c.S B H B (upd H p (.dK [])) [] [p] := (Stp.refl (S := c.S) e List.nodup_nil).then0 st0
    have sm0 := sm.stp st0 (fun _ m => nomatch m) Noc.nil
    have bs : Bsd c.S B (upd H p (.dK [])) [] [p] := ⟨fun a m => by rw [List.mem_singleton.mp m]; exact e.none hp, fun a m => by rw [List.mem_singleton.mp m, upd_same]; simp, fun _ _ z => (nomatch z), fun a m z => by
      rw [List.mem_singleton.mp m] at z
      exact (sm.out p z).2 hp⟩
    refine r.ok W σ B (upd H p (.dK [])) Δ s st0.bh sm0 rd _ ?_
    revert h
    cases r.ev s Δ with
    | er k q s1 => intro h; exact fun B' H' d st sm' pay => h B' H' d ((st0'.trans (st.more (G := [p]) fun _ m => nomatch m) fun _ m => m)) sm' pay
    | bad => intro h; exact h
    | ok ds s1 =>
      intro h vs B1 H1 F1 st1 sm1 r1 hl
      have kp := st1.kp bs p List.mem_cons_self
      have at1 : H1 p = some (.dK []) := kp.1 _ upd_same
      refine ⟨at1, r.ks.zip vs, rfl, by rw [List.length_zip]; omega, ?_⟩
      have em : mergeK [] (r.ks.zip vs) = r.ks.zip vs := by
        rw [mergeK_app]
        · rfl
        · rw [List.nil_append, List.map_fst_zip (by omega)]
          exact hc.2
      rw [em]
      have st2 := st1.ext bs (by simp)
      have n2 : p ∉ F1 := fun m => by
        have := st2.nd
        rw [List.nodup_append] at this
        exact this.2.2 p List.mem_cons_self p m rfl
      have ex2 : Ex B1 (upd H1 p (.dK (r.ks.zip vs))) := fun a o q => by
        rw [upd_ne (ne_of_none q kp.2)]; exact st1.bh a o q
      have st3 : Stp [] B1 H1 B1 (upd H1 p (.dK (r.ks.zip vs))) ([p] ++ F1) ([p] ++ F1) := ⟨Ex.refl _, ex2, fun a o q n _ => by rw [upd_ne (fun z => n (by rw [z]; simp))]; exact q, fun a q => by
        by_cases z : a = p
        · rw [z, upd_same] at q; cases q
        · rw [upd_ne z] at q; exact q, fun _ q n => absurd q n, fun _ m => .inr m, st2.nd⟩
      have kF : Kp H1 B1 (upd H1 p (.dK (r.ks.zip vs))) F1 := fun a m => ⟨fun o q => by rw [upd_ne (fun z => n2 (by rw [← z]; exact m))]; exact q, r1.nb a m⟩
      refine h (.ref p) B1 _ ([p] ++ F1) ((st0'.trans st2 fun _ m => m).then0 st3) (sm1.stp st3 (fun a m => ?_) ?_) (.diO upd_same kp.2 hl.symm (r1.mono (Ex.refl _) kF))
      · rcases List.mem_append.mp m with m | m
        · exact bs.ns a m
        · exact (sm0.new st1.new) a m
      · refine Noc.app (fun a m o q => ?_) r1.noc
        rw [List.mem_singleton.mp m, at1] at q
        cases q
        exact fun b q z => by unfold LamX.CodeO at z; cases z
section
variable {X : Cx} {W : WX} {a : Expr} {xa : XE c} {xd : XD c} {pos p : Pos} {keys : List (Option Expr)} {vals : List Expr} {j : Nat}
theorem dnil_ : PPs X pos [] [] ((XD.nil (c := c)).t W) := pps_nil
theorem dconsI_ {i : Int} (ha : PE X a (xa.t W)) (hr : PPs X pos keys vals (xd.t W)) : PPs X pos (some (.Constant (.int i) j p) :: keys) (a :: vals) ((XD.cons (.inl i) xa xd).t W) := pps_cons pe_int ha hr
theorem dconsS_ {x : Str} (ha : PE X a (xa.t W)) (hr : PPs X pos keys vals (xd.t W)) : PPs X pos (some (.Constant (.str x) j p) :: keys) (a :: vals) ((XD.cons (.inr x) xa xd).t W) := pps_cons pe_str ha hr
theorem dic_ (h : PPs X pos keys vals (xd.t W)) (h1 : keys.all (·.isSome) = true := by rfl) (h2 : keys.length = vals.length := by rfl) (h3 : keys ≠ [] := by simp) (h4 : keys.length ≤ 15 := by decide) : PE X (.Dict keys vals pos) ((XE.dic xd).t W) := pe_disp h h1 h2 h3 h4
end
end
end Ly

end
section
set_option Elab.async false
set_option linter.all false
set_option maxRecDepth 100000
set_option maxHeartbeats 4000000
namespace Ly
open PySem L2 PySem.Spec PyProof.Rows
/-! ### the law's own stream of numbers -/
def fillC (n : Int) : List Int → Int → Strm
  | [], mix => ⟨[], 0, n, mix⟩
  | x :: r, mix => if 10 ^ 18 ≤ x then ⟨r, x, n, (mix * 8191 + x + 3) % 2147483647⟩ else fillC n r ((mix * 8191 + x + 3) % 2147483647)
def Strm.fill (s : Strm) : Strm := if s.left = 0 then fillC s.many s.cells s.mix else s
def Strm.pseudo (s : Strm) (m : Int) : Int := ((((s.mix + 7919 * s.many + 104729) ^ 5) % 2147483629 * 48271 + 30011 * s.many + 29) ^ 3) % 1000000007 % m
def Strm.draw (s : Strm) (m : Int) : Int × Strm :=
  let s1 := Strm.fill { s with many := s.many + 1 }
  if 0 < s1.left then (s1.left % m, { s1 with left := s1.left / m }) else (s1.pseudo m, s1)
/-- a stream as it may stand, n at most drawn -/
def Strm.okB (n : Int) (s : Strm) : Bool := decide (0 ≤ s.left) && decide (0 ≤ s.mix) && decide (s.mix < 2147483647) && decide (0 ≤ s.many) && decide (s.many ≤ n)
structure Strm.Ok (n : Int) (s : Strm) : Prop where
  l : 0 ≤ s.left
  x0 : 0 ≤ s.mix
  x1 : s.mix < 2147483647
  m0 : 0 ≤ s.many
  m1 : s.many ≤ n
theorem Strm.okB_iff {n : Int} {s : Strm} : s.okB n = true ↔ s.Ok n := by
  unfold Strm.okB
  simp only [Bool.and_eq_true, decide_eq_true_eq]
  exact ⟨fun ⟨⟨⟨⟨a, b⟩, c⟩, d⟩, e⟩ => ⟨a, b, c, d, e⟩, fun h => ⟨⟨⟨⟨h.l, h.x0⟩, h.x1⟩, h.m0⟩, h.m1⟩⟩
theorem fillC_ok {n : Int} (h0 : 0 ≤ n) : ∀ (l : List Int) (mix : Int), 0 ≤ mix → mix < 2147483647 → (fillC n l mix).Ok n
  | [], mix, a, b => ⟨Int.le_refl _, a, b, h0, Int.le_refl _⟩
  | x :: r, mix, a, b => by
    have h1 := Int.emod_nonneg (mix * 8191 + x + 3) (b := 2147483647) (by decide)
    have h2 := Int.emod_lt_of_pos (mix * 8191 + x + 3) (b := 2147483647) (by decide)
    unfold fillC
    split
    · exact ⟨by show (0 : Int) ≤ x; omega, h1, h2, h0, Int.le_refl _⟩
    · exact fillC_ok h0 r _ h1 h2
theorem Strm.Ok.fill {n : Int} {s : Strm} (h : s.Ok n) : s.fill.Ok n := by
  unfold Strm.fill
  split
  · have := fillC_ok h.m0 s.cells s.mix h.x0 h.x1
    exact ⟨this.l, this.x0, this.x1, this.m0, Int.le_trans this.m1 h.m1⟩
  · exact h
theorem Strm.Ok.up {n : Int} {s : Strm} (h : s.Ok n) : ({ s with many := s.many + 1 } : Strm).Ok (n + 1) := ⟨h.l, h.x0, h.x1, by have := h.m0; show (0 : Int) ≤ s.many + 1; omega, by have := h.m1; show s.many + 1 ≤ n + 1; omega⟩
theorem Strm.Ok.draw {n m : Int} {s : Strm} (h : s.Ok n) (hm : 0 < m) : (s.draw m).2.Ok (n + 1) ∧ 0 ≤ (s.draw m).1 ∧ (s.draw m).1 < m := by
  have h1 := h.up.fill
  unfold Strm.draw
  dsimp only
  split
  · exact ⟨⟨Int.ediv_nonneg h1.l (Int.le_of_lt hm), h1.x0, h1.x1, h1.m0, h1.m1⟩, Int.emod_nonneg _ (by omega), Int.emod_lt_of_pos _ hm⟩
  · exact ⟨h1, Int.emod_nonneg _ (by omega), Int.emod_lt_of_pos _ hm⟩
theorem Strm.Ok.mono {n k : Int} {s : Strm} (h : s.Ok n) (hk : n ≤ k) : s.Ok k := ⟨h.l, h.x0, h.x1, h.m0, Int.le_trans h.m1 hk⟩
section
variable {c : Cf}
/-- the def _law_draw: the stream and a bound -/
def F_draw (c : Cf) : Fn := fun s ds => match c.st, ds with
  | some (a, _), [.opq (.ref a'), .int m] => if a = a' ∧ 0 < m ∧ m < 2 ^ 63 ∧ s.okB (2 ^ 40) = true then .ok (.int (s.draw m).1) (s.draw m).2 else .bad
  | _, _ => .bad
/-! its text, read -/
abbrev sx (c : Cf) (k : Int) : XE c := .ix (.var 0) (.int k)
def t_draw (c : Cf) (W : WX) : TS :=
  tSeq ((XS.setI (c := c) 0 [] (.add (sx c 2) (.int 1)) (.con 2)).t W)
  (tSeq (tWhile (((XT.test (.eq (sx c 1) (.int 0))).and (XT.test (.ne (sx c 0) (.lst .nil)))).t W)
    (tSeq (tAsg (tBM c.K "list" rPopAt ((sx c 0).t W) (tCons (tC (.int 0)) tNil)) (gName 2))
    (tSeq ((XS.setI (c := c) 0 [] (.mod (.toInt (.cons (.add (.add (.mul (sx c 3) (.int 8191)) (.var 2)) (.int 3)) .nil)) (.int 2147483647)) (.con 3)).t W)
    ((XS.setI (c := c) 0 [] (.ite (.test (.ge (.var 2) (.pow (.int 10) (.int 18)))) (.var 2) (.int 0)) (.con 1)).t W))))
  (tSeq ((XS.ite (c := c) [] (.test (.gt (sx c 1) (.int 0)))
    (.seq (.asg [] (.mod (.toInt (.cons (sx c 1) .nil)) (.var 1)) (.name 3)) (.seq (.setI 0 [] (.div (sx c 1) (.var 1)) (.con 1)) (.ret [] (.var 3)))) .pass).t W)
  (tSeq ((XS.asg (c := c) [] (.mod (.toInt (.cons (.pow (.add (.add (sx c 3) (.mul (.int 7919) (sx c 2))) (.int 104729)) (.int 5)) .nil)) (.int 2147483629)) (.name 4)).t W)
  ((XS.ret (c := c) [] (.mod (.mod (.toInt (.cons (.pow (.add (.add (.mul (.var 4) (.int 48271)) (.mul (.int 30011) (sx c 2))) (.int 29)) (.int 3)) .nil)) (.int 1000000007)) (.var 1))).t W))))
/-! readings at work -/
def Evt (t : TE) (σ : L2.St) (H : Hp) (v : V) : Prop := ∀ Q : VK, Q v H → t σ H Q
variable {W : WX} {σ : L2.St} {H : Hp} {x y : XE c} {i j : Int}
theorem et_int : Evt ((XE.int (c := c) i).t W) σ H (.int i) := fun _ q => q
theorem et_var {k : Nat} {v : V} (h : σ[k]? = some (some v)) : Evt ((XE.var (c := c) k).t W) σ H v := fun _ q => ⟨v, h, q⟩
theorem et_ix {a : Addr} {xs : List V} {k : Int} {v : V} (h0 : σ[0]? = some (some (.ref a))) (ha : H a = some (.lst xs)) (hk : atI xs k = some v) : Evt ((sx c k).t W) σ H v := fun _ q => ⟨.ref a, h0, .inl ⟨a, xs, k, v, rfl, rfl, SqL.of ha, hk, q⟩⟩
theorem et_add (hx : Evt (x.t W) σ H (.int i)) (hy : Evt (y.t W) σ H (.int j)) : Evt ((XE.add x y).t W) σ H (.int (i + j)) := fun _ q => hx _ (hy _ (.inl ⟨i, j, rfl, rfl, q⟩))
theorem et_mul (hx : Evt (x.t W) σ H (.int i)) (hy : Evt (y.t W) σ H (.int j)) (h : CMul i j) : Evt ((XE.mul x y).t W) σ H (.int (i * j)) := fun _ q => hx _ (hy _ (.inl ⟨i, j, rfl, rfl, h, q⟩))
theorem et_mod (hx : Evt (x.t W) σ H (.int i)) (hy : Evt (y.t W) σ H (.int j)) (h : 0 < j) : Evt ((XE.mod x y).t W) σ H (.int (i % j)) := fun _ q => hx _ (hy _ ⟨i, j, rfl, rfl, h, q⟩)
theorem et_div (hx : Evt (x.t W) σ H (.int i)) (hy : Evt (y.t W) σ H (.int j)) (h : CDivW i j) : Evt ((XE.div x y).t W) σ H (.int (i / j)) := fun _ q => hx _ (hy _ ⟨i, j, rfl, rfl, h, q⟩)
theorem et_pow (hx : Evt (x.t W) σ H (.int i)) (hy : Evt (y.t W) σ H (.int j)) (h : CPow i j) : Evt ((XE.pow x y).t W) σ H (.int (i ^ j.toNat)) := fun _ q => hx _ (hy _ ⟨i, j, rfl, rfl, h, q⟩)
theorem et_toInt (hx : Evt (x.t W) σ H (.int i)) : Evt ((XE.toInt (.cons x .nil)).t W) σ H (.int i) := fun _ q => hx _ (.inl ⟨i, rfl, q⟩)
theorem tt_ge {Q : Bool → Hp → Prop} (hx : Evt (x.t W) σ H (.int i)) (hy : Evt (y.t W) σ H (.int j)) (q : Q (decide (j ≤ i)) H) : (XT.test (XE.ge x y)).t W σ H Q := hx _ (hy _ ⟨i, j, rfl, rfl, _, rfl, q⟩)
theorem tt_gt {Q : Bool → Hp → Prop} (hx : Evt (x.t W) σ H (.int i)) (hy : Evt (y.t W) σ H (.int j)) (q : Q (decide (j < i)) H) : (XT.test (XE.gt x y)).t W σ H Q := hx _ (hy _ ⟨i, j, rfl, rfl, _, rfl, q⟩)
theorem tt_eq {Q : Bool → Hp → Prop} (hx : Evt (x.t W) σ H (.int i)) (hy : Evt (y.t W) σ H (.int j)) (q : Q (decide (i = j)) H) : (XT.test (XE.eq x y)).t W σ H Q :=
  hx _ (hy _ (.inr ⟨.int i, .int j, .int i, .int j, rfl, rfl, _, rfl, by
    have : PyData.eqv (.int i) (.int j) = decide (i = j) := by simp only [PyData.eqv]; rfl
    rw [this]; exact q⟩))
theorem ints_shaped (l : List Int) : SeqAt.shaped (.list (l.map .int)) = true := by
  have h1 : ∀ l : List Int, PyData.canLayAll0 (l.map .int) = true := fun l => by
    induction l with
    | nil => simp [PyData.canLayAll0]
    | cons a r ih => simp [PyData.canLayAll0, PyData.canLay0, ih]
  have h2 : ∀ l : List Int, PyData.depthAll (l.map .int) = 0 := fun l => by
    induction l with
    | nil => simp [PyData.depthAll]
    | cons a r ih => simp [PyData.depthAll, PyData.depth, ih]
  simp [SeqAt.shaped, PyData.canLay0, PyData.depth, h1, h2]
theorem ints_dp {K : PySem.W.Frag} : ∀ l : List Int, DpAll K H (l.map V.int) (l.map .int)
  | [] => .nil
  | a :: r => .cons (.int a) (ints_dp r)
theorem tt_neN {Q : Bool → Hp → Prop} {b : Addr} {l : List Int} (hx : Evt (x.t W) σ H (.ref b)) (hb : H b = some (.lst (l.map V.int))) (q : ∀ p, H p = none → Q (!l.isEmpty) (upd H p (.lst []))) : (XT.test (XE.ne x (.lst .nil))).t W σ H Q := by
  refine hx _ ⟨by simp, fun p hp => ?_⟩
  have hbp : (upd H p (.lst [])) b = some (.lst (l.map V.int)) := by rw [upd_ne (ne_of_none hb hp)]; exact hb
  refine .inr ⟨.list (l.map .int), .list [], .lst (SqL.of hbp) (ints_dp l), .lst (SqL.of upd_same) .nil, ints_shaped l, ints_shaped [], _, rfl, ?_⟩
  have e : PyData.eqv (.list (l.map .int)) (.list []) = l.isEmpty := by cases l <;> simp [PyData.eqv, PyData.eqvAll]
  rw [e]
  exact q p hp
theorem ss_set {a : Addr} {xs : List V} {n : Int} {k : Nat} {v : V} {Z : Ends} (hx : Evt (x.t W) σ H v) (h0 : σ[0]? = some (some (.ref a))) (ha : H a = some (.lst xs)) (hk : ixN xs.length n = some k) (q : Z.nx σ (upd H a (.lst (xs.set k v)))) : (XS.setI 0 [] x (.con n)).t W Z σ H :=
  hx _ ⟨.ref a, h0, a, xs, n, k, rfl, rfl, ha, hk, q⟩
/-- the stream's lists -/
structure SH (a b : Addr) (H : Hp) (s : Strm) : Prop where
  ha : H a = some (.lst [.ref b, .int s.left, .int s.many, .int s.mix])
  hb : H b = some (.lst (s.cells.map V.int))
/-- all else is kept -/
structure Fr (a b : Addr) (H H' : Hp) : Prop where
  fr : ∀ z o, H z = some o → z ≠ a → z ≠ b → H' z = some o
  th : ∀ z, H' z = none → H z = none
theorem Fr.refl {a b : Addr} : Fr a b H H := ⟨fun _ _ e _ _ => e, fun _ e => e⟩
theorem Fr.trans {a b : Addr} {H1 H2 : Hp} (x : Fr a b H H1) (y : Fr a b H1 H2) : Fr a b H H2 := ⟨fun z o e n m => y.fr z o (x.fr z o e n m) n m, fun z e => x.th z (y.th z e)⟩
theorem Fr.at {a b z : Addr} {o : HO} (h : z = a ∨ z = b) (hz : H z ≠ none) : Fr a b H (upd H z o) := ⟨fun w u e n m => by
  rw [upd_ne fun q => h.elim (fun k => n (q.trans k)) fun k => m (q.trans k)]; exact e, fun w e => by
  by_cases q : w = z
  · rw [q, upd_same] at e; cases e
  · rw [upd_ne q] at e; exact e⟩
theorem Fr.new {a b p : Addr} {o : HO} (hp : H p = none) : Fr a b H (upd H p o) := ⟨fun w u e _ _ => by rw [upd_ne (ne_of_none e hp)]; exact e, fun w e => by
  by_cases q : w = p
  · rw [q]; exact hp
  · rw [upd_ne q] at e; exact e⟩
theorem SH.new {a b p : Addr} {o : HO} {s : Strm} (h : SH a b H s) (hp : H p = none) : SH a b (upd H p o) s := ⟨by rw [upd_ne (ne_of_none h.ha hp)]; exact h.ha, by rw [upd_ne (ne_of_none h.hb hp)]; exact h.hb⟩
theorem SH.setA {a b : Addr} {s t : Strm} (h : SH a b H s) (ab : a ≠ b) (hc : t.cells = s.cells) : SH a b (upd H a (.lst [.ref b, .int t.left, .int t.many, .int t.mix])) t := ⟨upd_same, by rw [upd_ne (Ne.symm ab), hc]; exact h.hb⟩
theorem t_draw_ok {a b : Addr} {s : Strm} {m : Int} {Z : Ends} (ab : a ≠ b) (hl : σ.length = 5) (h0 : σ[0]? = some (some (.ref a))) (h1 : σ[1]? = some (some (.int m))) (sh : SH a b H s) (ok : s.Ok (2 ^ 40)) (hm : 0 < m) (hm2 : m < 2 ^ 63)
    (q : ∀ H', SH a b H' (s.draw m).2 → Fr a b H H' → Z.rt (.int (s.draw m).1) H') : t_draw c W Z σ H := by
  have up := ok.up
  refine ss_set (et_add (et_ix h0 sh.ha (v := .int s.many) rfl) et_int) h0 sh.ha (k := 2) rfl ?_
  have sh1 := sh.setA (t := { s with many := s.many + 1 }) ab rfl
  have fr1 : Fr a b H (upd H a (.lst [.ref b, .int s.left, .int (s.many + 1), .int s.mix])) := Fr.at (.inl rfl) (by rw [sh.ha]; simp)
  -- the loop
  let G : Strm := Strm.fill { s with many := s.many + 1 }
  let Inv : Nat → L2.St → Hp → Prop := fun n σ' H' => ∃ t : Strm, n = t.cells.length ∧ SH a b H' t ∧ Fr a b H H' ∧ t.Ok (2 ^ 40 + 1) ∧ t.fill = G ∧ σ'.length = 5 ∧ σ'[0]? = some (some (.ref a)) ∧ σ'[1]? = some (some (.int m))
  refine ⟨Inv, ⟨s.cells.length, { s with many := s.many + 1 }, rfl, sh1, fr1, up, rfl, hl, h0, h1⟩, ?_⟩
  rintro n σ' H' ⟨t, rfl, sht, frt, okt, et, lt, g0, g1⟩
  -- behind the loop
  have after : ∀ {H2 : Hp} {t : Strm}, SH a b H2 t → Fr a b H H2 → t.Ok (2 ^ 40 + 1) → t = G → tSeq ((XS.ite (c := c) [] (.test (.gt (sx c 1) (.int 0)))
      (.seq (.asg [] (.mod (.toInt (.cons (sx c 1) .nil)) (.var 1)) (.name 3)) (.seq (.setI 0 [] (.div (sx c 1) (.var 1)) (.con 1)) (.ret [] (.var 3)))) .pass).t W)
      (tSeq ((XS.asg (c := c) [] (.mod (.toInt (.cons (.pow (.add (.add (sx c 3) (.mul (.int 7919) (sx c 2))) (.int 104729)) (.int 5)) .nil)) (.int 2147483629)) (.name 4)).t W)
      ((XS.ret (c := c) [] (.mod (.mod (.toInt (.cons (.pow (.add (.add (.mul (.var 4) (.int 48271)) (.mul (.int 30011) (sx c 2))) (.int 29)) (.int 3)) .nil)) (.int 1000000007)) (.var 1))).t W)) Z σ' H2 := by
    intro H2 t sh2 fr2 ok2 e2
    refine tt_gt (et_ix g0 sh2.ha (v := .int t.left) rfl) et_int ?_
    have ed : s.draw m = if 0 < t.left then (t.left % m, { t with left := t.left / m }) else (t.pseudo m, t) := by rw [e2]; rfl
    by_cases hp : 0 < t.left
    · rw [decide_eq_true hp]
      rw [if_pos hp] at ed
      refine et_mod (et_toInt (et_ix g0 sh2.ha (v := .int t.left) rfl)) (et_var g1) hm _ ?_
      have k0 : (σ'.set 3 (some (V.int (t.left % m))))[0]? = some (some (.ref a)) := by rw [List.getElem?_set_ne (by decide)]; exact g0
      have k1 : (σ'.set 3 (some (V.int (t.left % m))))[1]? = some (some (.int m)) := by rw [List.getElem?_set_ne (by decide)]; exact g1
      have k3 : (σ'.set 3 (some (V.int (t.left % m))))[3]? = some (some (.int (t.left % m))) := List.getElem?_set_self (by omega)
      refine ss_set (et_div (et_ix k0 sh2.ha (v := .int t.left) rfl) (et_var k1) (wide_div (b := 64) hm (by omega) (by decide) (by decide))) k0 sh2.ha (k := 1) rfl ?_
      refine et_var (c := c) (W := W) k3 _ ?_
      have e1 : (s.draw m).1 = t.left % m := by rw [ed]
      have e3 : (s.draw m).2 = { t with left := t.left / m } := by rw [ed]
      rw [e1, e3] at q
      exact q _ (sh2.setA (t := { t with left := t.left / m }) ab rfl) (fr2.trans (Fr.at (.inl rfl) (by rw [sh2.ha]; simp)))
    · rw [decide_eq_false hp]
      rw [if_neg hp] at ed
      have b0 := ok2.x0
      have b1 := ok2.x1
      have b2 := ok2.m0
      have b3 := ok2.m1
      have hb : (t.mix + 7919 * t.many + 104729).natAbs < 2 ^ 64 := by omega
      have p1 : Evt ((XE.pow (.add (.add (sx c 3) (.mul (.int 7919) (sx c 2))) (.int 104729)) (.int 5) : XE c).t W) σ' H2 (.int ((t.mix + 7919 * t.many + 104729) ^ (5 : Int).toNat)) :=
        et_pow (et_add (et_add (et_ix g0 sh2.ha (v := .int t.mix) rfl) (et_mul et_int (et_ix g0 sh2.ha (v := .int t.many) rfl) (.inl ⟨by decide, by decide⟩))) et_int) et_int ⟨by decide, by decide, hb⟩
      have p2 : Evt ((XE.mod (.toInt (.cons (.pow (.add (.add (sx c 3) (.mul (.int 7919) (sx c 2))) (.int 104729)) (.int 5)) .nil)) (.int 2147483629) : XE c).t W) σ' H2 (.int ((t.mix + 7919 * t.many + 104729) ^ (5 : Int).toNat % 2147483629)) := et_mod (et_toInt p1) et_int (by decide)
      refine p2 _ ?_
      let z := (t.mix + 7919 * t.many + 104729) ^ (5 : Int).toNat % 2147483629
      have z0 : 0 ≤ z := Int.emod_nonneg _ (by decide)
      have z1 : z < 2147483629 := Int.emod_lt_of_pos _ (by decide)
      have k0 : (σ'.set 4 (some (V.int z)))[0]? = some (some (.ref a)) := by rw [List.getElem?_set_ne (by decide)]; exact g0
      have k1 : (σ'.set 4 (some (V.int z)))[1]? = some (some (.int m)) := by rw [List.getElem?_set_ne (by decide)]; exact g1
      have k4 : (σ'.set 4 (some (V.int z)))[4]? = some (some (.int z)) := List.getElem?_set_self (by omega)
      have hb2 : (z * 48271 + 30011 * t.many + 29).natAbs < 2 ^ 64 := by omega
      have p3 : Evt ((XE.pow (.add (.add (.mul (.var 4) (.int 48271)) (.mul (.int 30011) (sx c 2))) (.int 29)) (.int 3) : XE c).t W) (σ'.set 4 (some (V.int z))) H2 (.int ((z * 48271 + 30011 * t.many + 29) ^ (3 : Int).toNat)) :=
        et_pow (et_add (et_add (et_mul (et_var k4) et_int (.inr ⟨by decide, by decide⟩)) (et_mul et_int (et_ix k0 sh2.ha (v := .int t.many) rfl) (.inl ⟨by decide, by decide⟩))) et_int) et_int ⟨by decide, by decide, hb2⟩
      have p4 : Evt ((XE.mod (.mod (.toInt (.cons (.pow (.add (.add (.mul (.var 4) (.int 48271)) (.mul (.int 30011) (sx c 2))) (.int 29)) (.int 3)) .nil)) (.int 1000000007)) (.var 1) : XE c).t W) (σ'.set 4 (some (V.int z))) H2 (.int ((z * 48271 + 30011 * t.many + 29) ^ (3 : Int).toNat % 1000000007 % m)) := et_mod (et_mod (et_toInt p3) et_int (by decide)) (et_var k1) hm
      refine p4 _ ?_
      have e1 : (s.draw m).1 = t.pseudo m := by rw [ed]
      have e3 : (s.draw m).2 = t := by rw [ed]
      rw [e1, e3] at q
      exact q _ sh2 fr2
  refine tt_eq (et_ix g0 sht.ha (v := .int t.left) rfl) et_int ?_
  by_cases hz : t.left = 0
  case neg =>
    rw [decide_eq_false hz]
    have : t = G := by rw [← et]; unfold Strm.fill; rw [if_neg hz]
    exact after sht frt okt this
  rw [decide_eq_true hz]
  refine tt_neN (et_ix g0 sht.ha (v := .ref b) rfl) sht.hb fun p hp => ?_
  have sh2 := sht.new (o := .lst []) hp
  have fr2 := frt.trans (Fr.new (a := a) (b := b) (o := .lst []) hp)
  obtain ⟨cells, left, many, mix⟩ := t
  obtain rfl : left = 0 := hz
  cases cells with
  | nil => exact after sh2 fr2 okt (by rw [← et]; rfl)
  | cons x r =>
    have e1 : Strm.fill ⟨x :: r, 0, many, mix⟩ = if 10 ^ 18 ≤ x then ⟨r, x, many, (mix * 8191 + x + 3) % 2147483647⟩ else fillC many r ((mix * 8191 + x + 3) % 2147483647) := rfl
    rw [e1] at et
    refine ⟨fun σ2 H3 => ∃ m', m' < (x :: r).length ∧ Inv m' σ2 H3, fun _ _ w => w, ?_⟩
    -- the first cell goes
    refine et_ix g0 sh2.ha (v := .ref b) rfl _ ⟨.inl ⟨rfl, _, SqL.of sh2.hb⟩, ?_⟩
    refine ⟨b, _, 0, 0, .int x, rfl, rfl, sh2.hb, by decide, by decide, ?_, rfl, ?_⟩
    · simp [seqIndex?]
    have shb : (upd (upd H' p (.lst [])) b (.lst ((V.int x :: r.map V.int).eraseIdx 0))) a = some (.lst [.ref b, .int 0, .int many, .int mix]) := by rw [upd_ne ab]; exact sh2.ha
    have k0 : (σ'.set 2 (some (V.int x)))[0]? = some (some (.ref a)) := by rw [List.getElem?_set_ne (by decide)]; exact g0
    have k1 : (σ'.set 2 (some (V.int x)))[1]? = some (some (.int m)) := by rw [List.getElem?_set_ne (by decide)]; exact g1
    have k2 : (σ'.set 2 (some (V.int x)))[2]? = some (some (.int x)) := List.getElem?_set_self (by omega)
    have sh3 : SH a b (upd (upd H' p (.lst [])) b (.lst (r.map V.int))) ⟨r, 0, many, mix⟩ := ⟨shb, upd_same⟩
    have fr3 : Fr a b H (upd (upd H' p (.lst [])) b (.lst (r.map V.int))) := fr2.trans (Fr.at (.inr rfl) (by rw [sh2.hb]; simp))
    refine ss_set (et_mod (et_toInt (et_add (et_add (et_mul (et_ix k0 sh3.ha (v := .int mix) rfl) et_int (.inr ⟨by decide, by decide⟩)) (et_var k2)) et_int)) et_int (by decide)) k0 sh3.ha (k := 3) rfl ?_
    have sh4 := sh3.setA (t := ⟨r, 0, many, (mix * 8191 + x + 3) % 2147483647⟩) ab rfl
    have fr4 := fr3.trans (Fr.at (a := a) (b := b) (o := .lst [.ref b, .int 0, .int many, .int ((mix * 8191 + x + 3) % 2147483647)]) (.inl rfl) (by rw [sh3.ha]; simp))
    have val : ∀ HH : Hp, Evt ((XE.ite (.test (.ge (.var 2) (.pow (.int 10) (.int 18)))) (.var 2) (.int 0) : XE c).t W) (σ'.set 2 (some (V.int x))) HH (.int (if 10 ^ 18 ≤ x then x else 0)) := fun HH Q qq => by
      refine tt_ge (et_var k2) (et_pow et_int et_int ⟨by decide, by decide, by decide⟩) ?_
      have e18 : ((10 : Int) ^ (18 : Int).toNat ≤ x) ↔ (10 ^ 18 ≤ x) := Iff.rfl
      by_cases hx : 10 ^ 18 ≤ x
      · rw [decide_eq_true (e18.mpr hx)]
        rw [if_pos hx] at qq
        exact et_var (c := c) (W := W) k2 _ qq
      · rw [decide_eq_false (fun z => hx (e18.mp z))]
        rw [if_neg hx] at qq
        exact qq
    refine ss_set (val _) k0 sh4.ha (k := 1) rfl ?_
    refine ⟨r.length, Nat.lt_succ_self _, ⟨r, if 10 ^ 18 ≤ x then x else 0, many, (mix * 8191 + x + 3) % 2147483647⟩, rfl, sh4.setA (t := ⟨r, if 10 ^ 18 ≤ x then x else 0, many, (mix * 8191 + x + 3) % 2147483647⟩) ab rfl, fr4.trans (Fr.at (.inl rfl) (by rw [sh4.ha]; simp)), ⟨?_, Int.emod_nonneg _ (by decide), Int.emod_lt_of_pos _ (by decide), okt.m0, okt.m1⟩, ?_, by rw [List.length_set]; exact lt, k0, k1⟩
    · show (0 : Int) ≤ if 10 ^ 18 ≤ x then x else 0
      split <;> omega
    · rw [← et]
      unfold Strm.fill
      by_cases hx : 10 ^ 18 ≤ x
      · simp only [if_pos hx]
        rw [if_neg (by omega)]
      · simp only [if_neg hx, if_true]
end
end Ly

end
section
set_option Elab.async false
set_option linter.all false
set_option maxRecDepth 100000
set_option maxHeartbeats 4000000
namespace Ly
open PySem L2 PySem.Spec PyProof.Rows LamX
section
variable {c : Cf}
theorem start_at {N : List Str} {vs : List V} {i : Nat} {v : V} (h : vs[i]? = some v) : (L2.start N vs)[i]? = some (some v) := by
  unfold L2.start
  rw [List.getElem?_append_left (by rw [List.length_map]; exact (List.getElem?_eq_some_iff.mp h).1), List.getElem?_map, h]
  rfl
theorem start_len {N : List Str} {vs : List V} (h : vs.length ≤ N.length) : (L2.start N vs).length = N.length := by
  unfold L2.start
  simp
  omega
theorem draw_sound {N : List Str} {vs : List V} {H : Hp} {Q : VK} {E : XK} (hn : N.length = 5) (h : spD c (F_draw c) vs H Q E) : t_draw c (fun cls d _ H' => E cls d H') { nx := fun _ H' => Q .non H', rt := Q } (L2.start N vs) H := by
  obtain ⟨B, s, ds, ex, sm, r, h⟩ := h
  unfold F_draw at h
  split at h
  case h_2 => exact h.elim
  rename_i a b a' m e
  split at h
  case isFalse => exact h.elim
  rename_i hc
  obtain ⟨rfl, hm, hm2, hk⟩ := hc
  obtain ⟨x, y, F1, F2, rfl, rx, ry, _⟩ := r.two'
  cases rx
  cases ry
  have st := sm.st
  unfold SmS at st
  rw [e] at st
  obtain ⟨ab, ha, hb⟩ := st
  have mS : ∀ z, z ∈ c.S0 ↔ z = a ∨ z = b := fun z => by rw [Cf.S0_some e]; simp
  refine t_draw_ok ab (by rw [start_len (by rw [hn]; simp), hn]) (start_at rfl) (start_at rfl) ⟨ha, hb⟩ (Strm.okB_iff.mp hk) hm hm2 fun H' sh fr => ?_
  have bA : B a = none := (sm.out a (Cf.mem0 ((mS a).mpr (.inl rfl)))).1
  have bB : B b = none := (sm.out b (Cf.mem0 ((mS b).mpr (.inr rfl)))).1
  refine h (.int _) B H' [] ⟨Ex.refl B, fun z o q => fr.fr z o (ex z o q) (fun k => by rw [k, bA] at q; cases q) (fun k => by rw [k, bB] at q; cases q), fun z o q _ n => fr.fr z o q (fun k => n (Cf.mem0 ((mS z).mpr (.inl k)))) (fun k => n (Cf.mem0 ((mS z).mpr (.inr k)))),
    fr.th, fun _ q n => absurd q n, fun _ m => (nomatch m), List.nodup_nil⟩ ⟨?_, fun p hp => ?_, sm.bn⟩ (.int _)
  · unfold SmS
    rw [e]
    exact ⟨ab, sh.ha, sh.hb⟩
  · obtain ⟨ps, h1, h2, h3⟩ := sm.tb p hp
    refine ⟨ps, fr.fr _ _ h1 (fun k => by rw [k, ha] at h1; cases h1) (fun k => by rw [k, hb] at h1; cases h1), h2, fun pos cv hc => ?_⟩
    obtain ⟨k, e1, e2⟩ := h3 pos cv hc
    have nc : ∀ xs, CodeO k p.2 ≠ .lst xs := fun xs z => by unfold CodeO at z; cases z
    exact ⟨k, e1, fr.fr _ _ e2 (fun q => by rw [q, ha] at e2; exact nc _ (Option.some.inj (q ▸ e2)).symm) (fun q => by rw [q, hb] at e2; exact nc _ (Option.some.inj (q ▸ e2)).symm)⟩
theorem F_draw_len {s : Strm} {ds : List D} {B H : Hp} {W : WX} {Q : VK} (h : AnsE c B H [] W Q (F_draw c s ds)) : ds.length = 2 := by
  unfold F_draw at h
  split at h
  · rfl
  · exact h.elim
theorem draw_ok {P : Program} {w : World} {mg : Str → Option Value} {base : Heap} {x qual : Str} {params : Arguments} {body : List Stmt} {scope : Scope} {f : Addr} {fd : FuncData} {N ps : List Str}
    (F : FunD c.K x qual params body scope [] [] f fd) (S : FnScope N ps scope) (hn : N.length = 5) (hp : ps.length = 2)
    (hder : ∀ (cdv : Value) (A : Around) (outer : List PySem.Env) (s : Shared) (H : Hp) (E : XK), Rm 0 (A.deeper (envOfC qual scope s.heap.objs.size f cdv)) → PSs (cxOf (L2.CX P w) P w c.K mg base N qual scope f cdv A outer s H E) body (t_draw c fun cls d _ H' => E cls d H')) :
    FnG P w c.K mg base 1 f fd ps (spD c (F_draw c)) := by
  refine fng_of F S (fun vs H Q E h => ?_) (fun cdv A outer s H vs Q E _ hr h => ⟨_, hder cdv A outer s H E hr, draw_sound hn h⟩)
  obtain ⟨B, s, ds, _, _, r, h⟩ := h
  rw [r.len, F_draw_len h, hp]
/-- the words of its text -/
theorem popAt_ {X : Cx} {W : WX} {y : Str} {j : Nat} {xa : XE c} {e : Expr} {p1 p2 p3 p4 p5 : Pos} (hN : X.N.Nodup) (he : PE X e (xa.t W)) (hi : X.N[2]? = some y := by rfl) (hK : X.K = c.K := by rfl)
    (hx : Loc X.env.scope y := by first | exact Or.inl rfl | exact Or.inr rfl) (hf : X.fn y = true ∨ X.env.scope.names.lookup y = some .local := by first | exact .inl rfl | exact .inr rfl)
    (h1 : attributeBase e "pop" X.env (eval e X.env) = eval e X.env := by rfl)
    (h2 : ((backTo p3 (starEach [.Constant (.int 0) j p4] X.env)).all (fun x => !x.1) && (backToKw p3 (keywordEach [] X.env)).all (fun x => x.1.isSome) && decide (([Expr.Constant (.int 0) j p4]).length + ([] : List Keyword).length + (if ([] : List Keyword).isEmpty then 0 else 1) < 30)) = true := by rfl)
    (h3 : (p2.endLine == p3.line) = true := by rfl) (h4 : starEach [.Constant (.int 0) j p4] X.env = (false, eval (.Constant (.int 0) j p4) X.env) :: starEach [] X.env := by rfl) (h5 : (backTo p3 (starEach [] X.env)).any (·.1) = false := by rfl)
    (hs : swapsWithSole [.Name y p5] (.Call (.Attribute e "pop" p2) [.Constant (.int 0) j p4] [] p3) p1.line X.env = pure false := by rfl) (hw : swappedStores [.Name y p5] (.Call (.Attribute e "pop" p2) [.Constant (.int 0) j p4] [] p3) X.env = pure none := by rfl)
    (h6 : (assignEach [.Name y p5] X.env).map (·.2) = [assign (.Name y p5) X.env] := by rfl) :
    PS X (.Assign [.Name y p5] (.Call (.Attribute e "pop" p2) [.Constant (.int 0) j p4] [] p3) p1) (tAsg (tBM c.K "list" rPopAt (xa.t W) (tCons (tC (.int 0)) tNil)) (gName 2)) := by
  have h := pe_bm (X := X) (o := e) (cpos := p3) (apos := p2) PySem.F.plainAttrs_list PySem.F.slot_list_pop PySem.F.type_list_pop (fun pins s σ H x xs v us Q I r rs q => mt_popAt pins s σ H x xs v us Q I r rs q) he (pa_cons (pe_int (j := j) (pos := p4)) pa_nil h4) h1 h2 h3 h4 h5
  rw [hK] at h
  exact ps_asg h (pg_name hN hi hx hf) hs hw h6
end
end Ly

end
section
set_option Elab.async false
set_option linter.all false
set_option maxRecDepth 100000
set_option maxHeartbeats 4000000
namespace Ly
open PySem L2 PySem.Spec PyProof.Rows LamX
/-! ### the law's own call: no repr is under way -/
/-- what the head leaves behind at the call: cs, the code objects and their tables; a, the script -/
structure AtCall (K : PySem.W.Frag) (mg mb : Str → Option Value) (cs : List (Addr × Addr)) (a : Addr) (vs : List Value) (ns : List Int) (z : Shared) : Prop where
  k : K.In z.heap
  g : z.heap.Ns mainGlobals mg
  b : z.heap.Ns builtinsNs mb
  boot : ∀ x : Str, x ≠ "__name__" → mb x = bootBuiltins x
  lim : z.heap.NoLimit
  gens : z.gens = #[]
  tab : ∀ p ∈ cs, z.heap.get? p.2 = some { cls := .none, data := .fields #[] }
  out : ∀ p ∈ cs, K.lookup p.2 = none
  code : ∀ p ∈ cs, PySem.W.CodeHd z.heap p.1 p.2
  main : ∃ (bm : Addr) (ob : Obj), mg "__builtins__" = some (.ref bm) ∧ bm ≠ builtinsNs ∧ z.heap.get? bm = some ob ∧ ob.cls = .type "module" ∧ ob.dict = some builtinsNs ∧ ob.data = .plain
  scr : z.heap.get? a = some { cls := .type "list", data := .seq vs.toArray }
  nums : IntsAre vs ns
  few : ns.length ≤ sizeLine
section
variable {P : Program} {w : World} {K : PySem.W.Frag} {mg mb : Str → Option Value} {cs : List (Addr × Addr)} {a : Addr} {vs : List Value} {ns : List Int} {z : Shared}
/-- what is tracked there: the tables, the script unless it is written -/
noncomputable def trk (K : PySem.W.Frag) (cs : List (Addr × Addr)) (a : Addr) (vs : List Value) (ns : List Int) : Hp := fun b =>
  if b ∈ cs.map Prod.snd then some (.tbl #[]) else if b = a ∧ K.lookup a = none then some (.frz { cls := .type "list", data := .seq vs.toArray } (.lst (ns.map V.int))) else none
theorem trk_cases {b : Addr} {u : HO} (h : trk K cs a vs ns b = some u) : ((∃ p ∈ cs, p.2 = b) ∧ u = .tbl #[]) ∨ (b = a ∧ K.lookup a = none ∧ u = .frz { cls := .type "list", data := .seq vs.toArray } (.lst (ns.map V.int))) := by
  unfold trk at h
  split at h
  · rename_i m
    obtain ⟨p, hp, e⟩ := List.mem_map.mp m
    cases h
    exact .inl ⟨⟨p, hp, e⟩, rfl⟩
  · split at h
    · rename_i m
      cases h
      exact .inr ⟨m.1, m.2, rfl⟩
    · cases h
theorem AtCall.trkT (c : AtCall K mg mb cs a vs ns z) {p : Addr × Addr} (hp : p ∈ cs) : trk K cs a vs ns p.2 = some (.tbl #[]) := by
  unfold trk
  rw [if_pos (List.mem_map_of_mem hp)]
theorem AtCall.ne (c : AtCall K mg mb cs a vs ns z) : a ∉ cs.map Prod.snd := fun m => by
  obtain ⟨p, hp, e⟩ := List.mem_map.mp m
  have := c.tab p hp
  rw [e, c.scr] at this
  have d : Data.seq vs.toArray _ = Data.fields #[] := congrArg Obj.data (Option.some.inj this)
  cases d
theorem AtCall.hok (c : AtCall K mg mb cs a vs ns z) : HOk P w (trk K cs a vs ns) z.heap := fun b u h => by
  rcases trk_cases h with ⟨⟨p, hp, rfl⟩, rfl⟩ | ⟨rfl, _, rfl⟩
  · exact c.tab p hp
  · exact ⟨c.scr, by rw [List.length_map]; exact c.few, vs, _, vals_ints c.nums, c.scr⟩
theorem AtCall.seq (c : AtCall K mg mb cs a vs ns z) : SqL K (trk K cs a vs ns) a (ns.map V.int) := by
  cases q : K.lookup a with
  | none =>
    refine .inl (.inr ⟨{ cls := .type "list", data := .seq vs.toArray }, ?_⟩)
    unfold trk
    rw [if_neg c.ne, if_pos ⟨rfl, q⟩]
  | some o =>
    have e := c.k a o q
    rw [c.scr] at e
    cases e
    exact .inr ⟨_, vs.toArray, _, q, rfl, rfl, rfl, by rw [List.size_toArray, c.nums.length]; exact c.few, by simpa using vals_ints c.nums⟩
/-- an object that is neither a list nor an empty table is not tracked -/
theorem AtCall.un (c : AtCall K mg mb cs a vs ns z) {b : Addr} {o : Obj} (e : z.heap.get? b = some o) (h1 : ∀ xs n, o.data ≠ .seq xs n) (h2 : o.data ≠ .fields #[]) : (hidT z.heap (trk K cs a vs ns)).get? b = some o := by
  refine hidT_get e ?_
  cases q : trk K cs a vs ns b with
  | none => rfl
  | some u =>
    rcases trk_cases q with ⟨⟨p, hp, rfl⟩, _⟩ | ⟨rfl, _, _⟩
    · rw [c.tab p hp] at e
      cases e
      exact absurd rfl h2
    · rw [c.scr] at e
      cases e
      exact absurd rfl (h1 _ _)
theorem AtCall.nsT (c : AtCall K mg mb cs a vs ns z) {b : Addr} {m : Str → Option Value} (h : z.heap.Ns b m) : (hidT z.heap (trk K cs a vs ns)).Ns b m := by
  obtain ⟨o, es, ep, e, d, r⟩ := h
  exact ⟨o, es, ep, c.un e (fun _ _ q => by rw [d] at q; cases q) (fun q => by rw [d] at q; cases q), d, r⟩
theorem AtCall.kin (c : AtCall K mg mb cs a vs ns z) : K.In (hidT z.heap (trk K cs a vs ns)) := fun b o e => by
  refine hidT_get (c.k b o e) ?_
  cases q : trk K cs a vs ns b with
  | none => rfl
  | some u =>
    rcases trk_cases q with ⟨⟨p, hp, rfl⟩, _⟩ | ⟨rfl, n, _⟩
    · rw [c.out p hp] at e; cases e
    · rw [n] at e; cases e
theorem AtCall.mod (c : AtCall K mg mb cs a vs ns z) : L2.Mod K mg (hidT z.heap (trk K cs a vs ns)) := by
  obtain ⟨mc, m1, m2⟩ := c.lim
  exact ⟨c.kin, c.nsT c.g, ⟨mb, c.nsT c.b, c.boot⟩, ⟨mc, c.nsT m1, m2⟩⟩
theorem AtCall.tabB (c : AtCall K mg mb cs a vs ns z) {p : Addr × Addr} (hp : p ∈ cs) : TabB (hidT z.heap (trk K cs a vs ns)) mg p.1 p.2 := by
  obtain ⟨og, eg, epg, hG, dG, _⟩ := c.g
  have tp := c.tab p hp
  constructor
  · obtain ⟨o, us, file, tf, flags, tg, inF, text, tt, e1, e2, e3, rest⟩ := c.code p hp
    refine ⟨o, us, file, tf, flags, tg, inF, text, tt, c.un e1 (fun _ _ q => ?_) (fun q => ?_), e2, e3, rest⟩
    · rw [e3] at q; cases q
    · rw [e3] at q
      cases q
      have := rest.1
      simp at this
  · obtain ⟨bm, ob, b1, b2, b3, b4, b5, b6⟩ := c.main
    refine ⟨bm, ob, b1, b2, fun q => ?_, fun q => ?_, c.un b3 (fun _ _ q => by rw [b6] at q; cases q) (fun q => by rw [b6] at q; cases q), b4, b5, b6⟩
    · rw [q, hG] at b3
      cases b3
      rw [dG] at b6
      cases b6
    · rw [q, tp] at b3
      cases b3
      cases b6
  · intro q
    rw [q, tp] at hG
    cases hG
    cases dG
/-- THE END: the promise of the law's def is met -/
theorem law_runG {k : Nat} {fa : Addr} {fd : FuncData} {x : Str} {sp : Sp} (c : AtCall K mg mb cs a vs ns z) (hr : Room k callerA) (hb : ∀ (s : Shared) (u : Value), BindsTo s fd ⟨[u], []⟩ [(x, u)])
    (F : ∀ base : Heap, K.In base → base.Ns mainGlobals mg → (∀ p ∈ cs, TabB base mg p.1 p.2) → FnG P w K mg base k fa fd [x] sp)
    (hs : ∀ H : Hp, (∀ p ∈ cs, H p.2 = some (.tbl #[])) → SqL K H a (ns.map V.int) → sp [.ref a] H (fun v _ => v = .bl true) fun _ _ _ => False) :
    codeAny (model P w) callerA (.call (.ref fa) ⟨[.ref a], []⟩) (fun r s' => r = .ok (.ret (.bool true)) ∧ OldK z.heap s'.heap ∧ s'.os = z.os ∧ AllBare s'.gens) z := by
  have G := F _ c.kin (c.nsT c.g) fun p hp => c.tabB hp
  have e0 : Env0 P w K mg (hidT z.heap (trk K cs a vs ns)) callerA [] z (trk K cs a vs ns) :=
    ⟨rfl, c.mod, fun _ _ e => of_hidT e, Nat.le_of_eq (hidT_size _ _), trivial, fun b m => (nomatch (show b ∈ ([] : List Addr) from m)), c.hok, .of_eq c.gens⟩
  have run := G.run callerA [] z (trk K cs a vs ns) ⟨[.ref a], []⟩ [.ref a] [.ref a] (fun v _ => v = .bl true) (fun _ _ _ => False) ⟨hr, rfl⟩ e0 (hb z (.ref a)) (.cons rfl .nil) (hs _ (fun p hp => c.trkT hp) c.seq)
  refine codeAny_mono run fun out z' done => ?_
  match out, done with
  | .error e, done =>
    obtain ⟨_, _, _, _, _, _, _, _, _, _, _, _, f⟩ := (show L2.CX P w [] (trk K cs a vs ns) z (fun _ _ _ => False) e z' from done)
    exact f.elim
  | .ok (.ret u), ⟨v, H', os, bare, un, hok', rv, ev⟩ =>
    subst ev
    obtain rfl : u = Value.bool true := rv
    have grow : ∀ p ∈ cs, ∃ more : Array Value, z'.heap.get? p.2 = some { cls := .none, data := .fields more } := fun p hp => by
      obtain ⟨more, q⟩ := un.tbls p.2 #[] (c.trkT hp)
      exact ⟨_, hok' p.2 _ q⟩
    have stay : ∀ b o, (∀ p ∈ cs, p.2 ≠ b) → z.heap.get? b = some o → z'.heap.get? b = some o := fun b o off e => by
      cases q : trk K cs a vs ns b with
      | none => exact un.keep b o e q (fun m => (nomatch (show b ∈ ([] : List Addr) from m))) (fun m => (nomatch m))
      | some u =>
        rcases trk_cases q with ⟨⟨p, hp, y⟩, _⟩ | ⟨rfl, _, rfl⟩
        · exact absurd y (off p hp)
        · obtain ⟨e2, _⟩ := hok' b _ (un.frzs b _ _ q)
          rw [c.scr] at e
          cases e
          exact e2
    refine ⟨rfl, ⟨fun b o e => ?_, fun b o e => ?_⟩, os, bare⟩
    · by_cases m : ∃ p ∈ cs, p.2 = b
      · obtain ⟨p, hp, rfl⟩ := m
        obtain ⟨more, g⟩ := grow p hp
        have tp := c.tab p hp
        rw [tp] at e
        cases e
        exact .inr (.inl ⟨((c.code p hp).tab tp).isCodeTable, rfl, #[], more, rfl, by rw [Array.empty_append]; exact g⟩)
      · exact .inl (stay b o (fun p hp y => m ⟨p, hp, y⟩) e)
    · by_cases m : ∃ p ∈ cs, p.2 = b
      · obtain ⟨p, hp, rfl⟩ := m
        obtain ⟨more, g⟩ := grow p hp
        exact ⟨_, g⟩
      · exact ⟨o, stay b o (fun p hp y => m ⟨p, hp, y⟩) e⟩
end
/-- the law's promise, told at the head's heap h -/
def LawAtG (l : PySem.W.OpenLaw) (w : World) (K : PySem.W.Frag) (k n : Nat) (x : Str) (mg : Str → Option Value) (fa : Addr) (h : Heap) : Prop :=
  ∃ (fd : FuncData) (cs : List (Addr × Addr)) (sp : Sp), (∀ p ∈ cs, h.get? p.2 = some { cls := .none, data := .fields #[] }) ∧ (∀ p ∈ cs, K.lookup p.2 = none) ∧ (∀ p ∈ cs, PySem.W.CodeHd h p.1 p.2) ∧ (∀ (s : Shared) (u : Value), BindsTo s fd ⟨[u], []⟩ [(x, u)]) ∧
    (∀ (H : Hp) (a : Addr) (ns : List Int), ns.length ≤ n → (∀ p ∈ cs, H p.2 = some (.tbl #[])) → SqL K H a (ns.map V.int) → sp [.ref a] H (fun v _ => v = .bl true) fun _ _ _ => False) ∧
    ∀ base : Heap, K.In base → base.Ns mainGlobals mg → (∀ p ∈ cs, TabB base mg p.1 p.2) → FnG l.prog w K mg base k fa fd [x] sp
theorem walk_ofG {l : PySem.W.OpenLaw} {n k : Nat} {q : Program} {loose : List Str} {XP : (Str → Option Value) → Heap → Prop} {YP : World → Heap → Prop} {d : DefRec} {x : Str}
    (hn : l.most = some n) (hn2 : n ≤ sizeLine) (hdf : d.params.defaults = []) (hr : Room k callerA)
    (F : ∀ (w : World) (mg : Str → Option Value) (fa : Addr) (h : Heap), YP w h → h.Ns mainGlobals mg → mg d.name = some (.ref fa) → ∃ K : PySem.W.Frag, K.In h ∧ LawAtG l w K k n x mg fa h) :
    PySem.W.WalkO q loose XP YP l.row.toRowW d [] (fun f vs => PySem.call f vs) := by
  refine Att.attach_callB hn hdf fun w s0 s1 mg mb fa o pm cd doc a vs ns G Y ho hd hcd hmg hobj hints hlen hbits hg => ?_
  obtain ⟨K, KX, fd, cs, sp, h1, h2, h3, h4, h5, h6⟩ := F w mg fa _ Y G.T.g hmg
  exact law_runG ⟨KX, G.T.g, G.T.b, G.T.builtins, G.T.nolimit, hg, h1, h2, h3, G.T.bmain, hobj, hints, Nat.le_trans hlen hn2⟩ hr h4 h6 fun H hT hS => h5 H a ns hlen hT hS
end Ly

end
section
set_option Elab.async false
set_option linter.all false
set_option maxRecDepth 100000
set_option maxHeartbeats 4000000
namespace Ly
open PySem L2 PySem.Spec PyProof.Rows LamX
/-- the def _law_start: [list(script), 0, 0, 11] -/
def spStart (K : PySem.W.Frag) : Sp := fun vs H Q _ => ∃ (a : Addr) (xs : List V), vs = [.ref a] ∧ SqL K H a xs ∧
  ∀ p q, H p = none → (upd H p (.lst xs)) q = none → Q (.ref q) (upd (upd H p (.lst xs)) q (.lst [.ref p, .int 0, .int 0, .int 11]))
section
variable {c : Cf}
abbrev b_start (c : Cf) : XS c := .ret [0] (.lst (.cons (.list (.cons (.var 0) .nil)) (.cons (.int 0) (.cons (.int 0) (.cons (.int 11) .nil)))))
theorem start_sound {N : List Str} {vs : List V} {H : Hp} {Q : VK} {E : XK} {W : WX} (h : spStart c.K vs H Q E) : (b_start c).t W { nx := fun _ H' => Q .non H', rt := Q } (L2.start N vs) H := by
  obtain ⟨a, xs, rfl, hs, q⟩ := h
  exact ⟨.ref a, start_at rfl, a, xs, rfl, .inl hs, fun p hp => ⟨by simp [sizeLine_eq], fun r hr => q p r hp hr⟩⟩
theorem start_ok {P : Program} {w : World} {mg : Str → Option Value} {base : Heap} {x qual : Str} {params : Arguments} {body : List Stmt} {scope : Scope} {f : Addr} {fd : FuncData} {N : List Str} {p0 : Str}
    (F : FunD c.K x qual params body scope [] [] f fd) (S : FnScope N [p0] scope)
    (hder : ∀ (cdv : Value) (A : Around) (outer : List PySem.Env) (s : Shared) (H : Hp) (E : XK), Rm 0 (A.deeper (envOfC qual scope s.heap.objs.size f cdv)) → PSs (cxOf (L2.CX P w) P w c.K mg base N qual scope f cdv A outer s H E) body ((b_start c).t fun cls d _ H' => E cls d H')) :
    FnG P w c.K mg base 1 f fd [p0] (spStart c.K) := by
  refine fng_of F S (fun vs H Q E h => ?_) (fun cdv A outer s H vs Q E _ hr h => ⟨_, hder cdv A outer s H E hr, start_sound h⟩)
  obtain ⟨a, xs, rfl, _⟩ := h
  rfl
/-- the law's promise: at each script of at most 63 whole numbers the answer is True -/
def spLaw (c : Cf) : Sp := fun vs H Q _ => ∃ (a : Addr) (ns : List Int), vs = [.ref a] ∧ ns.length ≤ 63 ∧ (∀ p ∈ c.T, H p.1 = some (.tbl #[])) ∧ SqL c.K H a (ns.map V.int) ∧ ∀ H', Q (.bl true) H'
/-- the context behind the start: where the stream stands -/
def Cf.at (c : Cf) (a b : Addr) : Cf := { c with st := some (a, b) }
/-- the law's def: the stream is made, the rest by b -/
def t_law (c : Cf) (b : (c : Cf) → XS c) (W : WX) : TS := tSeq (tAsg (tCallS (spStart c.K) (WE W) (tCons (tVar 0) tNil)) (gName 1)) fun D σ H => ∃ x y, (b (c.at x y)).t W D σ H
theorem pss_ex {X : Cx} {l : List Stmt} {t : Addr → Addr → TS} (h : ∀ x y, PSs X l (t x y)) : PSs X l (fun D σ H => ∃ x y, t x y D σ H) :=
  ⟨fun pins s σ H D I ⟨x, y, q⟩ => (h x y).run pins s σ H D I q⟩
def lawEnv (n : Nat) (a : Addr) : Env := none :: some (.opq (.ref a)) :: List.replicate (n - 2) none
theorem law_sound {N : List Str} {b : (c : Cf) → XS c} {vs : List V} {H : Hp} {Q : VK} {E : XK} {W : WX} (hN : 2 ≤ N.length)
    (hb : ∀ (x y : Addr) (ns : List Int), ns.length ≤ 63 → ∃ s', (b (c.at x y)).ev ⟨ns, 0, 0, 11⟩ (lawEnv N.length x) = .ok (.rt (.bl true)) s')
    (h : spLaw c vs H Q E) : t_law c b W { nx := fun _ H' => Q .non H', rt := Q } (L2.start N vs) H := by
  obtain ⟨a, ns, rfl, hl, tb, hs, q⟩ := h
  refine ⟨.ref a, start_at rfl, a, _, rfl, hs, fun p r hp hr => ?_⟩
  have ne : p ≠ r := fun z => by rw [z, upd_same] at hr; cases hr
  have hr0 : H r = none := by rw [upd_ne (Ne.symm ne)] at hr; exact hr
  refine ⟨r, p, ?_⟩
  obtain ⟨s', hev⟩ := hb r p ns hl
  let H2 : Hp := upd (upd H p (.lst (ns.map V.int))) r (.lst [.ref p, .int 0, .int 0, .int 11])
  have up : ∀ z o, H z = some o → H2 z = some o := fun z o e => by
    show upd (upd H p _) r _ z = some o
    rw [upd_ne (ne_of_none e hr0), upd_ne (ne_of_none e hp)]
    exact e
  have sm : Sm (c.at r p) (fun _ => none) H2 ⟨ns, 0, 0, 11⟩ := by
    refine ⟨?_, fun z hz => ?_, fun _ _ => rfl⟩
    · show r ≠ p ∧ _ ∧ _
      refine ⟨Ne.symm ne, upd_same, ?_⟩
      show upd (upd H p _) r _ p = _
      rw [upd_ne ne, upd_same]
    · exact TabS.nil (up _ _ (tb z hz))
  have lσ : (L2.start N [V.ref a]).length = N.length := start_len (by show 1 ≤ _; omega)
  have st : Sta (c.at r p) (fun _ => none) H2 ((L2.start N [V.ref a]).set 1 (some (.ref r))) (lawEnv N.length r) (fun _ => []) ⟨ns, 0, 0, 11⟩ := by
    refine ⟨fun _ _ e => (by cases e), ⟨fun i d e => ?_, fun _ => List.nodup_nil, fun _ _ _ m => (nomatch m), fun _ _ => rfl, ?_⟩, sm, fun z ⟨_, m⟩ => (nomatch m)⟩
    · match i, e with
      | 0, e => cases e
      | 1, e =>
        cases e
        exact ⟨.ref r, List.getElem?_set_self (by rw [lσ]; omega), .opq _⟩
      | i + 2, e =>
        have e' : (List.replicate (N.length - 2) (none : Option D))[i]? = some (some d) := e
        have := List.eq_of_mem_replicate (List.mem_of_getElem? e')
        cases this
    · rw [List.length_set, lσ]
      show N.length = (List.replicate (N.length - 2) (none : Option D)).length + 1 + 1
      rw [List.length_replicate]
      omega
  refine (b (c.at r p)).ok W _ _ _ H2 _ _ _ st ?_
  rw [hev]
  intro v B' H' G _ _ rv _
  cases rv
  exact q H'
theorem law_ok {P : Program} {w : World} {mg : Str → Option Value} {base : Heap} {x qual : Str} {params : Arguments} {body : List Stmt} {scope : Scope} {f : Addr} {fd : FuncData} {N : List Str} {p0 : Str} {k : Nat} {b : (c : Cf) → XS c}
    (F : FunD c.K x qual params body scope [] [] f fd) (S : FnScope N [p0] scope) (hN : 2 ≤ N.length)
    (hder : ∀ (cdv : Value) (A : Around) (outer : List PySem.Env) (s : Shared) (H : Hp) (E : XK), CodeAt c.K f cdv → Rm k (A.deeper (envOfC qual scope s.heap.objs.size f cdv)) → PSs (cxOf (L2.CX P w) P w c.K mg base N qual scope f cdv A outer s H E) body (t_law c b fun cls d _ H' => E cls d H'))
    (hb : ∀ (x y : Addr) (ns : List Int), ns.length ≤ 63 → ∃ s', (b (c.at x y)).ev ⟨ns, 0, 0, 11⟩ (lawEnv N.length x) = .ok (.rt (.bl true)) s') :
    FnG P w c.K mg base (k + 1) f fd [p0] (spLaw c) := by
  refine fng_of F S (fun vs H Q E h => ?_) (fun cdv A outer s H vs Q E hc hr h => ⟨_, hder cdv A outer s H E hc hr, law_sound hN hb h⟩)
  obtain ⟨a, xs, rfl, _⟩ := h
  rfl
end
end Ly

end
section
set_option Elab.async false
set_option linter.all false
set_option maxRecDepth 100000
set_option maxHeartbeats 4000000
namespace Ly
open PySem L2 PySem.Spec PyProof.Rows LamX
/-- a promise that nothing asks for -/
theorem FnG.no {c : Cf} {P : Program} {w : World} {K : PySem.W.Frag} {mg : Str → Option Value} {base : Heap} {k : Nat} {f : Addr} {fd : FuncData} {ps : List Str} : FnG P w K mg base k f fd ps (spD c fun _ _ => .bad) :=
  ⟨fun vs H Q E ⟨_, _, _, _, _, _, h⟩ => h.elim, fun A outer s H args us vs Q E _ _ _ _ ⟨_, _, _, _, _, _, h⟩ => h.elim⟩
theorem Eok.at {c : Cf} {P : Program} {w : World} {mg : Str → Option Value} {base : Heap} {x f : Str} {j : Nat} (h : Eok c P w mg base x f j) (a b : Addr) : Eok (c.at a b) P w mg base x f j := ⟨h.oe, h.fn, h.gl⟩
theorem lam_body {X : Cx} {e : Expr} {t : TE} {W : WX} (tk : Takes X W) (h : Takes X W → PE X e t) : PE X e t := h tk
theorem codeAt_ref {K : PySem.W.Frag} {p : Str × Option Str} {v : Value} (h : CodeAt K (He.fAd K p) v) : v = .ref (He.cT K p).1 := by
  obtain ⟨oc, od, fd, osl, q, lk, rfl, hc⟩ := h
  obtain ⟨k, e⟩ := He.codeIn_ref hc
  rw [e]
  exact congrArg _ (He.codeOf_eq lk e).symm
end Ly

end
section
set_option Elab.async false
set_option linter.all false
set_option maxRecDepth 100000
set_option maxHeartbeats 4000000
namespace Ly
open PySem L2 PySem.Spec PyProof.Rows LamX
section
variable {c : Cf} {B H H1 : Hp} {σ : L2.St} {Δ : Env} {fp : Nat → List Addr} {s s' : Strm}
/-! ### a list held within another list, and changed there (k14's last deed) -/
def flV : D → V
  | .bl b => .bl b
  | .int i => .int i
  | .str x => .str x
  | _ => .non
theorem Rp.flV {v : V} {d : D} {F : List Addr} (r : Rp c.K c.A B H v d F) (h : flatD d = true) : v = flV d := by
  cases r <;> first | rfl | cases h
theorem flat_rp {d : D} (h : flatD d = true) : Rp c.K c.A B H (flV d) d [] := by
  cases d <;> first | exact .non | exact .bl _ | exact .int _ | exact .str _ | cases h
theorem flat_rpL : ∀ {ds : List D}, ds.all flatD = true → RpL c.K c.A B H (ds.map flV) ds []
  | [], _ => .nil
  | d :: ds, h => by
    simp only [List.all_cons, Bool.and_eq_true] at h
    exact .cons (F := []) (G := []) (flat_rp h.1) (flat_rpL h.2)
theorem flat_shr {d : D} (h : flatD d = true) : shr d = false := by cases d <;> first | rfl | cases h
/-- a state kept but for objects that nobody of the slots owns -/
theorem Sta.kept (st : Sta c B H σ Δ fp s) (ex : Ex B H1) (sm : Sm c B H1 s') (k : ∀ a o, H a = some o → Ow fp a → H1 a = some o) : Sta c B H1 σ Δ fp s' :=
  ⟨ex, ⟨fun i d q => by
    obtain ⟨v, hv, r⟩ := st.en.sl i d q
    exact ⟨v, hv, r.mono (Ex.refl B) fun a m => ⟨fun o e => k a o e ⟨i, m⟩, (st.en.at ⟨i, m⟩).1⟩⟩, st.en.nd, st.en.dj, st.en.em, st.en.ln⟩, sm, st.ns⟩
/-- all is kept but the stream and xs -/
structure Kr (c : Cf) (H H1 : Hp) (xs : List Addr) : Prop where
  fr : ∀ a o, H a = some o → a ∉ c.S → a ∉ xs → H1 a = some o
  th : ∀ a, H1 a = none → H a = none
theorem Kr.trans {H2 : Hp} {xs ys : List Addr} (p : Kr c H H1 xs) (q : Kr c H1 H2 ys) (h : ∀ a ∈ ys, a ∈ xs ∨ H a = none) : Kr c H H2 xs := ⟨fun a o e n m => q.fr a o (p.fr a o e n m) n fun z => (h a z).elim m (fun k => by rw [k] at e; cases e), fun a e => p.th a (q.th a e)⟩
theorem Kr.of {a : Addr} {o : HO} : Kr c H (L2.upd H a o) [a] := ⟨fun b w e _ m => by rw [upd_ne (fun k => m (by rw [k]; simp))]; exact e, fun b e => by
  by_cases k : b = a
  · rw [k, upd_same] at e; cases e
  · rw [upd_ne k] at e; exact e⟩
theorem Kr.wk {xs ys : List Addr} (p : Kr c H H1 xs) (h : ∀ a ∈ xs, a ∈ ys) : Kr c H H1 ys := ⟨fun a o e n m => p.fr a o e n fun z => m (h a z), p.th⟩
/-- the lists: x within y (last), z beside (if it is there); ds, es, fs their flat data -/
structure Hld (c : Cf) (B H : Hp) (σ : L2.St) (Δ : Env) (fp : Nat → List Addr) (s : Strm) (h t f : Nat) (x y z : Addr) (ds es : List D) (fs : Option (List D)) : Prop where
  st : Sta c B H σ Δ fp s
  hx : H x = some (.lst (es.map flV))
  hy : H y = some (.lst (ds.map flV ++ [.ref x]))
  hz : ∀ l, fs = some l → H z = some (.lst (l.map flV)) ∧ l.all flatD = true ∧ σ[f]? = some (some (.ref z)) ∧ z ≠ x ∧ z ≠ y
  ne : x ≠ y
  off : ∀ a, a = x ∨ a = y ∨ (fs.isSome = true ∧ a = z) → ¬ Ow fp a ∧ a ∉ c.S ∧ B a = none
  fd : ds.all flatD = true
  fe : es.all flatD = true
  sx : σ[h]? = some (some (.ref x))
  sy : σ[t]? = some (some (.ref y))
def hEnv (fv : List Nat) (t f : Nat) (ds es : List D) (fs : Option (List D)) (Δ : Env) : Env := match fs with
  | some l => ((view fv Δ).set t (some (.lst false (ds ++ [.lst false es])))).set f (some (.lst false l))
  | none => (view fv Δ).set t (some (.lst false (ds ++ [.lst false es])))
theorem Hld.run {h t f : Nat} {x y z : Addr} {ds es : List D} {fs : Option (List D)} (L : Hld c B H σ Δ fp s h t f x y z ds es fs) (hlt : t < Δ.length) (hlf : f < Δ.length) (fv : List Nat) (e : XE c) (W : WX) {d : D} (he : e.ev s (hEnv fv t f ds es fs Δ) = .ok d s') (hd : flatD d = true) {Q : VK}
    (k : ∀ H1, Hld c B H1 σ Δ fp s' h t f x y z ds es fs → Kr c H H1 [] → Q (flV d) H1) : e.t W σ H Q := by
  let G := fvF fv fp ++ ([x, y] ++ if fs.isSome then [z] else [])
  have gz : ∀ a, a ∈ ([x, y] ++ if fs.isSome then [z] else []) → a = x ∨ a = y ∨ (fs.isSome = true ∧ a = z) := fun a m => by
    cases hf : fs with
    | none => rw [hf] at m; simpa using m
    | some l => rw [hf] at m; simpa using m
  have nb : ∀ a ∈ G, B a = none := fun a m => (List.mem_append.mp m).elim (L.st.fvB fv a) fun m => (L.off a (gz a m)).2.2
  have eB := tkn_ex (B := B) (H := H) nb
  have atX : ∀ {o}, H x = some o → tkn B H G x = some o := fun {o} q => tkn_tk x (List.mem_append_right _ (by simp)) o q
  have atY : ∀ {o}, H y = some o → tkn B H G y = some o := fun {o} q => tkn_tk y (List.mem_append_right _ (by simp)) o q
  have base : ∀ i d, ((view fv Δ).set t (some (.lst false (ds ++ [.lst false es]))))[i]? = some (some d) → ∃ v, σ[i]? = some (some v) ∧ Rp c.K c.A (tkn B H G) (tkn B H G) v d [] := fun i d q => by
    by_cases h2 : i = t
    · subst h2
      rw [List.getElem?_set_self (by rw [viewF_len]; exact hlt)] at q
      cases q
      refine ⟨_, L.sy, .lsS (atY L.hy) ?_⟩
      exact (flat_rpL L.fd).app (.cons (F := []) (G := []) (.lsS (atX L.hx) (flat_rpL L.fe)) .nil)
    · rw [List.getElem?_set_ne (Ne.symm h2)] at q
      obtain ⟨h3, d0, h4, rfl⟩ := viewF_get q
      rw [Nat.zero_add] at h3
      obtain ⟨v, hv, r⟩ := L.st.en.sl i d0 h4
      exact ⟨v, hv, r.frz eB fun a m o q => tkn_tk a (List.mem_append_left _ (mem_fvF.mpr ⟨i, h3, m⟩)) o q⟩
  have rd : RdE c (tkn B H G) σ (hEnv fv t f ds es fs Δ) := by
    cases hf : fs with
    | none => exact ⟨base, by unfold hEnv; rw [List.length_set, viewF_len, L.st.en.ln]⟩
    | some l =>
      obtain ⟨z1, z2, z3, _⟩ := L.hz l hf
      refine ⟨fun i d q => ?_, by unfold hEnv; rw [List.length_set, List.length_set, viewF_len, L.st.en.ln]⟩
      simp only [hEnv] at q
      by_cases h1 : i = f
      · subst h1
        rw [List.getElem?_set_self (by rw [List.length_set, viewF_len]; exact hlf)] at q
        cases q
        exact ⟨_, z3, .lsS (tkn_tk z (List.mem_append_right _ (by simp [hf])) _ z1) (flat_rpL z2)⟩
      · rw [List.getElem?_set_ne (Ne.symm h1)] at q
        exact base i d q
  have out : ∀ a ∈ c.S, tkn B H G a = none := fun a m => by
    show (if a ∈ G then H a else B a) = none
    rw [if_neg fun q => ?_]
    · exact (L.st.sm.out a m).1
    · rcases List.mem_append.mp q with q | q
      · obtain ⟨i, _, q⟩ := mem_fvF.mp q
        exact L.st.ns a ⟨i, q⟩ m
      · exact (L.off a (gz a q)).2.1 m
  refine e.ok W σ (tkn B H G) H _ s (tkn_in L.st.ex) (L.st.sm.re out) rd Q ?_
  rw [he]
  intro v B' H1 F st sm r
  have keep : ∀ a o, H a = some o → a ∉ c.S → H1 a = some o := fun a o q n => st.fr a o q (fun m => nomatch m) n
  have exB : Ex B H1 := (eB.trans st.bb).trans st.bh
  have sta := L.st.kept (s' := s') exB (sm.re fun a m => (L.st.sm.out a m).1) fun a o q m => keep a o q (L.st.ns a m)
  rw [r.flV hd]
  refine k H1 ⟨sta, keep _ _ L.hx (L.off x (.inl rfl)).2.1, keep _ _ L.hy (L.off y (.inr (.inl rfl))).2.1, fun l hl => ?_, L.ne, L.off, L.fd, L.fe, L.sx, L.sy⟩ ⟨fun a o q n _ => keep a o q n, st.th⟩
  obtain ⟨z1, z2⟩ := L.hz l hl
  exact ⟨keep _ _ z1 (L.off z (.inr (.inr ⟨by rw [hl]; rfl, rfl⟩))).2.1, z2⟩
/-- an object that no slot owns is written -/
theorem Sta.wr (st : Sta c B H σ Δ fp s) {a : Addr} {o u : HO} (of : ¬ Ow fp a ∧ a ∉ c.S ∧ B a = none) (hu : H a = some u) (nu : NoCd u) : Sta c B (L2.upd H a o) σ Δ fp s := by
  have ex : Ex B (L2.upd H a o) := fun b w q => by rw [upd_ne (fun k => by rw [k, of.2.2] at q; cases q)]; exact st.ex b w q
  have stp : Stp [] B H B (L2.upd H a o) [a] [] := ⟨Ex.refl B, ex, fun b w q n _ => by rw [upd_ne (fun k => n (by rw [k]; simp))]; exact q, fun b q => by
    by_cases k : b = a
    · rw [k, upd_same] at q; cases q
    · rw [upd_ne k] at q; exact q, fun _ q n => absurd q n, fun _ m => (nomatch m), List.nodup_nil⟩
  refine st.kept ex (st.sm.stp stp (fun b m => by rw [List.mem_singleton.mp m]; exact of.2.1) fun b m w q => ?_) fun b w q m => by rw [upd_ne (fun k => of.1 (by rw [← k]; exact m))]; exact q
  rw [List.mem_singleton.mp m, hu] at q
  cases q
  exact nu
theorem lst_nocd (xs : List V) : NoCd (.lst xs) := fun b q e => by unfold CodeO at e; cases e
theorem Hld.wx {h t f : Nat} {x y z : Addr} {ds es es' : List D} {fs : Option (List D)} (L : Hld c B H σ Δ fp s h t f x y z ds es fs) (he : es'.all flatD = true) : Hld c B (L2.upd H x (.lst (es'.map flV))) σ Δ fp s h t f x y z ds es' fs :=
  ⟨L.st.wr (L.off x (.inl rfl)) L.hx (lst_nocd _), upd_same, by rw [upd_ne (Ne.symm L.ne)]; exact L.hy, fun l hl => by
    obtain ⟨z1, z2, z3, z4, z5⟩ := L.hz l hl
    exact ⟨by rw [upd_ne z4]; exact z1, z2, z3, z4, z5⟩, L.ne, L.off, L.fd, he, L.sx, L.sy⟩
theorem Hld.wz {h t f : Nat} {x y z : Addr} {ds es l l' : List D} (L : Hld c B H σ Δ fp s h t f x y z ds es (some l)) (hl : l'.all flatD = true) : Hld c B (L2.upd H z (.lst (l'.map flV))) σ Δ fp s h t f x y z ds es (some l') := by
  obtain ⟨z1, z2, z3, z4, z5⟩ := L.hz l rfl
  refine ⟨L.st.wr (L.off z (.inr (.inr ⟨rfl, rfl⟩))) z1 (lst_nocd _), by rw [upd_ne (Ne.symm z4)]; exact L.hx, by rw [upd_ne (Ne.symm z5)]; exact L.hy, fun m hm => ?_, L.ne, L.off, L.fd, L.fe, L.sx, L.sy⟩
  cases hm
  exact ⟨upd_same, hl, z3, z4, z5⟩
/-- an expression of a flat answer, in a body -/
theorem XE.flat (e : XE c) (fv : List Nat) (W : WX) (st : Sta c B H σ Δ fp s) {Q : VK} {d : D} (he : e.ev s (view fv Δ) = .ok d s') (hd : flatD d = true) (k : ∀ H1, Sta c B H1 σ Δ fp s' → Kr c H H1 [] → Q (flV d) H1) : e.t W σ H Q := by
  refine e.ok W σ (Be fv B H fp) H (view fv Δ) s (tkn_in st.ex) (st.smBe fv) (st.rdBe fv) Q ?_
  rw [he]
  intro v B' H1 F x sm r
  rw [r.flV hd]
  exact k H1 (st.keep x sm).1 ⟨fun a o q n _ => x.fr a o q (fun m => nomatch m) n, x.th⟩
/-- a slot's data go -/
theorem Sta.out (st : Sta c B H σ Δ fp s) (i : Nat) : Sta c B H σ (Δ.set i none) (fun j => if j = i then [] else fp j) s := by
  refine ⟨st.ex, ⟨fun j d q => ?_, fun j => ?_, fun j k a m m' => ?_, fun j q => ?_, by rw [List.length_set]; exact st.en.ln⟩, st.sm, fun a ⟨j, m⟩ => ?_⟩
  · by_cases hj : j = i
    · subst hj
      by_cases hl : j < Δ.length
      · rw [List.getElem?_set_self hl] at q; cases q
      · rw [List.getElem?_eq_none (by simpa using hl)] at q; cases q
    · rw [List.getElem?_set_ne (Ne.symm hj)] at q
      rw [if_neg hj]
      exact st.en.sl j d q
  · split
    · exact List.nodup_nil
    · exact st.en.nd j
  · by_cases hj : j = i
    · rw [if_pos hj] at m; exact nomatch m
    · by_cases hk : k = i
      · rw [if_pos hk] at m'; exact nomatch m'
      · rw [if_neg hj] at m
        rw [if_neg hk] at m'
        exact st.en.dj j k a m m'
  · by_cases hj : j = i
    · rw [if_pos hj]
    · rw [if_neg hj]
      refine st.en.em j fun d z => q d ?_
      rw [List.getElem?_set_ne (Ne.symm hj)]; exact z
  · by_cases hj : j = i
    · simp only [hj, if_true] at m; exact nomatch m
    · simp only [hj, if_false] at m; exact st.ns a ⟨j, m⟩
theorem ow_out {i : Nat} {a : Addr} (h : Ow (fun j => if j = i then [] else fp j) a) : Ow fp a := by
  obtain ⟨j, m⟩ := h
  by_cases hj : j = i
  · simp only [hj, if_true] at m; exact nomatch m
  · simp only [hj, if_false] at m; exact ⟨j, m⟩
theorem flat_vals : ∀ {xs : List V} {es : List D} {F : List Addr}, RpL c.K c.A B H xs es F → es.all flatD = true → xs = es.map flV
  | _, _, _, .nil, _ => rfl
  | _, _, _, .cons r t, h => by
    simp only [List.all_cons, Bool.and_eq_true] at h
    rw [r.flV h.1, flat_vals t h.2]
    rfl
/-- only an answer counts -/
def R.okb {α β : Type} (r : R α) (g : α → Strm → R β) : R β := match r with
  | .ok a s => g a s
  | _ => .bad
theorem okb_ok {α : Type} {r : R α} {g : α → Strm → R Fl} {W : WX} {Z : Ends} (h : AnsS c B H fp W Z (r.okb g)) : ∃ a s, r = .ok a s ∧ AnsS c B H fp W Z (g a s) := by
  cases r with
  | ok a s => exact ⟨a, s, rfl, h⟩
  | er k p s => exact h.elim
  | bad => exact h.elim
theorem if_ok {p : Prop} [Decidable p] {r : R Fl} {W : WX} {Z : Ends} (h : AnsS c B H fp W Z (if p then r else .bad)) : p ∧ AnsS c B H fp W Z r := by
  by_cases hp : p
  · rw [if_pos hp] at h; exact ⟨hp, h⟩
  · rw [if_neg hp] at h; exact h.elim
/-- t = [a0, a1, a2, h]; f = [e2]; h[i3] = n3; f.append(e4); h.append(n5); return e6 -/
def heldE (h t f : Nat) (f1 f2 f6 : List Nat) (a0 a1 a2 e2 i3 e4 e6 : XE c) (n3 n5 : Int) (s : Strm) (Δ : Env) : R Fl :=
  match lstAt Δ h with
  | none => .bad
  | some es => if es.all flatD = true ∧ es.length < lim ∧ t < Δ.length ∧ f < Δ.length ∧ h < Δ.length ∧ t ≠ f ∧ h ≠ t ∧ h ≠ f then
    (a0.ev s (view f1 Δ)).okb fun d0 s => (a1.ev s (view f1 Δ)).okb fun d1 s => (a2.ev s (view f1 Δ)).okb fun d2 s =>
      if flatD d0 = true ∧ flatD d1 = true ∧ flatD d2 = true then
        (e2.ev s (hEnv f2 t f [d0, d1, d2] es none (((Δ.set h none).set t none).set f none))).okb fun g s => if flatD g = true then
          (i3.ev s (hEnv f2 t f [d0, d1, d2] es (some [g]) (((Δ.set h none).set t none).set f none))).okb fun k s => match k with
            | .int k => (match ixN es.length k with
              | some j => (e4.ev s (hEnv f2 t f [d0, d1, d2] (es.set j (.int n3)) (some [g]) (((Δ.set h none).set t none).set f none))).okb fun g2 s => if flatD g2 = true then
                (e6.ev s (hEnv f6 t f [d0, d1, d2] (es.set j (.int n3) ++ [.int n5]) (some [g, g2]) (((Δ.set h none).set t none).set f none))).okb fun r s => if flatD r = true then .ok (.rt r) s else .bad
                else .bad
              | none => .bad)
            | _ => .bad
          else .bad
        else .bad
    else .bad
def XS.held (h t f : Nat) (f1 f2 f6 : List Nat) (a0 a1 a2 e2 i3 e4 e6 : XE c) (n3 n5 : Int) : XS c where
  t := fun W => tSeq (tAsg ((XE.lst (.cons a0 (.cons a1 (.cons a2 (.cons (.var h) .nil))))).t W) (gName t)) (tSeq (tAsg ((XE.lst (.cons e2 .nil)).t W) (gName f)) (tSeq (tAsg ((XE.int (c := c) n3).t W) (L2.gSub (tVar h) (i3.t W) rSetL))
    (tSeq (tDrop (tBM c.K "list" rAppend (tVar f) (tCons (e4.t W) tNil))) (tSeq (tDrop (tBM c.K "list" rAppend (tVar h) (tCons ((XE.int (c := c) n5).t W) tNil))) (tRet (e6.t W))))))
  ev := heldE h t f f1 f2 f6 a0 a1 a2 e2 i3 e4 e6 n3 n5
  ok := fun W Z σ B H Δ fp s st hh => by
    unfold heldE at hh
    cases hl : lstAt Δ h with
    | none => rw [hl] at hh; exact hh.elim
    | some es =>
      rw [hl] at hh
      dsimp only at hh
      obtain ⟨⟨fe, ll, lt, lf, lh, ntf, nht, nhf⟩, hh⟩ := if_ok hh
      obtain ⟨d0, s0, q0, hh⟩ := okb_ok hh
      obtain ⟨d1, s1, q1, hh⟩ := okb_ok hh
      obtain ⟨d2, s2, q2, hh⟩ := okb_ok hh
      obtain ⟨⟨fl0, fl1, fl2⟩, hh⟩ := if_ok hh
      obtain ⟨g, s3, q3, hh⟩ := okb_ok hh
      obtain ⟨flg, hh⟩ := if_ok hh
      obtain ⟨kk, s4, q4, hh⟩ := okb_ok hh
      cases kk <;> first | exact hh.elim | skip
      rename_i k
      dsimp only at hh
      cases hk : ixN es.length k with
      | none => rw [hk] at hh; exact hh.elim
      | some j =>
        rw [hk] at hh
        dsimp only at hh
        obtain ⟨g2, s5, q5, hh⟩ := okb_ok hh
        obtain ⟨flg2, hh⟩ := if_ok hh
        obtain ⟨r, s6, q6, hh⟩ := okb_ok hh
        obtain ⟨flr, hh⟩ := if_ok hh
        have fd : [d0, d1, d2].all flatD = true := by simp [fl0, fl1, fl2]
        refine a0.flat f1 W st q0 fl0 fun Ha sa ka => ?_
        refine a1.flat f1 W sa q1 fl1 fun Hb sb kb => ?_
        refine a2.flat f1 W sb q2 fl2 fun Hc sc kc => ?_
        obtain ⟨x, xs, G, hv, hx, bx, rx, fx⟩ := sc.lst_at (lstAt_ok hl)
        have ex : xs = es.map flV := flat_vals rx fe
        rw [ex] at hx
        refine ⟨.ref x, hv, by simp [sizeLine_eq], fun y hy => ?_⟩
        have k1 : Kr c H Hc [x] := ((ka.trans kb fun _ m => (nomatch m)).trans kc fun _ m => (nomatch m)).wk fun _ m => nomatch m
        have ox : Ow fp x := ⟨h, by rw [fx]; exact List.mem_cons_self⟩
        have nx := sc.en.at ox
        have xS := sc.ns x ox
        have ny : B y = none := sc.ex.none hy
        have yS : y ∉ c.S := fun m => (sc.sm.out y m).2 hy
        have yO : ¬ Ow fp y := fun m => (sc.en.at m).2 hy
        have nexy : x ≠ y := fun e => by rw [e, hy] at hx; cases hx
        let fp0 : Nat → List Addr := fun i => if i = f then [] else (fun i => if i = t then [] else (fun i => if i = h then [] else fp i) i) i
        have ow0 : ∀ {a}, Ow fp0 a → Ow fp a := fun {a} m => ow_out (ow_out (ow_out m))
        have xO : ¬ Ow fp0 x := fun ⟨i, m⟩ => by
          have e : i = h := by
            have m' : x ∈ fp i := by
              by_cases h1 : i = f
              · simp only [fp0, h1, if_true] at m; exact nomatch m
              · by_cases h2 : i = t
                · simp only [fp0, h2, if_true] at m
                  split at m <;> exact nomatch m
                · by_cases h3 : i = h
                  · simp only [fp0, h3, if_true] at m
                    split at m <;> first | exact nomatch m | (split at m <;> exact nomatch m)
                  · simp only [fp0, h1, h2, h3, if_false] at m; exact m
            exact sc.en.dj i h x m' (by rw [fx]; exact List.mem_cons_self)
          subst e
          simp only [fp0, nhf, nht, if_false, if_true] at m
          exact nomatch m
        have s0' : Sta c B Hc σ (((Δ.set h none).set t none).set f none) fp0 s2 := ((sc.out h).out t).out f
        have up1 : Ex Hc (upd Hc y (.lst ([flV d0, flV d1, flV d2] ++ [.ref x]))) := Ex.upd hy
        have stp1 := Stp.obj (F := []) (G := []) (o := .lst ([flV d0, flV d1, flV d2] ++ [.ref x])) sc.ex hy (fun _ m => m) (fun _ m => nomatch m) List.nodup_nil
        have sd := s0'.kept (sc.ex.trans up1) (sc.sm.stp stp1 (fun _ m => nomatch m) Noc.nil) fun a o e _ => up1 a o e
        -- t is set
        have lσ := sc.en.ln
        have setN : ∀ {B H : Hp} {σ : L2.St} {s : Strm} {i : Nat} {v : V}, (i = t ∨ i = f) → Sta c B H σ (((Δ.set h none).set t none).set f none) fp0 s → Sta c B H (σ.set i (some v)) (((Δ.set h none).set t none).set f none) fp0 s := fun {B H σ s i v} hi st => by
          have none_at : ∀ d, (((Δ.set h none).set t none).set f none)[i]? ≠ some (some d) := fun d q => by
            rcases hi with rfl | rfl
            · rw [List.getElem?_set_ne (Ne.symm ntf), List.getElem?_set_self (by rw [List.length_set]; exact lt)] at q; cases q
            · rw [List.getElem?_set_self (by rw [List.length_set, List.length_set]; exact lf)] at q; cases q
          exact ⟨st.ex, ⟨fun j d q => by
            obtain ⟨v', h1, h2⟩ := st.en.sl j d q
            exact ⟨v', by rw [List.getElem?_set_ne (fun e => none_at d (by rw [e]; exact q))]; exact h1, h2⟩, st.en.nd, st.en.dj, st.en.em, by rw [List.length_set]; exact st.en.ln⟩, st.sm, st.ns⟩
        have off1 : ∀ a, a = x ∨ a = y ∨ ((none : Option (List D)).isSome = true ∧ a = y) → ¬ Ow fp0 a ∧ a ∉ c.S ∧ B a = none := fun a m => by
          rcases m with rfl | rfl | ⟨e, _⟩
          · exact ⟨xO, xS, nx.1⟩
          · exact ⟨fun m => yO (ow0 m), yS, ny⟩
          · cases e
        have L1 : Hld c B (upd Hc y (.lst ([flV d0, flV d1, flV d2] ++ [.ref x]))) (σ.set t (some (.ref y))) (((Δ.set h none).set t none).set f none) fp0 s2 h t f x y y [d0, d1, d2] es none :=
          ⟨setN (.inl rfl) sd, up1 _ _ hx, upd_same, fun l e => (by cases e), nexy, off1, fd, fe, by rw [List.getElem?_set_ne (Ne.symm nht)]; exact hv, List.getElem?_set_self (by rw [lσ]; exact lt)⟩
        have lt' : t < (((Δ.set h none).set t none).set f none).length := by simpa using lt
        have lf' : f < (((Δ.set h none).set t none).set f none).length := by simpa using lf
        refine L1.run lt' lf' f2 e2 W q3 flg fun Hd Ld kd => ⟨by simp [sizeLine_eq], fun z hz => ?_⟩
        have k2 : Kr c H Hd [x] := (k1.trans (Kr.of (a := y)) (fun a m => .inr (by rw [List.mem_singleton.mp m]; exact k1.th y hy))).trans kd fun _ m => nomatch m
        have up2 : Ex Hd (upd Hd z (.lst [flV g])) := Ex.upd hz
        have stp2 := Stp.obj (F := []) (G := []) (o := .lst [flV g]) Ld.st.ex hz (fun _ m => m) (fun _ m => nomatch m) List.nodup_nil
        have se := Ld.st.kept (Ld.st.ex.trans up2) (Ld.st.sm.stp stp2 (fun _ m => nomatch m) Noc.nil) fun a o e _ => up2 a o e
        have nzx : z ≠ x := fun e => by rw [e, Ld.hx] at hz; cases hz
        have nzy : z ≠ y := fun e => by rw [e, Ld.hy] at hz; cases hz
        have off2 : ∀ a, a = x ∨ a = y ∨ ((some [g] : Option (List D)).isSome = true ∧ a = z) → ¬ Ow fp0 a ∧ a ∉ c.S ∧ B a = none := fun a m => by
          rcases m with rfl | rfl | ⟨_, rfl⟩
          · exact ⟨xO, xS, nx.1⟩
          · exact ⟨fun m => yO (ow0 m), yS, ny⟩
          · exact ⟨fun m => (Ld.st.en.at m).2 hz, fun m => (Ld.st.sm.out _ m).2 hz, Ld.st.ex.none hz⟩
        have L2 : Hld c B (upd Hd z (.lst ([g].map flV))) ((σ.set t (some (.ref y))).set f (some (.ref z))) (((Δ.set h none).set t none).set f none) fp0 s3 h t f x y z [d0, d1, d2] es (some [g]) :=
          ⟨setN (.inr rfl) se, up2 _ _ Ld.hx, up2 _ _ Ld.hy, fun l e => by
            cases e
            exact ⟨upd_same, by simp [flg], List.getElem?_set_self (by rw [List.length_set, lσ]; exact lf), nzx, nzy⟩, nexy, off2, fd, fe, by rw [List.getElem?_set_ne (Ne.symm nhf)]; exact Ld.sx, by rw [List.getElem?_set_ne ntf.symm]; exact Ld.sy⟩
        have k3 : Kr c H (upd Hd z (.lst ([g].map flV))) [x] := k2.trans Kr.of fun a m => .inr (by rw [List.mem_singleton.mp m]; exact k2.th z hz)
        refine ⟨.ref x, L2.sx, ?_⟩
        refine L2.run lt' lf' f2 i3 W q4 rfl fun He Le ke => ?_
        refine ⟨x, _, k, j, rfl, rfl, Le.hx, by rw [List.length_map]; exact hk, ?_⟩
        have fe2 : (es.set j (.int n3)).all flatD = true := by
          rw [List.all_eq_true] at fe ⊢
          intro d hd
          rcases List.mem_or_eq_of_mem_set hd with m | m
          · exact fe d m
          · rw [m]; rfl
        have L3 := Le.wx (es' := es.set j (.int n3)) fe2
        have em : (es.set j (D.int n3)).map flV = (es.map flV).set j (V.int n3) := by rw [List.map_set]; rfl
        rw [em] at L3
        have k4 : Kr c H (upd He x (.lst ((es.map flV).set j (.int n3)))) [x] := (k3.trans ke fun _ m => nomatch m).trans Kr.of fun a m => .inl m
        obtain ⟨z1, z2, z3, _⟩ := L3.hz _ rfl
        refine ⟨.ref z, z3, .inl ⟨rfl, _, SqL.of z1⟩, ?_⟩
        refine L3.run lt' lf' f2 e4 W q5 flg2 fun Hf Lf kf => ?_
        obtain ⟨y1, _⟩ := Lf.hz _ rfl
        refine ⟨z, _, _, rfl, rfl, y1, by simp [sizeLine_eq], ?_⟩
        have L4 := Lf.wz (l' := [g, g2]) (by simp [flg, flg2])
        obtain ⟨zz1, zz2, zz3, zz4, zz5⟩ := L4.hz _ rfl
        have k5 : Kr c H (upd Hf z (.lst ([g, g2].map flV))) [x] := ((k4.trans kf fun _ m => nomatch m)).trans Kr.of fun a m => .inr (by rw [List.mem_singleton.mp m]; exact k2.th z hz)
        refine ⟨.ref x, L4.sx, .inl ⟨rfl, _, SqL.of L4.hx⟩, ?_⟩
        refine ⟨x, _, _, rfl, rfl, L4.hx, by rw [List.length_map, List.length_set]; rw [lim_eq]; exact ll, ?_⟩
        have L5 := L4.wx (es' := es.set j (.int n3) ++ [.int n5]) (by rw [List.all_append, fe2]; rfl)
        have em2 : (es.set j (D.int n3) ++ [D.int n5]).map flV = (es.set j (D.int n3)).map flV ++ [V.int n5] := by rw [List.map_append]; rfl
        rw [em2] at L5
        have k6 := k5.trans (Kr.of (a := x) (o := .lst ((es.set j (D.int n3)).map flV ++ [V.int n5]))) fun a m => .inl m
        refine L5.run lt' lf' f6 e6 W q6 flr fun Hg Lg kg => ?_
        have k7 := k6.trans kg fun _ m => nomatch m
        refine hh (flV r) B Hg [] ⟨Ex.refl B, Lg.st.ex, fun a o e n m => k7.fr a o e m fun q => n (by rw [List.mem_singleton.mp q]; exact ox), k7.th, fun a e n => absurd e n, fun a m => nomatch m⟩ Lg.st.sm (flat_rp flr) List.nodup_nil
end
end Ly

end
section
set_option Elab.async false
set_option linter.all false
set_option maxRecDepth 100000
set_option maxHeartbeats 4000000
namespace Ly
open PySem L2 PySem.Spec PyProof.Rows LamX
section
variable {c : Cf}
/-- x[k].append('..'): the told thing is spoiled, and no more looked at -/
def spoilAt (Δ : Env) (i : Nat) (k : Int) : Bool := match Δ[i]? with
  | some (some (.tup true ds)) => (match atI ds k with
    | some (.lst true es) => decide (es.length < lim)
    | _ => false)
  | _ => false
def XS.spoil (i : Nat) (k : Int) (z : Str) : XS c where
  t := fun W => tDrop (tBM c.K "list" rAppend ((XE.ix (c := c) (.var i) (.int k)).t W) (tCons ((XE.str (c := c) z).t W) tNil))
  ev := fun s Δ => if spoilAt Δ i k then .ok (.nx (Δ.set i none)) s else .bad
  ok := fun W Z σ B H Δ fp s st hh => by
    obtain ⟨hs, hh⟩ := if_ok hh
    unfold spoilAt at hs
    split at hs
    case h_2 => cases hs
    rename_i ds hd
    split at hs
    case h_2 => cases hs
    rename_i es he
    have hl : es.length < lim := of_decide_eq_true hs
    obtain ⟨v, hv, r⟩ := st.en.sl i _ hd
    generalize hF : fp i = F at r
    cases r with
    | @tpO a xs _ G h1 n1 rl =>
      obtain ⟨j, e1, e2⟩ := atI_rel rl.len he
      obtain ⟨u, G2, e3, ru, m, _⟩ := rl.pick e1
      cases ru with
      | @lsO b ys _ G3 g1 g2 g3 =>
        have bi : b ∈ fp i := by rw [hF]; exact List.mem_cons_of_mem _ (m b List.mem_cons_self)
        have ob : Ow fp b := ⟨i, bi⟩
        have bS := st.ns b ob
        refine ⟨.ref a, hv, .inr (.inl ⟨a, xs, k, .ref b, rfl, rfl, SqT.of h1, e2 _ e3, .inl ⟨rfl, _, SqL.of g1⟩, b, ys, .str z, rfl, rfl, g1, by rw [g3.len, lim_eq]; exact hl, ?_⟩)⟩
        have so := st.out i
        have no : ¬ Ow (fun j => if j = i then [] else fp j) b := fun ⟨j, q⟩ => by
          by_cases hj : j = i
          · simp only [hj, if_true] at q; exact nomatch q
          · simp only [hj, if_false] at q; exact hj (st.en.dj j i b q bi)
        have sw := so.wr (o := .lst (ys ++ [V.str z])) ⟨no, bS, g2⟩ g1 (lst_nocd _)
        refine hh σ B _ _ ⟨Ex.refl B, sw.ex, fun x o e n _ => by rw [upd_ne (fun q => n (by rw [q]; exact ob))]; exact e, fun x e => ?_, fun _ e n => absurd e n, fun x q => .inr (ow_out q)⟩ sw
        by_cases q : x = b
        · rw [q, upd_same] at e; cases e
        · rw [upd_ne q] at e; exact e
variable {X : Cx} {W : WX}
theorem spoil_ (i : Nat) {x z : Str} {k : Int} {j1 j2 : Nat} {p1 p2 p3 p4 p5 p6 p7 : Pos} (hN : X.N[i]? = some x := by rfl) (hv : Vis X.env.scope x := by first | exact Or.inl rfl | exact Or.inr (Or.inl rfl) | exact Or.inr (Or.inr rfl)) (hd : (x == ("__debug__" : Str)) = false := by decide)
    (hcd : (x == ("__classdict__" : Str)) = false := by decide) (hK : X.K = c.K := by rfl)
    (hi : PE X (.Subscript (.Name x p1) (.Constant (.int k) j1 p2) p3) ((XE.ix (c := c) (.var i) (.int k)).t W) := by exact ix_ (v_ _) int_)
    (h1 : attributeBase (.Subscript (.Name x p1) (.Constant (.int k) j1 p2) p3) "append" X.env (eval (.Subscript (.Name x p1) (.Constant (.int k) j1 p2) p3) X.env) = eval (.Subscript (.Name x p1) (.Constant (.int k) j1 p2) p3) X.env := by rfl)
    (h2 : (((backTo p6 (starEach [.Constant (.str z) j2 p5] X.env)).all fun x => !x.1) && ((backToKw p6 (keywordEach [] X.env)).all fun x => x.1.isSome) && decide ((([Expr.Constant (.str z) j2 p5]).length + ([] : List Keyword).length + if ([] : List Keyword).isEmpty then 0 else 1) < 30)) = true := by rfl)
    (h3 : (p4.endLine == p6.line) = true := by rfl) (h4 : starEach [.Constant (.str z) j2 p5] X.env = (false, eval (.Constant (.str z) j2 p5) X.env) :: starEach [] X.env := by rfl) (h5 : (backTo p6 (starEach [] X.env)).any (·.1) = false := by rfl)
    (h6 : swapsWith (.Call (.Attribute (.Subscript (.Name x p1) (.Constant (.int k) j1 p2) p3) "append" p4) [.Constant (.str z) j2 p5] [] p6) none p7.line X.env = pure false := by rfl) :
    PS X (.Expr (.Call (.Attribute (.Subscript (.Name x p1) (.Constant (.int k) j1 p2) p3) "append" p4) [.Constant (.str z) j2 p5] [] p6) p7) ((XS.spoil (c := c) i k z).t W) := by
  have h := pe_bm PySem.F.plainAttrs_list PySem.F.slot_list_append PySem.F.type_list_append mt_append hi (pa_cons (str_ (c := c) (W := W)) pa_nil h4) h1 h2 h3 h4 h5
  rw [hK] at h
  exact ps_expr h h6
theorem held_ {h t f : Nat} {f1 f2 f6 : List Nat} {a0 a1 a2 e2 i3 e4 e6 : XE c} {n3 n5 : Int} {s1 s2 s3 s4 s5 s6 : Stmt} (p1 : PS X s1 (tAsg ((XE.lst (.cons a0 (.cons a1 (.cons a2 (.cons (.var h) .nil))))).t W) (gName t))) (p2 : PS X s2 (tAsg ((XE.lst (.cons e2 .nil)).t W) (gName f)))
    (p3 : PS X s3 (tAsg ((XE.int (c := c) n3).t W) (L2.gSub (tVar h) (i3.t W) rSetL))) (p4 : PS X s4 ((XS.app f [] e4).t W)) (p5 : PS X s5 ((XS.app (c := c) h [] (.int n5)).t W)) (p6 : PS X s6 (tRet (e6.t W))) :
    PSs X [s1, s2, s3, s4, s5, s6] ((XS.held h t f f1 f2 f6 a0 a1 a2 e2 i3 e4 e6 n3 n5).t W) := by
  have q := pss_cons p1 (pss_cons p2 (pss_cons p3 (pss_cons p4 (pss_cons p5 (pss_one p6)))))
  exact q
end
end Ly

end
section
set_option Elab.async false
set_option linter.all false
set_option maxRecDepth 100000
set_option maxHeartbeats 4000000
namespace Ly
open PySem L2 PySem.Spec PyProof.Rows LamX
/-! ### an own error, by one Bool -/
def oexCl (C : Addr) : Obj → Bool
  | ⟨.type "type", _, .cls cd, sl⟩ => (match cd.mro, sl.toList with
    | .ref C' :: bm, [_, _, _, _, some (.builtin n), _] => C' == C && (n == "ValueError.__new__" && (!cd.hasDel && (cd.hasDict && PySem.HandSPX.refsVE bm)))
    | _, _ => false)
  | _ => false
def oexB (K : PySem.W.Frag) (C : Addr) : Bool := (match K.lookup C with
  | some o => oexCl C o
  | none => false) && (decide (PySem.W.findIn K (.ref C) "__setattr__" = some (some (.builtin "object.__setattr__"))) && (decide (PySem.W.subIn K (.ref C) (.type "BaseException") = some true) && (decide (PySem.W.typeIn K (.ref C) = some (.type "type")) && PySem.W.keepIn K (.ref C))))
theorem oexB_ok {K : PySem.W.Frag} {C : Addr} (h : oexB K C = true) : OexC K C := by
  unfold oexB at h
  simp only [Bool.and_eq_true, decide_eq_true_eq] at h
  obtain ⟨h1, h2, h3, h4, h5⟩ := h
  refine ⟨?_, h2, h3, h4, h5⟩
  cases hl : K.lookup C with
  | none => rw [hl] at h1; cases h1
  | some o =>
    rw [hl] at h1
    dsimp only at h1
    unfold oexCl at h1
    split at h1
    case h_2 => cases h1
    rename_i dd cd sl
    split at h1
    case h_2 => cases h1
    rename_i C' bm k0 k1 k2 k3 n k5 hm hs
    simp only [Bool.and_eq_true, beq_iff_eq, Bool.not_eq_true'] at h1
    obtain ⟨rfl, rfl, hdel, hdict, hv⟩ := h1
    obtain ⟨nm, bs, mro, ns, qn, hd, sn, sub, ab, col, del⟩ := cd
    dsimp only at hm hdel hdict
    subst hm hdel hdict
    obtain ⟨l⟩ := sl
    dsimp only at hs
    subst hs
    exact ⟨nm, qn, ns, bs, bm, sn, sub, ab, col, dd, k0, k1, k2, k3, k5, rfl, hv⟩
/-- the j-th statement of a class -/
def clsSt (s : Stmt) (j : Nat) : Stmt := match s with
  | .ClassDef (body := b) .. => b.getD j (.Pass ⟨0, 0, 0, 0⟩)
  | _ => .Pass ⟨0, 0, 0, 0⟩
/-- an own error's __init__: self.f = f -/
theorem einit {P : Program} {w : World} {K : PySem.W.Frag} {mg : Str → Option Value} {base : Heap} {C fI : Addr} {f qual : Str} {params : Arguments} {body : List Stmt} {scope : Scope} {fd : FuncData} (F : FunD K "__init__" qual params body scope [] [] fI fd)
    (S : FnScope ["self", f] ["self", f] scope) (ox : OexC K C) (no : PySem.W.findIn K (.ref C) f = some none)
    (hder : ∀ (cdv : Value) (A : Around) (outer : List PySem.Env) (s : Shared) (H : Hp) (E : XK), PSs (cxOf (L2.CX P w) P w K mg base ["self", f] qual scope fI cdv A outer s H E) body (tOst K f (tVar 0) (tVar 1))) :
    FnOk P w K mg base (L2.CX P w) 1 fI fd ["self", f] (spX C f) := by
  refine F.ok S (fun vs H Q E h => ?_) (fun cdv A outer s H vs Q E hr h => ⟨_, hder cdv A outer s H E, ?_⟩)
  · obtain ⟨a, y, rfl, _⟩ := h
    rfl
  · obtain ⟨a, y, rfl, ha, q⟩ := h
    exact ⟨y, start_at rfl, .ref a, start_at rfl, a, C, rfl, ox, no, .inl ⟨ha, fun dx h1 h2 => q dx h1 h2⟩⟩
/-- what the Bool of the head says of an error of one field, of a clause's field, of two classes -/
def errB (K : PySem.W.Frag) (p : Str × Str) : Bool := oexB K (He.ga K p.1) && (decide (PySem.W.findIn K (.ref (He.ga K p.1)) "__init__" = some (some (.ref (He.ma K (He.ga K p.1) "__init__")))) &&
  (decide (PySem.W.typeIn K (.ref (He.ma K (He.ga K p.1) "__init__")) = some (.type "function")) && decide (PySem.W.findIn K (.ref (He.ga K p.1)) p.2 = some none)))
def fldB (K : PySem.W.Frag) (p : Str × Str) : Bool := xfB K (He.ga K p.1) && decide (PySem.W.findIn K (.ref (He.ga K p.1)) p.2 = some none)
def exmB (K : PySem.W.Frag) (p : Str × Str) : Bool := decide (PySem.W.exmOne K (.ref (He.ga K p.1)) (.ref (He.ga K p.2)) = some (decide (p.1 = p.2)))
theorem errB_ok {K : PySem.W.Frag} {p : Str × Str} (h : errB K p = true) : OexC K (He.ga K p.1) ∧ PySem.W.findIn K (.ref (He.ga K p.1)) "__init__" = some (some (.ref (He.ma K (He.ga K p.1) "__init__"))) ∧ PySem.W.typeIn K (.ref (He.ma K (He.ga K p.1) "__init__")) = some (.type "function") ∧ PySem.W.findIn K (.ref (He.ga K p.1)) p.2 = some none := by
  unfold errB at h
  simp only [Bool.and_eq_true, decide_eq_true_eq] at h
  exact ⟨oexB_ok h.1, h.2⟩
theorem fldB_ok {K : PySem.W.Frag} {p : Str × Str} (h : fldB K p = true) : XfC K (He.ga K p.1) ∧ PySem.W.findIn K (.ref (He.ga K p.1)) p.2 = some none := by
  unfold fldB at h
  simp only [Bool.and_eq_true, decide_eq_true_eq] at h
  exact ⟨xfB_ok h.1, h.2⟩
theorem exmB_ok {K : PySem.W.Frag} {p : Str × Str} (h : exmB K p = true) : PySem.W.exmOne K (.ref (He.ga K p.1)) (.ref (He.ga K p.2)) = some (decide (p.1 = p.2)) := of_decide_eq_true h
def exB (errs flds exms : List (Str × Str)) (tf : List He.Defn) (K : PySem.W.Frag) : Bool := errs.all (errB K) && (flds.all (fldB K) && (exms.all (exmB K) && decide ((tf.map fun p => (He.cT K p).2).Nodup)))
/-- the context that the head gives -/
def cfOf (tf : List He.Defn) (K : PySem.W.Frag) : Cf := { K := K, A := He.ga K, st := none, T := tf.map fun p => ((He.cT K p).2, p.1 ++ ".<locals>." ++ "<lambda>") }
theorem cf_tab {tf : List He.Defn} {K : PySem.W.Frag} (nd : (tf.map fun p => (He.cT K p).2).Nodup) (a b : Addr) {p : He.Defn} (h : p ∈ tf) : tabOk ((cfOf tf K).at a b) (He.cT K p).2 (p.1 ++ ".<locals>." ++ "<lambda>") = true := by
  unfold tabOk
  rw [Bool.and_eq_true]
  refine ⟨decide_eq_true (List.mem_map.mpr ⟨p, h, rfl⟩), List.all_eq_true.mpr fun q hq => ?_⟩
  obtain ⟨r, hr, rfl⟩ := List.mem_map.mp hq
  by_cases e : (He.cT K r).2 = (He.cT K p).2
  · have : r = p := by
      clear hq
      induction tf with
      | nil => exact nomatch hr
      | cons x l ih =>
        rw [List.map_cons, List.nodup_cons] at nd
        rcases List.mem_cons.mp h with hx | h
        · rcases List.mem_cons.mp hr with hy | hr
          · rw [hx, hy]
          · rw [hx] at e
            exact absurd (List.mem_map.mpr ⟨r, hr, e⟩) nd.1
        · rcases List.mem_cons.mp hr with hy | hr
          · rw [hy] at e
            exact absurd (List.mem_map.mpr ⟨p, h, e.symm⟩) nd.1
          · exact ih nd.2 h hr
    rw [this]
    simp
  · simp [e]
end Ly

end
section
set_option Elab.async false
set_option linter.all false
set_option maxRecDepth 100000
set_option maxHeartbeats 4000000
namespace Ly
open PySem L2
section
variable {c : Cf} {s : Strm} {Δ : Env}
/-! ### the evaluators, one step -/
theorem ev_var {i : Nat} {d : D} (h : Δ[i]? = some (some d)) : (XE.var (c := c) i).ev s Δ = .ok d s := by
  show (match Δ[i]? with | some (some d) => R.ok d s | _ => .bad) = _
  rw [h]
theorem ev_con {v : V} {d : D} {hr} : (XE.con (c := c) v d hr).ev s Δ = .ok d s := rfl
theorem ev_op {r : R2} {g : D → D → Option D} {hr} {a b : XE c} : (XE.op r g hr a b).ev s Δ = (a.ev s Δ).bind fun d s1 => (b.ev s1 Δ).bind fun e s2 => optR s2 (g d e) := rfl
theorem ev_un {r : V → Hp → VK → Prop} {g : D → Option D} {hr} {a : XE c} : (XE.un r g hr a).ev s Δ = (a.ev s Δ).bind fun d s1 => optR s1 (g d) := rfl
theorem ev_app {r : List V → Hp → VK → Prop} {g : List D → Option D} {hr} {a : XA c} : (XE.app r g hr a).ev s Δ = (a.ev s Δ).bind fun ds s1 => optR s1 (g ds) := rfl
theorem ev_call {F : Fn} {a : XA c} : (XE.call F a).ev s Δ = (a.ev s Δ).bind fun ds s1 => F s1 (frzL ds) := rfl
theorem ev_nilA : (XA.nil (c := c)).ev s Δ = .ok [] s := rfl
theorem ev_consA {a : XE c} {r : XA c} : (XA.cons a r).ev s Δ = (a.ev s Δ).bind fun d s1 => (r.ev s1 Δ).bind fun ds s2 => .ok (d :: ds) s2 := rfl
theorem ev_lst {a : XA c} : (XE.lst a).ev s Δ = (a.ev s Δ).bind fun ds s1 => if ds.length ≤ lim then .ok (.lst true ds) s1 else .bad := rfl
theorem ev_tup {a : XA c} : (XE.tup a).ev s Δ = (a.ev s Δ).bind fun ds s1 => if ds.length ≤ lim then .ok (.tup true ds) s1 else .bad := rfl
theorem ev_ite {t : XT c} {a b : XE c} : (XE.ite t a b).ev s Δ = (t.ev s Δ).bind fun x s1 => if x then a.ev s1 Δ else b.ev s1 Δ := rfl
theorem ev_and {a b : XE c} : (XE.and a b).ev s Δ = (a.ev s Δ).bind fun d s1 => (optR s1 (dB d)).bind fun x s1 => if x then b.ev s1 Δ else .ok (.bl false) s1 := rfl
theorem ev_or {a b : XE c} : (XE.or a b).ev s Δ = (a.ev s Δ).bind fun d s1 => (optR s1 (dB d)).bind fun x s1 => if x then .ok (.bl true) s1 else b.ev s1 Δ := rfl
theorem ev_not {a : XE c} : (XE.not a).ev s Δ = (a.ev s Δ).bind fun d s1 => (optR s1 (dB d)).bind fun x s1 => .ok (.bl (!x)) s1 := rfl
theorem ev_test {a : XE c} : (XT.test a).ev s Δ = (a.ev s Δ).bind fun d s1 => optR s1 (dB d) := rfl
theorem ev_tru {a : XE c} : (XT.tru a).ev s Δ = (a.ev s Δ).bind fun d s1 => optR s1 (dT d) := rfl
theorem ev_notT {a : XT c} : (XT.not a).ev s Δ = (a.ev s Δ).bind fun b s1 => .ok (!b) s1 := rfl
theorem ev_andT {a b : XT c} : (XT.and a b).ev s Δ = (a.ev s Δ).bind fun x s1 => if x then b.ev s1 Δ else .ok false s1 := rfl
theorem ev_orT {a b : XT c} : (XT.or a b).ev s Δ = (a.ev s Δ).bind fun x s1 => if x then .ok true s1 else b.ev s1 Δ := rfl
theorem ev_seq {a b : XS c} : (XS.seq a b).ev s Δ = (a.ev s Δ).nxt fun Δ1 s1 => b.ev s1 Δ1 := rfl
theorem ev_if {fv : List Nat} {t : XT c} {a b : XS c} : (XS.ite fv t a b).ev s Δ = (t.ev s (view fv Δ)).bind fun x s1 => if x then a.ev s1 Δ else b.ev s1 Δ := rfl
theorem ev_ret {fv : List Nat} {e : XE c} : (XS.ret fv e).ev s Δ = (e.ev s (view fv Δ)).bind fun d s1 => .ok (.rt d) s1 := rfl
theorem ev_retV {i : Nat} {d : D} (h : Δ[i]? = some (some d)) : (XS.retV (c := c) i).ev s Δ = .ok (.rt d) s := by
  show (match Δ[i]? with | some (some d) => R.ok (Fl.rt d) s | _ => .bad) = _
  rw [h]
theorem ev_pass : (XS.pass (c := c)).ev s Δ = .ok (.nx Δ) s := rfl
theorem ev_asg {fv : List Nat} {e : XE c} {g : XG c} : (XS.asg fv e g).ev s Δ = (e.ev s (view fv Δ)).bind fun d s1 => match g.ev d with
    | some bs => if inEnv Δ g.sl then .ok (.nx (setD (aft fv d Δ) g.sl bs)) s1 else .bad
    | none => .bad := rfl
theorem bind_ok {α β : Type} {a : α} {f : α → Strm → R β} : (R.ok a s).bind f = f a s := rfl
theorem nxt_nx {f : Env → Strm → R Fl} : (R.ok (Fl.nx Δ) s).nxt f = f Δ s := rfl
theorem nxt_rt {d : D} {f : Env → Strm → R Fl} : (R.ok (Fl.rt d) s).nxt f = .ok (.rt d) s := rfl
theorem optR_some {α : Type} {a : α} : optR s (some a) = .ok a s := rfl
end
end Ly

end
section
set_option Elab.async false
set_option linter.all false
set_option maxRecDepth 100000
set_option maxHeartbeats 4000000
namespace Ly
open PySem L2
section
variable {c : Cf} {s : Strm} {Δ : Env}
/-! ### steps -/
variable {s1 : Strm} {Δ1 : Env} {fv : List Nat} {d e : D} {x y : XE c} {t u : XT c} {a b : XS c} {F : Fl} {xs : XA c} {ds : List D}
theorem q_nx {r : R Fl} (h : a.ev s Δ = .ok (.nx Δ1) s1) (h2 : b.ev s1 Δ1 = r) : (XS.seq a b).ev s Δ = r := by rw [ev_seq, h]; exact h2
theorem q_rt (h : a.ev s Δ = .ok (.rt d) s1) : (XS.seq a b).ev s Δ = .ok (.rt d) s1 := by rw [ev_seq, h]; rfl
theorem q_er {k : Str} {p : Option (List Str × List D)} (h : a.ev s Δ = .er k p s1) : (XS.seq a b).ev s Δ = .er k p s1 := by rw [ev_seq, h]; rfl
theorem q_if {r : R Fl} {v : Bool} (h : t.ev s (view fv Δ) = .ok v s1) (h2 : (if v then a.ev s1 Δ else b.ev s1 Δ) = r) : (XS.ite fv t a b).ev s Δ = r := by rw [ev_if, h]; exact h2
theorem q_ift {r : R Fl} (h : t.ev s (view fv Δ) = .ok true s1) (h2 : a.ev s1 Δ = r) : (XS.ite fv t a b).ev s Δ = r := q_if h h2
theorem q_iff {r : R Fl} (h : t.ev s (view fv Δ) = .ok false s1) (h2 : b.ev s1 Δ = r) : (XS.ite fv t a b).ev s Δ = r := q_if h (by simpa using h2)
theorem q_skip (h : t.ev s (view fv Δ) = .ok false s1) : (XS.ite fv t a .pass).ev s Δ = .ok (.nx Δ) s1 := q_iff h rfl
theorem q_asg {g : XG c} {bs : List D} (h : x.ev s (view fv Δ) = .ok d s1) (hg : g.ev d = some bs) (hi : inEnv Δ g.sl = true) : (XS.asg fv x g).ev s Δ = .ok (.nx (setD (aft fv d Δ) g.sl bs)) s1 := by
  rw [ev_asg, h]
  show (match g.ev d with | some bs => if inEnv Δ g.sl = true then R.ok (Fl.nx (setD (aft fv d Δ) g.sl bs)) s1 else .bad | none => .bad) = _
  rw [hg]
  dsimp only
  rw [if_pos hi]
theorem q_ret (h : x.ev s (view fv Δ) = .ok d s1) : (XS.ret fv x).ev s Δ = .ok (.rt d) s1 := by rw [ev_ret, h]; rfl
theorem q_retE {k : Str} {p : Option (List Str × List D)} (h : x.ev s (view fv Δ) = .er k p s1) : (XS.ret fv x).ev s Δ = .er k p s1 := by rw [ev_ret, h]; rfl
theorem q_asgE {g : XG c} {k : Str} {p : Option (List Str × List D)} (h : x.ev s (view fv Δ) = .er k p s1) : (XS.asg fv x g).ev s Δ = .er k p s1 := by rw [ev_asg, h]; rfl
theorem q_orT (h : t.ev s Δ = .ok true s1) : (XT.or t u).ev s Δ = .ok true s1 := by rw [ev_orT, h]; rfl
theorem q_orF {r : R Bool} (h : t.ev s Δ = .ok false s1) (h2 : u.ev s1 Δ = r) : (XT.or t u).ev s Δ = r := by rw [ev_orT, h]; exact h2
theorem q_andF (h : t.ev s Δ = .ok false s1) : (XT.and t u).ev s Δ = .ok false s1 := by rw [ev_andT, h]; rfl
theorem q_andT {r : R Bool} (h : t.ev s Δ = .ok true s1) (h2 : u.ev s1 Δ = r) : (XT.and t u).ev s Δ = r := by rw [ev_andT, h]; exact h2
theorem q_not {v : Bool} (h : t.ev s Δ = .ok v s1) : (XT.not t).ev s Δ = .ok (!v) s1 := by rw [ev_notT, h]; rfl
theorem q_tru {v : Bool} (h : x.ev s Δ = .ok d s1) (hd : dT d = some v) : (XT.tru x).ev s Δ = .ok v s1 := by rw [ev_tru, h, bind_ok, hd]; rfl
theorem q_test {v : Bool} (h : x.ev s Δ = .ok (.bl v) s1) : (XT.test x).ev s Δ = .ok v s1 := by rw [ev_test, h]; rfl
theorem q_call {G : Fn} {r : R D} (h : xs.ev s Δ = .ok ds s1) (h2 : G s1 (frzL ds) = r) : (XE.call G xs).ev s Δ = r := by rw [ev_call, h]; exact h2
theorem q_op {r : R2} {g : D → D → Option D} {hr} {z : D} {s2 : Strm} (h : x.ev s Δ = .ok d s1) (h2 : y.ev s1 Δ = .ok e s2) (h3 : g d e = some z) : (XE.op r g hr x y).ev s Δ = .ok z s2 := by rw [ev_op, h, bind_ok, h2, bind_ok, h3]; rfl
theorem q_app {r : List V → Hp → VK → Prop} {g : List D → Option D} {hr} {z : D} (h : xs.ev s Δ = .ok ds s1) (h3 : g ds = some z) : (XE.app r g hr xs).ev s Δ = .ok z s1 := by rw [ev_app, h, bind_ok, h3]; rfl
theorem q_cons {s2 : Strm} (h : x.ev s Δ = .ok d s1) (h2 : xs.ev s1 Δ = .ok ds s2) : (XA.cons x xs).ev s Δ = .ok (d :: ds) s2 := by rw [ev_consA, h, bind_ok, h2]; rfl
theorem q_tup (h : xs.ev s Δ = .ok ds s1) (hl : ds.length ≤ lim) : (XE.tup xs).ev s Δ = .ok (.tup true ds) s1 := by rw [ev_tup, h, bind_ok, if_pos hl]
theorem q_lst (h : xs.ev s Δ = .ok ds s1) (hl : ds.length ≤ lim) : (XE.lst xs).ev s Δ = .ok (.lst true ds) s1 := by rw [ev_lst, h, bind_ok, if_pos hl]
theorem q_nil : (XA.nil (c := c)).ev s Δ = .ok [] s := rfl
theorem q_run {np n : Nat} (hl : ds.length = np) (h : a.ev s (startE n ds) = .ok (.rt d) s1) : runF np n a s ds = .ok d s1 := by unfold runF; rw [if_pos hl, h]
theorem q_runE {np n : Nat} {k : Str} {p : Option (List Str × List D)} (hl : ds.length = np) (h : a.ev s (startE n ds) = .er k p s1) : runF np n a s ds = .er k p s1 := by unfold runF; rw [if_pos hl, h]
theorem q_comp {it : XI c} {g : XG c} {vs : List Nat} {hv} {sh : Bool} {ws all : List D} {s2 : Strm} (h : it.ev s Δ = .ok (sh, ws) s1) (hl : ws.length ≤ lim) (h2 : cmpE g t x (wipeE Δ vs) ws s1 = .ok all s2) : (XE.comp it g t x vs hv).ev s Δ = .ok (.lst true all) s2 := by
  show (it.ev s Δ).bind _ = _
  rw [h, bind_ok]
  dsimp only
  rw [if_pos hl, h2]
theorem q_for {it : XI c} {g : XG c} {sh : Bool} {ws : List D} {r : R Fl} (h : it.ev s (view fv Δ) = .ok (sh, ws) s1) (h2 : forE g b ws s1 (if sh then frzAt fv Δ else Δ) = r) : (XS.for fv it g b).ev s Δ = r := by
  show (it.ev s (view fv Δ)).bind _ = _
  rw [h]
  exact h2
/-! ### loops on data -/
theorem forE_inv {g : XG c} {b : XS c} (I : Nat → Strm → Env → Prop) : ∀ {ds : List D} {n : Nat} {s : Strm} {Δ : Env},
    (∀ i d, ds[i]? = some d → ∀ s Δ, I (n + i) s Δ → ∃ bs, g.ev (frz d) = some bs ∧ inEnv Δ g.sl = true ∧ ∃ s' Δ', (b.ev s (setD Δ g.sl bs) = .ok (.nx Δ') s' ∨ b.ev s (setD Δ g.sl bs) = .ok (.ct Δ') s') ∧ I (n + (i + 1)) s' Δ') →
    I n s Δ → ∃ s' Δ', forE g b ds s Δ = .ok (.nx Δ') s' ∧ I (n + ds.length) s' Δ'
  | [], n, s, Δ, _, h => ⟨s, Δ, rfl, h⟩
  | d :: ds, n, s, Δ, step, h => by
    obtain ⟨bs, h1, h2, s', Δ', h3, h4⟩ := step 0 d rfl s Δ h
    obtain ⟨s2, Δ2, h5, h6⟩ := forE_inv (ds := ds) (n := n + 1) I (s := s') (Δ := Δ') (fun i d hd s Δ hi => by
      have := step (i + 1) d hd s Δ (by rw [show n + (i + 1) = n + 1 + i by omega]; exact hi)
      rw [show n + (i + 1 + 1) = n + 1 + (i + 1) by omega] at this
      exact this) h4
    refine ⟨s2, Δ2, ?_, by rw [List.length_cons, show n + (ds.length + 1) = n + 1 + ds.length by omega]; exact h6⟩
    unfold forE
    rw [h1]
    dsimp only
    rw [if_pos h2]
    rcases h3 with h3 | h3 <;> rw [h3] <;> exact h5
theorem cmpE_inv {g : XG c} {t : XT c} {e : XE c} {Δ : Env} (I : Nat → Strm → Prop) (J : Nat → D → D → Prop) : ∀ {ds : List D} {n : Nat} {s : Strm},
    (∀ i d, ds[i]? = some d → ∀ s, I (n + i) s → ∃ bs, g.ev (frz d) = some bs ∧ ∃ s1, t.ev s (setD Δ g.sl bs) = .ok true s1 ∧ ∃ x s2, e.ev s1 (setD Δ g.sl bs) = .ok x s2 ∧ I (n + (i + 1)) s2 ∧ J (n + i) d x) →
    I n s → ∃ xs s', cmpE g t e Δ ds s = .ok xs s' ∧ I (n + ds.length) s' ∧ xs.length = ds.length ∧ ∀ i d x, ds[i]? = some d → xs[i]? = some x → J (n + i) d x
  | [], n, s, _, h => ⟨[], s, rfl, h, rfl, fun i d x h _ => by simp at h⟩
  | d :: ds, n, s, step, h => by
    obtain ⟨bs, h1, s1, h2, x, s2, h3, h4, h5⟩ := step 0 d rfl s h
    obtain ⟨xs, s3, h6, h7, h8, h9⟩ := cmpE_inv (ds := ds) (n := n + 1) I J (s := s2) (fun i d hd s hi => by
      have := step (i + 1) d hd s (by rw [show n + (i + 1) = n + 1 + i by omega]; exact hi)
      rw [show n + (i + 1 + 1) = n + 1 + (i + 1) by omega, show n + (i + 1) = n + 1 + i by omega] at this
      exact this) h4
    refine ⟨x :: xs, s3, ?_, by rw [List.length_cons, show n + (ds.length + 1) = n + 1 + ds.length by omega]; exact h7, by simp [h8], fun i d' x' hd hx => ?_⟩
    · unfold cmpE
      rw [h1]
      dsimp only
      rw [h2]
      dsimp only
      rw [h3]
      dsimp only
      rw [h6]
    · cases i with
      | zero => simp at hd hx; subst hd hx; exact h5
      | succ i =>
        have := h9 i d' x' (by simpa using hd) (by simpa using hx)
        rw [show n + (i + 1) = n + 1 + i by omega]
        exact this
/-- a comprehension whose parts leave the stream alone -/
theorem cmpE_map {g : XG c} {t : XT c} {e : XE c} {Δ : Env} (f : D → D) : ∀ {ds : List D}, (∀ d ∈ ds, ∃ bs, g.ev (frz d) = some bs ∧ t.ev s (setD Δ g.sl bs) = .ok true s ∧ e.ev s (setD Δ g.sl bs) = .ok (f d) s) → cmpE g t e Δ ds s = .ok (ds.map f) s
  | [], _ => rfl
  | d :: ds, h => by
    obtain ⟨bs, h1, h2, h3⟩ := h d List.mem_cons_self
    unfold cmpE
    rw [h1]
    dsimp only
    rw [h2]
    dsimp only
    rw [h3]
    dsimp only
    rw [cmpE_map f fun d m => h d (List.mem_cons_of_mem _ m)]
    rfl
/-! ### rules on numbers -/
theorem gEq_int {i j : Int} : gEq (.int i) (.int j) = some (.bl (decide (i = j))) := by
  show some (D.bl (PyData.eqv (.int i) (.int j))) = _
  rw [show PyData.eqv (.int i) (.int j) = decide (i = j) from by simp only [PyData.eqv]; rfl]
theorem gNe_int {i j : Int} : gNe (.int i) (.int j) = some (.bl (!decide (i = j))) := by
  show some (D.bl (!PyData.eqv (.int i) (.int j))) = _
  rw [show PyData.eqv (.int i) (.int j) = decide (i = j) from by simp only [PyData.eqv]; rfl]
theorem gAll_true {o : Bool} {ds : List D} (h : ∀ d ∈ ds, d = .bl true) : gAll [.lst o ds] = some (.bl true) := by
  have : blsD ds = some (ds.map fun _ => true) := by
    induction ds with
    | nil => rfl
    | cons d r ih =>
      rw [h d List.mem_cons_self]
      unfold blsD
      rw [ih fun d m => h d (List.mem_cons_of_mem _ m)]
      rfl
  show (blsD ds).map (fun bs => D.bl (bs.all id)) = _
  rw [this]
  simp
/-- the nuD -/
abbrev nuD (l : List Int) : List D := l.map .int
theorem frzL_nuD {l : List Int} : frzL (nuD l) = nuD l := by
  induction l with
  | nil => rfl
  | cons a r ih => simp only [nuD, List.map_cons, frzL, frz] at ih ⊢; rw [ih]
theorem gIx_nuD {o : Bool} {l : List Int} {i : Nat} {v : Int} (h : l[i]? = some v) : gIx (.lst o (nuD l)) (.int i) = some (.int v) := by
  show atI (nuD l) (i : Int) = _
  have hi : i < l.length := (List.getElem?_eq_some_iff.mp h).1
  unfold atI ixN
  rw [if_pos (by omega), if_pos (by simpa using hi)]
  simp [h]
theorem viewF_at {fv : List Nat} : ∀ {Δ : Env} {n i : Nat} {d : D}, fv.contains (n + i) = true → Δ[i]? = some (some d) → (viewF fv n Δ)[i]? = some (some (frz d))
  | o :: r, n, 0, d, h, e => by
    simp only [List.getElem?_cons_zero, Option.some.injEq] at e
    subst e
    simp only [viewF, List.getElem?_cons_zero]
    rw [if_pos (by simpa using h)]
    rfl
  | o :: r, n, i + 1, d, h, e => by
    simp only [viewF, List.getElem?_cons_succ] at e ⊢
    exact viewF_at (by rw [show n + 1 + i = n + (i + 1) by omega]; exact h) e
/-- a variable, seen from an expression -/
theorem ev_vv {fv : List Nat} {i : Nat} {d d' : D} (h : fv.contains i = true) (h1 : Δ[i]? = some (some d)) (h2 : frz d = d') : (XE.var (c := c) i).ev s (view fv Δ) = .ok d' s := by
  refine ev_var ?_
  rw [← h2]
  exact viewF_at (by rw [Nat.zero_add]; exact h) h1
theorem frz_nuD {o : Bool} {l : List Int} : frz (.lst o (nuD l)) = .lst false (nuD l) := by rw [frz, frzL_nuD]
/-- a list or a tuple of given things -/
def sq : Bool → List D → D
  | true, ds => .tup false ds
  | false, ds => .lst false ds
theorem frz_sq {t : Bool} {ds : List D} (h : frzL ds = ds) : frz (sq t ds) = sq t ds := by cases t <;> simp [sq, frz, h]
theorem gLen_sq {t : Bool} {ds : List D} : gLen [sq t ds] = some (.int ds.length) := by cases t <;> rfl
theorem gIx_sq {t : Bool} {l : List Int} {i : Nat} {v : Int} (h : l[i]? = some v) : gIx (sq t (nuD l)) (.int i) = some (.int v) := by
  cases t
  · exact gIx_nuD h
  · exact gIx_nuD (o := false) h
theorem gList_sq {t : Bool} {ds : List D} (h : frzL ds = ds) : gList [sq t ds] = some (.lst true ds) := by
  cases t <;> rfl
theorem itD_sq {t : Bool} {ds : List D} (h : frzL ds = ds) : itD (sq t ds) = some (true, ds) := by
  cases t
  · show some (true, frzL ds) = _
    rw [h]
  · show some (true, frzL ds) = _
    rw [h]
theorem seqE_ok {x : XE c} {t : Bool} {ds : List D} (hx : x.ev s Δ = .ok (sq t ds) s1) (h : frzL ds = ds) : (XI.seq x).ev s Δ = .ok (true, ds) s1 := by
  show (x.ev s Δ).bind _ = _
  rw [hx, bind_ok, itD_sq h]
  rfl
theorem q_chn {r r' : R2} {g g' : D → D → Option D} {hr} {hr'} {x y z : XE c} {i j : Int} {d3 w : D} {s2 s3 : Strm} (h1 : x.ev s Δ = .ok (.int i) s1) (h2 : y.ev s1 Δ = .ok (.int j) s2) (h3 : g (.int i) (.int j) = some (.bl true)) (h4 : z.ev s2 Δ = .ok d3 s3) (h5 : g' (.int j) d3 = some w) : (XE.chn r g hr r' g' hr' x y z).ev s Δ = .ok w s3 := by
  show (x.ev s Δ).bind _ = _
  rw [h1, bind_ok, h2, bind_ok]
  show (optR s2 ((g (.int i) (.int j)).bind dB)).bind _ = _
  rw [h3]
  show (z.ev s2 Δ).bind _ = _
  rw [h4, bind_ok, h5]
  rfl
theorem q_chnF {r r' : R2} {g g' : D → D → Option D} {hr} {hr'} {x y z : XE c} {i j : Int} {s2 : Strm} (h1 : x.ev s Δ = .ok (.int i) s1) (h2 : y.ev s1 Δ = .ok (.int j) s2) (h3 : g (.int i) (.int j) = some (.bl false)) : (XE.chn r g hr r' g' hr' x y z).ev s Δ = .ok (.bl false) s2 := by
  show (x.ev s Δ).bind _ = _
  rw [h1, bind_ok, h2, bind_ok]
  show (optR s2 ((g (.int i) (.int j)).bind dB)).bind _ = _
  rw [h3]
  rfl
theorem q_andV {x y : XE c} {r : R D} (h1 : x.ev s Δ = .ok (.bl true) s1) (h2 : y.ev s1 Δ = r) : (XE.and x y).ev s Δ = r := by rw [ev_and, h1]; exact h2
theorem q_andVF {x y : XE c} (h1 : x.ev s Δ = .ok (.bl false) s1) : (XE.and x y).ev s Δ = .ok (.bl false) s1 := by rw [ev_and, h1]; rfl
theorem q_orV {x y : XE c} {r : R D} (h1 : x.ev s Δ = .ok (.bl false) s1) (h2 : y.ev s1 Δ = r) : (XE.or x y).ev s Δ = r := by rw [ev_or, h1]; exact h2
theorem q_notV {x : XE c} {v : Bool} (h1 : x.ev s Δ = .ok (.bl v) s1) : (XE.not x).ev s Δ = .ok (.bl (!v)) s1 := by rw [ev_not, h1]; rfl
theorem gLe_ok {i j : Int} {v : Bool} (h : decide (i ≤ j) = v) : gLe (.int i) (.int j) = some (.bl v) := by rw [← h]; rfl
theorem gLt_ok {i j : Int} {v : Bool} (h : decide (i < j) = v) : gLt (.int i) (.int j) = some (.bl v) := by rw [← h]; rfl
end
end Ly

end
section
set_option Elab.async false
set_option linter.all false
set_option maxRecDepth 100000
set_option maxHeartbeats 4000000
namespace Ly
open PySem L2
section
variable {c : Cf} {s s1 : Strm} {Δ Δ1 : Env} {fv : List Nat} {α β : Type}
theorem hvb {l vs : List Nat} (h : (l.all fun i => vs.contains i) = true) : (l.all fun i => vs.contains i) = true := h
/-! ### evaluation by simp -/
@[simp] theorem zo_some {a : α} : optR s (some a) = .ok a s := rfl
@[simp] theorem zo_none : optR (α := α) s none = .bad := rfl
def lookR (s : Strm) : Option (Option D) → R D
  | some (some d) => .ok d s
  | _ => .bad
@[simp] theorem zl_ok {d : D} : lookR s (some (some d)) = .ok d s := rfl
@[simp] theorem zl_no : lookR s (some none) = .bad := rfl
@[simp] theorem zl_no2 : lookR s none = .bad := rfl
variable {x y z : XE c} {t u : XT c} {xs : XA c} {a b : XS c} {g : XG c} {i j k n m : Nat} {d e : D} {ds es : List D}
@[simp ↓] theorem ze_var : (XE.var (c := c) i).ev s Δ = lookR s Δ[i]? := by
  show (match Δ[i]? with | some (some d) => R.ok d s | _ => .bad) = _
  rcases Δ[i]? with _ | _ | _ <;> rfl
@[simp ↓] theorem ze_con {v : V} {hr} : (XE.con (c := c) v d hr).ev s Δ = .ok d s := rfl
def optK (g : D → Option D) : R D → R D
  | .ok v s => optR s (g v)
  | .er k p s => .er k p s
  | .bad => .bad
@[simp] theorem optK_ok (g : D → Option D) {v : D} : optK g (.ok v s) = optR s (g v) := rfl
@[simp] theorem optK_er (g : D → Option D) {k : Str} {p : Option (List Str × List D)} : optK g (.er k p s) = .er k p s := rfl
@[simp] theorem optK_bad (g : D → Option D) : optK g .bad = .bad := rfl
def op2K (g : D → D → Option D) (d : D) : R D → R D
  | .ok v s => optR s (g d v)
  | .er k p s => .er k p s
  | .bad => .bad
@[simp] theorem op2K_ok (g : D → D → Option D) (d : D) {v : D} : op2K g d (.ok v s) = optR s (g d v) := rfl
@[simp] theorem op2K_er (g : D → D → Option D) (d : D) {k : Str} {p : Option (List Str × List D)} : op2K g d (.er k p s) = .er k p s := rfl
@[simp] theorem op2K_bad (g : D → D → Option D) (d : D) : op2K g d .bad = .bad := rfl
def opK (g : D → D → Option D) (y : XE c) (Δ : Env) : R D → R D
  | .ok v s => op2K g v (y.ev s Δ)
  | .er k p s => .er k p s
  | .bad => .bad
@[simp] theorem opK_ok (g : D → D → Option D) (y : XE c) (Δ : Env) {v : D} : opK g y Δ (.ok v s) = op2K g v (y.ev s Δ) := rfl
@[simp] theorem opK_er (g : D → D → Option D) (y : XE c) (Δ : Env) {k : Str} {p : Option (List Str × List D)} : opK g y Δ (.er k p s) = .er k p s := rfl
@[simp] theorem opK_bad (g : D → D → Option D) (y : XE c) (Δ : Env) : opK g y Δ .bad = .bad := rfl
@[simp ↓] theorem ze_op {r : R2} {g : D → D → Option D} {hr} : (XE.op r g hr x y).ev s Δ = opK g y Δ (x.ev s Δ) := by
  show R.bind (x.ev s Δ) _ = _
  rcases x.ev s Δ with ⟨d, s1⟩ | _ | _ <;> try rfl
  show R.bind (y.ev s1 Δ) _ = op2K g d (y.ev s1 Δ)
  rcases y.ev s1 Δ with _ | _ | _ <;> rfl
@[simp ↓] theorem ze_un {r : V → Hp → VK → Prop} {g : D → Option D} {hr} : (XE.un r g hr x).ev s Δ = optK g (x.ev s Δ) := by
  show R.bind _ _ = _
  rcases x.ev s Δ with _ | _ | _ <;> rfl
def appK (g : List D → Option D) : R (List D) → R D
  | .ok v s => optR s (g v)
  | .er k p s => .er k p s
  | .bad => .bad
@[simp] theorem appK_ok (g : List D → Option D) {v : (List D)} : appK g (.ok v s) = optR s (g v) := rfl
@[simp] theorem appK_er (g : List D → Option D) {k : Str} {p : Option (List Str × List D)} : appK g (.er k p s) = .er k p s := rfl
@[simp] theorem appK_bad (g : List D → Option D) : appK g .bad = .bad := rfl
@[simp ↓] theorem ze_app {r : List V → Hp → VK → Prop} {g : List D → Option D} {hr} : (XE.app r g hr xs).ev s Δ = appK g (xs.ev s Δ) := by
  show R.bind _ _ = _
  rcases xs.ev s Δ with _ | _ | _ <;> rfl
def callK (F : Fn) : R (List D) → R D
  | .ok v s => F s (frzL v)
  | .er k p s => .er k p s
  | .bad => .bad
@[simp] theorem callK_ok (F : Fn) {v : (List D)} : callK F (.ok v s) = F s (frzL v) := rfl
@[simp] theorem callK_er (F : Fn) {k : Str} {p : Option (List Str × List D)} : callK F (.er k p s) = .er k p s := rfl
@[simp] theorem callK_bad (F : Fn) : callK F .bad = .bad := rfl
@[simp ↓] theorem ze_call {F : Fn} : (XE.call F xs).ev s Δ = callK F (xs.ev s Δ) := by
  show R.bind _ _ = _
  rcases xs.ev s Δ with _ | _ | _ <;> rfl
@[simp ↓] theorem za_nil : (XA.nil (c := c)).ev s Δ = .ok [] s := rfl
def cons2K (d : D) : R (List D) → R (List D)
  | .ok v s => .ok (d :: v) s
  | .er k p s => .er k p s
  | .bad => .bad
@[simp] theorem cons2K_ok (d : D) {v : (List D)} : cons2K d (.ok v s) = .ok (d :: v) s := rfl
@[simp] theorem cons2K_er (d : D) {k : Str} {p : Option (List Str × List D)} : cons2K d (.er k p s) = .er k p s := rfl
@[simp] theorem cons2K_bad (d : D) : cons2K d .bad = .bad := rfl
def consK (xs : XA c) (Δ : Env) : R D → R (List D)
  | .ok v s => cons2K v (xs.ev s Δ)
  | .er k p s => .er k p s
  | .bad => .bad
@[simp] theorem consK_ok (xs : XA c) (Δ : Env) {v : D} : consK xs Δ (.ok v s) = cons2K v (xs.ev s Δ) := rfl
@[simp] theorem consK_er (xs : XA c) (Δ : Env) {k : Str} {p : Option (List Str × List D)} : consK xs Δ (.er k p s) = .er k p s := rfl
@[simp] theorem consK_bad (xs : XA c) (Δ : Env) : consK xs Δ .bad = .bad := rfl
@[simp ↓] theorem za_cons : (XA.cons x xs).ev s Δ = consK xs Δ (x.ev s Δ) := by
  show R.bind (x.ev s Δ) _ = _
  rcases x.ev s Δ with ⟨d, s1⟩ | _ | _ <;> try rfl
  show R.bind (xs.ev s1 Δ) _ = cons2K d (xs.ev s1 Δ)
  rcases xs.ev s1 Δ with _ | _ | _ <;> rfl
def lstK  : R (List D) → R D
  | .ok v s => if v.length ≤ lim then .ok (.lst true v) s else .bad
  | .er k p s => .er k p s
  | .bad => .bad
@[simp] theorem lstK_ok  {v : (List D)} : lstK  (.ok v s) = if v.length ≤ lim then .ok (.lst true v) s else .bad := rfl
@[simp] theorem lstK_er  {k : Str} {p : Option (List Str × List D)} : lstK  (.er k p s) = .er k p s := rfl
@[simp] theorem lstK_bad  : lstK  .bad = .bad := rfl
def tupK  : R (List D) → R D
  | .ok v s => if v.length ≤ lim then .ok (.tup true v) s else .bad
  | .er k p s => .er k p s
  | .bad => .bad
@[simp] theorem tupK_ok  {v : (List D)} : tupK  (.ok v s) = if v.length ≤ lim then .ok (.tup true v) s else .bad := rfl
@[simp] theorem tupK_er  {k : Str} {p : Option (List Str × List D)} : tupK  (.er k p s) = .er k p s := rfl
@[simp] theorem tupK_bad  : tupK  .bad = .bad := rfl
@[simp ↓] theorem ze_lst : (XE.lst xs).ev s Δ = lstK (xs.ev s Δ) := by
  show R.bind _ _ = _
  rcases xs.ev s Δ with _ | _ | _ <;> rfl
@[simp ↓] theorem ze_tup : (XE.tup xs).ev s Δ = tupK (xs.ev s Δ) := by
  show R.bind _ _ = _
  rcases xs.ev s Δ with _ | _ | _ <;> rfl
def iteK (x : XE c) (y : XE c) (Δ : Env) : R Bool → R D
  | .ok true s => x.ev s Δ
  | .ok false s => y.ev s Δ
  | .er k p s => .er k p s
  | .bad => .bad
@[simp] theorem iteK_t (x : XE c) (y : XE c) (Δ : Env) : iteK x y Δ (.ok true s) = x.ev s Δ := rfl
@[simp] theorem iteK_f (x : XE c) (y : XE c) (Δ : Env) : iteK x y Δ (.ok false s) = y.ev s Δ := rfl
@[simp] theorem iteK_er (x : XE c) (y : XE c) (Δ : Env) {k : Str} {p : Option (List Str × List D)} : iteK x y Δ (.er k p s) = .er k p s := rfl
@[simp] theorem iteK_bad (x : XE c) (y : XE c) (Δ : Env) : iteK x y Δ .bad = .bad := rfl
@[simp ↓] theorem ze_ite : (XE.ite t x y).ev s Δ = iteK x y Δ (t.ev s Δ) := by
  show R.bind (t.ev s Δ) _ = _
  rcases t.ev s Δ with ⟨b, s1⟩ | _ | _ <;> try rfl
  cases b <;> rfl
def blK  : R D → R Bool
  | .ok v s => optR s (dB v)
  | .er k p s => .er k p s
  | .bad => .bad
@[simp] theorem blK_ok  {v : D} : blK  (.ok v s) = optR s (dB v) := rfl
@[simp] theorem blK_er  {k : Str} {p : Option (List Str × List D)} : blK  (.er k p s) = .er k p s := rfl
@[simp] theorem blK_bad  : blK  .bad = .bad := rfl
def andK (y : XE c) (Δ : Env) : R Bool → R D
  | .ok true s => y.ev s Δ
  | .ok false s => .ok (.bl false) s
  | .er k p s => .er k p s
  | .bad => .bad
@[simp] theorem andK_t (y : XE c) (Δ : Env) : andK y Δ (.ok true s) = y.ev s Δ := rfl
@[simp] theorem andK_f (y : XE c) (Δ : Env) : andK y Δ (.ok false s) = .ok (.bl false) s := rfl
@[simp] theorem andK_er (y : XE c) (Δ : Env) {k : Str} {p : Option (List Str × List D)} : andK y Δ (.er k p s) = .er k p s := rfl
@[simp] theorem andK_bad (y : XE c) (Δ : Env) : andK y Δ .bad = .bad := rfl
def orK (y : XE c) (Δ : Env) : R Bool → R D
  | .ok true s => .ok (.bl true) s
  | .ok false s => y.ev s Δ
  | .er k p s => .er k p s
  | .bad => .bad
@[simp] theorem orK_t (y : XE c) (Δ : Env) : orK y Δ (.ok true s) = .ok (.bl true) s := rfl
@[simp] theorem orK_f (y : XE c) (Δ : Env) : orK y Δ (.ok false s) = y.ev s Δ := rfl
@[simp] theorem orK_er (y : XE c) (Δ : Env) {k : Str} {p : Option (List Str × List D)} : orK y Δ (.er k p s) = .er k p s := rfl
@[simp] theorem orK_bad (y : XE c) (Δ : Env) : orK y Δ .bad = .bad := rfl
@[simp ↓] theorem ze_and : (XE.and x y).ev s Δ = andK y Δ (blK (x.ev s Δ)) := by
  show R.bind (x.ev s Δ) _ = _
  rcases x.ev s Δ with ⟨d, s1⟩ | _ | _ <;> try rfl
  cases d <;> try rfl
  rename_i b
  cases b <;> rfl
@[simp ↓] theorem ze_or : (XE.or x y).ev s Δ = orK y Δ (blK (x.ev s Δ)) := by
  show R.bind (x.ev s Δ) _ = _
  rcases x.ev s Δ with ⟨d, s1⟩ | _ | _ <;> try rfl
  cases d <;> try rfl
  rename_i b
  cases b <;> rfl
def ntK : R Bool → R D
  | .ok b s => .ok (.bl (!b)) s
  | .er k p s => .er k p s
  | .bad => .bad
@[simp] theorem ntK_ok {b : Bool} : ntK (.ok b s) = .ok (.bl (!b)) s := rfl
@[simp] theorem ntK_er {k : Str} {p : Option (List Str × List D)} : ntK (.er k p s) = .er k p s := rfl
@[simp] theorem ntK_bad : ntK .bad = .bad := rfl
@[simp ↓] theorem ze_not : (XE.not x).ev s Δ = ntK (blK (x.ev s Δ)) := by
  show R.bind (x.ev s Δ) _ = _
  rcases x.ev s Δ with ⟨d, s1⟩ | _ | _ <;> try rfl
  cases d <;> rfl
def chK3 (g' : D → D → Option D) (d : D) : R D → R D
  | .ok v s => optR s (g' d v)
  | .er k p s => .er k p s
  | .bad => .bad
@[simp] theorem chK3_ok {g' : D → D → Option D} {d v : D} : chK3 g' d (.ok v s) = optR s (g' d v) := rfl
@[simp] theorem chK3_er {g' : D → D → Option D} {d : D} {k : Str} {p : Option (List Str × List D)} : chK3 g' d (.er k p s) = .er k p s := rfl
def chK2 (g' : D → D → Option D) (z : XE c) (Δ : Env) (d : D) : R Bool → R D
  | .ok true s => chK3 g' d (z.ev s Δ)
  | .ok false s => .ok (.bl false) s
  | .er k p s => .er k p s
  | .bad => .bad
@[simp] theorem chK2_t {g' : D → D → Option D} {z : XE c} {Δ : Env} {d : D} : chK2 g' z Δ d (.ok true s) = chK3 g' d (z.ev s Δ) := rfl
@[simp] theorem chK2_f {g' : D → D → Option D} {z : XE c} {Δ : Env} {d : D} : chK2 g' z Δ d (.ok false s) = .ok (.bl false) s := rfl
def chK1 (g g' : D → D → Option D) (z : XE c) (Δ : Env) (d : D) : R D → R D
  | .ok v s => chnR g g' (fun s3 => z.ev s3 Δ) d v s
  | .er k p s => .er k p s
  | .bad => .bad
@[simp] theorem chK1_ok {g g' : D → D → Option D} {z : XE c} {Δ : Env} {i j : Int} : chK1 g g' z Δ (.int i) (.ok (.int j) s) = chK2 g' z Δ (.int j) (blK (optR s (g (.int i) (.int j)))) := by
  show (optR s ((g (.int i) (.int j)).bind dB)).bind _ = _
  cases g (.int i) (.int j) with
  | none => rfl
  | some d =>
    cases d <;> try rfl
    rename_i b
    cases b
    · rfl
    · show (z.ev s Δ).bind _ = chK3 g' (.int j) (z.ev s Δ)
      rcases z.ev s Δ with _ | _ | _ <;> rfl
def chK (g : D → D → Option D) (g' : D → D → Option D) (y : XE c) (z : XE c) (Δ : Env) : R D → R D
  | .ok v s => chK1 g g' z Δ v (y.ev s Δ)
  | .er k p s => .er k p s
  | .bad => .bad
@[simp] theorem chK_ok (g : D → D → Option D) (g' : D → D → Option D) (y : XE c) (z : XE c) (Δ : Env) {v : D} : chK g g' y z Δ (.ok v s) = chK1 g g' z Δ v (y.ev s Δ) := rfl
@[simp] theorem chK_er (g : D → D → Option D) (g' : D → D → Option D) (y : XE c) (z : XE c) (Δ : Env) {k : Str} {p : Option (List Str × List D)} : chK g g' y z Δ (.er k p s) = .er k p s := rfl
@[simp] theorem chK_bad (g : D → D → Option D) (g' : D → D → Option D) (y : XE c) (z : XE c) (Δ : Env) : chK g g' y z Δ .bad = .bad := rfl
@[simp ↓] theorem ze_chn {r r' : R2} {g g' : D → D → Option D} {hr hr'} : (XE.chn r g hr r' g' hr' x y z).ev s Δ = chK g g' y z Δ (x.ev s Δ) := by
  show R.bind (x.ev s Δ) _ = _
  rcases x.ev s Δ with ⟨d, s1⟩ | _ | _ <;> try rfl
  show R.bind (y.ev s1 Δ) _ = chK1 g g' z Δ d (y.ev s1 Δ)
  rcases y.ev s1 Δ with _ | _ | _ <;> rfl
@[simp ↓] theorem zt_test : (XT.test x).ev s Δ = blK (x.ev s Δ) := by
  show R.bind _ _ = _
  rcases x.ev s Δ with _ | _ | _ <;> rfl
@[simp ↓] theorem zt_val : (XT.val x).ev s Δ = blK (x.ev s Δ) := by
  show R.bind _ _ = _
  rcases x.ev s Δ with _ | _ | _ <;> rfl
def trK  : R D → R Bool
  | .ok v s => optR s (dT v)
  | .er k p s => .er k p s
  | .bad => .bad
@[simp] theorem trK_ok  {v : D} : trK  (.ok v s) = optR s (dT v) := rfl
@[simp] theorem trK_er  {k : Str} {p : Option (List Str × List D)} : trK  (.er k p s) = .er k p s := rfl
@[simp] theorem trK_bad  : trK  .bad = .bad := rfl
@[simp ↓] theorem zt_tru : (XT.tru x).ev s Δ = trK (x.ev s Δ) := by
  show R.bind _ _ = _
  rcases x.ev s Δ with _ | _ | _ <;> rfl
def nbK  : R Bool → R Bool
  | .ok v s => .ok (!v) s
  | .er k p s => .er k p s
  | .bad => .bad
@[simp] theorem nbK_ok  {v : Bool} : nbK  (.ok v s) = .ok (!v) s := rfl
@[simp] theorem nbK_er  {k : Str} {p : Option (List Str × List D)} : nbK  (.er k p s) = .er k p s := rfl
@[simp] theorem nbK_bad  : nbK  .bad = .bad := rfl
@[simp ↓] theorem zt_not : (XT.not t).ev s Δ = nbK (t.ev s Δ) := by
  show R.bind _ _ = _
  rcases t.ev s Δ with _ | _ | _ <;> rfl
def anK (u : XT c) (Δ : Env) : R Bool → R Bool
  | .ok true s => u.ev s Δ
  | .ok false s => .ok false s
  | .er k p s => .er k p s
  | .bad => .bad
@[simp] theorem anK_t (u : XT c) (Δ : Env) : anK u Δ (.ok true s) = u.ev s Δ := rfl
@[simp] theorem anK_f (u : XT c) (Δ : Env) : anK u Δ (.ok false s) = .ok false s := rfl
@[simp] theorem anK_er (u : XT c) (Δ : Env) {k : Str} {p : Option (List Str × List D)} : anK u Δ (.er k p s) = .er k p s := rfl
@[simp] theorem anK_bad (u : XT c) (Δ : Env) : anK u Δ .bad = .bad := rfl
def otK (u : XT c) (Δ : Env) : R Bool → R Bool
  | .ok true s => .ok true s
  | .ok false s => u.ev s Δ
  | .er k p s => .er k p s
  | .bad => .bad
@[simp] theorem otK_t (u : XT c) (Δ : Env) : otK u Δ (.ok true s) = .ok true s := rfl
@[simp] theorem otK_f (u : XT c) (Δ : Env) : otK u Δ (.ok false s) = u.ev s Δ := rfl
@[simp] theorem otK_er (u : XT c) (Δ : Env) {k : Str} {p : Option (List Str × List D)} : otK u Δ (.er k p s) = .er k p s := rfl
@[simp] theorem otK_bad (u : XT c) (Δ : Env) : otK u Δ .bad = .bad := rfl
@[simp ↓] theorem zt_and : (XT.and t u).ev s Δ = anK u Δ (t.ev s Δ) := by
  show R.bind (t.ev s Δ) _ = _
  rcases t.ev s Δ with ⟨b, s1⟩ | _ | _ <;> try rfl
  cases b <;> rfl
@[simp ↓] theorem zt_or : (XT.or t u).ev s Δ = otK u Δ (t.ev s Δ) := by
  show R.bind (t.ev s Δ) _ = _
  rcases t.ev s Δ with ⟨b, s1⟩ | _ | _ <;> try rfl
  cases b <;> rfl
@[simp ↓] theorem zt_yes : (XT.yes (c := c)).ev s Δ = .ok true s := rfl
/-- slices -/
def slK3 (d : D) (l : Option Int) : R (Option Int) → R D
  | .ok v s => optR s (gSl d l v)
  | .er k p s => .er k p s
  | .bad => .bad
@[simp] theorem slK3_ok (d : D) (l : Option Int) {v : (Option Int)} : slK3 d l (.ok v s) = optR s (gSl d l v) := rfl
@[simp] theorem slK3_er (d : D) (l : Option Int) {k : Str} {p : Option (List Str × List D)} : slK3 d l (.er k p s) = .er k p s := rfl
@[simp] theorem slK3_bad (d : D) (l : Option Int) : slK3 d l .bad = .bad := rfl
def slK2 (hi : XO c) (Δ : Env) (d : D) : R (Option Int) → R D
  | .ok v s => slK3 d v (hi.ev s Δ)
  | .er k p s => .er k p s
  | .bad => .bad
@[simp] theorem slK2_ok (hi : XO c) (Δ : Env) (d : D) {v : (Option Int)} : slK2 hi Δ d (.ok v s) = slK3 d v (hi.ev s Δ) := rfl
@[simp] theorem slK2_er (hi : XO c) (Δ : Env) (d : D) {k : Str} {p : Option (List Str × List D)} : slK2 hi Δ d (.er k p s) = .er k p s := rfl
@[simp] theorem slK2_bad (hi : XO c) (Δ : Env) (d : D) : slK2 hi Δ d .bad = .bad := rfl
def slK (lo : XO c) (hi : XO c) (Δ : Env) : R D → R D
  | .ok v s => slK2 hi Δ v (lo.ev s Δ)
  | .er k p s => .er k p s
  | .bad => .bad
@[simp] theorem slK_ok (lo : XO c) (hi : XO c) (Δ : Env) {v : D} : slK lo hi Δ (.ok v s) = slK2 hi Δ v (lo.ev s Δ) := rfl
@[simp] theorem slK_er (lo : XO c) (hi : XO c) (Δ : Env) {k : Str} {p : Option (List Str × List D)} : slK lo hi Δ (.er k p s) = .er k p s := rfl
@[simp] theorem slK_bad (lo : XO c) (hi : XO c) (Δ : Env) : slK lo hi Δ .bad = .bad := rfl
@[simp ↓] theorem ze_sl {lo hi : XO c} : (XE.sl x lo hi).ev s Δ = slK lo hi Δ (x.ev s Δ) := by
  show R.bind (x.ev s Δ) _ = _
  rcases x.ev s Δ with ⟨d, s1⟩ | _ | _ <;> try rfl
  show R.bind (lo.ev s1 Δ) _ = slK2 hi Δ d (lo.ev s1 Δ)
  rcases lo.ev s1 Δ with ⟨l, s2⟩ | _ | _ <;> try rfl
  show R.bind (hi.ev s2 Δ) _ = slK3 d l (hi.ev s2 Δ)
  rcases hi.ev s2 Δ with _ | _ | _ <;> rfl
@[simp ↓] theorem zo_non : (XO.none (c := c)).ev s Δ = .ok Option.none s := rfl
def somK2  : R Int → R (Option Int)
  | .ok v s => .ok (Option.some v) s
  | .er k p s => .er k p s
  | .bad => .bad
@[simp] theorem somK2_ok  {v : Int} : somK2  (.ok v s) = .ok (Option.some v) s := rfl
@[simp] theorem somK2_er  {k : Str} {p : Option (List Str × List D)} : somK2  (.er k p s) = .er k p s := rfl
@[simp] theorem somK2_bad  : somK2  .bad = .bad := rfl
def somK  : R D → R (Option Int)
  | .ok v s => somK2 (optR s (dI v))
  | .er k p s => .er k p s
  | .bad => .bad
@[simp] theorem somK_ok  {v : D} : somK  (.ok v s) = somK2 (optR s (dI v)) := rfl
@[simp] theorem somK_er  {k : Str} {p : Option (List Str × List D)} : somK  (.er k p s) = .er k p s := rfl
@[simp] theorem somK_bad  : somK  .bad = .bad := rfl
@[simp ↓] theorem zo_som : (XO.some x).ev s Δ = somK (x.ev s Δ) := by
  show R.bind (x.ev s Δ) _ = _
  rcases x.ev s Δ with ⟨d, s1⟩ | _ | _ <;> try rfl
  cases d <;> rfl
/-- loops and comprehensions -/
def cmpR (g : XG c) (t : XT c) (e : XE c) (Δ : Env) (ds : List D) (s : Strm) : R D := if ds.length ≤ lim then match cmpE g t e Δ ds s with
    | .ok ds s2 => .ok (.lst true ds) s2
    | _ => .bad else .bad
def cmpK (g : XG c) (t : XT c) (e : XE c) (Δ : Env) : R (Bool × List D) → R D
  | .ok v s => cmpR g t e Δ v.2 s
  | .er k p s => .er k p s
  | .bad => .bad
@[simp] theorem cmpK_ok (g : XG c) (t : XT c) (e : XE c) (Δ : Env) {v : (Bool × List D)} : cmpK g t e Δ (.ok v s) = cmpR g t e Δ v.2 s := rfl
@[simp] theorem cmpK_er (g : XG c) (t : XT c) (e : XE c) (Δ : Env) {k : Str} {p : Option (List Str × List D)} : cmpK g t e Δ (.er k p s) = .er k p s := rfl
@[simp] theorem cmpK_bad (g : XG c) (t : XT c) (e : XE c) (Δ : Env) : cmpK g t e Δ .bad = .bad := rfl
@[simp ↓] theorem ze_comp {it : XI c} {vs : List Nat} {hv} : (XE.comp it g t x vs hv).ev s Δ = cmpK g t x (wipeE Δ vs) (it.ev s Δ) := by
  show R.bind _ _ = _
  rcases it.ev s Δ with _ | _ | _ <;> rfl
def itK  : R D → R (Bool × List D)
  | .ok v s => optR s (itD v)
  | .er k p s => .er k p s
  | .bad => .bad
@[simp] theorem itK_ok  {v : D} : itK  (.ok v s) = optR s (itD v) := rfl
@[simp] theorem itK_er  {k : Str} {p : Option (List Str × List D)} : itK  (.er k p s) = .er k p s := rfl
@[simp] theorem itK_bad  : itK  .bad = .bad := rfl
@[simp ↓] theorem zi_seq : (XI.seq x).ev s Δ = itK (x.ev s Δ) := by
  show R.bind _ _ = _
  rcases x.ev s Δ with _ | _ | _ <;> rfl
def iaK (f : List D → Option (Bool × List D)) : R (List D) → R (Bool × List D)
  | .ok v s => optR s (f v)
  | .er k p s => .er k p s
  | .bad => .bad
@[simp] theorem iaK_ok (f : List D → Option (Bool × List D)) {v : (List D)} : iaK f (.ok v s) = optR s (f v) := rfl
@[simp] theorem iaK_er (f : List D → Option (Bool × List D)) {k : Str} {p : Option (List Str × List D)} : iaK f (.er k p s) = .er k p s := rfl
@[simp] theorem iaK_bad (f : List D → Option (Bool × List D)) : iaK f .bad = .bad := rfl
@[simp ↓] theorem zi_rng1 : (XI.rng1 xs).ev s Δ = iaK rng1D (xs.ev s Δ) := by
  show R.bind _ _ = _
  rcases xs.ev s Δ with _ | _ | _ <;> rfl
@[simp ↓] theorem zi_rng2 : (XI.rng2 xs).ev s Δ = iaK rng2D (xs.ev s Δ) := by
  show R.bind _ _ = _
  rcases xs.ev s Δ with _ | _ | _ <;> rfl
@[simp ↓] theorem zi_zip : (XI.zip xs).ev s Δ = iaK zipD (xs.ev s Δ) := by
  show R.bind _ _ = _
  rcases xs.ev s Δ with _ | _ | _ <;> rfl
def forK (g : XG c) (a : XS c) (fv : List Nat) (Δ : Env) : R (Bool × List D) → R Fl
  | .ok v s => forE g a v.2 s (if v.1 then frzAt fv Δ else Δ)
  | .er k p s => .er k p s
  | .bad => .bad
@[simp] theorem forK_ok (g : XG c) (a : XS c) (fv : List Nat) (Δ : Env) {v : (Bool × List D)} : forK g a fv Δ (.ok v s) = forE g a v.2 s (if v.1 then frzAt fv Δ else Δ) := rfl
@[simp] theorem forK_er (g : XG c) (a : XS c) (fv : List Nat) (Δ : Env) {k : Str} {p : Option (List Str × List D)} : forK g a fv Δ (.er k p s) = .er k p s := rfl
@[simp] theorem forK_bad (g : XG c) (a : XS c) (fv : List Nat) (Δ : Env) : forK g a fv Δ .bad = .bad := rfl
@[simp ↓] theorem zs_for {it : XI c} : (XS.for fv it g a).ev s Δ = forK g a fv Δ (it.ev s (view fv Δ)) := by
  show R.bind _ _ = _
  rcases it.ev s (view fv Δ) with _ | _ | _ <;> rfl
@[simp ↓] theorem zs_whl : (XS.whl n fv t a).ev s Δ = whE fv t a n s Δ := rfl
/-- statements -/
@[simp ↓] theorem zs_pass : (XS.pass (c := c)).ev s Δ = .ok (.nx Δ) s := rfl
@[simp ↓] theorem zs_brk : (XS.brk (c := c)).ev s Δ = .ok (.bk Δ) s := rfl
@[simp ↓] theorem zs_cont : (XS.cont (c := c)).ev s Δ = .ok (.ct Δ) s := rfl
def seqK (b : XS c) : R Fl → R Fl
  | .ok (.nx Δ) s => b.ev s Δ
  | o => o
@[simp] theorem seqK_nx (b : XS c) : seqK b (.ok (.nx Δ) s) = b.ev s Δ := rfl
@[simp] theorem seqK_rt (b : XS c) {d : D} : seqK b (.ok (.rt d) s) = .ok (.rt d) s := rfl
@[simp] theorem seqK_bk (b : XS c) : seqK b (.ok (.bk Δ) s) = .ok (.bk Δ) s := rfl
@[simp] theorem seqK_ct (b : XS c) : seqK b (.ok (.ct Δ) s) = .ok (.ct Δ) s := rfl
@[simp] theorem seqK_er (b : XS c) {k : Str} {p : Option (List Str × List D)} : seqK b (.er k p s) = .er k p s := rfl
@[simp] theorem seqK_bad (b : XS c) : seqK b .bad = .bad := rfl
@[simp ↓] theorem zs_seq : (XS.seq a b).ev s Δ = seqK b (a.ev s Δ) := by
  show R.nxt (a.ev s Δ) _ = _
  rcases a.ev s Δ with ⟨_ | _ | _ | _, _⟩ | _ | _ <;> rfl
def ifK (a : XS c) (b : XS c) (Δ : Env) : R Bool → R Fl
  | .ok true s => a.ev s Δ
  | .ok false s => b.ev s Δ
  | .er k p s => .er k p s
  | .bad => .bad
@[simp] theorem ifK_t (a : XS c) (b : XS c) (Δ : Env) : ifK a b Δ (.ok true s) = a.ev s Δ := rfl
@[simp] theorem ifK_f (a : XS c) (b : XS c) (Δ : Env) : ifK a b Δ (.ok false s) = b.ev s Δ := rfl
@[simp] theorem ifK_er (a : XS c) (b : XS c) (Δ : Env) {k : Str} {p : Option (List Str × List D)} : ifK a b Δ (.er k p s) = .er k p s := rfl
@[simp] theorem ifK_bad (a : XS c) (b : XS c) (Δ : Env) : ifK a b Δ .bad = .bad := rfl
@[simp ↓] theorem zs_if : (XS.ite fv t a b).ev s Δ = ifK a b Δ (t.ev s (view fv Δ)) := by
  show R.bind (t.ev s (view fv Δ)) _ = _
  rcases t.ev s (view fv Δ) with ⟨b, s1⟩ | _ | _ <;> try rfl
  cases b <;> rfl
def retK  : R D → R Fl
  | .ok v s => .ok (.rt v) s
  | .er k p s => .er k p s
  | .bad => .bad
@[simp] theorem retK_ok  {v : D} : retK  (.ok v s) = .ok (.rt v) s := rfl
@[simp] theorem retK_er  {k : Str} {p : Option (List Str × List D)} : retK  (.er k p s) = .er k p s := rfl
@[simp] theorem retK_bad  : retK  .bad = .bad := rfl
@[simp ↓] theorem zs_ret : (XS.ret fv x).ev s Δ = retK (x.ev s (view fv Δ)) := by
  show R.bind _ _ = _
  rcases x.ev s (view fv Δ) with _ | _ | _ <;> rfl
@[simp ↓] theorem zs_retN : (XS.retN (c := c)).ev s Δ = .ok (.rt .non) s := rfl
@[simp ↓] theorem zs_retV : (XS.retV (c := c) i).ev s Δ = retK (lookR s Δ[i]?) := by
  show (match Δ[i]? with | some (some d) => R.ok (Fl.rt d) s | _ => .bad) = _
  rcases Δ[i]? with _ | _ | _ <;> rfl
def drpK (fv : List Nat) (Δ : Env) : R D → R Fl
  | .ok v s => .ok (.nx (aft fv v Δ)) s
  | .er k p s => .er k p s
  | .bad => .bad
@[simp] theorem drpK_ok (fv : List Nat) (Δ : Env) {v : D} : drpK fv Δ (.ok v s) = .ok (.nx (aft fv v Δ)) s := rfl
@[simp] theorem drpK_er (fv : List Nat) (Δ : Env) {k : Str} {p : Option (List Str × List D)} : drpK fv Δ (.er k p s) = .er k p s := rfl
@[simp] theorem drpK_bad (fv : List Nat) (Δ : Env) : drpK fv Δ .bad = .bad := rfl
@[simp ↓] theorem zs_drop : (XS.drop fv x).ev s Δ = drpK fv Δ (x.ev s (view fv Δ)) := by
  show R.bind _ _ = _
  rcases x.ev s (view fv Δ) with _ | _ | _ <;> rfl
def raiK (k : Str) (f : Str) : R D → R Fl
  | .ok v s => .er k (some ([f], [frz v])) s
  | .er k p s => .er k p s
  | .bad => .bad
@[simp] theorem raiK_ok (k : Str) (f : Str) {v : D} : raiK k f (.ok v s) = .er k (some ([f], [frz v])) s := rfl
@[simp] theorem raiK_er (k : Str) (f : Str) {k : Str} {p : Option (List Str × List D)} : raiK k f (.er k p s) = .er k p s := rfl
@[simp] theorem raiK_bad (k : Str) (f : Str) : raiK k f .bad = .bad := rfl
@[simp ↓] theorem zs_raise {k f : Str} : (XS.raise1 (c := c) k f fv x).ev s Δ = raiK k f (x.ev s (view fv Δ)) := by
  show R.bind _ _ = _
  rcases x.ev s (view fv Δ) with _ | _ | _ <;> rfl
def asgO (sl : List Nat) (o : Option (List D)) (Δ1 Δ : Env) (s : Strm) : R Fl := match o with
    | some bs => if inEnv Δ sl then .ok (.nx (setD Δ1 sl bs)) s else .bad
    | none => .bad
@[simp] theorem zg_some {sl : List Nat} : asgO sl (some ds) Δ1 Δ s = if inEnv Δ sl then .ok (.nx (setD Δ1 sl ds)) s else .bad := rfl
def asgK (g : XG c) (fv : List Nat) (Δ : Env) : R D → R Fl
  | .ok v s => asgO g.sl (g.ev v) (aft fv v Δ) Δ s
  | .er k p s => .er k p s
  | .bad => .bad
@[simp] theorem asgK_ok (g : XG c) (fv : List Nat) (Δ : Env) {v : D} : asgK g fv Δ (.ok v s) = asgO g.sl (g.ev v) (aft fv v Δ) Δ s := rfl
@[simp] theorem asgK_er (g : XG c) (fv : List Nat) (Δ : Env) {k : Str} {p : Option (List Str × List D)} : asgK g fv Δ (.er k p s) = .er k p s := rfl
@[simp] theorem asgK_bad (g : XG c) (fv : List Nat) (Δ : Env) : asgK g fv Δ .bad = .bad := rfl
@[simp ↓] theorem zs_asg : (XS.asg fv x g).ev s Δ = asgK g fv Δ (x.ev s (view fv Δ)) := by
  show R.bind _ _ = _
  rcases x.ev s (view fv Δ) with _ | _ | _ <;> rfl
@[simp] theorem zg_name : (XG.name (c := c) i).ev d = some [d] := rfl
@[simp] theorem zg_nsl : (XG.name (c := c) i).sl = [i] := rfl
variable {r : XGs c}
@[simp] theorem zg_ssl : (XG.seq r).sl = r.sl := rfl
@[simp] theorem zg_tsl : (XG.tup r).sl = r.sl := rfl
@[simp] theorem zg_cnil : (XGs.nil (c := c)).sl = [] := rfl
@[simp] theorem zg_csl : (XGs.cons g r).sl = g.sl ++ r.sl := rfl
@[simp] theorem zg_slst {o : Bool} : (XG.seq r).ev (.lst o ds) = r.ev ds := rfl
@[simp] theorem zg_stup {o : Bool} : (XG.seq r).ev (.tup o ds) = r.ev ds := rfl
@[simp] theorem zg_ttup {o : Bool} : (XG.tup r).ev (.tup o ds) = r.ev ds := rfl
@[simp] theorem zg_nil : (XGs.nil (c := c)).ev [] = some [] := rfl
def catO (a b : Option (List D)) : Option (List D) := match a, b with
  | some ds, some es => some (ds ++ es)
  | _, _ => none
@[simp] theorem z_catO : catO (some ds) (some es) = some (ds ++ es) := rfl
@[simp] theorem zg_cons : (XGs.cons g r).ev (d :: ds) = catO (g.ev d) (r.ev ds) := by
  show (match g.ev d, r.ev ds with | some ds, some ds' => some (ds ++ ds') | _, _ => none) = _
  cases g.ev d <;> cases r.ev ds <;> rfl
/-- a list changed -/
def parR (i j : Nat) (fv : List Nat) (Δ : Env) (s1 : Strm) (ds : List D) : R Fl := match ds with
    | [d, e] => if inEnv Δ [i, j] then .ok (.nx (setD (aftL fv ds Δ) [i, j] [d, e])) s1 else .bad
    | _ => .bad
@[simp] theorem z_parR : parR i j fv Δ s [d, e] = if inEnv Δ [i, j] then .ok (.nx (setD (aftL fv [d, e] Δ) [i, j] [d, e])) s else .bad := rfl
def parK (i : Nat) (j : Nat) (fv : List Nat) (Δ : Env) : R (List D) → R Fl
  | .ok v s => parR i j fv Δ s v
  | .er k p s => .er k p s
  | .bad => .bad
@[simp] theorem parK_ok (i : Nat) (j : Nat) (fv : List Nat) (Δ : Env) {v : (List D)} : parK i j fv Δ (.ok v s) = parR i j fv Δ s v := rfl
@[simp] theorem parK_er (i : Nat) (j : Nat) (fv : List Nat) (Δ : Env) {k : Str} {p : Option (List Str × List D)} : parK i j fv Δ (.er k p s) = .er k p s := rfl
@[simp] theorem parK_bad (i : Nat) (j : Nat) (fv : List Nat) (Δ : Env) : parK i j fv Δ .bad = .bad := rfl
@[simp ↓] theorem zs_par : (XS.par i j fv xs).ev s Δ = parK i j fv Δ (xs.ev s (view fv Δ)) := by
  show R.bind _ _ = _
  rcases xs.ev s (view fv Δ) with _ | _ | _ <;> rfl
def appR (i : Nat) (Δ1 : Env) (d : D) (s1 : Strm) : R Fl := match lstAt Δ1 i with
      | some ds => if ds.length < lim then .ok (.nx (Δ1.set i (some (.lst true (ds ++ [d]))))) s1 else .bad
      | none => .bad
def apdK (i : Nat) (fv : List Nat) (Δ : Env) : R D → R Fl
  | .ok v s => appR i (aft fv v Δ) v s
  | .er k p s => .er k p s
  | .bad => .bad
@[simp] theorem apdK_ok (i : Nat) (fv : List Nat) (Δ : Env) {v : D} : apdK i fv Δ (.ok v s) = appR i (aft fv v Δ) v s := rfl
@[simp] theorem apdK_er (i : Nat) (fv : List Nat) (Δ : Env) {k : Str} {p : Option (List Str × List D)} : apdK i fv Δ (.er k p s) = .er k p s := rfl
@[simp] theorem apdK_bad (i : Nat) (fv : List Nat) (Δ : Env) : apdK i fv Δ .bad = .bad := rfl
def extK (i : Nat) (fv : List Nat) (Δ : Env) : R D → R Fl
  | .ok v s => extR (aft fv v Δ) i v s
  | .er k p s => .er k p s
  | .bad => .bad
@[simp] theorem extK_ok (i : Nat) (fv : List Nat) (Δ : Env) {v : D} : extK i fv Δ (.ok v s) = extR (aft fv v Δ) i v s := rfl
@[simp] theorem extK_er (i : Nat) (fv : List Nat) (Δ : Env) {k : Str} {p : Option (List Str × List D)} : extK i fv Δ (.er k p s) = .er k p s := rfl
@[simp] theorem extK_bad (i : Nat) (fv : List Nat) (Δ : Env) : extK i fv Δ .bad = .bad := rfl
def thenO (x : XE c) (fv : List Nat) (f : R D → R Fl) (s : Strm) (Δ : Env) : Option (List D) → R Fl
  | none => .bad
  | some _ => f (x.ev s (view fv Δ))
@[simp] theorem z_thenO {f : R D → R Fl} : thenO x fv f s Δ (some ds) = f (x.ev s (view fv Δ)) := rfl
@[simp ↓] theorem zs_app : (XS.app i fv x).ev s Δ = thenO x fv (apdK i fv Δ) s Δ (lstAt Δ i) := by
  show (match lstAt Δ i with
    | none => R.bad
    | some _ => (x.ev s (view fv Δ)).bind fun d s1 => match lstAt (aft fv d Δ) i with
      | some ds => if ds.length < lim then R.ok (Fl.nx ((aft fv d Δ).set i (some (.lst true (ds ++ [d]))))) s1 else .bad
      | none => .bad) = _
  cases lstAt Δ i
  · rfl
  · show R.bind (x.ev s (view fv Δ)) _ = apdK i fv Δ (x.ev s (view fv Δ))
    rcases x.ev s (view fv Δ) with _ | _ | _ <;> rfl
@[simp ↓] theorem zs_ext : (XS.ext i fv x).ev s Δ = thenO x fv (extK i fv Δ) s Δ (lstAt Δ i) := by
  show (match lstAt Δ i with
    | none => R.bad
    | some _ => (x.ev s (view fv Δ)).bind fun d s1 => extR (aft fv d Δ) i d s1) = _
  cases lstAt Δ i
  · rfl
  · show R.bind (x.ev s (view fv Δ)) _ = extK i fv Δ (x.ev s (view fv Δ))
    rcases x.ev s (view fv Δ) with _ | _ | _ <;> rfl
def lstO : Option (Option D) → Option (List D)
  | some (some (.lst true ds)) => some ds
  | _ => none
theorem lstAt_eq : lstAt Δ i = lstO Δ[i]? := by unfold lstAt lstO; rfl
@[simp] theorem z_lstO : lstO (some (some (.lst true ds))) = some ds := rfl
def apO (i : Nat) (Δ1 : Env) (d : D) (s1 : Strm) : Option (List D) → R Fl
  | some ds => if ds.length < lim then .ok (.nx (Δ1.set i (some (.lst true (ds ++ [d]))))) s1 else .bad
  | none => .bad
@[simp] theorem z_apO : apO i Δ1 d s1 (some ds) = if ds.length < lim then R.ok (Fl.nx (Δ1.set i (some (.lst true (ds ++ [d]))))) s1 else .bad := rfl
@[simp] theorem z_appR : appR i Δ1 d s1 = apO i Δ1 d s1 (lstO Δ1[i]?) := by unfold appR; rw [lstAt_eq]; cases lstO Δ1[i]? <;> rfl
def exO (i : Nat) (Δ1 : Env) (es : List D) (s1 : Strm) : Option (List D) → R Fl
  | some ds => if ds.length + es.length ≤ lim then .ok (.nx (Δ1.set i (some (.lst true (ds ++ es))))) s1 else .bad
  | none => .bad
@[simp] theorem z_exO : exO i Δ1 es s1 (some ds) = if ds.length + es.length ≤ lim then R.ok (Fl.nx (Δ1.set i (some (.lst true (ds ++ es))))) s1 else .bad := rfl
@[simp] theorem z_extR {o : Bool} : extR Δ1 i (.lst o es) s1 = exO i Δ1 es s1 (lstO Δ1[i]?) := by unfold extR; rw [lstAt_eq]; cases lstO Δ1[i]? <;> rfl
def spO2 : Option D → Bool
  | some (.lst true es) => decide (es.length < lim)
  | _ => false
@[simp] theorem z_spO2 : spO2 (some (.lst true es)) = decide (es.length < lim) := rfl
def spO (k : Int) : Option (Option D) → Bool
  | some (some (.tup true ds)) => spO2 (atI ds k)
  | _ => false
@[simp] theorem z_spO {k : Int} : spO k (some (some (.tup true ds))) = spO2 (atI ds k) := rfl
@[simp ↓] theorem z_spoilAt {k : Int} : spoilAt Δ i k = spO k Δ[i]? := by unfold spoilAt spO spO2; rfl
@[simp ↓] theorem zs_spoil {k : Int} {z : Str} : (XS.spoil (c := c) i k z).ev s Δ = if spoilAt Δ i k then .ok (.nx (Δ.set i none)) s else .bad := rfl
@[simp ↓] theorem z_lstAt : lstAt Δ i = lstO Δ[i]? := lstAt_eq
/-- slots -/
@[simp] theorem zv_nil : viewF fv n [] = [] := rfl
@[simp] theorem zv_cons {o : Option D} {r : Env} : viewF fv n (o :: r) = (if fv.contains n then o.map frz else none) :: viewF fv (n + 1) r := rfl
@[simp] theorem zf_nil : frzF fv n [] = [] := rfl
@[simp] theorem zf_cons {o : Option D} {r : Env} : frzF fv n (o :: r) = (if fv.contains n then o.map frz else o) :: frzF fv (n + 1) r := rfl
@[simp] theorem zw_nil : wipeE Δ [] = Δ := rfl
@[simp] theorem zw_cons {vs : List Nat} : wipeE Δ (i :: vs) = (wipeE Δ vs).set i none := rfl
@[simp] theorem zd_nil : setD Δ [] ds = Δ := setD_nil Δ ds
@[simp] theorem zd_cons {is : List Nat} : setD Δ (i :: is) (d :: ds) = setD (Δ.set i (some d)) is ds := rfl
@[simp] theorem z_inEnv {is : List Nat} : inEnv Δ is = is.all fun i => decide (i < Δ.length) := rfl
@[simp] theorem z_start : startE n ds = ds.map some ++ List.replicate (n - ds.length) none := rfl
@[simp] theorem z_repl {a : Option D} : List.replicate (n + 1) a = a :: List.replicate n a := rfl
theorem z_aft0 (h : shr d = false) : aft fv d Δ = Δ := by unfold aft; rw [h]; rfl
@[simp] theorem z_aft : aft fv d Δ = if shr d = true then frzAt fv Δ else Δ := rfl
@[simp] theorem z_aftL : aftL fv ds Δ = if shrL ds = true then frzAt fv Δ else Δ := rfl
theorem z_aft1 (h : shr d = true) : aft fv d Δ = frzAt fv Δ := by unfold aft; rw [h]; rfl
theorem z_aftL0 (h : shrL ds = false) : aftL fv ds Δ = Δ := by unfold aftL; rw [h]; rfl
theorem z_aftL1 (h : shrL ds = true) : aftL fv ds Δ = frzAt fv Δ := by unfold aftL; rw [h]; rfl
def runR : R Fl → R D
  | .ok (.nx _) s' => .ok .non s'
  | .ok (.rt d) s' => .ok d s'
  | .er k p s' => .er k p s'
  | _ => .bad
@[simp] theorem zr_nx : runR (.ok (.nx Δ) s) = .ok .non s := rfl
@[simp] theorem zr_rt : runR (.ok (.rt d) s) = .ok d s := rfl
@[simp] theorem zr_er {k : Str} {p : Option (List Str × List D)} : runR (.er k p s) = .er k p s := rfl
theorem run_eq : runF m n a s ds = if ds.length = m then runR (a.ev s (startE n ds)) else .bad := by
  unfold runF
  split
  · rcases a.ev s (startE n ds) with ⟨_ | _ | _ | _⟩ | _ | _ <;> rfl
  · rfl
theorem run_at {f : Fn} (h : f = runF m n a) (hl : ds.length = m) : f s ds = runR (a.ev s (startE n ds)) := by rw [h, run_eq, if_pos hl]
/-! ### data -/
@[simp] theorem z_frzL0 : frzL [] = [] := rfl
@[simp] theorem z_frzL1 : frzL (d :: ds) = frz d :: frzL ds := rfl
@[simp] theorem z_shrL0 : shrL [] = false := rfl
@[simp] theorem z_shrL1 : shrL (d :: ds) = (shr d || shrL ds) := rfl
variable {o : Bool} {ks : List Key} {f1 : Str} {fs : List Str} {v : V} {q : Bool} {w w' : Int} {st st' : Str}

@[simp] theorem zz_non : frz (.non) = .non := rfl
@[simp] theorem zz_bl : frz (.bl q) = .bl q := rfl
@[simp] theorem zz_int : frz (.int w) = .int w := rfl
@[simp] theorem zz_str : frz (.str st) = .str st := rfl
@[simp] theorem zz_opq : frz (.opq v) = .opq v := rfl
@[simp] theorem zz_lst : frz (.lst o ds) = .lst false (frzL ds) := rfl
@[simp] theorem zz_tup : frz (.tup o ds) = .tup false (frzL ds) := rfl
@[simp] theorem zz_dic : frz (.dic o ks ds) = .dic false ks (frzL ds) := rfl
@[simp] theorem zz_ins : frz (.ins o f1 fs ds) = .ins false f1 fs (frzL ds) := rfl
@[simp] theorem zh_non : shr (.non) = false := rfl
@[simp] theorem zh_bl : shr (.bl q) = false := rfl
@[simp] theorem zh_int : shr (.int w) = false := rfl
@[simp] theorem zh_str : shr (.str st) = false := rfl
@[simp] theorem zh_opq : shr (.opq v) = false := rfl
@[simp] theorem zh_lst : shr (.lst o ds) = (!o || shrL ds) := rfl
@[simp] theorem zh_tup : shr (.tup o ds) = (!o || shrL ds) := rfl
@[simp] theorem zh_dic : shr (.dic o ks ds) = (!o || shrL ds) := rfl
@[simp] theorem zh_ins : shr (.ins o f1 fs ds) = (!o || shrL ds) := rfl
@[simp] theorem zB_bl : dB (.bl q) = some q := rfl
@[simp] theorem zT_non : dT (.non) = some false := rfl
@[simp] theorem zT_bl : dT (.bl q) = some q := rfl
@[simp] theorem zT_int : dT (.int w) = some (w != 0) := rfl
@[simp] theorem zT_lst : dT (.lst o ds) = some (!ds.isEmpty) := rfl
@[simp] theorem zT_tup : dT (.tup o ds) = some (!ds.isEmpty) := rfl
@[simp] theorem zT_dic : dT (.dic o ks ds) = some (!ks.isEmpty) := rfl
@[simp] theorem zI_int : dI (.int w) = some w := rfl
@[simp] theorem zN_non : isNon (.non) = some true := rfl
@[simp] theorem zN_bl : isNon (.bl q) = some false := rfl
@[simp] theorem zN_int : isNon (.int w) = some false := rfl
@[simp] theorem zN_str : isNon (.str st) = some false := rfl
@[simp] theorem zN_lst : isNon (.lst o ds) = some false := rfl
@[simp] theorem zN_tup : isNon (.tup o ds) = some false := rfl
@[simp] theorem zN_dic : isNon (.dic o ks ds) = some false := rfl
@[simp] theorem zN_ins : isNon (.ins o f1 fs ds) = some false := rfl
@[simp] theorem z_isN : gIsN d .non = (isNon d).map .bl := rfl
@[simp] theorem z_notN : gNotN d .non = (isNon d).map fun b => .bl (!b) := rfl
@[simp] theorem z_addI : gAdd (.int w) (.int w') = some (.int (w + w')) := rfl
@[simp] theorem z_addL {o' : Bool} : gAdd (.lst o ds) (.lst o' es) = if ds.length + es.length ≤ lim then some (.lst true (ds ++ es)) else none := rfl
@[simp] theorem z_addS : gAdd (.str st) (.str st') = if st.length + st'.length ≤ lim then some (.str (st ++ st')) else none := rfl
@[simp] theorem z_sub : gSub (.int w) (.int w') = some (.int (w - w')) := rfl
@[simp] theorem z_xor : gXor (.int w) (.int w') = some (.int (Builtin.bitXor w w')) := rfl
@[simp] theorem z_mul : gMul (.int w) (.int w') = if w.natAbs < 2 ^ 64 ∨ w'.natAbs < 2 ^ 64 then some (.int (w * w')) else none := rfl
@[simp] theorem z_div : gDiv (.int w) (.int w') = if 0 < w' ∧ w'.natAbs < 2 ^ 64 then some (.int (w / w')) else none := rfl
@[simp] theorem z_mod : gMod (.int w) (.int w') = if 0 < w' then some (.int (w % w')) else none := rfl
@[simp] theorem z_pow : gPow (.int w) (.int w') = if 0 ≤ w' ∧ w' ≤ 1000 ∧ w.natAbs < 2 ^ 64 then some (.int (w ^ w'.toNat)) else none := rfl
@[simp] theorem z_neg : gNeg (.int w) = some (.int (-w)) := rfl
@[simp] theorem z_lt : gLt (.int w) (.int w') = some (.bl (decide (w < w'))) := rfl
@[simp] theorem z_le : gLe (.int w) (.int w') = some (.bl (decide (w ≤ w'))) := rfl
@[simp] theorem z_gt : gGt (.int w) (.int w') = some (.bl (decide (w' < w))) := rfl
@[simp] theorem z_ge : gGe (.int w) (.int w') = some (.bl (decide (w' ≤ w))) := rfl
@[simp] theorem z_eq : gEq (.int w) (.int w') = some (.bl (decide (w = w'))) := gEq_int
@[simp] theorem z_ne : gNe (.int w) (.int w') = some (.bl (!decide (w = w'))) := gNe_int
@[simp] theorem z_eqS : gEq (.str st) (.str st') = some (.bl (decide (st = st'))) := rfl
@[simp] theorem z_neS : gNe (.str st) (.str st') = some (.bl (!decide (st = st'))) := rfl
theorem eqD_bl {q q' : Bool} : eqD (.bl q) (.bl q') = some (q == q') := by cases q <;> cases q' <;> rfl
@[simp] theorem z_eqb {q q' : Bool} : gEq (.bl q) (.bl q') = some (.bl (q == q')) := by cases q <;> cases q' <;> rfl
@[simp] theorem z_neb {q q' : Bool} : gNe (.bl q) (.bl q') = some (.bl (!(q == q'))) := by cases q <;> cases q' <;> rfl
@[simp] theorem z_lenL : gLen [.lst o ds] = some (.int ds.length) := rfl
@[simp] theorem z_lenT : gLen [.tup o ds] = some (.int ds.length) := rfl
@[simp] theorem z_lenS : gLen [.str st] = if st.length ≤ lim then some (.int st.length) else none := rfl
@[simp] theorem z_listL : gList [.lst o ds] = some (.lst true ds) := rfl
@[simp] theorem z_listT : gList [.tup o ds] = some (.lst true ds) := rfl
@[simp] theorem z_tupL : gTuple [.lst o ds] = some (.tup true ds) := rfl
@[simp] theorem z_tupT : gTuple [.tup o ds] = some (.tup o ds) := rfl
@[simp] theorem z_all : gAll [.lst o ds] = (blsD ds).map fun bs => .bl (bs.all id) := rfl
@[simp] theorem z_any : gAny [.lst o ds] = (blsD ds).map fun bs => .bl (bs.any id) := rfl
@[simp] theorem z_bls0 : blsD [] = some [] := rfl
@[simp] theorem z_bls1 : blsD (.bl q :: ds) = (blsD ds).map (q :: ·) := rfl
@[simp] theorem z_blsM {f : α → Bool} : ∀ {l : List α}, blsD (l.map fun x => .bl (f x)) = some (l.map f)
  | [] => rfl
  | x :: l => by rw [List.map_cons, z_bls1, z_blsM]; rfl
@[simp] theorem z_sum : gSum [.lst o ds] = (intsD ds).map fun ns => .int ns.sum := rfl
@[simp] theorem z_intsM : ∀ {ns : List Int}, intsD (ns.map D.int) = some ns := intsD_map _
@[simp] theorem z_ints0 : intsD [] = some [] := rfl
@[simp] theorem z_ints1 : intsD (.int w :: ds) = (intsD ds).map (w :: ·) := rfl
@[simp] theorem z_max2 : gMax2 [.int w, .int w'] = some (.int (if w' > w then w' else w)) := rfl
@[simp] theorem z_min2 : gMin2 [.int w, .int w'] = some (.int (if w' < w then w' else w)) := rfl
@[simp] theorem z_intI : gInt [.int w] = some (.int w) := rfl
@[simp] theorem z_intB : gInt [.bl q] = some (.int (if q then 1 else 0)) := rfl
@[simp] theorem z_ixL : gIx (.lst o ds) (.int w) = atI ds w := rfl
@[simp] theorem z_ixT : gIx (.tup o ds) (.int w) = atI ds w := rfl
theorem atI_nat {n : Nat} : atI ds (n : Int) = ds[n]? := by
  unfold atI ixN
  rw [if_pos (by omega)]
  by_cases h : n < ds.length
  · rw [if_pos (by simpa using h)]; simp
  · rw [if_neg (by simpa using h)]; simp; omega

@[simp] theorem z_at0 : atI ds 0 = ds[0]? := atI_nat (n := 0)
@[simp] theorem z_at1 : atI ds 1 = ds[1]? := atI_nat (n := 1)
@[simp] theorem z_at2 : atI ds 2 = ds[2]? := atI_nat (n := 2)
@[simp] theorem z_at3 : atI ds 3 = ds[3]? := atI_nat (n := 3)
@[simp] theorem z_at4 : atI ds 4 = ds[4]? := atI_nat (n := 4)
@[simp] theorem z_at5 : atI ds 5 = ds[5]? := atI_nat (n := 5)
@[simp] theorem z_at6 : atI ds 6 = ds[6]? := atI_nat (n := 6)
@[simp] theorem z_at7 : atI ds 7 = ds[7]? := atI_nat (n := 7)
@[simp] theorem z_at8 : atI ds 8 = ds[8]? := atI_nat (n := 8)
@[simp] theorem z_at9 : atI ds 9 = ds[9]? := atI_nat (n := 9)
theorem atI_pos {w : Int} (h : 0 ≤ w) : atI ds w = ds[w.toNat]? := by rw [← atI_nat (n := w.toNat), Int.toNat_of_nonneg h]
@[simp] theorem z_itL : itD (.lst o ds) = some (!o || shrL ds, frzL ds) := rfl
@[simp] theorem z_itT : itD (.tup o ds) = some (!o || shrL ds, frzL ds) := rfl
theorem b62_of {w : Int} (h0 : -(2 ^ 62) ≤ w) (h1 : w < 2 ^ 62) : b62 w = true := by unfold b62; rw [decide_eq_true h0, decide_eq_true h1]; rfl
theorem z_rng1 {w : Int} (h0 : -(2 ^ 62) ≤ w) (h1 : w < 2 ^ 62) : rng1D [.int w] = some (false, rngD 0 w.toNat) := by
  show (if b62 w = true then some (false, rngD 0 w.toNat) else none) = _
  rw [b62_of h0 h1]; rfl
theorem z_rng2 {w w' : Int} (h0 : -(2 ^ 62) ≤ w) (h1 : w < 2 ^ 62) (h2 : -(2 ^ 62) ≤ w') (h3 : w' < 2 ^ 62) : rng2D [.int w, .int w'] = some (false, rngD w (w' - w).toNat) := by
  show (if (b62 w && b62 w') = true then some (false, rngD w (w' - w).toNat) else none) = _
  rw [b62_of h0 h1, b62_of h2 h3]; rfl
@[simp] theorem z_zipL {o' : Bool} : zipD [.lst o ds, .lst o' es] = some (shr (.lst o ds) || shr (.lst o' es), (List.zip (frzL ds) (frzL es)).map fun p => .tup true [p.1, p.2]) := rfl
@[simp] theorem z_zipT {o' : Bool} : zipD [.tup o ds, .tup o' es] = some (shr (.tup o ds) || shr (.tup o' es), (List.zip (frzL ds) (frzL es)).map fun p => .tup true [p.1, p.2]) := rfl
@[simp] theorem z_rngLen {n : Nat} : (rngD w n).length = n := by unfold rngD; simp

@[simp] theorem zy_list_non : gIsi [.non, .opq (.ty "list")] = some (.bl false) := rfl
@[simp] theorem zy_list_bl : gIsi [.bl q, .opq (.ty "list")] = some (.bl false) := rfl
@[simp] theorem zy_list_int : gIsi [.int w, .opq (.ty "list")] = some (.bl false) := rfl
@[simp] theorem zy_list_str : gIsi [.str st, .opq (.ty "list")] = some (.bl false) := rfl
@[simp] theorem zy_list_lst : gIsi [.lst o ds, .opq (.ty "list")] = some (.bl true) := rfl
@[simp] theorem zy_list_tup : gIsi [.tup o ds, .opq (.ty "list")] = some (.bl false) := rfl
@[simp] theorem zy_list_dic : gIsi [.dic o ks ds, .opq (.ty "list")] = some (.bl false) := rfl
@[simp] theorem zy_tuple_non : gIsi [.non, .opq (.ty "tuple")] = some (.bl false) := rfl
@[simp] theorem zy_tuple_bl : gIsi [.bl q, .opq (.ty "tuple")] = some (.bl false) := rfl
@[simp] theorem zy_tuple_int : gIsi [.int w, .opq (.ty "tuple")] = some (.bl false) := rfl
@[simp] theorem zy_tuple_str : gIsi [.str st, .opq (.ty "tuple")] = some (.bl false) := rfl
@[simp] theorem zy_tuple_lst : gIsi [.lst o ds, .opq (.ty "tuple")] = some (.bl false) := rfl
@[simp] theorem zy_tuple_tup : gIsi [.tup o ds, .opq (.ty "tuple")] = some (.bl true) := rfl
@[simp] theorem zy_tuple_dic : gIsi [.dic o ks ds, .opq (.ty "tuple")] = some (.bl false) := rfl
@[simp] theorem zy_int_non : gIsi [.non, .opq (.ty "int")] = some (.bl false) := rfl
@[simp] theorem zy_int_bl : gIsi [.bl q, .opq (.ty "int")] = some (.bl true) := rfl
@[simp] theorem zy_int_int : gIsi [.int w, .opq (.ty "int")] = some (.bl true) := rfl
@[simp] theorem zy_int_str : gIsi [.str st, .opq (.ty "int")] = some (.bl false) := rfl
@[simp] theorem zy_int_lst : gIsi [.lst o ds, .opq (.ty "int")] = some (.bl false) := rfl
@[simp] theorem zy_int_tup : gIsi [.tup o ds, .opq (.ty "int")] = some (.bl false) := rfl
@[simp] theorem zy_int_dic : gIsi [.dic o ks ds, .opq (.ty "int")] = some (.bl false) := rfl
@[simp] theorem zy_bool_non : gIsi [.non, .opq (.ty "bool")] = some (.bl false) := rfl
@[simp] theorem zy_bool_bl : gIsi [.bl q, .opq (.ty "bool")] = some (.bl true) := rfl
@[simp] theorem zy_bool_int : gIsi [.int w, .opq (.ty "bool")] = some (.bl false) := rfl
@[simp] theorem zy_bool_str : gIsi [.str st, .opq (.ty "bool")] = some (.bl false) := rfl
@[simp] theorem zy_bool_lst : gIsi [.lst o ds, .opq (.ty "bool")] = some (.bl false) := rfl
@[simp] theorem zy_bool_tup : gIsi [.tup o ds, .opq (.ty "bool")] = some (.bl false) := rfl
@[simp] theorem zy_bool_dic : gIsi [.dic o ks ds, .opq (.ty "bool")] = some (.bl false) := rfl
@[simp] theorem zy_str_non : gIsi [.non, .opq (.ty "str")] = some (.bl false) := rfl
@[simp] theorem zy_str_bl : gIsi [.bl q, .opq (.ty "str")] = some (.bl false) := rfl
@[simp] theorem zy_str_int : gIsi [.int w, .opq (.ty "str")] = some (.bl false) := rfl
@[simp] theorem zy_str_str : gIsi [.str st, .opq (.ty "str")] = some (.bl true) := rfl
@[simp] theorem zy_str_lst : gIsi [.lst o ds, .opq (.ty "str")] = some (.bl false) := rfl
@[simp] theorem zy_str_tup : gIsi [.tup o ds, .opq (.ty "str")] = some (.bl false) := rfl
@[simp] theorem zy_str_dic : gIsi [.dic o ks ds, .opq (.ty "str")] = some (.bl false) := rfl
@[simp] theorem zy_dict_non : gIsi [.non, .opq (.ty "dict")] = some (.bl false) := rfl
@[simp] theorem zy_dict_bl : gIsi [.bl q, .opq (.ty "dict")] = some (.bl false) := rfl
@[simp] theorem zy_dict_int : gIsi [.int w, .opq (.ty "dict")] = some (.bl false) := rfl
@[simp] theorem zy_dict_str : gIsi [.str st, .opq (.ty "dict")] = some (.bl false) := rfl
@[simp] theorem zy_dict_lst : gIsi [.lst o ds, .opq (.ty "dict")] = some (.bl false) := rfl
@[simp] theorem zy_dict_tup : gIsi [.tup o ds, .opq (.ty "dict")] = some (.bl false) := rfl
@[simp] theorem zy_dict_dic : gIsi [.dic o ks ds, .opq (.ty "dict")] = some (.bl true) := rfl
@[simp] theorem zy_lt_non : gIsi [.non, .tup true [.opq (.ty "list"), .opq (.ty "tuple")]] = some (.bl false) := rfl
@[simp] theorem zy_lt_bl : gIsi [.bl q, .tup true [.opq (.ty "list"), .opq (.ty "tuple")]] = some (.bl false) := rfl
@[simp] theorem zy_lt_int : gIsi [.int w, .tup true [.opq (.ty "list"), .opq (.ty "tuple")]] = some (.bl false) := rfl
@[simp] theorem zy_lt_str : gIsi [.str st, .tup true [.opq (.ty "list"), .opq (.ty "tuple")]] = some (.bl false) := rfl
@[simp] theorem zy_lt_lst : gIsi [.lst o ds, .tup true [.opq (.ty "list"), .opq (.ty "tuple")]] = some (.bl true) := rfl
@[simp] theorem zy_lt_tup : gIsi [.tup o ds, .tup true [.opq (.ty "list"), .opq (.ty "tuple")]] = some (.bl true) := rfl
@[simp] theorem zy_lt_dic : gIsi [.dic o ks ds, .tup true [.opq (.ty "list"), .opq (.ty "tuple")]] = some (.bl false) := rfl
@[simp] theorem zy_iltd_non : gIsi [.non, .tup true [.opq (.ty "int"), .opq (.ty "list"), .opq (.ty "tuple"), .opq (.ty "dict")]] = some (.bl false) := rfl
@[simp] theorem zy_iltd_bl : gIsi [.bl q, .tup true [.opq (.ty "int"), .opq (.ty "list"), .opq (.ty "tuple"), .opq (.ty "dict")]] = some (.bl true) := rfl
@[simp] theorem zy_iltd_int : gIsi [.int w, .tup true [.opq (.ty "int"), .opq (.ty "list"), .opq (.ty "tuple"), .opq (.ty "dict")]] = some (.bl true) := rfl
@[simp] theorem zy_iltd_str : gIsi [.str st, .tup true [.opq (.ty "int"), .opq (.ty "list"), .opq (.ty "tuple"), .opq (.ty "dict")]] = some (.bl false) := rfl
@[simp] theorem zy_iltd_lst : gIsi [.lst o ds, .tup true [.opq (.ty "int"), .opq (.ty "list"), .opq (.ty "tuple"), .opq (.ty "dict")]] = some (.bl true) := rfl
@[simp] theorem zy_iltd_tup : gIsi [.tup o ds, .tup true [.opq (.ty "int"), .opq (.ty "list"), .opq (.ty "tuple"), .opq (.ty "dict")]] = some (.bl true) := rfl
@[simp] theorem zy_iltd_dic : gIsi [.dic o ks ds, .tup true [.opq (.ty "int"), .opq (.ty "list"), .opq (.ty "tuple"), .opq (.ty "dict")]] = some (.bl true) := rfl
theorem z_cmpR {it : List D} (hl : it.length ≤ lim) {xs : List D} {s2 : Strm} (h : cmpE g t x Δ it s = .ok xs s2) : cmpR g t x Δ it s = .ok (.lst true xs) s2 := by
  unfold cmpR; rw [if_pos hl, h]
@[simp] theorem z_lim : lim = 16777216 := rfl
@[simp] theorem z_blsR {n : Nat} : blsD (List.replicate n (.bl q)) = some (List.replicate n q) := by
  induction n with
  | zero => rfl
  | succ n ih => rw [List.replicate_succ, z_bls1, ih]; rfl
def nth (l : List Int) (i : Int) : Int := l.getD i.toNat 0
theorem nth_at {l : List Int} {i : Int} (h0 : 0 ≤ i) (h : i < l.length) : l[i.toNat]? = some (nth l i) := by
  unfold nth
  rw [List.getD_eq_getElem?_getD, List.getElem?_eq_getElem (by omega)]; rfl
theorem ix_nth {l : List Int} {i : Int} (h0 : 0 ≤ i) (h : i < l.length) : atI (nuD l) i = some (.int (nth l i)) := by
  rw [atI_pos h0, List.getElem?_map, nth_at h0 h]; rfl
@[simp] theorem z_frzNu {l : List Int} : frzL (l.map D.int) = l.map D.int := frzL_nuD
theorem shrNu : ∀ {l : List Int}, shrL (l.map D.int) = false
  | [] => rfl
  | a :: r => by rw [List.map_cons, z_shrL1, shrNu]; rfl
@[simp] theorem z_shrNu {l : List Int} : shrL (l.map D.int) = false := shrNu
@[simp] theorem all_tt {α : Type} : ∀ {l : List α}, (l.all fun _ => true) = true
  | [] => rfl
  | _ :: l => by rw [List.all_cons, all_tt]; rfl
/-! turns over written lists -/
section
def cm4 (d : D) : R (List D) → R (List D)
  | .ok xs s3 => .ok (d :: xs) s3
  | _ => .bad
@[simp] theorem cm4_ok : cm4 d (.ok ds s) = .ok (d :: ds) s := rfl
def cm3 (g : XG c) (t : XT c) (e : XE c) (Δ : Env) (ds : List D) : R D → R (List D)
  | .ok x s2 => cm4 x (cmpE g t e Δ ds s2)
  | _ => .bad
@[simp] theorem cm3_ok {e : XE c} : cm3 g t e Δ ds (.ok d s) = cm4 d (cmpE g t e Δ ds s) := rfl
def cm2 (g : XG c) (t : XT c) (e : XE c) (Δ Δ1 : Env) (ds : List D) : R Bool → R (List D)
  | .ok true s1 => cm3 g t e Δ ds (e.ev s1 Δ1)
  | .ok false s1 => cmpE g t e Δ ds s1
  | _ => .bad
@[simp] theorem cm2_t {e : XE c} : cm2 g t e Δ Δ1 ds (.ok true s) = cm3 g t e Δ ds (e.ev s Δ1) := rfl
@[simp] theorem cm2_f {e : XE c} : cm2 g t e Δ Δ1 ds (.ok false s) = cmpE g t e Δ ds s := rfl
def cm1 (g : XG c) (t : XT c) (e : XE c) (Δ : Env) (ds : List D) (s : Strm) : Option (List D) → R (List D)
  | none => .bad
  | some bs => cm2 g t e Δ (setD Δ g.sl bs) ds (t.ev s (setD Δ g.sl bs))
@[simp] theorem cm1_s {e : XE c} : cm1 g t e Δ ds s (some es) = cm2 g t e Δ (setD Δ g.sl es) ds (t.ev s (setD Δ g.sl es)) := rfl
@[simp] theorem cmpE_nil {e : XE c} : cmpE g t e Δ [] s = .ok [] s := rfl
@[simp ↓] theorem cmpE_con {e : XE c} : cmpE g t e Δ (d :: ds) s = cm1 g t e Δ ds s (g.ev (frz d)) := by
  rw [cmpE]
  cases g.ev (frz d) with
  | none => rfl
  | some bs =>
    dsimp only
    rw [cm1_s]
    rcases t.ev s (setD Δ g.sl bs) with ⟨_ | _, s1⟩ | _ | _ <;> rfl
def cm0 : R (List D) → R D
  | .ok ds s2 => .ok (.lst true ds) s2
  | _ => .bad
@[simp] theorem cm0_ok : cm0 (.ok ds s) = .ok (.lst true ds) s := rfl
@[simp] theorem cmpR_nil {e : XE c} : cmpR g t e Δ [] s = .ok (.lst true []) s := rfl
@[simp ↓] theorem cmpR_con {e : XE c} : cmpR g t e Δ (d :: ds) s = if (d :: ds).length ≤ lim then cm0 (cmpE g t e Δ (d :: ds) s) else .bad := by
  unfold cmpR
  split
  · rcases cmpE g t e Δ (d :: ds) s with ⟨xs, s3⟩ | _ | _ <;> rfl
  · rfl
def fr2 (g : XG c) (b : XS c) (ds : List D) : R Fl → R Fl
  | .ok (.nx Δ2) s2 => forE g b ds s2 Δ2
  | .ok (.ct Δ2) s2 => forE g b ds s2 Δ2
  | .ok (.bk Δ2) s2 => .ok (.nx Δ2) s2
  | r => r
@[simp] theorem fr2_nx : fr2 g b ds (.ok (.nx Δ) s) = forE g b ds s Δ := rfl
@[simp] theorem fr2_ct : fr2 g b ds (.ok (.ct Δ) s) = forE g b ds s Δ := rfl
@[simp] theorem fr2_bk : fr2 g b ds (.ok (.bk Δ) s) = .ok (.nx Δ) s := rfl
@[simp] theorem fr2_rt : fr2 g b ds (.ok (.rt d) s) = .ok (.rt d) s := rfl
@[simp] theorem fr2_er {k : Str} {p : Option (List Str × List D)} : fr2 g b ds (.er k p s) = .er k p s := rfl
def fr1 (g : XG c) (b : XS c) (ds : List D) (s : Strm) (Δ : Env) : Option (List D) → R Fl
  | none => .bad
  | some bs => if inEnv Δ g.sl then fr2 g b ds (b.ev s (setD Δ g.sl bs)) else .bad
@[simp] theorem fr1_s : fr1 g b ds s Δ (some es) = if inEnv Δ g.sl then fr2 g b ds (b.ev s (setD Δ g.sl es)) else .bad := rfl
@[simp] theorem forE_nil : forE g b [] s Δ = .ok (.nx Δ) s := rfl
@[simp ↓] theorem forE_con : forE g b (d :: ds) s Δ = fr1 g b ds s Δ (g.ev (frz d)) := by
  rw [forE]
  cases g.ev (frz d) with
  | none => rfl
  | some bs =>
    dsimp only
    rw [fr1_s]
    split
    · rcases b.ev s (setD Δ g.sl bs) with ⟨_ | _ | _ | _, _⟩ | _ | _ <;> rfl
    · rfl
end
/-- a comprehension over things of which each gives f, the stream left alone -/
theorem cmpR_map {it : List D} (f : D → D) (hl : it.length ≤ lim) (h : ∀ d ∈ it, ∃ bs, g.ev (frz d) = some bs ∧ t.ev s (setD Δ g.sl bs) = .ok true s ∧ x.ev s (setD Δ g.sl bs) = .ok (f d) s) : cmpR g t x Δ it s = .ok (.lst true (it.map f)) s := z_cmpR hl (cmpE_map f h)
/-- .. over ints -/
theorem cmpR_ints {l : List Int} (f : Int → D) (hl : l.length ≤ lim) (h : ∀ v ∈ l, t.ev s (Δ.set i (some (.int v))) = .ok true s ∧ x.ev s (Δ.set i (some (.int v))) = .ok (f v) s) : cmpR (.name i) t x Δ (l.map D.int) s = .ok (.lst true (l.map f)) s := by
  rw [cmpR_map (f := fun d => match d with | .int v => f v | _ => .non) (by simpa using hl) (fun d m => ?_), List.map_map]
  · rfl
  · obtain ⟨v, hv, rfl⟩ := List.mem_map.mp m
    exact ⟨[.int v], rfl, h v hv⟩
theorem rng_ints {lo : Int} {n : Nat} : rngD lo n = ((List.range n).map fun (k : Nat) => lo + (k : Int)).map D.int := by unfold rngD; rw [List.map_map]; rfl
/-- .. over a range -/
theorem cmpR_rng {lo : Int} {n : Nat} (f : Int → D) (hl : n ≤ lim) (h : ∀ v, lo ≤ v → v < lo + n → t.ev s (Δ.set i (some (.int v))) = .ok true s ∧ x.ev s (Δ.set i (some (.int v))) = .ok (f v) s) : cmpR (.name i) t x Δ (rngD lo n) s = .ok (.lst true ((List.range n).map fun (k : Nat) => f (lo + (k : Int)))) s := by
  rw [rng_ints, cmpR_ints f (by simpa using hl) (fun v m => ?_), List.map_map]
  · rfl
  · obtain ⟨k, hk, rfl⟩ := List.mem_map.mp m
    exact h _ (by omega) (by have := List.mem_range.mp hk; omega)
end
mutual
theorem frz_frz : ∀ d : D, frz (frz d) = frz d
  | .lst _ ds => by simp only [frz, frzL_frzL ds]
  | .tup _ ds => by simp only [frz, frzL_frzL ds]
  | .dic _ _ ds => by simp only [frz, frzL_frzL ds]
  | .ins _ _ _ ds => by simp only [frz, frzL_frzL ds]
  | .non => rfl
  | .bl _ => rfl
  | .int _ => rfl
  | .str _ => rfl
  | .opq _ => rfl
theorem frzL_frzL : ∀ ds : List D, frzL (frzL ds) = frzL ds
  | [] => rfl
  | d :: ds => by simp only [frzL, frz_frz d, frzL_frzL ds]
end
@[simp] theorem z_ff {d : D} : frz (frz d) = frz d := frz_frz d
@[simp] theorem z_ffL {ds : List D} : frzL (frzL ds) = frzL ds := frzL_frzL ds
theorem frzL_map : ∀ ds : List D, frzL ds = ds.map frz
  | [] => rfl
  | d :: ds => by rw [frzL, frzL_map ds]; rfl
@[simp] theorem z_frzLen {ds : List D} : (frzL ds).length = ds.length := by rw [frzL_map]; simp
/-! ### draws -/
def Bud (k : Int) (s : Strm) : Prop := 0 ≤ k ∧ s.Ok (2 ^ 40 - k)
theorem Bud.mono {j k : Int} {s : Strm} (h : Bud k s) (h0 : 0 ≤ j) (hj : j ≤ k) : Bud j s := ⟨h0, h.2.mono (by omega)⟩
theorem draw_at {c : Cf} {x y : Addr} {s : Strm} {m k : Int} (hc : c.st = some (x, y)) (h0 : 0 < m) (h1 : m < 2 ^ 63) (B : Bud (k + 1) s) (hk : 0 ≤ k) :
    ∃ v s', F_draw c s [.opq (.ref x), .int m] = .ok (.int v) s' ∧ 0 ≤ v ∧ v < m ∧ Bud k s' := by
  have ok : s.okB (2 ^ 40) = true := Strm.okB_iff.mpr (B.2.mono (by omega))
  obtain ⟨h2, h3, h4⟩ := B.2.draw h0
  refine ⟨(s.draw m).1, (s.draw m).2, ?_, h3, h4, hk, h2.mono (by omega)⟩
  unfold F_draw
  rw [hc]
  exact if_pos ⟨rfl, h0, h1, ok⟩
/-- a list of draws -/
theorem cmpR_draw {c : Cf} {x y : Addr} {i j l : Nat} {lo m k : Int} {n : Nat} {s : Strm} {Δ : Env} (hc : c.st = some (x, y)) (h0 : 0 < m) (h1 : m < 2 ^ 63) (B : Bud (k + n) s) (hk : 0 ≤ k) (hn : n ≤ lim)
    (hj : Δ[j]? = some (some (.opq (.ref x)))) (hl : Δ[l]? = some (some (.int m))) (hij : i ≠ j) (hil : i ≠ l) :
    ∃ vs s', cmpR (c := c) (.name i) XT.yes (XE.call (F_draw c) (.cons (.var j) (.cons (.var l) .nil))) Δ (rngD lo n) s = .ok (.lst true (nuD vs)) s' ∧ vs.length = n ∧ (∀ v ∈ vs, 0 ≤ v ∧ v < m) ∧ Bud k s' := by
  suffices H : ∀ (ds : List D) (s : Strm) (k : Int), 0 ≤ k → Bud (k + ds.length) s → ∃ vs s', cmpE (c := c) (.name i) XT.yes (XE.call (F_draw c) (.cons (.var j) (.cons (.var l) .nil))) Δ ds s = .ok (nuD vs) s' ∧ vs.length = ds.length ∧ (∀ v ∈ vs, 0 ≤ v ∧ v < m) ∧ Bud k s' by
    obtain ⟨vs, s', h, h2, h3, h4⟩ := H (rngD lo n) s k hk (by rw [z_rngLen]; exact B)
    exact ⟨vs, s', z_cmpR (by rw [z_rngLen]; exact hn) h, by rw [h2, z_rngLen], h3, h4⟩
  intro ds
  induction ds with
  | nil => intro s k hk B; exact ⟨[], s, rfl, rfl, fun v m => (nomatch m), by simpa using B⟩
  | cons d ds ih =>
    intro s k hk B
    have B1 : Bud (k + ds.length + 1) s := B.mono (by omega) (by rw [List.length_cons]; omega)
    obtain ⟨v, s1, e, v0, v1, B2⟩ := draw_at hc h0 h1 B1 (by omega)
    obtain ⟨vs, s2, e2, h2, h3, B3⟩ := ih s1 k hk B2
    refine ⟨v :: vs, s2, ?_, by simp [h2], fun w hw => ?_, B3⟩
    · have gj : (Δ.set i (some (frz d)))[j]? = some (some (.opq (.ref x))) := by rw [List.getElem?_set_ne hij]; exact hj
      have gl : (Δ.set i (some (frz d)))[l]? = some (some (.int m)) := by rw [List.getElem?_set_ne hil]; exact hl
      rw [cmpE_con, zg_name, cm1_s, zt_yes, cm2_t, zg_nsl, zd_cons, zd_nil, ze_call, za_cons, ze_var, gj, zl_ok, consK_ok, za_cons, ze_var, gl, zl_ok, consK_ok, za_nil, cons2K_ok, cons2K_ok, callK_ok]
      simp only [z_frzL1, z_frzL0, zz_opq, zz_int]
      rw [e, cm3_ok, e2]
      rfl
    · rcases List.mem_cons.mp hw with rfl | hw
      · exact ⟨v0, v1⟩
      · exact h3 w hw
/-- a loop that draws m numbers a turn -/
theorem forE_bud {c : Cf} {g : XG c} {b : XS c} {m : Int} (hm : 0 ≤ m) (I : Env → Prop) : ∀ {ds : List D} {s : Strm} {Δ : Env} {k : Int}, 0 ≤ k → Bud (k + m * ds.length) s → I Δ →
    (∀ d ∈ ds, ∀ (s : Strm) (Δ : Env) (j : Int), 0 ≤ j → Bud (j + m) s → I Δ → ∃ bs s' Δ', g.ev (frz d) = some bs ∧ inEnv Δ g.sl = true ∧ (b.ev s (setD Δ g.sl bs) = .ok (.nx Δ') s' ∨ b.ev s (setD Δ g.sl bs) = .ok (.ct Δ') s') ∧ I Δ' ∧ Bud j s') →
    ∃ s' Δ', forE g b ds s Δ = .ok (.nx Δ') s' ∧ I Δ' ∧ Bud k s'
  | [], s, Δ, k, hk, B, h, _ => ⟨s, Δ, rfl, h, by simpa using B⟩
  | d :: ds, s, Δ, k, hk, B, h, step => by
    have h0 : 0 ≤ m * (ds.length : Int) := Int.mul_nonneg hm (by omega)
    have e : m * ((d :: ds).length : Int) = m * ds.length + m := by rw [List.length_cons]; push_cast; rw [Int.mul_add, Int.mul_one]
    obtain ⟨bs, s1, Δ1, h1, h2, h3, h4, B1⟩ := step d List.mem_cons_self s Δ (k + m * ds.length) (by omega) (B.mono (by omega) (by omega)) h
    obtain ⟨s2, Δ2, h5, h6, B2⟩ := forE_bud hm I hk B1 h4 (fun d m => step d (List.mem_cons_of_mem _ m))
    refine ⟨s2, Δ2, ?_, h6, B2⟩
    rw [forE_con, h1, fr1_s, if_pos h2]
    rcases h3 with h3 | h3 <;> rw [h3] <;> exact h5
/-- a loop that leaves the stream alone -/
theorem forE_still {c : Cf} {g : XG c} {b : XS c} (I : Env → Prop) {s : Strm} : ∀ {ds : List D} {Δ : Env}, I Δ →
    (∀ d ∈ ds, ∀ (Δ : Env), I Δ → ∃ bs Δ', g.ev (frz d) = some bs ∧ inEnv Δ g.sl = true ∧ (b.ev s (setD Δ g.sl bs) = .ok (.nx Δ') s ∨ b.ev s (setD Δ g.sl bs) = .ok (.ct Δ') s) ∧ I Δ') →
    ∃ Δ', forE g b ds s Δ = .ok (.nx Δ') s ∧ I Δ'
  | [], Δ, h, _ => ⟨Δ, rfl, h⟩
  | d :: ds, Δ, h, step => by
    obtain ⟨bs, Δ1, h1, h2, h3, h4⟩ := step d List.mem_cons_self Δ h
    obtain ⟨Δ2, h5, h6⟩ := forE_still I h4 (fun d m => step d (List.mem_cons_of_mem _ m))
    refine ⟨Δ2, ?_, h6⟩
    rw [forE_con, h1, fr1_s, if_pos h2]
    rcases h3 with h3 | h3 <;> rw [h3] <;> exact h5
/-- the held list, step by step -/
theorem q_held {c : Cf} {h t f : Nat} {f1 f2 f6 : List Nat} {a0 a1 a2 e2 i3 e4 e6 : XE c} {n3 n5 k : Int} {j : Nat} {s s1 s2 s3 s4 s5 s6 s7 : Strm} {Δ : Env} {es : List D} {d0 d1 d2 g g2 r : D}
    (hl : lstAt Δ h = some es) (hs : es.all flatD = true ∧ es.length < lim ∧ t < Δ.length ∧ f < Δ.length ∧ h < Δ.length ∧ t ≠ f ∧ h ≠ t ∧ h ≠ f)
    (h0 : a0.ev s (view f1 Δ) = .ok d0 s1) (h1 : a1.ev s1 (view f1 Δ) = .ok d1 s2) (h2 : a2.ev s2 (view f1 Δ) = .ok d2 s3) (hd : flatD d0 = true ∧ flatD d1 = true ∧ flatD d2 = true)
    (h3 : e2.ev s3 (hEnv f2 t f [d0, d1, d2] es none (((Δ.set h none).set t none).set f none)) = .ok g s4) (hg : flatD g = true)
    (h4 : i3.ev s4 (hEnv f2 t f [d0, d1, d2] es (some [g]) (((Δ.set h none).set t none).set f none)) = .ok (.int k) s5) (hj : ixN es.length k = some j)
    (h5 : e4.ev s5 (hEnv f2 t f [d0, d1, d2] (es.set j (.int n3)) (some [g]) (((Δ.set h none).set t none).set f none)) = .ok g2 s6) (hg2 : flatD g2 = true)
    (h6 : e6.ev s6 (hEnv f6 t f [d0, d1, d2] (es.set j (.int n3) ++ [.int n5]) (some [g, g2]) (((Δ.set h none).set t none).set f none)) = .ok r s7) (hr : flatD r = true) :
    (XS.held h t f f1 f2 f6 a0 a1 a2 e2 i3 e4 e6 n3 n5).ev s Δ = .ok (.rt r) s7 := by
  show heldE h t f f1 f2 f6 a0 a1 a2 e2 i3 e4 e6 n3 n5 s Δ = _
  unfold heldE
  rw [hl]
  dsimp only
  rw [if_pos hs, h0]
  dsimp only [R.okb]
  rw [h1]
  dsimp only [R.okb]
  rw [h2]
  dsimp only [R.okb]
  rw [if_pos hd, h3]
  dsimp only [R.okb]
  rw [if_pos hg, h4]
  dsimp only [R.okb]
  rw [hj]
  dsimp only
  rw [h5]
  dsimp only [R.okb]
  rw [if_pos hg2, h6]
  dsimp only [R.okb]
  rw [if_pos hr]
@[simp] theorem z_hEnv0 {fv : List Nat} {t f : Nat} {ds es : List D} {Δ : Env} : hEnv fv t f ds es none Δ = (view fv Δ).set t (some (.lst false (ds ++ [.lst false es]))) := rfl
@[simp] theorem z_hEnv1 {fv : List Nat} {t f : Nat} {ds es l : List D} {Δ : Env} : hEnv fv t f ds es (some l) Δ = ((view fv Δ).set t (some (.lst false (ds ++ [.lst false es])))).set f (some (.lst false l)) := rfl
end Ly
end
section
set_option Elab.async false
set_option linter.all false
set_option maxRecDepth 100000
set_option maxHeartbeats 4000000
namespace Ly
open PySem L2 PySem.Spec PyProof.Rows LamX
section
variable {c : Cf}
/-! ### math.gcd -/
def gGcd : List D → Option D
  | [.int i, .int j] => some (.int ((Nat.gcd i.natAbs j.natAbs : Nat) : Int))
  | _ => none
@[simp] theorem z_gcd {i j : Int} : gGcd [.int i, .int j] = some (.int ((Nat.gcd i.natAbs j.natAbs : Nat) : Int)) := rfl
theorem do_gcd : DoA c rGcd gGcd := by
  intro B H xs ds F z ex r nd hz Q k
  match ds, hz with
  | [.int i, .int j], hz =>
    cases hz
    obtain ⟨x, y, F1, F2, rfl, rx, ry, rfl⟩ := r.two
    cases rx; cases ry
    exact ⟨i, j, rfl, k _ B H [] (Stp.same ex) (.int _)⟩
abbrev XE.gcd (a : XA c) : XE c := XE.app _ gGcd do_gcd a
theorem gcd_ {X : Cx} {W : WX} {e : Expr} {es : List Expr} {xs : XA c} {p pos : Pos} (hm : X.mg "gcd" = some (.builtin "math.gcd")) (ha : PA X (e :: es) (xs.t W)) (hg : Gl X "gcd" := by rfl)
    (he : starEach (e :: es) X.env = (false, eval e X.env) :: starEach es X.env := by rfl) (hpl : (backTo pos (starEach es X.env)).any (·.1) = false := by rfl) : PE X (.Call (.Name "gcd" p) (e :: es) [] pos) ((XE.gcd xs).t W) :=
  pe_callBfun cr_gcd hg hm ha (by decide) he hpl
/-! ### a module's name for a built-in function, in the head -/
def binB (K : PySem.W.Frag) (p : Str × String) : Bool := He.eqO (PySem.W.nsIn K mainGlobals p.1) (some (some (.builtin p.2)))
theorem binB_ok {K : PySem.W.Frag} {h : Heap} {mg : Str → Option Value} (X : K.In h) (G : h.Ns mainGlobals mg) {p : Str × String} (c : binB K p = true) : mg p.1 = some (.builtin p.2) := PySem.W.mg_of X G (He.eqO_ok c)
def exB2 (errs flds exms : List (Str × Str)) (tf : List He.Defn) (bins : List (Str × String)) (K : PySem.W.Frag) : Bool := exB errs flds exms tf K && bins.all (binB K)
theorem exB2_ok {errs flds exms : List (Str × Str)} {tf : List He.Defn} {bins : List (Str × String)} {K : PySem.W.Frag} (h : exB2 errs flds exms tf bins K = true) :
    errs.all (errB K) = true ∧ flds.all (fldB K) = true ∧ exms.all (exmB K) = true ∧ decide ((tf.map fun p => (He.cT K p).2).Nodup) = true ∧ bins.all (binB K) = true := by
  unfold exB2 exB at h
  simp only [Bool.and_eq_true] at h
  exact ⟨h.1.1, h.1.2.1, h.1.2.2.1, h.1.2.2.2, h.2⟩
end
end Ly

end
section
set_option Elab.async false
set_option linter.all false
set_option maxRecDepth 100000
set_option maxHeartbeats 4000000
namespace Ly
open PySem L2 PySem.Spec PyProof.Rows LamX
/-! ### sorted(list), of data that are alike -/
def tupC : PyData → Bool
  | .tuple (_ :: _) => true
  | _ => false
def notNT : PyData → Bool
  | .none => false
  | .tuple _ => false
  | _ => true
def sortOk (ps : List PyData) : Bool := (ps.all fun d => ps.all fun e => PySem.W.alike d e) && ((ps.all tupC || ps.all notNT) && ps.all fun d => decide (d.depth ≤ 40))
abbrev pLe : V × PyData → V × PyData → Bool := PySem.W.dataLe false Prod.snd
def rSortG (K : PySem.W.Frag) : List V → Hp → VK → Prop := fun vs H Q => ∃ (a : Addr) (xs : List V) (ps : List PyData), vs = [V.ref a] ∧ SqL K H a xs ∧ DpAll K H xs ps ∧ sortOk ps = true ∧
  ∀ p, H p = none → Q (.ref p) (upd H p (.lst (((xs.zip ps).mergeSort pLe).map Prod.fst)))
theorem sortOk_to {ps : List PyData} (h : sortOk ps = true) : PySem.W.AllAlike ps ∧ PySem.W.Sortable ps ∧ ∀ d ∈ ps, d.depth ≤ 40 := by
  unfold sortOk at h
  simp only [Bool.and_eq_true, Bool.or_eq_true, List.all_eq_true, decide_eq_true_eq] at h
  refine ⟨h.1, ?_, h.2.2⟩
  rcases h.2.1 with k | k
  · refine .inl fun d m => ?_
    have := k d m
    cases d <;> try cases this
    rename_i xs
    cases xs with
    | nil => cases this
    | cons x r => exact ⟨x, r, rfl⟩
  · refine .inr fun d m => ?_
    have := k d m
    cases d <;> first | (cases this; done) | exact ⟨by simp, by simp⟩
theorem each_rel : ∀ {xs : List V} {its : List Value} {ps : List PyData}, Vals xs its → xs.length = ps.length → PySem.W.EachIs (fun (v : Value) (b : V × PyData) => RelV b.1 v) its (xs.zip ps)
  | [], _, [], .nil, _ => .nil
  | x :: xs, _, p :: ps, .cons r t, h => .cons r (each_rel t (by simpa using h))
theorem each_reads {X : Cx} {pins : List (Addr × Obj)} {σ : L2.St} {H : Hp} {s : Shared} (I : Inv X pins σ H s) : ∀ {xs : List V} {its : List Value} {ps : List PyData}, Vals xs its → DpAll X.K H xs ps → PySem.W.EachIs (fun (v : Value) (b : V × PyData) => ∃ as, Reads s.heap v b.2 as) its (xs.zip ps)
  | _, _, _, .nil, .nil => .nil
  | _, _, _, .cons r t, .cons d ds => .cons (Dp.reads I _ _ _ d r) (each_reads I t ds)
theorem each_vals : ∀ {out : List Value} {bs : List (V × PyData)}, PySem.W.EachIs (fun (v : Value) (b : V × PyData) => RelV b.1 v) out bs → Vals (bs.map Prod.fst) out
  | _, _, .nil => .nil
  | _, _, .cons r t => .cons r (each_vals t)
theorem dpAll_len {K : PySem.W.Frag} {H : Hp} : ∀ {xs : List V} {ps : List PyData}, DpAll K H xs ps → xs.length = ps.length
  | _, _, .nil => rfl
  | _, _, .cons _ t => by rw [List.length_cons, List.length_cons, dpAll_len t]
theorem zip_snd {α β : Type} : ∀ {xs : List α} {ps : List β}, xs.length = ps.length → (xs.zip ps).map Prod.snd = ps
  | [], [], _ => rfl
  | x :: xs, p :: ps, h => by rw [List.zip_cons_cons, List.map_cons, zip_snd (by simpa using h)]
theorem cr_sortedG {X : Cx} (hu : X.A.units + 64 < cLine) : CallR X (.builtin "sorted") (rSortG X.K) := by
  intro pins s σ H vs us Q I r h
  obtain ⟨a, xs, ps, rfl, hs, dp, ok, q⟩ := h
  obtain ⟨ok1, ok2, ok3⟩ := sortOk_to ok
  obtain ⟨its, rv, hl, hz⟩ := I.list hs
  rw [Vals.ref1 r]
  have hlen := dpAll_len dp
  have hsnd := zip_snd hlen
  have zl : (xs.zip ps).length = xs.length := by rw [List.length_zip, hlen, Nat.min_self]
  refine PySem.W.sorted_data (bs := xs.zip ps) (enc := Prod.snd) hl.isList (each_rel rv hlen) (each_reads I rv dp) (by rw [hsnd]; exact ok1) (by rw [hsnd]; exact ok2) (by rw [zl]; exact hz) (fun b hb => ?_) fun out h1 h2 => ?_
  · have : b.2 ∈ ps := by rw [← hsnd]; exact List.mem_map_of_mem hb
    have := ok3 _ this
    omega
  · obtain ⟨ep, he'⟩ := PyProof.Rows.sortedAll_at s.heap its out.toArray
    have hl2 : (((xs.zip ps).mergeSort pLe).map Prod.fst).length ≤ sizeLine := by
      rw [List.length_map, List.length_mergeSort, zl]
      exact hz
    exact ⟨.ref _, upd H (s.heap.objs.size + 1) (.lst (((xs.zip ps).mergeSort pLe).map Prod.fst)), I.laid (t' := s.toks) (fun _ _ => PyProof.Rows.sortedAll_old) (Nat.le_succ _) ⟨hl2, out, ep, each_vals h2, he'⟩, rfl, q _ (I.hok.fresh (Nat.le_succ _))⟩
section
variable {c : Cf}
abbrev dLe : D × PyData → D × PyData → Bool := PySem.W.dataLe false Prod.snd
/-- the items of a list, sorted -/
def sortD (ds : List D) (ps : List PyData) : List D := ((ds.zip ps).mergeSort dLe).map Prod.fst
def gSort : List D → Option D
  | [.lst _ ds] => match toPL ds with
    | some ps => if sortOk ps then some (.lst true (sortD (frzL ds) ps)) else none
    | none => none
  | _ => none
theorem RpL.pairs {K : PySem.W.Frag} {A : Str → Addr} {B H : Hp} : ∀ {xs : List V} {ds : List D} {F : List Addr}, RpL K A B H xs ds F → F = [] → ∀ t ∈ xs.zip ds, Rp K A B H t.1 t.2 []
  | _, _, _, .nil, _, t, m => nomatch m
  | _, _, _, .cons r s, e, t, m => by
    obtain ⟨e1, e2⟩ := List.append_eq_nil_iff.mp e
    subst e1 e2
    rcases List.mem_cons.mp m with rfl | m
    · exact r
    · exact RpL.pairs s rfl t m
theorem RpL.of_pairs {K : PySem.W.Frag} {A : Str → Addr} {B H : Hp} : ∀ (l : List (V × D)), (∀ t ∈ l, Rp K A B H t.1 t.2 []) → RpL K A B H (l.map Prod.fst) (l.map Prod.snd) []
  | [], _ => .nil
  | t :: l, h => .cons (F := []) (G := []) (h t List.mem_cons_self) (RpL.of_pairs l fun t m => h t (List.mem_cons_of_mem _ m))
theorem zip_zip_fst {α β γ : Type} : ∀ {xs : List α} {ds : List β} {ps : List γ}, xs.length = ds.length → ((xs.zip ds).zip ps).map (fun t => (t.1.1, t.2)) = xs.zip ps
  | [], [], _, _ => rfl
  | x :: xs, d :: ds, [], _ => rfl
  | x :: xs, d :: ds, p :: ps, h => by simp only [List.zip_cons_cons, List.map_cons]; rw [zip_zip_fst (by simpa using h)]
theorem zip_zip_snd {α β γ : Type} : ∀ {xs : List α} {ds : List β} {ps : List γ}, xs.length = ds.length → ((xs.zip ds).zip ps).map (fun t => (t.1.2, t.2)) = ds.zip ps
  | [], [], _, _ => rfl
  | x :: xs, d :: ds, [], _ => rfl
  | x :: xs, d :: ds, p :: ps, h => by simp only [List.zip_cons_cons, List.map_cons]; rw [zip_zip_snd (by simpa using h)]
theorem RpL.sorted {K : PySem.W.Frag} {A : Str → Addr} {B H : Hp} {xs : List V} {ds : List D} {ps : List PyData} (r : RpL K A B H xs ds []) : RpL K A B H (((xs.zip ps).mergeSort pLe).map Prod.fst) (sortD ds ps) [] := by
  have hl := r.len
  let T := (xs.zip ds).zip ps
  let le : (V × D) × PyData → (V × D) × PyData → Bool := PySem.W.dataLe false Prod.snd
  have e1 : (T.mergeSort le).map (fun t => (t.1.1, t.2)) = (xs.zip ps).mergeSort pLe := by
    exact (List.map_mergeSort (r := le) (s := pLe) (f := fun t => (t.1.1, t.2)) (fun _ _ _ _ => rfl)).trans (by rw [zip_zip_fst hl])
  have e2 : (T.mergeSort le).map (fun t => (t.1.2, t.2)) = (ds.zip ps).mergeSort dLe := by
    exact (List.map_mergeSort (r := le) (s := dLe) (f := fun t => (t.1.2, t.2)) (fun _ _ _ _ => rfl)).trans (by rw [zip_zip_snd hl])
  have m : ∀ t ∈ (T.mergeSort le).map Prod.fst, Rp K A B H t.1 t.2 [] := fun t ht => by
    obtain ⟨u, hu, rfl⟩ := List.mem_map.mp ht
    have hu2 : u ∈ T := (List.mergeSort_perm T le).mem_iff.mp hu
    exact r.pairs rfl _ (List.of_mem_zip (show (u.1, u.2) ∈ (xs.zip ds).zip ps from hu2)).1
  have q := RpL.of_pairs _ m
  rw [List.map_map, List.map_map] at q
  unfold sortD
  rw [← e1, ← e2, List.map_map, List.map_map]
  exact q
theorem do_sort : DoA c (rSortG c.K) gSort := by
  intro B H xs ds F z ex r nd hz Q k
  match ds, hz with
  | [.lst o es], hz =>
    obtain ⟨x, rfl, rx⟩ := r.one
    simp only [gSort] at hz
    cases hp : toPL es with
    | none => rw [hp] at hz; cases hz
    | some ps =>
      rw [hp] at hz
      dsimp only at hz
      split at hz
      · rename_i ok
        cases hz
        obtain ⟨a, ys, G, rfl, ha, hr, hs, hn, _⟩ := rx.lst_at ex
        refine ⟨a, ys, ps, rfl, SqL.of ha, hr.dp ex hp, ok, fun p hpn => ?_⟩
        have st : Stp [] B H (tkn B H G) H G [] := Stp.tkn ex hr.nb List.nodup_nil fun _ m => nomatch m
        have hr2 : RpL c.K c.A (tkn B H G) H ys (frzL es) [] := hr.frz (tkn_ex hr.nb) tkn_tk
        have st2 : Stp [] (tkn B H G) H (tkn B H G) (upd H p (.lst (((ys.zip ps).mergeSort pLe).map Prod.fst))) [] [p] := Stp.obj st.bh hpn (fun _ m => m) (fun _ m => nomatch m) List.nodup_nil
        have n2 : tkn B H G p = none := st.bh.none hpn
        exact k (.ref p) _ _ [p] ((st.trans st2 fun _ m => m).more hs) (.lsO upd_same n2 ((hr2.sorted).mono (Ex.refl _) Kp.nil))
      · cases hz
abbrev XE.sorted (a : XA c) : XE c := XE.app _ gSort do_sort a
theorem boot_sorted_ : bootBuiltins "sorted" = some (.builtin "sorted") := by decide +kernel
theorem sorted_ {X : Cx} {W : WX} {e : Expr} {es : List Expr} {xs : XA c} {p pos : Pos} (hm : X.mg "sorted" = none) (hu : X.A.units + 64 < cLine) (ha : PA X (e :: es) (xs.t W)) (hK : X.K = c.K := by rfl) (hg : Gl X "sorted" := by rfl)
    (he : starEach (e :: es) X.env = (false, eval e X.env) :: starEach es X.env := by rfl) (hpl : (backTo pos (starEach es X.env)).any (·.1) = false := by rfl) : PE X (.Call (.Name "sorted" p) (e :: es) [] pos) ((XE.sorted xs).t W) := by
  have h := cr_sortedG (X := X) hu
  rw [hK] at h
  exact pe_callB h hg hm boot_sorted_ ha (by decide) (by decide) he hpl
end
end Ly

end
section
set_option Elab.async false
set_option linter.all false
set_option maxRecDepth 100000
set_option maxHeartbeats 4000000
namespace Ly
open PySem L2 PySem.Spec PyProof.Rows LamX
section
variable {c : Cf}
/-! ### min, max of a list of ints -/
def gMinL : List D → Option D
  | [.lst _ ds] => (intsD ds).bind fun ns => ns.min?.map .int
  | _ => none
def gMaxL : List D → Option D
  | [.lst _ ds] => (intsD ds).bind fun ns => ns.max?.map .int
  | _ => none
theorem le_of_min {ns : List Int} {m : Int} (h : ns.min? = some m) : m ∈ ns ∧ ∀ y ∈ ns, m ≤ y := List.min?_eq_some_iff.mp h
theorem ge_of_max {ns : List Int} {m : Int} (h : ns.max? = some m) : m ∈ ns ∧ ∀ y ∈ ns, y ≤ m := List.max?_eq_some_iff.mp h
theorem do_minL : DoA c (rMin c.K) gMinL := by
  intro B H xs ds F z ex r nd hz Q k
  match ds, hz with
  | [.lst o es], hz =>
    obtain ⟨x, rfl, rx⟩ := r.one
    simp only [gMinL, Option.bind_eq_some_iff, Option.map_eq_some_iff] at hz
    obtain ⟨ns, hb, m, hm, rfl⟩ := hz
    obtain ⟨a, ys, G, rfl, h1, h2, _⟩ := rx.lst_at ex
    rw [h2.ints hb] at h1
    have q := le_of_min hm
    refine ⟨a, ns, rfl, SqL.of h1, List.length_pos_of_mem q.1, fun m' h3 h4 => ?_⟩
    have e : m' = m := Int.le_antisymm (h4 m q.1) (q.2 m' h3)
    subst e
    exact k _ B H [] (Stp.same ex) (.int _)
theorem do_maxL : DoA c (rMax c.K) gMaxL := by
  intro B H xs ds F z ex r nd hz Q k
  match ds, hz with
  | [.lst o es], hz =>
    obtain ⟨x, rfl, rx⟩ := r.one
    simp only [gMaxL, Option.bind_eq_some_iff, Option.map_eq_some_iff] at hz
    obtain ⟨ns, hb, m, hm, rfl⟩ := hz
    obtain ⟨a, ys, G, rfl, h1, h2, _⟩ := rx.lst_at ex
    rw [h2.ints hb] at h1
    have q := ge_of_max hm
    refine ⟨a, ns, rfl, SqL.of h1, List.length_pos_of_mem q.1, fun m' h3 h4 => ?_⟩
    have e : m' = m := Int.le_antisymm (q.2 m' h3) (h4 m q.1)
    subst e
    exact k _ B H [] (Stp.same ex) (.int _)
abbrev XE.minL (a : XA c) : XE c := XE.app _ gMinL do_minL a
abbrev XE.maxL (a : XA c) : XE c := XE.app _ gMaxL do_maxL a
/-! ### divmod -/
def gDm : List D → Option D
  | [.int i, .int j] => if 0 < j ∧ j < 1073741824 then some (.tup true [.int (i / j), .int (i % j)]) else none
  | _ => none
theorem do_dm : DoA c (fun xs H Q => ∃ i j, xs = [.int i, .int j] ∧ CDiv i j ∧ ∀ p, H p = none → Q (.ref p) (upd H p (.tup [.int (i / j), .int (i % j)]))) gDm := by
  intro B H xs ds F z ex r nd hz Q k
  match ds, hz with
  | [.int i, .int j], hz =>
    simp only [gDm] at hz
    split at hz
    · rename_i hc
      cases hz
      obtain ⟨x, y, F1, F2, rfl, rx, ry, rfl⟩ := r.two
      cases rx; cases ry
      refine ⟨i, j, rfl, hc, fun p hp => ?_⟩
      exact k (.ref p) B _ [p] (Stp.obj ex hp (fun _ m => nomatch m) (fun _ m => nomatch m) List.nodup_nil) (.tpO upd_same (ex.none hp) (.cons (F := []) (G := []) (.int _) (.cons (F := []) (G := []) (.int _) .nil)))
    · cases hz
abbrev XE.dm (a : XA c) : XE c := XE.app _ gDm do_dm a
section
variable {X : Cx} {W : WX} {e : Expr} {es : List Expr} {xs : XA c} {p pos : Pos}
theorem minL_ (hm : X.mg "min" = none) (ha : PA X (e :: es) (xs.t W)) (hK : X.K = c.K := by rfl) (hc : X.calm = true := by rfl) (hg : Gl X "min" := by rfl) (he : starEach (e :: es) X.env = (false, eval e X.env) :: starEach es X.env := by rfl) (hpl : (backTo pos (starEach es X.env)).any (·.1) = false := by rfl) :
    PE X (.Call (.Name "min" p) (e :: es) [] pos) ((XE.minL xs).t W) := by
  have h := cr_min (X := X) hc
  rw [hK] at h
  exact pe_callB h hg hm PyProof.Rows.boot_min ha (by decide) (by decide) he hpl
theorem maxL_ (hm : X.mg "max" = none) (ha : PA X (e :: es) (xs.t W)) (hK : X.K = c.K := by rfl) (hc : X.calm = true := by rfl) (hg : Gl X "max" := by rfl) (he : starEach (e :: es) X.env = (false, eval e X.env) :: starEach es X.env := by rfl) (hpl : (backTo pos (starEach es X.env)).any (·.1) = false := by rfl) :
    PE X (.Call (.Name "max" p) (e :: es) [] pos) ((XE.maxL xs).t W) := by
  have h := cr_max (X := X) hc
  rw [hK] at h
  exact pe_callB h hg hm PyProof.Rows.boot_max ha (by decide) (by decide) he hpl
theorem boot_divmod_ : bootBuiltins "divmod" = some (.builtin "divmod") := by decide +kernel
theorem dm_ (hm : X.mg "divmod" = none) (ha : PA X (e :: es) (xs.t W)) (hg : Gl X "divmod" := by rfl) (he : starEach (e :: es) X.env = (false, eval e X.env) :: starEach es X.env := by rfl) (hpl : (backTo pos (starEach es X.env)).any (·.1) = false := by rfl) :
    PE X (.Call (.Name "divmod" p) (e :: es) [] pos) ((XE.dm xs).t W) := pe_callB call_divmod hg hm boot_divmod_ ha (by decide) (by decide) he hpl
end
/-! ### enumerate(list) -/
def enumD (ds : List D) : List D := ds.zipIdx.map fun p => .tup true [.int (p.2 : Nat), p.1]
def enmD : List D → Option (Bool × List D)
  | [.lst o ds] => some (shr (.lst o ds), enumD (frzL ds))
  | _ => none
theorem enum_get {ds : List D} {i : Nat} {z : D} (h : (enumD ds)[i]? = some z) : ∃ d, ds[i]? = some d ∧ z = .tup true [.int (i : Nat), d] := by
  unfold enumD at h
  rw [List.getElem?_map, List.getElem?_zipIdx, Option.map_map, Option.map_eq_some_iff] at h
  obtain ⟨d, h1, rfl⟩ := h
  exact ⟨d, h1, by simp⟩
theorem iter_enum {B2 : Hp} {a : Addr} {ds : List D} (r : Rp c.K c.A B2 B2 (.ref a) (.lst false ds) []) : IterOk c (Ite c.K a) B2 (enumD ds) := fun B' H' e1 e2 => by
  have p1 := r.mono e1 (H' := B') Kp.nil
  cases p1 with
  | @lsS _ xs _ h1 g1 =>
    have q1 : SqL c.K H' a xs := SqL.of (e2 _ _ h1)
    refine ⟨fun i z hz => ?_, ⟨xs, q1, by unfold enumD; rw [List.length_map, List.length_zipIdx, g1.len]; exact Nat.le_refl _⟩⟩
    obtain ⟨d, hd, rfl⟩ := enum_get hz
    obtain ⟨x, G1, hx, rx, m1, _⟩ := g1.pick hd
    obtain rfl : G1 = [] := List.eq_nil_iff_forall_not_mem.mpr fun u m => nomatch m1 u m
    refine ⟨⟨xs, x, q1, hx⟩, fun v H2 yd => ?_⟩
    obtain ⟨T, x', rfl, nT, rfl, k1⟩ := yd
    have ex := k1 xs q1
    rw [hx] at ex
    cases ex
    exact zip_yld e2 nT (.int _) rx
def XI.enum (a : XA c) : XI c where
  t := fun W => iEnum c.K (a.t W)
  ev := fun s Δ => (a.ev s Δ).bind fun ds s1 => optR s1 (enmD ds)
  ok := fun W σ B H Δ s e sm rd Q h => by
    refine a.ok W σ B H Δ s e sm rd _ ?_
    revert h
    cases a.ev s Δ with
    | er k p s1 => intro h; exact h
    | bad => intro h; exact h
    | ok ds s1 =>
      show AnsI c B H σ W Q (optR s1 (enmD ds)) → _
      cases hz : enmD ds with
      | none => intro h; exact h.elim
      | some p =>
        intro h vs B1 H1 F1 st1 sm1 r1
        unfold enmD at hz
        split at hz
        · rename_i o ds'
          cases hz
          obtain ⟨x, rfl, rx⟩ := r1.one
          obtain ⟨u, xs, _, rfl, h1, _⟩ := rx.lst_at st1.bh
          refine ⟨u, xs, rfl, SqL.of h1, h _ B1 H1 _ st1 sm1 ⟨r1.nb, r1.noc⟩ fun B2 f1 f2 => ?_⟩
          exact iter_enum (rx.any (B2 := B2) (fun z => f1 z) fun a m => f2 a m)
        · cases hz
@[simp ↓] theorem zi_enum {s : Strm} {Δ : Env} {xs : XA c} : (XI.enum xs).ev s Δ = iaK enmD (xs.ev s Δ) := by
  show R.bind (xs.ev s Δ) _ = _
  rcases xs.ev s Δ with _ | _ | _ <;> rfl
theorem enum_ {X : Cx} {W : WX} {a : Expr} {xs : XA c} {p pos tpos : Pos} {elts : List Expr} {kk : Nat} (hm : X.mg "enumerate" = none) (ha : PA X [a] (xs.t W)) (hK : X.K = c.K := by rfl) (hg : Gl X "enumerate" := by rfl)
    (hs : starEach [a] X.env = [(false, eval a X.env)] := by rfl) : PI X (.Tuple elts kk tpos) (.Call (.Name "enumerate" p) [a] [] pos) ((XI.enum xs).t W) := by
  have h := pi_enum (tpos := tpos) (elts := elts) (kk := kk) (p := p) (pos := pos) hg hm ha hs
  rw [hK] at h
  exact h
end
end Ly

end
section
set_option Elab.async false
set_option linter.all false
set_option maxRecDepth 100000
set_option maxHeartbeats 4000000
namespace Ly
open PySem L2
section
variable {c : Cf} {s : Strm}
/-! ### comprehensions that sift -/
theorem cmpE_sift {x : XE c} {t : XT c} {i : Nat} {Δ : Ly.Env} (P : Int → Bool) (f : Int → D) : ∀ {l : List Int}, (∀ v ∈ l, t.ev s (Δ.set i (some (.int v))) = .ok (P v) s ∧ (P v = true → x.ev s (Δ.set i (some (.int v))) = .ok (f v) s)) → cmpE (.name i) t x Δ (l.map D.int) s = .ok ((l.filter P).map f) s
  | [], _ => rfl
  | v :: l, h => by
    obtain ⟨h1, h2⟩ := h v List.mem_cons_self
    have ih := cmpE_sift (x := x) (t := t) (i := i) (Δ := Δ) P f (l := l) fun w m => h w (List.mem_cons_of_mem _ m)
    rw [List.map_cons, cmpE_con, zz_int, zg_name, cm1_s, zg_nsl, zd_cons, zd_nil, h1]
    cases hP : P v with
    | false => rw [cm2_f, ih, List.filter_cons, hP]; rfl
    | true => rw [cm2_t, h2 hP, cm3_ok, ih, List.filter_cons, hP]; rfl
theorem cmpR_sift {x : XE c} {t : XT c} {i : Nat} {Δ : Ly.Env} (P : Int → Bool) (f : Int → D) {l : List Int} (hl : l.length ≤ lim) (h : ∀ v ∈ l, t.ev s (Δ.set i (some (.int v))) = .ok (P v) s ∧ (P v = true → x.ev s (Δ.set i (some (.int v))) = .ok (f v) s)) : cmpR (.name i) t x Δ (l.map D.int) s = .ok (.lst true ((l.filter P).map f)) s :=
  z_cmpR (by rw [List.length_map]; exact hl) (cmpE_sift P f h)
/-! ### ranges as lists of ints -/
def intsL (lo : Int) (n : Nat) : List Int := (List.range n).map fun (k : Nat) => lo + (k : Int)
theorem rng_is {lo : Int} {n : Nat} : rngD lo n = (intsL lo n).map D.int := rng_ints
theorem ints_len {lo : Int} {n : Nat} : (intsL lo n).length = n := by simp [intsL]
theorem ints_mem {lo h : Int} {n : Nat} : h ∈ intsL lo n ↔ lo ≤ h ∧ h < lo + n := by
  unfold intsL
  rw [List.mem_map]
  exact ⟨fun ⟨k, hk, e⟩ => by have := List.mem_range.mp hk; omega, fun ⟨h1, h2⟩ => ⟨(h - lo).toNat, List.mem_range.mpr (by omega), by omega⟩⟩
theorem ints_succ {lo : Int} {n : Nat} : intsL lo (n + 1) = intsL lo n ++ [lo + n] := by
  unfold intsL
  rw [List.range_succ, List.map_append, List.map_cons, List.map_nil]
theorem ints_cons {lo : Int} : ∀ {n : Nat}, intsL lo (n + 1) = lo :: intsL (lo + 1) n
  | 0 => by simp [intsL]
  | n + 1 => by
    rw [ints_succ, ints_cons, ints_succ, List.cons_append]
    congr 3
    push_cast; omega
theorem ints_split {lo : Int} : ∀ {k n : Nat}, k < n → intsL lo n = intsL lo k ++ (lo + k) :: intsL (lo + k + 1) (n - k - 1)
  | 0, n + 1, _ => by rw [ints_cons]; simp [intsL]
  | k + 1, n + 1, h => by
    rw [ints_cons, ints_cons, ints_split (lo := lo + 1) (k := k) (n := n) (by omega)]
    have e : n + 1 - (k + 1) - 1 = n - k - 1 := by omega
    have e2 : lo + ((k + 1 : Nat) : Int) = lo + 1 + k := by push_cast; omega
    rw [e, e2, List.cons_append]
/-- the first of a range that has P -/
theorem ints_find {P : Int → Bool} {lo h : Int} {n : Nat} (h0 : lo ≤ h) (h1 : h < lo + n) (hp : P h = true) : ∃ q, (intsL lo n).find? P = some q ∧ lo ≤ q ∧ q ≤ h ∧ P q = true ∧ ∀ k, lo ≤ k → k < q → P k = false := by
  induction n generalizing lo with
  | zero => omega
  | succ n ih =>
    rw [ints_cons]
    cases e : P lo with
    | true => exact ⟨lo, by rw [List.find?_cons, e], Int.le_refl _, h0, e, fun k a b => by omega⟩
    | false =>
      have ne : h ≠ lo := fun z => by rw [z, e] at hp; cases hp
      obtain ⟨q, a1, a2, a3, a4, a5⟩ := ih (lo := lo + 1) (by omega) (by push_cast at h1; omega)
      refine ⟨q, by rw [List.find?_cons, e]; exact a1, by omega, a3, a4, fun k b1 b2 => ?_⟩
      by_cases z : k = lo
      · rw [z]; exact e
      · exact a5 k (by omega) b2
theorem ints_none {P : Int → Bool} {lo : Int} {n : Nat} : (intsL lo n).find? P = none ↔ ∀ k, lo ≤ k → k < lo + n → P k = false := by
  rw [List.find?_eq_none]
  exact ⟨fun h k a b => by have := h k (ints_mem.mpr ⟨a, b⟩); simpa using this, fun h k m => by obtain ⟨a, b⟩ := ints_mem.mp m; simp [h k a b]⟩
theorem ints_some {P : Int → Bool} {lo q : Int} {n : Nat} (h : (intsL lo n).find? P = some q) : lo ≤ q ∧ q < lo + n ∧ P q = true ∧ ∀ k, lo ≤ k → k < q → P k = false := by
  have hp := List.find?_some h
  obtain ⟨a, b⟩ := ints_mem.mp (List.mem_of_find?_eq_some h)
  obtain ⟨q', e, e1, e2, e3, e4⟩ := ints_find (P := P) a b hp
  rw [h] at e
  cases e
  exact ⟨a, b, hp, e4⟩
theorem head_filter {P : Int → Bool} {l : List Int} : (l.filter P)[0]? = l.find? P := by
  rw [← List.head?_eq_getElem?, List.head?_filter]
theorem shrL_app : ∀ {A B : List D}, shrL (A ++ B) = (shrL A || shrL B)
  | [], _ => rfl
  | a :: A, B => by rw [List.cons_append, z_shrL1, shrL_app, z_shrL1, Bool.or_assoc]
theorem frzL_app : ∀ {A B : List D}, frzL (A ++ B) = frzL A ++ frzL B
  | [], _ => rfl
  | a :: A, B => by rw [List.cons_append, z_frzL1, frzL_app, z_frzL1]; rfl
/-! ### an answer that may be none -/
def oD : Option Int → D
  | some h => .int h
  | none => .non
theorem frz_oD {o : Option Int} : frz (oD o) = oD o := by cases o <;> rfl
/-! ### == of lists of ints -/
theorem toPL_ints : ∀ vs : List Int, toPL (vs.map D.int) = some (vs.map .int)
  | [] => rfl
  | v :: vs => by simp only [List.map_cons, toPL, toP, toPL_ints vs]
theorem eqv_ints : ∀ l l' : List Int, PyData.eqvAll (l.map .int) (l'.map .int) = decide (l = l')
  | [], [] => by simp [PyData.eqvAll]
  | [], _ :: _ => by simp [PyData.eqvAll]
  | _ :: _, [] => by simp [PyData.eqvAll]
  | a :: l, d :: l' => by
    simp only [List.map_cons, PyData.eqvAll, PyData.eqv, eqv_ints l l']
    by_cases h : a = d <;> by_cases h' : l = l' <;> simp [h, h']
theorem eq_ints {o o' : Bool} {l l' : List Int} : gEq (.lst o (l.map D.int)) (.lst o' (l'.map D.int)) = some (.bl (decide (l = l'))) := by
  show (eqD _ _).map _ = _
  unfold eqD
  simp only [toP, toPL_ints, Option.map_some]
  rw [ints_shaped, ints_shaped]
  simp [PyData.eqv, eqv_ints]
theorem eq_intsR {o o' : Bool} {l : List Int} {n : Nat} {w : Int} : gEq (.lst o (l.map D.int)) (.lst o' (List.replicate n (.int w))) = some (.bl (decide (l = List.replicate n w))) := by
  rw [← List.map_replicate (f := D.int), eq_ints]
theorem repl1 {w : Int} {k : Nat} : repl k [.int w] = (List.replicate k w).map D.int := by
  unfold repl
  induction k with
  | zero => rfl
  | succ k ih => rw [List.replicate_succ, List.flatten_cons, ih, List.replicate_succ]; rfl
/-! ### slices of lists of ints -/
theorem sl_to {o : Bool} {ds : List D} {k : Int} (h : 0 ≤ k) : gSl (.lst o ds) none (some k) = some (.lst true (ds.take k.toNat)) := by
  show some (D.lst true (cutD ds none (some k))) = _
  unfold cutD HT.sIx
  simp only [if_neg (show ¬ k < 0 by omega), Nat.sub_zero, List.drop_zero]
  congr 2
  rcases Nat.le_total k.toNat ds.length with h1 | h1
  · rw [Nat.min_eq_left h1]
  · rw [Nat.min_eq_right h1, List.take_of_length_le (Nat.le_refl _), List.take_of_length_le h1]
theorem sl_from {o : Bool} {ds : List D} {k : Int} (h : 0 ≤ k) : gSl (.lst o ds) (some k) none = some (.lst true (ds.drop k.toNat)) := by
  show some (D.lst true (cutD ds (some k) none)) = _
  unfold cutD HT.sIx
  simp only [if_neg (show ¬ k < 0 by omega)]
  congr 2
  rcases Nat.le_total k.toNat ds.length with h1 | h1
  · rw [Nat.min_eq_left h1, List.take_of_length_le (by rw [List.length_drop]; exact Nat.le_refl _)]
  · rw [Nat.min_eq_right h1, List.drop_of_length_le h1, List.drop_of_length_le (Nat.le_refl _), List.take_nil]
/-! ### x = e, step by step -/
theorem asg_own {i : Nat} {fv : List Nat} {Δ : Env} {d : D} (h : shr d = false) (hi : i < Δ.length) : asgK (XG.name (c := c) i) fv Δ (.ok d s) = .ok (.nx (Δ.set i (some d))) s := by
  rw [asgK_ok, zg_nsl, zg_name, z_aft0 h, zg_some, z_inEnv, if_pos (by simp [hi]), zd_cons, zd_nil]
theorem asg_shr {i : Nat} {fv : List Nat} {Δ : Env} {d : D} (h : shr d = true) (hi : i < Δ.length) : asgK (XG.name (c := c) i) fv Δ (.ok d s) = .ok (.nx ((frzAt fv Δ).set i (some d))) s := by
  rw [asgK_ok, zg_nsl, zg_name, z_aft1 h, zg_some, z_inEnv, if_pos (by simp [hi]), zd_cons, zd_nil]
/-! ### while, turn by turn -/
section
variable {fv : List Nat} {t : XT c} {b : XS c} {n : Nat} {Δ : Env}
def wh2 (fv : List Nat) (t : XT c) (b : XS c) (n : Nat) : R Fl → R Fl
  | .ok (.nx Δ2) s2 => whE fv t b n s2 Δ2
  | .ok (.ct Δ2) s2 => whE fv t b n s2 Δ2
  | .ok (.bk Δ2) s2 => .ok (.nx Δ2) s2
  | r => r
@[simp] theorem wh2_nx : wh2 fv t b n (.ok (.nx Δ) s) = whE fv t b n s Δ := rfl
@[simp] theorem wh2_ct : wh2 fv t b n (.ok (.ct Δ) s) = whE fv t b n s Δ := rfl
@[simp] theorem wh2_bk : wh2 fv t b n (.ok (.bk Δ) s) = .ok (.nx Δ) s := rfl
@[simp] theorem wh2_rt {d : D} : wh2 fv t b n (.ok (.rt d) s) = .ok (.rt d) s := rfl
@[simp] theorem wh2_er {k : Str} {p : Option (List Str × List D)} : wh2 fv t b n (.er k p s) = .er k p s := rfl
def wh1 (fv : List Nat) (t : XT c) (b : XS c) (n : Nat) (Δ : Env) : R Bool → R Fl
  | .ok true s1 => wh2 fv t b n (b.ev s1 Δ)
  | .ok false s1 => .ok (.nx Δ) s1
  | .er k p s1 => .er k p s1
  | .bad => .bad
@[simp] theorem wh1_t : wh1 fv t b n Δ (.ok true s) = wh2 fv t b n (b.ev s Δ) := rfl
@[simp] theorem wh1_f : wh1 fv t b n Δ (.ok false s) = .ok (.nx Δ) s := rfl
@[simp] theorem wh1_er {k : Str} {p : Option (List Str × List D)} : wh1 fv t b n Δ (.er k p s) = .er k p s := rfl
theorem whE_succ : whE fv t b (n + 1) s Δ = wh1 fv t b n Δ (t.ev s (view fv Δ)) := by
  rw [whE]
  rcases t.ev s (view fv Δ) with ⟨_ | _, s1⟩ | _ | _
  · rfl
  · show (match b.ev s1 Δ with
      | .ok (.nx Δ2) s2 => whE fv t b n s2 Δ2
      | .ok (.ct Δ2) s2 => whE fv t b n s2 Δ2
      | .ok (.bk Δ2) s2 => .ok (.nx Δ2) s2
      | r => r) = wh2 fv t b n (b.ev s1 Δ)
    rcases b.ev s1 Δ with ⟨_ | _ | _ | _, _⟩ | _ | _ <;> rfl
  · rfl
  · rfl
end
/-! ### a loop that looks for something -/
theorem forE_pre {g : XG c} {b : XS c} (I : Env → Prop) {post : List D} : ∀ {pre : List D} {Δ : Env}, I Δ →
    (∀ d ∈ pre, ∀ (Δ : Env), I Δ → ∃ bs Δ', g.ev (frz d) = some bs ∧ inEnv Δ g.sl = true ∧ (b.ev s (setD Δ g.sl bs) = .ok (.nx Δ') s ∨ b.ev s (setD Δ g.sl bs) = .ok (.ct Δ') s) ∧ I Δ') →
    ∃ Δ', forE g b (pre ++ post) s Δ = forE g b post s Δ' ∧ I Δ'
  | [], Δ, h, _ => ⟨Δ, rfl, h⟩
  | d :: ds, Δ, h, step => by
    obtain ⟨bs, Δ1, h1, h2, h3, h4⟩ := step d List.mem_cons_self Δ h
    obtain ⟨Δ2, h5, h6⟩ := forE_pre I (post := post) h4 (fun d m => step d (List.mem_cons_of_mem _ m))
    refine ⟨Δ2, ?_, h6⟩
    rw [List.cons_append, forE_con, h1, fr1_s, if_pos h2]
    rcases h3 with h3 | h3 <;> rw [h3] <;> exact h5
/-- over ints: at the first one that has P it returns -/
theorem forE_find {b : XS c} {i : Nat} (I : Env → Prop) (P : Int → Bool) {lo : Int} {n : Nat} {Δ : Env} {q : Int} {r : D} {s' : Strm} (hq : (intsL lo n).find? P = some q) (h0 : I Δ)
    (step : ∀ v, lo ≤ v → v < q → P v = false → ∀ Δ, I Δ → ∃ Δ', i < Δ.length ∧ b.ev s (Δ.set i (some (.int v))) = .ok (.nx Δ') s ∧ I Δ')
    (last : ∀ Δ, I Δ → i < Δ.length ∧ b.ev s (Δ.set i (some (.int q))) = .ok (.rt r) s') : forE (.name i) b (rngD lo n) s Δ = .ok (.rt r) s' := by
  obtain ⟨a1, a2, a3, a4⟩ := ints_some hq
  have sp := ints_split (lo := lo) (k := (q - lo).toNat) (n := n) (by omega)
  rw [show lo + ((q - lo).toNat : Int) = q by omega] at sp
  rw [rng_is, sp, List.map_append, List.map_cons]
  obtain ⟨Δ', e, h1⟩ := forE_pre (c := c) (s := s) (g := .name i) (b := b) I (post := D.int q :: (intsL (q + 1) (n - (q - lo).toNat - 1)).map D.int) (pre := (intsL lo (q - lo).toNat).map D.int) h0 (fun d m Δ hΔ => by
    obtain ⟨v, hv, rfl⟩ := List.mem_map.mp m
    obtain ⟨b1, b2⟩ := ints_mem.mp hv
    obtain ⟨Δ', e1, e2, e3⟩ := step v b1 (by omega) (a4 v b1 (by omega)) Δ hΔ
    exact ⟨[.int v], Δ', rfl, by simp [inEnv, e1], .inl e2, e3⟩)
  rw [e]
  obtain ⟨l1, l2⟩ := last Δ' h1
  rw [forE_con, zz_int, zg_name, fr1_s, if_pos (by simp [inEnv, l1])]
  have : setD Δ' (XG.name (c := c) i).sl [D.int q] = Δ'.set i (some (.int q)) := rfl
  rw [this, l2]
  rfl
/-- .. if none has it, it goes through -/
theorem forE_thru {b : XS c} {i : Nat} (I : Env → Prop) {lo : Int} {n : Nat} {Δ : Env} (h0 : I Δ)
    (step : ∀ v, lo ≤ v → v < lo + n → ∀ Δ, I Δ → ∃ Δ', i < Δ.length ∧ b.ev s (Δ.set i (some (.int v))) = .ok (.nx Δ') s ∧ I Δ') : ∃ Δ', forE (.name i) b (rngD lo n) s Δ = .ok (.nx Δ') s ∧ I Δ' := by
  rw [rng_is]
  exact forE_still I h0 fun d m Δ hΔ => by
    obtain ⟨v, hv, rfl⟩ := List.mem_map.mp m
    obtain ⟨b1, b2⟩ := ints_mem.mp hv
    obtain ⟨Δ', e1, e2, e3⟩ := step v b1 b2 Δ hΔ
    exact ⟨[.int v], Δ', rfl, by simp [inEnv, e1], .inl e2, e3⟩
end
end Ly

end
section
set_option Elab.async false
set_option linter.all false
set_option maxRecDepth 100000
set_option maxHeartbeats 4000000
namespace Wk19
open PySem L2 PySem.Spec PyProof.Rows Ly
def top (i : Nat) : Stmt := PySem.Challenge.pw_takeandsplit_k19_whole_least_papers.main.body.getD i (.Pass ⟨0, 0, 0, 0⟩)
/-- what the top has left -/
structure Tx (c : Cf) (P : Program) (w : World) (mg : Str → Option Value) (base : Heap) : Prop where
  g_all : mg "all" = none
  g_bool : mg "bool" = none
  g_dict : mg "dict" = none
  g_int : mg "int" = none
  g_isinstance : mg "isinstance" = none
  g_len : mg "len" = none
  g_list : mg "list" = none
  g_max : mg "max" = none
  g_range : mg "range" = none
  g_repr : mg "repr" = none
  g_tuple : mg "tuple" = none
  g_zip : mg "zip" = none
  b_gcd : mg "gcd" = some (.builtin "math.gcd")
  e_BadPaper : Eok c P w mg base "BadPaper" "thing" 1
  m_BadBook : mg "BadBook" = some (.ref (c.A "BadBook"))
  m_BadHeap : mg "BadHeap" = some (.ref (c.A "BadHeap"))
  m_BadNumber : mg "BadNumber" = some (.ref (c.A "BadNumber"))
  m_BadPaper : mg "BadPaper" = some (.ref (c.A "BadPaper"))
  m_BadPeriod : mg "BadPeriod" = some (.ref (c.A "BadPeriod"))
  m_Grows : mg "Grows" = some (.ref (c.A "Grows"))
  x_BadBook : XfC c.K (c.A "BadBook")
  x_BadHeap : XfC c.K (c.A "BadHeap")
  x_BadNumber : XfC c.K (c.A "BadNumber")
  x_BadPaper : XfC c.K (c.A "BadPaper")
  x_BadPeriod : XfC c.K (c.A "BadPeriod")
  n_BadBook_thing : PySem.W.findIn c.K (.ref (c.A "BadBook")) "thing" = some none
  n_BadHeap_thing : PySem.W.findIn c.K (.ref (c.A "BadHeap")) "thing" = some none
  n_BadNumber_thing : PySem.W.findIn c.K (.ref (c.A "BadNumber")) "thing" = some none
  n_BadPaper_thing : PySem.W.findIn c.K (.ref (c.A "BadPaper")) "thing" = some none
  n_BadPeriod_thing : PySem.W.findIn c.K (.ref (c.A "BadPeriod")) "thing" = some none
  d__law_start : ∃ fd, FunD c.K "_law_start" "_law_start" (defArgs (top 26)) (defBody (top 26)) (defScope (top 26)) [] [] (c.A "_law_start") fd
  m__law_start : mg "_law_start" = some (.ref (c.A "_law_start"))
  d__law_c_odd : ∃ fd, FunD c.K "_law_c_odd" "_law_c_odd" (defArgs (top 24)) (defBody (top 24)) (defScope (top 24)) [] [] (c.A "_law_c_odd") fd
  m__law_c_odd : mg "_law_c_odd" = some (.ref (c.A "_law_c_odd"))
  d__law_same : ∃ fd, FunD c.K "_law_same" "_law_same" (defArgs (top 29)) (defBody (top 29)) (defScope (top 29)) [] [] (c.A "_law_same") fd
  m__law_same : mg "_law_same" = some (.ref (c.A "_law_same"))
  d_value_in : ∃ fd, FunD c.K "value_in" "value_in" (defArgs (top 15)) (defBody (top 15)) (defScope (top 15)) [] [] (c.A "value_in") fd
  m_value_in : mg "value_in" = some (.ref (c.A "value_in"))
  d_gains_by : ∃ fd, FunD c.K "gains_by" "gains_by" (defArgs (top 17)) (defBody (top 17)) (defScope (top 17)) [] [] (c.A "gains_by") fd
  m_gains_by : mg "gains_by" = some (.ref (c.A "gains_by"))
  d_least_in : ∃ fd, FunD c.K "least_in" "least_in" (defArgs (top 18)) (defBody (top 18)) (defScope (top 18)) [] [] (c.A "least_in") fd
  m_least_in : mg "least_in" = some (.ref (c.A "least_in"))
  d_is_list : ∃ fd, FunD c.K "is_list" "is_list" (defArgs (top 10)) (defBody (top 10)) (defScope (top 10)) [] [] (c.A "is_list") fd
  m_is_list : mg "is_list" = some (.ref (c.A "is_list"))
  d_is_integer : ∃ fd, FunD c.K "is_integer" "is_integer" (defArgs (top 11)) (defBody (top 11)) (defScope (top 11)) [] [] (c.A "is_integer") fd
  m_is_integer : mg "is_integer" = some (.ref (c.A "is_integer"))
  d_is_number : ∃ fd, FunD c.K "is_number" "is_number" (defArgs (top 12)) (defBody (top 12)) (defScope (top 12)) [] [] (c.A "is_number") fd
  m_is_number : mg "is_number" = some (.ref (c.A "is_number"))
  d_as_paper : ∃ fd, FunD c.K "as_paper" "as_paper" (defArgs (top 14)) (defBody (top 14)) (defScope (top 14)) [] [] (c.A "as_paper") fd
  m_as_paper : mg "as_paper" = some (.ref (c.A "as_paper"))
  d_checked_paper : ∃ fd, FunD c.K "checked_paper" "checked_paper" (defArgs (top 16)) (defBody (top 16)) (defScope (top 16)) [] [] (c.A "checked_paper") fd
  m_checked_paper : mg "checked_paper" = some (.ref (c.A "checked_paper"))
  d_least_paper : ∃ fd, FunD c.K "least_paper" "least_paper" (defArgs (top 19)) (defBody (top 19)) (defScope (top 19)) [] [] (c.A "least_paper") fd
  m_least_paper : mg "least_paper" = some (.ref (c.A "least_paper"))
  d_papers_part : ∃ fd, FunD c.K "papers_part" "papers_part" (defArgs (top 20)) (defBody (top 20)) (defScope (top 20)) [] [] (c.A "papers_part") fd
  m_papers_part : mg "papers_part" = some (.ref (c.A "papers_part"))
  d__law_draw : ∃ fd, FunD c.K "_law_draw" "_law_draw" (defArgs (top 27)) (defBody (top 27)) (defScope (top 27)) [] [] (c.A "_law_draw") fd
  m__law_draw : mg "_law_draw" = some (.ref (c.A "_law_draw"))
  d__law_pick : ∃ fd, FunD c.K "_law_pick" "_law_pick" (defArgs (top 28)) (defBody (top 28)) (defScope (top 28)) [] [] (c.A "_law_pick") fd
  m__law_pick : mg "_law_pick" = some (.ref (c.A "_law_pick"))
  d__law_a_told : ∃ fd, FunD c.K "_law_a_told" "_law_a_told" (defArgs (top 22)) (defBody (top 22)) (defScope (top 22)) [] [] (c.A "_law_a_told") fd
  m__law_a_told : mg "_law_a_told" = some (.ref (c.A "_law_a_told"))
  d__law_is_from : ∃ fd, FunD c.K "_law_is_from" "_law_is_from" (defArgs (top 33)) (defBody (top 33)) (defScope (top 33)) [] [] (c.A "_law_is_from") fd
  m__law_is_from : mg "_law_is_from" = some (.ref (c.A "_law_is_from"))
  d__law_least : ∃ fd, FunD c.K "_law_least" "_law_least" (defArgs (top 32)) (defBody (top 32)) (defScope (top 32)) [] [] (c.A "_law_least") fd
  m__law_least : mg "_law_least" = some (.ref (c.A "_law_least"))
  d__law_loose : ∃ fd, FunD c.K "_law_loose" "_law_loose" (defArgs (top 30)) (defBody (top 30)) (defScope (top 30)) [] [] (c.A "_law_loose") fd
  m__law_loose : mg "_law_loose" = some (.ref (c.A "_law_loose"))
  d__law_c_paper : ∃ fd, FunD c.K "_law_c_paper" "_law_c_paper" (defArgs (top 23)) (defBody (top 23)) (defScope (top 23)) [] [] (c.A "_law_c_paper") fd
  m__law_c_paper : mg "_law_c_paper" = some (.ref (c.A "_law_c_paper"))
  d__law_led : ∃ fd, FunD c.K "_law_led" "_law_led" (defArgs (top 31)) (defBody (top 31)) (defScope (top 31)) [] [] (c.A "_law_led") fd
  m__law_led : mg "_law_led" = some (.ref (c.A "_law_led"))
  d__law_part : ∃ fd, FunD c.K "_law_part" "_law_part" (defArgs (top 34)) (defBody (top 34)) (defScope (top 34)) [] [] (c.A "_law_part") fd
  m__law_part : mg "_law_part" = some (.ref (c.A "_law_part"))
  d__law_right : ∃ fd, FunD c.K "_law_right" "_law_right" (defArgs (top 35)) (defBody (top 35)) (defScope (top 35)) [] [] (c.A "_law_right") fd
  m__law_right : mg "_law_right" = some (.ref (c.A "_law_right"))
  d__law_c_met : ∃ fd, FunD c.K "_law_c_met" "_law_c_met" (defArgs (top 25)) (defBody (top 25)) (defScope (top 25)) [] [] (c.A "_law_c_met") fd
  m__law_c_met : mg "_law_c_met" = some (.ref (c.A "_law_c_met"))
  d_law : ∃ fd, FunD c.K "law" "law" (defArgs (top 36)) (defBody (top 36)) (defScope (top 36)) [] [] (c.A "law") fd
  m_law : mg "law" = some (.ref (c.A "law"))
  cd_law : ∀ v, CodeAt c.K (c.A "law") v → v = .ref (He.cT c.K ("law", none)).1
  tb_law : LamX.TabB base mg (He.cT c.K ("law", none)).1 (He.cT c.K ("law", none)).2
theorem Tx.at {c : Cf} {P : Program} {w : World} {mg : Str → Option Value} {base : Heap} (T : Tx c P w mg base) (x y : Addr) : Tx (c.at x y) P w mg base where
  g_all := T.g_all
  g_bool := T.g_bool
  g_dict := T.g_dict
  g_int := T.g_int
  g_isinstance := T.g_isinstance
  g_len := T.g_len
  g_list := T.g_list
  g_max := T.g_max
  g_range := T.g_range
  g_repr := T.g_repr
  g_tuple := T.g_tuple
  g_zip := T.g_zip
  b_gcd := T.b_gcd
  e_BadPaper := T.e_BadPaper.at x y
  m_BadBook := T.m_BadBook
  m_BadHeap := T.m_BadHeap
  m_BadNumber := T.m_BadNumber
  m_BadPaper := T.m_BadPaper
  m_BadPeriod := T.m_BadPeriod
  m_Grows := T.m_Grows
  x_BadBook := T.x_BadBook
  x_BadHeap := T.x_BadHeap
  x_BadNumber := T.x_BadNumber
  x_BadPaper := T.x_BadPaper
  x_BadPeriod := T.x_BadPeriod
  n_BadBook_thing := T.n_BadBook_thing
  n_BadHeap_thing := T.n_BadHeap_thing
  n_BadNumber_thing := T.n_BadNumber_thing
  n_BadPaper_thing := T.n_BadPaper_thing
  n_BadPeriod_thing := T.n_BadPeriod_thing
  d__law_start := T.d__law_start
  m__law_start := T.m__law_start
  d__law_c_odd := T.d__law_c_odd
  m__law_c_odd := T.m__law_c_odd
  d__law_same := T.d__law_same
  m__law_same := T.m__law_same
  d_value_in := T.d_value_in
  m_value_in := T.m_value_in
  d_gains_by := T.d_gains_by
  m_gains_by := T.m_gains_by
  d_least_in := T.d_least_in
  m_least_in := T.m_least_in
  d_is_list := T.d_is_list
  m_is_list := T.m_is_list
  d_is_integer := T.d_is_integer
  m_is_integer := T.m_is_integer
  d_is_number := T.d_is_number
  m_is_number := T.m_is_number
  d_as_paper := T.d_as_paper
  m_as_paper := T.m_as_paper
  d_checked_paper := T.d_checked_paper
  m_checked_paper := T.m_checked_paper
  d_least_paper := T.d_least_paper
  m_least_paper := T.m_least_paper
  d_papers_part := T.d_papers_part
  m_papers_part := T.m_papers_part
  d__law_draw := T.d__law_draw
  m__law_draw := T.m__law_draw
  d__law_pick := T.d__law_pick
  m__law_pick := T.m__law_pick
  d__law_a_told := T.d__law_a_told
  m__law_a_told := T.m__law_a_told
  d__law_is_from := T.d__law_is_from
  m__law_is_from := T.m__law_is_from
  d__law_least := T.d__law_least
  m__law_least := T.m__law_least
  d__law_loose := T.d__law_loose
  m__law_loose := T.m__law_loose
  d__law_c_paper := T.d__law_c_paper
  m__law_c_paper := T.m__law_c_paper
  d__law_led := T.d__law_led
  m__law_led := T.m__law_led
  d__law_part := T.d__law_part
  m__law_part := T.m__law_part
  d__law_right := T.d__law_right
  m__law_right := T.m__law_right
  d__law_c_met := T.d__law_c_met
  m__law_c_met := T.m__law_c_met
  d_law := T.d_law
  m_law := T.m_law
  cd_law := T.cd_law
  tb_law := T.tb_law
section
variable {c : Cf} {P : Program} {w : World} {mg : Str → Option Value} {base : Heap}
/-! _law_start -/
theorem sc__law_start : FnScope ["_law_script"] ["_law_script"] (defScope (top 26)) := ⟨rfl, rfl, rfl, by decide +kernel, rfl, by decide +kernel, by decide +kernel⟩
theorem ok__law_start (T : Tx c P w mg base) : ∃ fd, FnG P w c.K mg base 1 (c.A "_law_start") fd ["_law_script"] (spStart c.K) ∧ Binds c.K fd ["_law_script"] [] ∧ PySem.W.keepIn c.K (.ref (c.A "_law_start")) = true := by
  obtain ⟨fd, F⟩ := T.d__law_start
  refine ⟨fd, start_ok F sc__law_start (fun cdv A outer s H E hr => ?_), F.bindsN fun _ _ _ _ _ _ us hl => match us, hl with | [_], _ => rfl, F.kp⟩
  exact sone_ (ret_ (lst_ (acons_ (list_ T.g_list (acons_ (v_ 0) anil_)) (acons_ int_ (acons_ int_ (acons_ int_ anil_))))))
/-! _law_c_odd -/
abbrev N__law_c_odd : List Str := ["_law_found"]
theorem sc__law_c_odd : FnScope ["_law_found"] [] (defScope (top 24)) := ⟨rfl, rfl, rfl, by decide +kernel, rfl, by decide +kernel, by decide +kernel⟩
def b__law_c_odd (c : Cf) : XS c :=
  (.seq (.asg [] (.lst (.cons .non (.cons (.int 5) (.cons (.str "paper") (.cons (.tup .nil) (.cons .dic0 (.cons (.bl true) (.cons (.tup (.cons (.int 1) (.cons (.int 1) (.cons (.int 0) .nil)))) (.cons (.tup (.cons (.int 1) (.cons (.int 1) (.cons (.int 0) (.cons (.lst (.cons (.int 0) .nil)) .nil))))) (.cons (.tup (.cons (.int 0) (.cons (.int 1) (.cons (.int 0) (.cons (.lst (.cons (.int 0) .nil)) .nil))))) (.cons (.tup (.cons (.int 1) (.cons (.int 0) (.cons (.int 0) (.cons (.lst (.cons (.int 0) .nil)) .nil))))) .nil))))))))))) (.name 0))
    (.seq (.ext 0 [] (.lst (.cons (.tup (.cons (.int 1) (.cons (.int 1) (.cons (.neg (.int 1)) (.cons (.lst (.cons (.int 0) (.cons (.int 0) .nil))) .nil))))) (.cons (.tup (.cons (.int 1) (.cons (.int 1) (.cons (.int 0) (.cons (.lst (.cons (.int 0) (.cons (.neg (.int 1)) .nil))) .nil))))) (.cons (.tup (.cons (.int 1) (.cons (.int 1) (.cons (.int 0) (.cons (.lst (.cons (.int 0) (.cons (.bl true) .nil))) .nil))))) (.cons (.tup (.cons (.int 1) (.cons (.bl true) (.cons (.int 0) (.cons (.lst (.cons (.int 0) (.cons (.int 0) .nil))) .nil))))) (.cons (.tup (.cons (.int 1) (.cons (.int 1) (.cons (.int 0) (.cons (.str "00") .nil))))) .nil)))))))
    (.seq (.ext 0 [] (.lst (.cons (.tup (.cons (.int 1) (.cons (.int 1) (.cons (.int 0) (.cons (.lst (.cons (.int 1) (.cons (.int 0) .nil))) .nil))))) (.cons (.tup (.cons (.int 1) (.cons (.int 1) (.cons (.int 0) (.cons (.lst (.cons (.int 0) (.cons (.int 0) (.cons (.int 0) .nil)))) .nil))))) (.cons (.tup (.cons (.int 1) (.cons (.int 1) (.cons (.int 0) (.cons .non .nil))))) (.cons (.tup (.cons (.int 1) (.cons (.int 1) (.cons .non (.cons (.lst (.cons (.int 0) (.cons (.int 0) .nil))) .nil))))) (.cons (.dic (.cons (.inr "begin") (.int 1) .nil)) .nil)))))))
    (.ret [0] (.add (.var 0) (.lst (.cons (.tup (.cons (.int 1) (.cons (.int 1) (.cons (.int 0) (.cons (.lst (.cons (.int 0) (.cons (.int 0) .nil))) (.cons (.int 0) .nil)))))) .nil)))))))
def F__law_c_odd (c : Cf) : Fn := runF 0 1 (b__law_c_odd c)
theorem ok__law_c_odd (T : Tx c P w mg base) : Dok c P w mg base "_law_c_odd" [] 1 (F__law_c_odd c) := by
  obtain ⟨fd, F⟩ := T.d__law_c_odd
  refine ⟨⟨fd, def_ok F sc__law_c_odd (b__law_c_odd c) (by decide) (fun cdv A outer s H E hcd hr => ?_), F.bindsN fun _ _ _ _ _ _ us hl => match us, hl with | [], _ => rfl⟩, T.m__law_c_odd, F.kp⟩
  have nd := sc__law_c_odd.nd
  have tk : Takes (cxOf (L2.CX P w) P w c.K mg base ["_law_found"] "_law_c_odd" (defScope (top 24)) (c.A "_law_c_odd") cdv A outer s H E) (fun cls d _ H' => E cls d H') := takes_of rfl rfl rfl rfl
  unfold b__law_c_odd
  exact (scons_ (asg_ (lst_ (acons_ non_ (acons_ int_ (acons_ str_ (acons_ (tup_ anil_) (acons_ dic0_ (acons_ bl_ (acons_ (tup_ (acons_ int_ (acons_ int_ (acons_ int_ anil_)))) (acons_ (tup_ (acons_ int_ (acons_ int_ (acons_ int_ (acons_ (lst_ (acons_ int_ anil_)) anil_))))) (acons_ (tup_ (acons_ int_ (acons_ int_ (acons_ int_ (acons_ (lst_ (acons_ int_ anil_)) anil_))))) (acons_ (tup_ (acons_ int_ (acons_ int_ (acons_ int_ (acons_ (lst_ (acons_ int_ anil_)) anil_))))) anil_))))))))))) (gn_ 0 nd))
    (scons_ (ext_ 0 (lst_ (acons_ (tup_ (acons_ int_ (acons_ int_ (acons_ (neg_ int_) (acons_ (lst_ (acons_ int_ (acons_ int_ anil_))) anil_))))) (acons_ (tup_ (acons_ int_ (acons_ int_ (acons_ int_ (acons_ (lst_ (acons_ int_ (acons_ (neg_ int_) anil_))) anil_))))) (acons_ (tup_ (acons_ int_ (acons_ int_ (acons_ int_ (acons_ (lst_ (acons_ int_ (acons_ bl_ anil_))) anil_))))) (acons_ (tup_ (acons_ int_ (acons_ bl_ (acons_ int_ (acons_ (lst_ (acons_ int_ (acons_ int_ anil_))) anil_))))) (acons_ (tup_ (acons_ int_ (acons_ int_ (acons_ int_ (acons_ str_ anil_))))) anil_)))))))
    (scons_ (ext_ 0 (lst_ (acons_ (tup_ (acons_ int_ (acons_ int_ (acons_ int_ (acons_ (lst_ (acons_ int_ (acons_ int_ anil_))) anil_))))) (acons_ (tup_ (acons_ int_ (acons_ int_ (acons_ int_ (acons_ (lst_ (acons_ int_ (acons_ int_ (acons_ int_ anil_)))) anil_))))) (acons_ (tup_ (acons_ int_ (acons_ int_ (acons_ int_ (acons_ non_ anil_))))) (acons_ (tup_ (acons_ int_ (acons_ int_ (acons_ non_ (acons_ (lst_ (acons_ int_ (acons_ int_ anil_))) anil_))))) (acons_ (dic_ (dconsS_ int_ dnil_)) anil_)))))))
    (sone_ (ret_ (add_ (v_ 0) (lst_ (acons_ (tup_ (acons_ int_ (acons_ int_ (acons_ int_ (acons_ (lst_ (acons_ int_ (acons_ int_ anil_))) (acons_ int_ anil_)))))) anil_))))))))
/-! _law_same -/
abbrev N__law_same : List Str := ["_law_found", "_law_due", "_law_x", "_law_y"]
theorem sc__law_same : FnScope ["_law_found", "_law_due", "_law_x", "_law_y"] ["_law_found", "_law_due"] (defScope (top 29)) := ⟨rfl, rfl, rfl, by decide +kernel, rfl, by decide +kernel, by decide +kernel⟩
def b__law_same (c : Cf) (G : Fn) : XS c :=
  (.seq (.ite [1] (.tru (.isi (.cons (.var 1) (.cons (.tup (.cons (.opq (.ty "list")) (.cons (.opq (.ty "tuple")) .nil))) .nil)))) (.seq (.ite [0, 1] (.or (.test (.ne (.isi (.cons (.var 0) (.cons (.opq (.ty "list")) .nil))) (.isi (.cons (.var 1) (.cons (.opq (.ty "list")) .nil))))) (.test (.ne (.isi (.cons (.var 0) (.cons (.opq (.ty "tuple")) .nil))) (.isi (.cons (.var 1) (.cons (.opq (.ty "tuple")) .nil)))))) (.ret [] (.bl false)) .pass)
    (.ret [0, 1] (.and (.eq (.len (.cons (.var 0) .nil)) (.len (.cons (.var 1) .nil))) (.all (.cons (.comp (.zip (.cons (.var 0) (.cons (.var 1) .nil))) (.seq (.cons (.name 2) (.cons (.name 3) .nil))) XT.yes (.call G (.cons (.var 2) (.cons (.var 3) .nil))) [2, 3] (hvb rfl)) .nil))))) .pass)
    (.seq (.ite [1] (.tru (.isi (.cons (.var 1) (.cons (.opq (.ty "dict")) .nil)))) (.ret [0, 1] (.and (.isi (.cons (.var 0) (.cons (.opq (.ty "dict")) .nil))) (.call G (.cons (.items (.var 0)) (.cons (.items (.var 1)) .nil))))) .pass)
    (.seq (.ite [1] (.tru (.isi (.cons (.var 1) (.cons (.opq (.ty "int")) .nil)))) (.ret [0, 1] (.and (.isi (.cons (.var 0) (.cons (.opq (.ty "int")) .nil))) (.and (.eq (.isi (.cons (.var 0) (.cons (.opq (.ty "bool")) .nil))) (.isi (.cons (.var 1) (.cons (.opq (.ty "bool")) .nil)))) (.eq (.var 0) (.var 1))))) .pass)
    (.ret [0, 1] (.and (.not (.isi (.cons (.var 0) (.cons (.tup (.cons (.opq (.ty "int")) (.cons (.opq (.ty "list")) (.cons (.opq (.ty "tuple")) (.cons (.opq (.ty "dict")) .nil))))) .nil)))) (.eq (.var 0) (.var 1)))))))
def Fr__law_same (c : Cf) : Nat → Fn
  | 0 => fun _ _ => .bad
  | k + 1 => runF 2 4 (b__law_same c (Fr__law_same c k))
abbrev F__law_same (c : Cf) : Fn := Fr__law_same c 14
theorem okr__law_same (T : Tx c P w mg base) : ∀ m, Dok c P w mg base "_law_same" ["_law_found", "_law_due"] (1 + m) (Fr__law_same c m)
  | 0 => by
    obtain ⟨fd, F⟩ := T.d__law_same
    exact ⟨⟨fd, FnG.no, F.bindsN fun _ _ _ _ _ _ us hl => match us, hl with | [_, _], _ => rfl⟩, T.m__law_same, F.kp⟩
  | m + 1 => by
    have hG := okr__law_same T m
    obtain ⟨fd, F⟩ := T.d__law_same
    refine ⟨⟨fd, def_ok (k := 1 + m) F sc__law_same (b__law_same c (Fr__law_same c m)) (by decide) (fun cdv A outer s H E hcd hr => ?_), F.bindsN fun _ _ _ _ _ _ us hl => match us, hl with | [_, _], _ => rfl⟩, T.m__law_same, F.kp⟩
    have nd := sc__law_same.nd
    have tk : Takes (cxOf (L2.CX P w) P w c.K mg base ["_law_found", "_law_due", "_law_x", "_law_y"] "_law_same" (defScope (top 29)) (c.A "_law_same") cdv A outer s H E) (fun cls d _ H' => E cls d H') := takes_of rfl rfl rfl rfl
    unfold b__law_same
    exact (scons_ (if_ (tru_ (isi_ T.g_isinstance (acons_ (v_ 1) (acons_ (tup_ (acons_ (gty_ T.g_list (by decide +kernel)) (acons_ (gty_ T.g_tuple (by decide +kernel)) anil_))) anil_)))) (scons_ (if_ (or2_ (neT_ (isi_ T.g_isinstance (acons_ (v_ 0) (acons_ (gty_ T.g_list (by decide +kernel)) anil_))) (isi_ T.g_isinstance (acons_ (v_ 1) (acons_ (gty_ T.g_list (by decide +kernel)) anil_))) hr.units) (or1_ (neT_ (isi_ T.g_isinstance (acons_ (v_ 0) (acons_ (gty_ T.g_tuple (by decide +kernel)) anil_))) (isi_ T.g_isinstance (acons_ (v_ 1) (acons_ (gty_ T.g_tuple (by decide +kernel)) anil_))) hr.units))).pt (sone_ (ret_ bl_)) snil_)
    (sone_ (ret_ (andV_ (eq_ (len_ T.g_len (acons_ (v_ 0) anil_)) (len_ T.g_len (acons_ (v_ 1) anil_)) hr.units) (one_ (all_ T.g_all (acons_ (comp_ [("_law_x", 2), ("_law_y", 3)] nd (zip_ T.g_zip (acons_ (v_ 0) (acons_ (v_ 1) anil_))) (blkOk_by (N := N__law_same) (sc := defScope (top 29)) (by decide +kernel)) (fun _ _ _ _ _ => (gseq_ (gcons_ (gn_ 2 nd) (gcons_ (gn_ 3 nd) gnil_)))) (fun _ _ _ _ _ => yes_) (fun _ _ _ _ _ => (call_ hG (hr.mono (by omega)) takes0 (acons_ (v_ 2) (acons_ (v_ 3) anil_))))) anil_))))))) snil_)
    (scons_ (if_ (tru_ (isi_ T.g_isinstance (acons_ (v_ 1) (acons_ (gty_ T.g_dict (by decide +kernel)) anil_)))) (sone_ (ret_ (andV_ (isi_ T.g_isinstance (acons_ (v_ 0) (acons_ (gty_ T.g_dict (by decide +kernel)) anil_))) (one_ (call_ hG (hr.mono (by omega)) tk (acons_ (items_ T.g_list (v_ 0)) (acons_ (items_ T.g_list (v_ 1)) anil_))))))) snil_)
    (scons_ (if_ (tru_ (isi_ T.g_isinstance (acons_ (v_ 1) (acons_ (gty_ T.g_int (by decide +kernel)) anil_)))) (sone_ (ret_ (andV_ (isi_ T.g_isinstance (acons_ (v_ 0) (acons_ (gty_ T.g_int (by decide +kernel)) anil_))) (andV_ (eq_ (isi_ T.g_isinstance (acons_ (v_ 0) (acons_ (gty_ T.g_bool (by decide +kernel)) anil_))) (isi_ T.g_isinstance (acons_ (v_ 1) (acons_ (gty_ T.g_bool (by decide +kernel)) anil_))) hr.units) (one_ (eq_ (v_ 0) (v_ 1) hr.units)))))) snil_)
    (sone_ (ret_ (andV_ (notV_ (isi_ T.g_isinstance (acons_ (v_ 0) (acons_ (tup_ (acons_ (gty_ T.g_int (by decide +kernel)) (acons_ (gty_ T.g_list (by decide +kernel)) (acons_ (gty_ T.g_tuple (by decide +kernel)) (acons_ (gty_ T.g_dict (by decide +kernel)) anil_))))) anil_)))) (one_ (eq_ (v_ 0) (v_ 1) hr.units))))))))
theorem ok__law_same (T : Tx c P w mg base) : Dok c P w mg base "_law_same" ["_law_found", "_law_due"] 15 (F__law_same c) := okr__law_same T 14
/-! value_in -/
abbrev N_value_in : List Str := ["paper", "number", "begin", "period", "gain", "values", "turns"]
theorem sc_value_in : FnScope ["paper", "number", "begin", "period", "gain", "values", "turns"] ["paper", "number"] (defScope (top 15)) := ⟨rfl, rfl, rfl, by decide +kernel, rfl, by decide +kernel, by decide +kernel⟩
def b_value_in (c : Cf) : XS c :=
  (.seq (.asg [0] (.var 0) (.seq (.cons (.name 2) (.cons (.name 3) (.cons (.name 4) (.cons (.name 5) .nil))))))
    (.seq (.ite [1, 2, 3] (.test (.lt (.var 1) (.add (.var 2) (.var 3)))) (.ret [1, 5] (.ix (.var 5) (.var 1))) .pass)
    (.seq (.asg [1, 2, 3] (.div (.sub (.var 1) (.var 2)) (.var 3)) (.name 6))
    (.ret [1, 3, 4, 5, 6] (.add (.ix (.var 5) (.sub (.var 1) (.mul (.var 6) (.var 3)))) (.mul (.var 6) (.var 4)))))))
def F_value_in (c : Cf) : Fn := runF 2 7 (b_value_in c)
theorem ok_value_in (T : Tx c P w mg base) : Dok c P w mg base "value_in" ["paper", "number"] 1 (F_value_in c) := by
  obtain ⟨fd, F⟩ := T.d_value_in
  refine ⟨⟨fd, def_ok F sc_value_in (b_value_in c) (by decide) (fun cdv A outer s H E hcd hr => ?_), F.bindsN fun _ _ _ _ _ _ us hl => match us, hl with | [_, _], _ => rfl⟩, T.m_value_in, F.kp⟩
  have nd := sc_value_in.nd
  have tk : Takes (cxOf (L2.CX P w) P w c.K mg base ["paper", "number", "begin", "period", "gain", "values", "turns"] "value_in" (defScope (top 15)) (c.A "value_in") cdv A outer s H E) (fun cls d _ H' => E cls d H') := takes_of rfl rfl rfl rfl
  unfold b_value_in
  exact (scons_ (asg_ (v_ 0) (gseq_ (gcons_ (gn_ 2 nd) (gcons_ (gn_ 3 nd) (gcons_ (gn_ 4 nd) (gcons_ (gn_ 5 nd) gnil_))))))
    (scons_ (if_ (ltT_ (v_ 1) (add_ (v_ 2) (v_ 3))) (sone_ (ret_ (ix_ (v_ 5) (v_ 1)))) snil_)
    (scons_ (asg_ (div_ (sub_ (v_ 1) (v_ 2)) (v_ 3)) (gn_ 6 nd))
    (sone_ (ret_ (add_ (ix_ (v_ 5) (sub_ (v_ 1) (mul_ (v_ 6) (v_ 3)))) (mul_ (v_ 6) (v_ 4))))))))
/-! gains_by -/
abbrev N_gains_by : List Str := ["paper", "period", "begin", "gains", "number"]
theorem sc_gains_by : FnScope ["paper", "period", "begin", "gains", "number"] ["paper", "period"] (defScope (top 17)) := ⟨rfl, rfl, rfl, by decide +kernel, rfl, by decide +kernel, by decide +kernel⟩
def b_gains_by (c : Cf) : XS c :=
  (.seq (.asg [0] (.ix (.var 0) (.int 0)) (.name 2))
    (.seq (.asg [0, 1, 2] (.comp (.rng2 (.cons (.var 2) (.cons (.add (.var 2) (.ix (.var 0) (.int 1))) .nil))) (.name 4) XT.yes (.sub (.call (F_value_in c) (.cons (.var 0) (.cons (.add (.var 4) (.var 1)) .nil))) (.call (F_value_in c) (.cons (.var 0) (.cons (.var 4) .nil)))) [4] (hvb rfl)) (.name 3))
    (.ret [3] (.ite (.and (.test (.eq (.var 3) (.mul (.lst (.cons (.ix (.var 3) (.int 0)) .nil)) (.len (.cons (.var 3) .nil))))) (.test (.ge (.ix (.var 3) (.int 0)) (.int 0)))) (.ix (.var 3) (.int 0)) .non))))
def F_gains_by (c : Cf) : Fn := runF 2 5 (b_gains_by c)
theorem ok_gains_by (T : Tx c P w mg base) : Dok c P w mg base "gains_by" ["paper", "period"] 2 (F_gains_by c) := by
  obtain ⟨fd, F⟩ := T.d_gains_by
  refine ⟨⟨fd, def_ok F sc_gains_by (b_gains_by c) (by decide) (fun cdv A outer s H E hcd hr => ?_), F.bindsN fun _ _ _ _ _ _ us hl => match us, hl with | [_, _], _ => rfl⟩, T.m_gains_by, F.kp⟩
  have nd := sc_gains_by.nd
  have tk : Takes (cxOf (L2.CX P w) P w c.K mg base ["paper", "period", "begin", "gains", "number"] "gains_by" (defScope (top 17)) (c.A "gains_by") cdv A outer s H E) (fun cls d _ H' => E cls d H') := takes_of rfl rfl rfl rfl
  unfold b_gains_by
  exact (scons_ (asg_ (ix_ (v_ 0) int_) (gn_ 2 nd))
    (scons_ (asgc_ [("number", 4)] nd (rng2_ T.g_range (acons_ (v_ 2) (acons_ (add_ (v_ 2) (ix_ (v_ 0) int_)) anil_))) (blkOk_by (N := N_gains_by) (sc := defScope (top 17)) (by decide +kernel)) (fun _ _ _ _ _ => (gn_ 4 nd)) (fun _ _ _ _ _ => yes_) (fun _ _ _ _ _ => (sub_ (call_ (ok_value_in T) (hr.mono (by decide)) takes0 (acons_ (v_ 0) (acons_ (add_ (v_ 4) (v_ 1)) anil_))) (call_ (ok_value_in T) (hr.mono (by decide)) takes0 (acons_ (v_ 0) (acons_ (v_ 4) anil_))))))
    (sone_ (ret_ (ite_ (and2_ (eqT_ (v_ 3) (mul_ (lst_ (acons_ (ix_ (v_ 3) int_) anil_)) (len_ T.g_len (acons_ (v_ 3) anil_))) hr.units) (and1_ (geT_ (ix_ (v_ 3) int_) int_))).pt (ix_ (v_ 3) int_) non_)))))
/-! least_in -/
abbrev N_least_in : List Str := ["paper", "begin", "parts", "period", "gain", "one", "number"]
theorem sc_least_in : FnScope ["paper", "begin", "parts", "period", "gain", "one", "number"] ["paper"] (defScope (top 18)) := ⟨rfl, rfl, rfl, by decide +kernel, rfl, by decide +kernel, by decide +kernel⟩
def b_least_in (c : Cf) : XS c :=
  (.seq (.asg [0] (.ix (.var 0) (.int 0)) (.name 1))
    (.seq (.asg [0] (.comp (.rng2 (.cons (.int 1) (.cons (.add (.ix (.var 0) (.int 1)) (.int 1)) .nil))) (.name 3) (.test (.eq (.mod (.ix (.var 0) (.int 1)) (.var 3)) (.int 0))) (.var 3) [3] (hvb rfl)) (.name 2))
    (.seq (.asg [0, 2] (.ix (.comp (.seq (.var 2)) (.name 5) (.test (.notN (.call (F_gains_by c) (.cons (.var 0) (.cons (.var 5) .nil))) .non)) (.var 5) [5] (hvb rfl)) (.int 0)) (.name 3))
    (.seq (.asg [0, 3] (.call (F_gains_by c) (.cons (.var 0) (.cons (.var 3) .nil))) (.name 4))
    (.seq (.whl 1000000000000 [0, 1, 3, 4] (.and (.test (.gt (.var 1) (.int 1))) (.test (.eq (.add (.call (F_value_in c) (.cons (.var 0) (.cons (.sub (.var 1) (.int 1)) .nil))) (.var 4)) (.call (F_value_in c) (.cons (.var 0) (.cons (.add (.sub (.var 1) (.int 1)) (.var 3)) .nil)))))) (.asg [1] (.sub (.var 1) (.int 1)) (.name 1)))
    (.ret [0, 1, 3, 4] (.tup (.cons (.var 1) (.cons (.var 3) (.cons (.var 4) (.cons (.comp (.rng1 (.cons (.add (.var 1) (.var 3)) .nil)) (.name 6) XT.yes (.call (F_value_in c) (.cons (.var 0) (.cons (.var 6) .nil))) [6] (hvb rfl)) .nil)))))))))))
def F_least_in (c : Cf) : Fn := runF 1 7 (b_least_in c)
theorem ok_least_in (T : Tx c P w mg base) : Dok c P w mg base "least_in" ["paper"] 3 (F_least_in c) := by
  obtain ⟨fd, F⟩ := T.d_least_in
  refine ⟨⟨fd, def_ok F sc_least_in (b_least_in c) (by decide) (fun cdv A outer s H E hcd hr => ?_), F.bindsN fun _ _ _ _ _ _ us hl => match us, hl with | [_], _ => rfl⟩, T.m_least_in, F.kp⟩
  have nd := sc_least_in.nd
  have tk : Takes (cxOf (L2.CX P w) P w c.K mg base ["paper", "begin", "parts", "period", "gain", "one", "number"] "least_in" (defScope (top 18)) (c.A "least_in") cdv A outer s H E) (fun cls d _ H' => E cls d H') := takes_of rfl rfl rfl rfl
  unfold b_least_in
  exact (scons_ (asg_ (ix_ (v_ 0) int_) (gn_ 1 nd))
    (scons_ (asgc_ [("period", 3)] nd (rng2_ T.g_range (acons_ int_ (acons_ (add_ (ix_ (v_ 0) int_) int_) anil_))) (blkOk_by (N := N_least_in) (sc := defScope (top 18)) (by decide +kernel)) (fun _ _ _ _ _ => (gn_ 3 nd)) (fun _ _ _ _ _ => (ifs_ (eqT_ (mod_ (ix_ (v_ 0) int_) (v_ 3)) int_ hr.units))) (fun _ _ _ _ _ => (v_ 3)))
    (scons_ (asg_ (ix_ (comp_ [("one", 5)] nd (seq_ (v_ 2)) (blkOk_by (N := N_least_in) (sc := defScope (top 18)) (by decide +kernel)) (fun _ _ _ _ _ => (gn_ 5 nd)) (fun _ _ _ _ _ => (ifs_ (notNT_ (call_ (ok_gains_by T) (hr.mono (by decide)) takes0 (acons_ (v_ 0) (acons_ (v_ 5) anil_))) non_))) (fun _ _ _ _ _ => (v_ 5))) int_) (gn_ 3 nd))
    (scons_ (asg_ (call_ (ok_gains_by T) (hr.mono (by decide)) tk (acons_ (v_ 0) (acons_ (v_ 3) anil_))) (gn_ 4 nd))
    (scons_ (while_ 1000000000000 (and2_ (gtT_ (v_ 1) int_) (and1_ (eqT_ (add_ (call_ (ok_value_in T) (hr.mono (by decide)) tk (acons_ (v_ 0) (acons_ (sub_ (v_ 1) int_) anil_))) (v_ 4)) (call_ (ok_value_in T) (hr.mono (by decide)) tk (acons_ (v_ 0) (acons_ (add_ (sub_ (v_ 1) int_) (v_ 3)) anil_))) hr.units))).pt (sone_ (asg_ (sub_ (v_ 1) int_) (gn_ 1 nd))))
    (sone_ (ret_ (tup_ (acons_ (v_ 1) (acons_ (v_ 3) (acons_ (v_ 4) (acons_ (comp_ [("number", 6)] nd (rng1_ T.g_range (acons_ (add_ (v_ 1) (v_ 3)) anil_)) (blkOk_by (N := N_least_in) (sc := defScope (top 18)) (by decide +kernel)) (fun _ _ _ _ _ => (gn_ 6 nd)) (fun _ _ _ _ _ => yes_) (fun _ _ _ _ _ => (call_ (ok_value_in T) (hr.mono (by decide)) takes0 (acons_ (v_ 0) (acons_ (v_ 6) anil_))))) anil_))))))))))))
/-! is_list -/
abbrev N_is_list : List Str := ["thing"]
theorem sc_is_list : FnScope ["thing"] ["thing"] (defScope (top 10)) := ⟨rfl, rfl, rfl, by decide +kernel, rfl, by decide +kernel, by decide +kernel⟩
def b_is_list (c : Cf) : XS c :=
  (.ret [0] (.isi (.cons (.var 0) (.cons (.tup (.cons (.opq (.ty "list")) (.cons (.opq (.ty "tuple")) .nil))) .nil))))
def F_is_list (c : Cf) : Fn := runF 1 1 (b_is_list c)
theorem ok_is_list (T : Tx c P w mg base) : Dok c P w mg base "is_list" ["thing"] 1 (F_is_list c) := by
  obtain ⟨fd, F⟩ := T.d_is_list
  refine ⟨⟨fd, def_ok F sc_is_list (b_is_list c) (by decide) (fun cdv A outer s H E hcd hr => ?_), F.bindsN fun _ _ _ _ _ _ us hl => match us, hl with | [_], _ => rfl⟩, T.m_is_list, F.kp⟩
  have nd := sc_is_list.nd
  have tk : Takes (cxOf (L2.CX P w) P w c.K mg base ["thing"] "is_list" (defScope (top 10)) (c.A "is_list") cdv A outer s H E) (fun cls d _ H' => E cls d H') := takes_of rfl rfl rfl rfl
  unfold b_is_list
  exact (sone_ (ret_ (isi_ T.g_isinstance (acons_ (v_ 0) (acons_ (tup_ (acons_ (gty_ T.g_list (by decide +kernel)) (acons_ (gty_ T.g_tuple (by decide +kernel)) anil_))) anil_)))))
/-! is_integer -/
abbrev N_is_integer : List Str := ["thing"]
theorem sc_is_integer : FnScope ["thing"] ["thing"] (defScope (top 11)) := ⟨rfl, rfl, rfl, by decide +kernel, rfl, by decide +kernel, by decide +kernel⟩
def b_is_integer (c : Cf) : XS c :=
  (.ret [0] (.and (.isi (.cons (.var 0) (.cons (.opq (.ty "int")) .nil))) (.not (.isi (.cons (.var 0) (.cons (.opq (.ty "bool")) .nil))))))
def F_is_integer (c : Cf) : Fn := runF 1 1 (b_is_integer c)
theorem ok_is_integer (T : Tx c P w mg base) : Dok c P w mg base "is_integer" ["thing"] 1 (F_is_integer c) := by
  obtain ⟨fd, F⟩ := T.d_is_integer
  refine ⟨⟨fd, def_ok F sc_is_integer (b_is_integer c) (by decide) (fun cdv A outer s H E hcd hr => ?_), F.bindsN fun _ _ _ _ _ _ us hl => match us, hl with | [_], _ => rfl⟩, T.m_is_integer, F.kp⟩
  have nd := sc_is_integer.nd
  have tk : Takes (cxOf (L2.CX P w) P w c.K mg base ["thing"] "is_integer" (defScope (top 11)) (c.A "is_integer") cdv A outer s H E) (fun cls d _ H' => E cls d H') := takes_of rfl rfl rfl rfl
  unfold b_is_integer
  exact (sone_ (ret_ (andV_ (isi_ T.g_isinstance (acons_ (v_ 0) (acons_ (gty_ T.g_int (by decide +kernel)) anil_))) (one_ (notV_ (isi_ T.g_isinstance (acons_ (v_ 0) (acons_ (gty_ T.g_bool (by decide +kernel)) anil_))))))))
/-! is_number -/
abbrev N_is_number : List Str := ["thing"]
theorem sc_is_number : FnScope ["thing"] ["thing"] (defScope (top 12)) := ⟨rfl, rfl, rfl, by decide +kernel, rfl, by decide +kernel, by decide +kernel⟩
def b_is_number (c : Cf) : XS c :=
  (.ret [0] (.and (.call (F_is_integer c) (.cons (.var 0) .nil)) (.ge (.var 0) (.int 0))))
def F_is_number (c : Cf) : Fn := runF 1 1 (b_is_number c)
theorem ok_is_number (T : Tx c P w mg base) : Dok c P w mg base "is_number" ["thing"] 2 (F_is_number c) := by
  obtain ⟨fd, F⟩ := T.d_is_number
  refine ⟨⟨fd, def_ok F sc_is_number (b_is_number c) (by decide) (fun cdv A outer s H E hcd hr => ?_), F.bindsN fun _ _ _ _ _ _ us hl => match us, hl with | [_], _ => rfl⟩, T.m_is_number, F.kp⟩
  have nd := sc_is_number.nd
  have tk : Takes (cxOf (L2.CX P w) P w c.K mg base ["thing"] "is_number" (defScope (top 12)) (c.A "is_number") cdv A outer s H E) (fun cls d _ H' => E cls d H') := takes_of rfl rfl rfl rfl
  unfold b_is_number
  exact (sone_ (ret_ (andV_ (call_ (ok_is_integer T) (hr.mono (by decide)) tk (acons_ (v_ 0) anil_)) (one_ (ge_ (v_ 0) int_)))))
/-! as_paper -/
abbrev N_as_paper : List Str := ["thing", "begin", "period", "gain", "values", "one"]
theorem sc_as_paper : FnScope ["thing", "begin", "period", "gain", "values", "one"] ["thing"] (defScope (top 14)) := ⟨rfl, rfl, rfl, by decide +kernel, rfl, by decide +kernel, by decide +kernel⟩
def b_as_paper (c : Cf) : XS c :=
  (.seq (.ite [0] (.or (.not (.tru (.call (F_is_list c) (.cons (.var 0) .nil)))) (.or (.test (.ne (.len (.cons (.var 0) .nil)) (.int 4))) (.not (.tru (.all (.cons (.comp (.seq (.sl (.var 0) .none (.some (.int 3)))) (.name 5) XT.yes (.call (F_is_number c) (.cons (.var 5) .nil)) [5] (hvb rfl)) .nil)))))) (.ret [] .non) .pass)
    (.seq (.asg [0] (.var 0) (.seq (.cons (.name 1) (.cons (.name 2) (.cons (.name 3) (.cons (.name 4) .nil))))))
    (.seq (.ite [1, 2, 4] (.or (.test (.lt (.var 1) (.int 1))) (.or (.test (.lt (.var 2) (.int 1))) (.or (.not (.tru (.call (F_is_list c) (.cons (.var 4) .nil)))) (.test (.ne (.len (.cons (.var 4) .nil)) (.add (.var 1) (.var 2))))))) (.ret [] .non) .pass)
    (.seq (.ite [4] (.or (.not (.tru (.all (.cons (.comp (.seq (.var 4)) (.name 5) XT.yes (.call (F_is_number c) (.cons (.var 5) .nil)) [5] (hvb rfl)) .nil)))) (.test (.ne (.ix (.var 4) (.int 0)) (.int 0)))) (.ret [] .non) .pass)
    (.ret [1, 2, 3, 4] (.tup (.cons (.var 1) (.cons (.var 2) (.cons (.var 3) (.cons (.list (.cons (.var 4) .nil)) .nil))))))))))
def F_as_paper (c : Cf) : Fn := runF 1 6 (b_as_paper c)
theorem ok_as_paper (T : Tx c P w mg base) : Dok c P w mg base "as_paper" ["thing"] 3 (F_as_paper c) := by
  obtain ⟨fd, F⟩ := T.d_as_paper
  refine ⟨⟨fd, def_ok F sc_as_paper (b_as_paper c) (by decide) (fun cdv A outer s H E hcd hr => ?_), F.bindsN fun _ _ _ _ _ _ us hl => match us, hl with | [_], _ => rfl⟩, T.m_as_paper, F.kp⟩
  have nd := sc_as_paper.nd
  have tk : Takes (cxOf (L2.CX P w) P w c.K mg base ["thing", "begin", "period", "gain", "values", "one"] "as_paper" (defScope (top 14)) (c.A "as_paper") cdv A outer s H E) (fun cls d _ H' => E cls d H') := takes_of rfl rfl rfl rfl
  unfold b_as_paper
  exact (scons_ (if_ (or2_ (notT_ (tru_ (call_ (ok_is_list T) (hr.mono (by decide)) tk (acons_ (v_ 0) anil_)))) (or2_ (neT_ (len_ T.g_len (acons_ (v_ 0) anil_)) int_ hr.units) (or1_ (notT_ (tru_ (all_ T.g_all (acons_ (comp_ [("one", 5)] nd (seq_ (sl_ (v_ 0) onone_ (osome_ int_))) (blkOk_by (N := N_as_paper) (sc := defScope (top 14)) (by decide +kernel)) (fun _ _ _ _ _ => (gn_ 5 nd)) (fun _ _ _ _ _ => yes_) (fun _ _ _ _ _ => (call_ (ok_is_number T) (hr.mono (by decide)) takes0 (acons_ (v_ 5) anil_)))) anil_))))))).pt (sone_ (ret_ non_)) snil_)
    (scons_ (asg_ (v_ 0) (gseq_ (gcons_ (gn_ 1 nd) (gcons_ (gn_ 2 nd) (gcons_ (gn_ 3 nd) (gcons_ (gn_ 4 nd) gnil_))))))
    (scons_ (if_ (or2_ (ltT_ (v_ 1) int_) (or2_ (ltT_ (v_ 2) int_) (or2_ (notT_ (tru_ (call_ (ok_is_list T) (hr.mono (by decide)) tk (acons_ (v_ 4) anil_)))) (or1_ (neT_ (len_ T.g_len (acons_ (v_ 4) anil_)) (add_ (v_ 1) (v_ 2)) hr.units))))).pt (sone_ (ret_ non_)) snil_)
    (scons_ (if_ (or2_ (notT_ (tru_ (all_ T.g_all (acons_ (comp_ [("one", 5)] nd (seq_ (v_ 4)) (blkOk_by (N := N_as_paper) (sc := defScope (top 14)) (by decide +kernel)) (fun _ _ _ _ _ => (gn_ 5 nd)) (fun _ _ _ _ _ => yes_) (fun _ _ _ _ _ => (call_ (ok_is_number T) (hr.mono (by decide)) takes0 (acons_ (v_ 5) anil_)))) anil_)))) (or1_ (neT_ (ix_ (v_ 4) int_) int_ hr.units))).pt (sone_ (ret_ non_)) snil_)
    (sone_ (ret_ (tup_ (acons_ (v_ 1) (acons_ (v_ 2) (acons_ (v_ 3) (acons_ (list_ T.g_list (acons_ (v_ 4) anil_)) anil_)))))))))))
/-! checked_paper -/
abbrev N_checked_paper : List Str := ["paper", "found"]
theorem sc_checked_paper : FnScope ["paper", "found"] ["paper"] (defScope (top 16)) := ⟨rfl, rfl, rfl, by decide +kernel, rfl, by decide +kernel, by decide +kernel⟩
def b_checked_paper (c : Cf) : XS c :=
  (.seq (.asg [0] (.call (F_as_paper c) (.cons (.var 0) .nil)) (.name 1))
    (.seq (.ite [1] (.test (.isN (.var 1) .non)) (.raise1 "BadPaper" "thing" [0] (.var 0)) .pass)
    (.retV 1)))
def F_checked_paper (c : Cf) : Fn := runF 1 2 (b_checked_paper c)
theorem ok_checked_paper (T : Tx c P w mg base) : Dok c P w mg base "checked_paper" ["paper"] 4 (F_checked_paper c) := by
  obtain ⟨fd, F⟩ := T.d_checked_paper
  refine ⟨⟨fd, def_ok F sc_checked_paper (b_checked_paper c) (by decide) (fun cdv A outer s H E hcd hr => ?_), F.bindsN fun _ _ _ _ _ _ us hl => match us, hl with | [_], _ => rfl⟩, T.m_checked_paper, F.kp⟩
  have nd := sc_checked_paper.nd
  have tk : Takes (cxOf (L2.CX P w) P w c.K mg base ["paper", "found"] "checked_paper" (defScope (top 16)) (c.A "checked_paper") cdv A outer s H E) (fun cls d _ H' => E cls d H') := takes_of rfl rfl rfl rfl
  unfold b_checked_paper
  exact (scons_ (asg_ (call_ (ok_as_paper T) (hr.mono (by decide)) tk (acons_ (v_ 0) anil_)) (gn_ 1 nd))
    (scons_ (if_ (isNT_ (v_ 1) non_) (sone_ (raise_ (T.e_BadPaper) (hr.mono (by decide)) tk (v_ 0))) snil_)
    (sone_ (retV_ 1))))
/-! least_paper -/
abbrev N_least_paper : List Str := ["paper"]
theorem sc_least_paper : FnScope ["paper"] ["paper"] (defScope (top 19)) := ⟨rfl, rfl, rfl, by decide +kernel, rfl, by decide +kernel, by decide +kernel⟩
def b_least_paper (c : Cf) : XS c :=
  (.ret [0] (.call (F_least_in c) (.cons (.call (F_checked_paper c) (.cons (.var 0) .nil)) .nil)))
def F_least_paper (c : Cf) : Fn := runF 1 1 (b_least_paper c)
theorem ok_least_paper (T : Tx c P w mg base) : Dok c P w mg base "least_paper" ["paper"] 5 (F_least_paper c) := by
  obtain ⟨fd, F⟩ := T.d_least_paper
  refine ⟨⟨fd, def_ok F sc_least_paper (b_least_paper c) (by decide) (fun cdv A outer s H E hcd hr => ?_), F.bindsN fun _ _ _ _ _ _ us hl => match us, hl with | [_], _ => rfl⟩, T.m_least_paper, F.kp⟩
  have nd := sc_least_paper.nd
  have tk : Takes (cxOf (L2.CX P w) P w c.K mg base ["paper"] "least_paper" (defScope (top 19)) (c.A "least_paper") cdv A outer s H E) (fun cls d _ H' => E cls d H') := takes_of rfl rfl rfl rfl
  unfold b_least_paper
  exact (sone_ (ret_ (call_ (ok_least_in T) (hr.mono (by decide)) tk (acons_ (call_ (ok_checked_paper T) (hr.mono (by decide)) tk (acons_ (v_ 0) anil_)) anil_))))
/-! papers_part -/
abbrev N_papers_part : List Str := ["paper", "other", "one", "two", "turn", "number"]
theorem sc_papers_part : FnScope ["paper", "other", "one", "two", "turn", "number"] ["paper", "other"] (defScope (top 20)) := ⟨rfl, rfl, rfl, by decide +kernel, rfl, by decide +kernel, by decide +kernel⟩
def b_papers_part (c : Cf) : XS c :=
  (.seq (.par 2 3 [0, 1] (.cons (.call (F_checked_paper c) (.cons (.var 0) .nil)) (.cons (.call (F_checked_paper c) (.cons (.var 1) .nil)) .nil)))
    (.seq (.asg [2, 3] (.div (.mul (.ix (.var 2) (.int 1)) (.ix (.var 3) (.int 1))) (.gcd (.cons (.ix (.var 2) (.int 1)) (.cons (.ix (.var 3) (.int 1)) .nil)))) (.name 4))
    (.seq (.for [2, 3, 4] (.rng1 (.cons (.add (.max2 (.cons (.ix (.var 2) (.int 0)) (.cons (.ix (.var 3) (.int 0)) .nil))) (.mul (.int 2) (.var 4))) .nil)) (.name 5) (.ite [2, 3, 5] (.test (.ne (.call (F_value_in c) (.cons (.var 2) (.cons (.var 5) .nil))) (.call (F_value_in c) (.cons (.var 3) (.cons (.var 5) .nil))))) (.retV 5) .pass))
    (.ret [] .non))))
def F_papers_part (c : Cf) : Fn := runF 2 6 (b_papers_part c)
theorem ok_papers_part (T : Tx c P w mg base) : Dok c P w mg base "papers_part" ["paper", "other"] 5 (F_papers_part c) := by
  obtain ⟨fd, F⟩ := T.d_papers_part
  refine ⟨⟨fd, def_ok F sc_papers_part (b_papers_part c) (by decide) (fun cdv A outer s H E hcd hr => ?_), F.bindsN fun _ _ _ _ _ _ us hl => match us, hl with | [_, _], _ => rfl⟩, T.m_papers_part, F.kp⟩
  have nd := sc_papers_part.nd
  have tk : Takes (cxOf (L2.CX P w) P w c.K mg base ["paper", "other", "one", "two", "turn", "number"] "papers_part" (defScope (top 20)) (c.A "papers_part") cdv A outer s H E) (fun cls d _ H' => E cls d H') := takes_of rfl rfl rfl rfl
  unfold b_papers_part
  exact (scons_ (par_ nd (acons_ (call_ (ok_checked_paper T) (hr.mono (by decide)) tk (acons_ (v_ 0) anil_)) (acons_ (call_ (ok_checked_paper T) (hr.mono (by decide)) tk (acons_ (v_ 1) anil_)) anil_)))
    (scons_ (asg_ (div_ (mul_ (ix_ (v_ 2) int_) (ix_ (v_ 3) int_)) (gcd_ T.b_gcd (acons_ (ix_ (v_ 2) int_) (acons_ (ix_ (v_ 3) int_) anil_)))) (gn_ 4 nd))
    (scons_ (for_ (rng1_ T.g_range (acons_ (add_ (max2_ T.g_max (acons_ (ix_ (v_ 2) int_) (acons_ (ix_ (v_ 3) int_) anil_))) (mul_ int_ (v_ 4))) anil_)) (gn_ 5 nd) (sone_ (if_ (neT_ (call_ (ok_value_in T) (hr.mono (by decide)) tk (acons_ (v_ 2) (acons_ (v_ 5) anil_))) (call_ (ok_value_in T) (hr.mono (by decide)) tk (acons_ (v_ 3) (acons_ (v_ 5) anil_))) hr.units) (sone_ (retV_ 5)) snil_)))
    (sone_ (ret_ non_)))))
/-! _law_draw -/
theorem sc__law_draw : FnScope ["_law_stream", "_law_many", "_law_cell", "_law_digit", "_law_mixed"] ["_law_stream", "_law_many"] (defScope (top 27)) := ⟨rfl, rfl, rfl, by decide +kernel, rfl, by decide +kernel, by decide +kernel⟩
abbrev F__law_draw (c : Cf) : Fn := F_draw c
theorem ok__law_draw (T : Tx c P w mg base) : Dok c P w mg base "_law_draw" ["_law_stream", "_law_many"] 1 (F__law_draw c) := by
  obtain ⟨fd, F⟩ := T.d__law_draw
  refine ⟨⟨fd, draw_ok F sc__law_draw rfl rfl (fun cdv A outer s H E hr => ?_), F.bindsN fun _ _ _ _ _ _ us hl => match us, hl with | [_, _], _ => rfl⟩, T.m__law_draw, F.kp⟩
  have nd := sc__law_draw.nd
  unfold t_draw
  exact pss_cons (setI_ 0 (add_ (ix_ (v_ 0) int_) int_) (pg_sub (v_ (c := c) (W := W0) 0) xn_con set_list))
    (pss_cons (ps_while (passes_of rfl) (and2_ (eqT_ (ix_ (v_ 0) int_) int_ hr.units) (and1_ (neT_ (ix_ (v_ 0) int_) (lst_ anil_) hr.units))).pt
      (pss_cons (popAt_ nd (ix_ (v_ 0) int_)) (pss_cons (setI_ 0 (mod_ (toInt_ T.g_int (acons_ (add_ (add_ (mul_ (ix_ (v_ 0) int_) int_) (v_ 2)) int_) anil_)) int_) (pg_sub (v_ (c := c) (W := W0) 0) xn_con set_list))
        (sone_ (setI_ 0 (ite_ (geT_ (v_ 2) (pow_ int_ int_)) (v_ 2) int_) (pg_sub (v_ (c := c) (W := W0) 0) xn_con set_list))))))
    (pss_cons (if_ (gtT_ (ix_ (v_ 0) int_) int_) (scons_ (asg_ (mod_ (toInt_ T.g_int (acons_ (ix_ (v_ 0) int_) anil_)) (v_ 1)) (gn_ 3 nd)) (scons_ (setI_ 0 (div_ (ix_ (v_ 0) int_) (v_ 1)) (pg_sub (v_ (c := c) (W := W0) 0) xn_con set_list)) (sone_ (ret_ (v_ 3))))) snil_)
    (pss_cons (asg_ (mod_ (toInt_ T.g_int (acons_ (pow_ (add_ (add_ (ix_ (v_ 0) int_) (mul_ int_ (ix_ (v_ 0) int_))) int_) int_) anil_)) int_) (gn_ 4 nd))
    (pss_one (ret_ (mod_ (mod_ (toInt_ T.g_int (acons_ (pow_ (add_ (add_ (mul_ (v_ 4) int_) (mul_ int_ (ix_ (v_ 0) int_))) int_) int_) anil_)) int_) (v_ 1)))))))
/-! _law_pick -/
abbrev N__law_pick : List Str := ["_law_stream", "_law_some"]
theorem sc__law_pick : FnScope ["_law_stream", "_law_some"] ["_law_stream", "_law_some"] (defScope (top 28)) := ⟨rfl, rfl, rfl, by decide +kernel, rfl, by decide +kernel, by decide +kernel⟩
def b__law_pick (c : Cf) : XS c :=
  (.ret [0, 1] (.ix (.var 1) (.call (F__law_draw c) (.cons (.var 0) (.cons (.len (.cons (.var 1) .nil)) .nil)))))
def F__law_pick (c : Cf) : Fn := runF 2 2 (b__law_pick c)
theorem ok__law_pick (T : Tx c P w mg base) : Dok c P w mg base "_law_pick" ["_law_stream", "_law_some"] 2 (F__law_pick c) := by
  obtain ⟨fd, F⟩ := T.d__law_pick
  refine ⟨⟨fd, def_ok F sc__law_pick (b__law_pick c) (by decide) (fun cdv A outer s H E hcd hr => ?_), F.bindsN fun _ _ _ _ _ _ us hl => match us, hl with | [_, _], _ => rfl⟩, T.m__law_pick, F.kp⟩
  have nd := sc__law_pick.nd
  have tk : Takes (cxOf (L2.CX P w) P w c.K mg base ["_law_stream", "_law_some"] "_law_pick" (defScope (top 28)) (c.A "_law_pick") cdv A outer s H E) (fun cls d _ H' => E cls d H') := takes_of rfl rfl rfl rfl
  unfold b__law_pick
  exact (sone_ (ret_ (ix_ (v_ 1) (call_ (ok__law_draw T) (hr.mono (by decide)) tk (acons_ (v_ 0) (acons_ (len_ T.g_len (acons_ (v_ 1) anil_)) anil_))))))
/-! _law_a_told -/
abbrev N__law_a_told : List Str := ["_law_paper", "_law_number", "_law_begin", "_law_period", "_law_gain", "_law_values"]
theorem sc__law_a_told : FnScope ["_law_paper", "_law_number", "_law_begin", "_law_period", "_law_gain", "_law_values"] ["_law_paper", "_law_number"] (defScope (top 22)) := ⟨rfl, rfl, rfl, by decide +kernel, rfl, by decide +kernel, by decide +kernel⟩
def b__law_a_told (c : Cf) : XS c :=
  (.seq (.asg [0] (.var 0) (.seq (.cons (.name 2) (.cons (.name 3) (.cons (.name 4) (.cons (.name 5) .nil))))))
    (.seq (.ite [1, 2, 3] (.test (.lt (.var 1) (.add (.var 2) (.var 3)))) (.ret [1, 5] (.ix (.var 5) (.var 1))) .pass)
    (.ret [1, 2, 3, 4, 5] (.add (.ix (.var 5) (.add (.var 2) (.mod (.toInt (.cons (.sub (.var 1) (.var 2)) .nil)) (.var 3)))) (.mul (.var 4) (.div (.sub (.var 1) (.var 2)) (.var 3)))))))
def F__law_a_told (c : Cf) : Fn := runF 2 6 (b__law_a_told c)
theorem ok__law_a_told (T : Tx c P w mg base) : Dok c P w mg base "_law_a_told" ["_law_paper", "_law_number"] 1 (F__law_a_told c) := by
  obtain ⟨fd, F⟩ := T.d__law_a_told
  refine ⟨⟨fd, def_ok F sc__law_a_told (b__law_a_told c) (by decide) (fun cdv A outer s H E hcd hr => ?_), F.bindsN fun _ _ _ _ _ _ us hl => match us, hl with | [_, _], _ => rfl⟩, T.m__law_a_told, F.kp⟩
  have nd := sc__law_a_told.nd
  have tk : Takes (cxOf (L2.CX P w) P w c.K mg base ["_law_paper", "_law_number", "_law_begin", "_law_period", "_law_gain", "_law_values"] "_law_a_told" (defScope (top 22)) (c.A "_law_a_told") cdv A outer s H E) (fun cls d _ H' => E cls d H') := takes_of rfl rfl rfl rfl
  unfold b__law_a_told
  exact (scons_ (asg_ (v_ 0) (gseq_ (gcons_ (gn_ 2 nd) (gcons_ (gn_ 3 nd) (gcons_ (gn_ 4 nd) (gcons_ (gn_ 5 nd) gnil_))))))
    (scons_ (if_ (ltT_ (v_ 1) (add_ (v_ 2) (v_ 3))) (sone_ (ret_ (ix_ (v_ 5) (v_ 1)))) snil_)
    (sone_ (ret_ (add_ (ix_ (v_ 5) (add_ (v_ 2) (mod_ (toInt_ T.g_int (acons_ (sub_ (v_ 1) (v_ 2)) anil_)) (v_ 3)))) (mul_ (v_ 4) (div_ (sub_ (v_ 1) (v_ 2)) (v_ 3))))))))
/-! _law_is_from -/
abbrev N__law_is_from : List Str := ["_law_told", "_law_paper", "_law_begin", "_law_period", "_law_gain", "_law_number"]
theorem sc__law_is_from : FnScope ["_law_told", "_law_paper", "_law_begin", "_law_period", "_law_gain", "_law_number"] ["_law_told", "_law_paper", "_law_begin", "_law_period", "_law_gain"] (defScope (top 33)) := ⟨rfl, rfl, rfl, by decide +kernel, rfl, by decide +kernel, by decide +kernel⟩
def b__law_is_from (c : Cf) : XS c :=
  (.ret [0, 1, 2, 3, 4] (.all (.cons (.comp (.rng2 (.cons (.var 2) (.cons (.add (.ix (.var 1) (.int 0)) (.ix (.var 1) (.int 1))) .nil))) (.name 5) XT.yes (.eq (.ix (.var 0) (.add (.var 5) (.var 3))) (.add (.ix (.var 0) (.var 5)) (.var 4))) [5] (hvb rfl)) .nil)))
def F__law_is_from (c : Cf) : Fn := runF 5 6 (b__law_is_from c)
theorem ok__law_is_from (T : Tx c P w mg base) : Dok c P w mg base "_law_is_from" ["_law_told", "_law_paper", "_law_begin", "_law_period", "_law_gain"] 1 (F__law_is_from c) := by
  obtain ⟨fd, F⟩ := T.d__law_is_from
  refine ⟨⟨fd, def_ok F sc__law_is_from (b__law_is_from c) (by decide) (fun cdv A outer s H E hcd hr => ?_), F.bindsN fun _ _ _ _ _ _ us hl => match us, hl with | [_, _, _, _, _], _ => rfl⟩, T.m__law_is_from, F.kp⟩
  have nd := sc__law_is_from.nd
  have tk : Takes (cxOf (L2.CX P w) P w c.K mg base ["_law_told", "_law_paper", "_law_begin", "_law_period", "_law_gain", "_law_number"] "_law_is_from" (defScope (top 33)) (c.A "_law_is_from") cdv A outer s H E) (fun cls d _ H' => E cls d H') := takes_of rfl rfl rfl rfl
  unfold b__law_is_from
  exact (sone_ (ret_ (all_ T.g_all (acons_ (comp_ [("_law_number", 5)] nd (rng2_ T.g_range (acons_ (v_ 2) (acons_ (add_ (ix_ (v_ 1) int_) (ix_ (v_ 1) int_)) anil_))) (blkOk_by (N := N__law_is_from) (sc := defScope (top 33)) (by decide +kernel)) (fun _ _ _ _ _ => (gn_ 5 nd)) (fun _ _ _ _ _ => yes_) (fun _ _ _ _ _ => (eq_ (ix_ (v_ 0) (add_ (v_ 5) (v_ 3))) (add_ (ix_ (v_ 0) (v_ 5)) (v_ 4)) hr.units))) anil_))))
/-! _law_least -/
abbrev N__law_least : List Str := ["_law_paper", "_law_told", "_law_period", "_law_gains", "_law_begins", "_law_number", "_law_begin"]
theorem sc__law_least : FnScope ["_law_paper", "_law_told", "_law_period", "_law_gains", "_law_begins", "_law_number", "_law_begin"] ["_law_paper"] (defScope (top 32)) := ⟨rfl, rfl, rfl, by decide +kernel, rfl, by decide +kernel, by decide +kernel⟩
def b__law_least (c : Cf) : XS c :=
  (.seq (.asg [0] (.comp (.rng1 (.cons (.add (.add (.ix (.var 0) (.int 0)) (.mul (.int 3) (.ix (.var 0) (.int 1)))) (.int 2)) .nil)) (.name 5) XT.yes (.call (F__law_a_told c) (.cons (.var 0) (.cons (.var 5) .nil))) [5] (hvb rfl)) (.name 1))
    (.seq (.for [0] (.rng2 (.cons (.int 1) (.cons (.add (.ix (.var 0) (.int 1)) (.int 1)) .nil))) (.name 2) (.seq (.asg [0, 1, 2] (.comp (.rng2 (.cons (.ix (.var 0) (.int 0)) (.cons (.add (.add (.ix (.var 0) (.int 0)) (.ix (.var 0) (.int 1))) (.int 1)) .nil))) (.name 5) XT.yes (.sub (.ix (.var 1) (.add (.var 5) (.var 2))) (.ix (.var 1) (.var 5))) [5] (hvb rfl)) (.name 3))
    (.ite [3] (.and (.test (.eq (.var 3) (.mul (.sl (.var 3) .none (.some (.int 1))) (.len (.cons (.var 3) .nil))))) (.test (.ge (.ix (.var 3) (.int 0)) (.int 0)))) (.seq (.asg [0, 1, 2, 3] (.comp (.rng2 (.cons (.int 1) (.cons (.add (.ix (.var 0) (.int 0)) (.int 1)) .nil))) (.name 6) (.tru (.call (F__law_is_from c) (.cons (.var 1) (.cons (.var 0) (.cons (.var 6) (.cons (.var 2) (.cons (.ix (.var 3) (.int 0)) .nil))))))) (.var 6) [6] (hvb rfl)) (.name 4))
    (.ret [1, 2, 3, 4] (.tup (.cons (.ix (.var 4) (.int 0)) (.cons (.var 2) (.cons (.ix (.var 3) (.int 0)) (.cons (.sl (.var 1) .none (.some (.add (.ix (.var 4) (.int 0)) (.var 2)))) .nil))))))) .pass)))
    (.retV 0)))
def F__law_least (c : Cf) : Fn := runF 1 7 (b__law_least c)
theorem ok__law_least (T : Tx c P w mg base) : Dok c P w mg base "_law_least" ["_law_paper"] 2 (F__law_least c) := by
  obtain ⟨fd, F⟩ := T.d__law_least
  refine ⟨⟨fd, def_ok F sc__law_least (b__law_least c) (by decide) (fun cdv A outer s H E hcd hr => ?_), F.bindsN fun _ _ _ _ _ _ us hl => match us, hl with | [_], _ => rfl⟩, T.m__law_least, F.kp⟩
  have nd := sc__law_least.nd
  have tk : Takes (cxOf (L2.CX P w) P w c.K mg base ["_law_paper", "_law_told", "_law_period", "_law_gains", "_law_begins", "_law_number", "_law_begin"] "_law_least" (defScope (top 32)) (c.A "_law_least") cdv A outer s H E) (fun cls d _ H' => E cls d H') := takes_of rfl rfl rfl rfl
  unfold b__law_least
  exact (scons_ (asg_ (comp_ [("_law_number", 5)] nd (rng1_ T.g_range (acons_ (add_ (add_ (ix_ (v_ 0) int_) (mul_ int_ (ix_ (v_ 0) int_))) int_) anil_)) (blkOk_by (N := N__law_least) (sc := defScope (top 32)) (by decide +kernel)) (fun _ _ _ _ _ => (gn_ 5 nd)) (fun _ _ _ _ _ => yes_) (fun _ _ _ _ _ => (call_ (ok__law_a_told T) (hr.mono (by decide)) takes0 (acons_ (v_ 0) (acons_ (v_ 5) anil_))))) (gn_ 1 nd))
    (scons_ (for_ (rng2_ T.g_range (acons_ int_ (acons_ (add_ (ix_ (v_ 0) int_) int_) anil_))) (gn_ 2 nd) (scons_ (asg_ (comp_ [("_law_number", 5)] nd (rng2_ T.g_range (acons_ (ix_ (v_ 0) int_) (acons_ (add_ (add_ (ix_ (v_ 0) int_) (ix_ (v_ 0) int_)) int_) anil_))) (blkOk_by (N := N__law_least) (sc := defScope (top 32)) (by decide +kernel)) (fun _ _ _ _ _ => (gn_ 5 nd)) (fun _ _ _ _ _ => yes_) (fun _ _ _ _ _ => (sub_ (ix_ (v_ 1) (add_ (v_ 5) (v_ 2))) (ix_ (v_ 1) (v_ 5))))) (gn_ 3 nd))
    (sone_ (if_ (and2_ (eqT_ (v_ 3) (mul_ (sl_ (v_ 3) onone_ (osome_ int_)) (len_ T.g_len (acons_ (v_ 3) anil_))) hr.units) (and1_ (geT_ (ix_ (v_ 3) int_) int_))).pt (scons_ (asgc_ [("_law_begin", 6)] nd (rng2_ T.g_range (acons_ int_ (acons_ (add_ (ix_ (v_ 0) int_) int_) anil_))) (blkOk_by (N := N__law_least) (sc := defScope (top 32)) (by decide +kernel)) (fun _ _ _ _ _ => (gn_ 6 nd)) (fun _ _ _ _ _ => (ifs_ (tru_ (call_ (ok__law_is_from T) (hr.mono (by decide)) takes0 (acons_ (v_ 1) (acons_ (v_ 0) (acons_ (v_ 6) (acons_ (v_ 2) (acons_ (ix_ (v_ 3) int_) anil_))))))))) (fun _ _ _ _ _ => (v_ 6)))
    (sone_ (ret_ (tup_ (acons_ (ix_ (v_ 4) int_) (acons_ (v_ 2) (acons_ (ix_ (v_ 3) int_) (acons_ (sl_ (v_ 1) onone_ (osome_ (add_ (ix_ (v_ 4) int_) (v_ 2)))) anil_)))))))) snil_))))
    (sone_ (retV_ 0))))
/-! _law_loose -/
abbrev N__law_loose : List Str := ["_law_stream", "_law_thing", "_law_found", "_law_part_here"]
theorem sc__law_loose : FnScope ["_law_stream", "_law_thing", "_law_found", "_law_part_here"] ["_law_stream", "_law_thing"] (defScope (top 30)) := ⟨rfl, rfl, rfl, by decide +kernel, rfl, by decide +kernel, by decide +kernel⟩
def b__law_loose (c : Cf) (G : Fn) : XS c :=
  (.seq (.ite [1] (.not (.tru (.isi (.cons (.var 1) (.cons (.tup (.cons (.opq (.ty "list")) (.cons (.opq (.ty "tuple")) .nil))) .nil))))) (.retV 1) .pass)
    (.seq (.asg [0, 1] (.comp (.seq (.var 1)) (.name 3) XT.yes (.call G (.cons (.var 0) (.cons (.var 3) .nil))) [3] (hvb rfl)) (.name 2))
    (.ret [0, 2] (.ite (.test (.eq (.call (F__law_draw c) (.cons (.var 0) (.cons (.int 3) .nil))) (.int 0))) (.var 2) (.tuple (.cons (.var 2) .nil))))))
def Fr__law_loose (c : Cf) : Nat → Fn
  | 0 => fun _ _ => .bad
  | k + 1 => runF 2 4 (b__law_loose c (Fr__law_loose c k))
abbrev F__law_loose (c : Cf) : Fn := Fr__law_loose c 14
theorem okr__law_loose (T : Tx c P w mg base) : ∀ m, Dok c P w mg base "_law_loose" ["_law_stream", "_law_thing"] (2 + m) (Fr__law_loose c m)
  | 0 => by
    obtain ⟨fd, F⟩ := T.d__law_loose
    exact ⟨⟨fd, FnG.no, F.bindsN fun _ _ _ _ _ _ us hl => match us, hl with | [_, _], _ => rfl⟩, T.m__law_loose, F.kp⟩
  | m + 1 => by
    have hG := okr__law_loose T m
    obtain ⟨fd, F⟩ := T.d__law_loose
    refine ⟨⟨fd, def_ok (k := 2 + m) F sc__law_loose (b__law_loose c (Fr__law_loose c m)) (by decide) (fun cdv A outer s H E hcd hr => ?_), F.bindsN fun _ _ _ _ _ _ us hl => match us, hl with | [_, _], _ => rfl⟩, T.m__law_loose, F.kp⟩
    have nd := sc__law_loose.nd
    have tk : Takes (cxOf (L2.CX P w) P w c.K mg base ["_law_stream", "_law_thing", "_law_found", "_law_part_here"] "_law_loose" (defScope (top 30)) (c.A "_law_loose") cdv A outer s H E) (fun cls d _ H' => E cls d H') := takes_of rfl rfl rfl rfl
    unfold b__law_loose
    exact (scons_ (if_ (notT_ (tru_ (isi_ T.g_isinstance (acons_ (v_ 1) (acons_ (tup_ (acons_ (gty_ T.g_list (by decide +kernel)) (acons_ (gty_ T.g_tuple (by decide +kernel)) anil_))) anil_))))) (sone_ (retV_ 1)) snil_)
    (scons_ (asgc_ [("_law_part_here", 3)] nd (seq_ (v_ 1)) (blkOk_by (N := N__law_loose) (sc := defScope (top 30)) (by decide +kernel)) (fun _ _ _ _ _ => (gn_ 3 nd)) (fun _ _ _ _ _ => yes_) (fun _ _ _ _ _ => (call_ hG (hr.mono (by omega)) takes0 (acons_ (v_ 0) (acons_ (v_ 3) anil_)))))
    (sone_ (ret_ (ite_ (eqT_ (call_ (ok__law_draw T) (hr.mono (by omega)) tk (acons_ (v_ 0) (acons_ int_ anil_))) int_ hr.units) (v_ 2) (tuple_ T.g_tuple (acons_ (v_ 2) anil_)))))))
theorem ok__law_loose (T : Tx c P w mg base) : Dok c P w mg base "_law_loose" ["_law_stream", "_law_thing"] 16 (F__law_loose c) := okr__law_loose T 14
/-! _law_c_paper -/
abbrev N__law_c_paper : List Str := ["_law_stream", "_law_far", "_law_gains", "_law_begin", "_law_period", "_law_some", "_law_values", "_law_number"]
theorem sc__law_c_paper : FnScope ["_law_stream", "_law_far", "_law_gains", "_law_begin", "_law_period", "_law_some", "_law_values", "_law_number"] ["_law_stream", "_law_far", "_law_gains"] (defScope (top 23)) := ⟨rfl, rfl, rfl, by decide +kernel, rfl, by decide +kernel, by decide +kernel⟩
def b__law_c_paper (c : Cf) : XS c :=
  (.seq (.par 3 4 [0, 1] (.cons (.add (.int 1) (.call (F__law_draw c) (.cons (.var 0) (.cons (.var 1) .nil)))) (.cons (.add (.int 1) (.call (F__law_draw c) (.cons (.var 0) (.cons (.var 1) .nil)))) .nil)))
    (.seq (.asg [0] (.add (.int 1) (.call (F__law_draw c) (.cons (.var 0) (.cons (.int 4) .nil)))) (.name 5))
    (.seq (.asg [0, 3, 4, 5] (.add (.lst (.cons (.int 0) .nil)) (.comp (.rng1 (.cons (.sub (.add (.var 3) (.var 4)) (.int 1)) .nil)) (.name 7) XT.yes (.call (F__law_draw c) (.cons (.var 0) (.cons (.var 5) .nil))) [7] (hvb rfl))) (.name 6))
    (.ret [0, 2, 3, 4, 6] (.tup (.cons (.var 3) (.cons (.var 4) (.cons (.call (F__law_draw c) (.cons (.var 0) (.cons (.var 2) .nil))) (.cons (.var 6) .nil)))))))))
def F__law_c_paper (c : Cf) : Fn := runF 3 8 (b__law_c_paper c)
theorem ok__law_c_paper (T : Tx c P w mg base) : Dok c P w mg base "_law_c_paper" ["_law_stream", "_law_far", "_law_gains"] 2 (F__law_c_paper c) := by
  obtain ⟨fd, F⟩ := T.d__law_c_paper
  refine ⟨⟨fd, def_ok F sc__law_c_paper (b__law_c_paper c) (by decide) (fun cdv A outer s H E hcd hr => ?_), F.bindsN fun _ _ _ _ _ _ us hl => match us, hl with | [_, _, _], _ => rfl⟩, T.m__law_c_paper, F.kp⟩
  have nd := sc__law_c_paper.nd
  have tk : Takes (cxOf (L2.CX P w) P w c.K mg base ["_law_stream", "_law_far", "_law_gains", "_law_begin", "_law_period", "_law_some", "_law_values", "_law_number"] "_law_c_paper" (defScope (top 23)) (c.A "_law_c_paper") cdv A outer s H E) (fun cls d _ H' => E cls d H') := takes_of rfl rfl rfl rfl
  unfold b__law_c_paper
  exact (scons_ (par_ nd (acons_ (add_ int_ (call_ (ok__law_draw T) (hr.mono (by decide)) tk (acons_ (v_ 0) (acons_ (v_ 1) anil_)))) (acons_ (add_ int_ (call_ (ok__law_draw T) (hr.mono (by decide)) tk (acons_ (v_ 0) (acons_ (v_ 1) anil_)))) anil_)))
    (scons_ (asg_ (add_ int_ (call_ (ok__law_draw T) (hr.mono (by decide)) tk (acons_ (v_ 0) (acons_ int_ anil_)))) (gn_ 5 nd))
    (scons_ (asg_ (add_ (lst_ (acons_ int_ anil_)) (comp_ [("_law_number", 7)] nd (rng1_ T.g_range (acons_ (sub_ (add_ (v_ 3) (v_ 4)) int_) anil_)) (blkOk_by (N := N__law_c_paper) (sc := defScope (top 23)) (by decide +kernel)) (fun _ _ _ _ _ => (gn_ 7 nd)) (fun _ _ _ _ _ => yes_) (fun _ _ _ _ _ => (call_ (ok__law_draw T) (hr.mono (by decide)) takes0 (acons_ (v_ 0) (acons_ (v_ 5) anil_)))))) (gn_ 6 nd))
    (sone_ (ret_ (tup_ (acons_ (v_ 3) (acons_ (v_ 4) (acons_ (call_ (ok__law_draw T) (hr.mono (by decide)) tk (acons_ (v_ 0) (acons_ (v_ 2) anil_))) (acons_ (v_ 6) anil_))))))))))
/-! _law_led -/
abbrev N__law_led : List Str := ["_law_stream", "_law_paper", "_law_begin", "_law_many", "_law_values", "_law_number"]
theorem sc__law_led : FnScope ["_law_stream", "_law_paper", "_law_begin", "_law_many", "_law_values", "_law_number"] ["_law_stream", "_law_paper"] (defScope (top 31)) := ⟨rfl, rfl, rfl, by decide +kernel, rfl, by decide +kernel, by decide +kernel⟩
def b__law_led (c : Cf) : XS c :=
  (.seq (.par 2 3 [0, 1] (.cons (.add (.ix (.var 1) (.int 0)) (.call (F__law_draw c) (.cons (.var 0) (.cons (.int 6) .nil)))) (.cons (.add (.int 1) (.call (F__law_draw c) (.cons (.var 0) (.cons (.int 4) .nil)))) .nil)))
    (.seq (.asg [1, 2, 3] (.comp (.rng1 (.cons (.add (.var 2) (.mul (.var 3) (.ix (.var 1) (.int 1)))) .nil)) (.name 5) XT.yes (.call (F__law_a_told c) (.cons (.var 1) (.cons (.var 5) .nil))) [5] (hvb rfl)) (.name 4))
    (.ret [1, 2, 3, 4] (.tup (.cons (.var 2) (.cons (.mul (.var 3) (.ix (.var 1) (.int 1))) (.cons (.mul (.var 3) (.ix (.var 1) (.int 2))) (.cons (.var 4) .nil))))))))
def F__law_led (c : Cf) : Fn := runF 2 6 (b__law_led c)
theorem ok__law_led (T : Tx c P w mg base) : Dok c P w mg base "_law_led" ["_law_stream", "_law_paper"] 2 (F__law_led c) := by
  obtain ⟨fd, F⟩ := T.d__law_led
  refine ⟨⟨fd, def_ok F sc__law_led (b__law_led c) (by decide) (fun cdv A outer s H E hcd hr => ?_), F.bindsN fun _ _ _ _ _ _ us hl => match us, hl with | [_, _], _ => rfl⟩, T.m__law_led, F.kp⟩
  have nd := sc__law_led.nd
  have tk : Takes (cxOf (L2.CX P w) P w c.K mg base ["_law_stream", "_law_paper", "_law_begin", "_law_many", "_law_values", "_law_number"] "_law_led" (defScope (top 31)) (c.A "_law_led") cdv A outer s H E) (fun cls d _ H' => E cls d H') := takes_of rfl rfl rfl rfl
  unfold b__law_led
  exact (scons_ (par_ nd (acons_ (add_ (ix_ (v_ 1) int_) (call_ (ok__law_draw T) (hr.mono (by decide)) tk (acons_ (v_ 0) (acons_ int_ anil_)))) (acons_ (add_ int_ (call_ (ok__law_draw T) (hr.mono (by decide)) tk (acons_ (v_ 0) (acons_ int_ anil_)))) anil_)))
    (scons_ (asgc_ [("_law_number", 5)] nd (rng1_ T.g_range (acons_ (add_ (v_ 2) (mul_ (v_ 3) (ix_ (v_ 1) int_))) anil_)) (blkOk_by (N := N__law_led) (sc := defScope (top 31)) (by decide +kernel)) (fun _ _ _ _ _ => (gn_ 5 nd)) (fun _ _ _ _ _ => yes_) (fun _ _ _ _ _ => (call_ (ok__law_a_told T) (hr.mono (by decide)) takes0 (acons_ (v_ 1) (acons_ (v_ 5) anil_)))))
    (sone_ (ret_ (tup_ (acons_ (v_ 2) (acons_ (mul_ (v_ 3) (ix_ (v_ 1) int_)) (acons_ (mul_ (v_ 3) (ix_ (v_ 1) int_)) (acons_ (v_ 4) anil_)))))))))
/-! _law_part -/
abbrev N__law_part : List Str := ["_law_one", "_law_two", "_law_number"]
theorem sc__law_part : FnScope ["_law_one", "_law_two", "_law_number"] ["_law_one", "_law_two"] (defScope (top 34)) := ⟨rfl, rfl, rfl, by decide +kernel, rfl, by decide +kernel, by decide +kernel⟩
def b__law_part (c : Cf) : XS c :=
  (.seq (.for [0, 1] (.rng1 (.cons (.add (.max2 (.cons (.ix (.var 0) (.int 0)) (.cons (.ix (.var 1) (.int 0)) .nil))) (.mul (.mul (.int 2) (.ix (.var 0) (.int 1))) (.ix (.var 1) (.int 1)))) .nil)) (.name 2) (.ite [0, 1, 2] (.test (.ne (.call (F__law_a_told c) (.cons (.var 0) (.cons (.var 2) .nil))) (.call (F__law_a_told c) (.cons (.var 1) (.cons (.var 2) .nil))))) (.retV 2) .pass))
    (.ret [] .non))
def F__law_part (c : Cf) : Fn := runF 2 3 (b__law_part c)
theorem ok__law_part (T : Tx c P w mg base) : Dok c P w mg base "_law_part" ["_law_one", "_law_two"] 2 (F__law_part c) := by
  obtain ⟨fd, F⟩ := T.d__law_part
  refine ⟨⟨fd, def_ok F sc__law_part (b__law_part c) (by decide) (fun cdv A outer s H E hcd hr => ?_), F.bindsN fun _ _ _ _ _ _ us hl => match us, hl with | [_, _], _ => rfl⟩, T.m__law_part, F.kp⟩
  have nd := sc__law_part.nd
  have tk : Takes (cxOf (L2.CX P w) P w c.K mg base ["_law_one", "_law_two", "_law_number"] "_law_part" (defScope (top 34)) (c.A "_law_part") cdv A outer s H E) (fun cls d _ H' => E cls d H') := takes_of rfl rfl rfl rfl
  unfold b__law_part
  exact (scons_ (for_ (rng1_ T.g_range (acons_ (add_ (max2_ T.g_max (acons_ (ix_ (v_ 0) int_) (acons_ (ix_ (v_ 1) int_) anil_))) (mul_ (mul_ int_ (ix_ (v_ 0) int_)) (ix_ (v_ 1) int_))) anil_)) (gn_ 2 nd) (sone_ (if_ (neT_ (call_ (ok__law_a_told T) (hr.mono (by decide)) tk (acons_ (v_ 0) (acons_ (v_ 2) anil_))) (call_ (ok__law_a_told T) (hr.mono (by decide)) tk (acons_ (v_ 1) (acons_ (v_ 2) anil_))) hr.units) (sone_ (retV_ 2)) snil_)))
    (sone_ (ret_ non_)))
/-! _law_right -/
abbrev N__law_right : List Str := ["_law_stream", "_law_paper", "_law_due", "_law_led_here", "_law_one", "_law_passed", "_law_was", "_law_again", "_law_found", "_law_others", "_law_begin", "_law_period", "_law_gain", "_law_values", "_law_at", "_law_other", "_law_k"]
theorem sc__law_right : FnScope ["_law_stream", "_law_paper", "_law_due", "_law_led_here", "_law_one", "_law_passed", "_law_was", "_law_again", "_law_found", "_law_others", "_law_begin", "_law_period", "_law_gain", "_law_values", "_law_at", "_law_other", "_law_k"] ["_law_stream", "_law_paper"] (defScope (top 35)) := ⟨rfl, rfl, rfl, by decide +kernel, rfl, by decide +kernel, by decide +kernel⟩
def b__law_right (c : Cf) : XS c :=
  (.seq (.par 2 3 [0, 1] (.cons (.call (F__law_least c) (.cons (.var 1) .nil)) (.cons (.add (.lst (.cons (.var 1) .nil)) (.comp (.rng1 (.cons (.int 3) .nil)) (.name 16) XT.yes (.call (F__law_led c) (.cons (.var 0) (.cons (.var 1) .nil))) [16] (hvb rfl))) .nil)))
    (.seq (.for [3] (.seq (.var 3)) (.name 4) (.seq (.asg [0, 4] (.call (F__law_loose c) (.cons (.var 0) (.cons (.var 4) .nil))) (.name 5))
    (.seq (.asg [5] (.repr (.cons (.var 5) .nil)) (.name 6))
    (.for [] (.rng1 (.cons (.int 2) .nil)) (.name 7) (.seq (.asg [5] (.call (F_least_paper c) (.cons (.var 5) .nil)) (.name 8))
    (.seq (.ite [2, 5, 6, 8] (.or (.not (.tru (.call (F__law_same c) (.cons (.var 8) (.cons (.var 2) .nil))))) (.test (.ne (.repr (.cons (.var 5) .nil)) (.var 6)))) (.ret [] (.bl false)) .pass)
    (.spoil 8 3 "late")))))))
    (.seq (.asg [0, 2, 3] (.add (.var 3) (.lst (.cons (.call (F__law_c_paper c) (.cons (.var 0) (.cons (.int 8) (.cons (.int 3) .nil)))) (.cons (.var 2) .nil)))) (.name 9))
    (.seq (.asg [0, 3] (.call (F__law_pick c) (.cons (.var 0) (.cons (.var 3) .nil))) (.seq (.cons (.name 10) (.cons (.name 11) (.cons (.name 12) (.cons (.name 13) .nil))))))
    (.seq (.asg [0, 10, 11] (.add (.int 1) (.call (F__law_draw c) (.cons (.var 0) (.cons (.sub (.add (.var 10) (.var 11)) (.int 1)) .nil)))) (.name 14))
    (.seq (.app 9 [10, 11, 12, 13, 14] (.tup (.cons (.var 10) (.cons (.var 11) (.cons (.var 12) (.cons (.add (.add (.sl (.var 13) .none (.some (.var 14))) (.lst (.cons (.add (.ix (.var 13) (.var 14)) (.int 1)) .nil))) (.sl (.var 13) (.some (.add (.var 14) (.int 1))) .none)) .nil))))))
    (.seq (.app 9 [10, 11, 12, 13] (.tup (.cons (.var 10) (.cons (.var 11) (.cons (.add (.var 12) (.int 1)) (.cons (.var 13) .nil))))))
    (.seq (.for [9] (.seq (.var 9)) (.name 15) (.seq (.asg [0, 3] (.call (F__law_pick c) (.cons (.var 0) (.cons (.var 3) .nil))) (.name 4))
    (.seq (.asg [0, 4, 15] (.lst (.cons (.call (F__law_loose c) (.cons (.var 0) (.cons (.var 4) .nil))) (.cons (.call (F__law_loose c) (.cons (.var 0) (.cons (.var 15) .nil))) .nil))) (.name 5))
    (.seq (.asg [5] (.lst (.cons (.call (F_papers_part c) (.cons (.ix (.var 5) (.int 0)) (.cons (.ix (.var 5) (.int 1)) .nil))) (.cons (.call (F_papers_part c) (.cons (.ix (.var 5) (.int 1)) (.cons (.ix (.var 5) (.int 0)) .nil))) .nil))) (.name 8))
    (.ite [4, 8, 15] (.not (.tru (.call (F__law_same c) (.cons (.var 8) (.cons (.mul (.lst (.cons (.call (F__law_part c) (.cons (.var 4) (.cons (.var 15) .nil))) .nil)) (.int 2)) .nil))))) (.ret [] (.bl false)) .pass)))))
    (.ret [] (.bl true))))))))))
def F__law_right (c : Cf) : Fn := runF 2 17 (b__law_right c)
theorem ok__law_right (T : Tx c P w mg base) : Dok c P w mg base "_law_right" ["_law_stream", "_law_paper"] 17 (F__law_right c) := by
  obtain ⟨fd, F⟩ := T.d__law_right
  refine ⟨⟨fd, def_ok F sc__law_right (b__law_right c) (by decide) (fun cdv A outer s H E hcd hr => ?_), F.bindsN fun _ _ _ _ _ _ us hl => match us, hl with | [_, _], _ => rfl⟩, T.m__law_right, F.kp⟩
  have nd := sc__law_right.nd
  have tk : Takes (cxOf (L2.CX P w) P w c.K mg base ["_law_stream", "_law_paper", "_law_due", "_law_led_here", "_law_one", "_law_passed", "_law_was", "_law_again", "_law_found", "_law_others", "_law_begin", "_law_period", "_law_gain", "_law_values", "_law_at", "_law_other", "_law_k"] "_law_right" (defScope (top 35)) (c.A "_law_right") cdv A outer s H E) (fun cls d _ H' => E cls d H') := takes_of rfl rfl rfl rfl
  unfold b__law_right
  exact (scons_ (par_ nd (acons_ (call_ (ok__law_least T) (hr.mono (by decide)) tk (acons_ (v_ 1) anil_)) (acons_ (add_ (lst_ (acons_ (v_ 1) anil_)) (comp_ [("_law_k", 16)] nd (rng1_ T.g_range (acons_ int_ anil_)) (blkOk_by (N := N__law_right) (sc := defScope (top 35)) (by decide +kernel)) (fun _ _ _ _ _ => (gn_ 16 nd)) (fun _ _ _ _ _ => yes_) (fun _ _ _ _ _ => (call_ (ok__law_led T) (hr.mono (by decide)) takes0 (acons_ (v_ 0) (acons_ (v_ 1) anil_)))))) anil_)))
    (scons_ (for_ (seq_ (v_ 3)) (gn_ 4 nd) (scons_ (asg_ (call_ (ok__law_loose T) (hr.mono (by decide)) tk (acons_ (v_ 0) (acons_ (v_ 4) anil_))) (gn_ 5 nd))
    (scons_ (asg_ (repr_ T.g_repr hr hr.g (acons_ (v_ 5) anil_)) (gn_ 6 nd))
    (sone_ (for_ (rng1_ T.g_range (acons_ int_ anil_)) (gn_ 7 nd) (scons_ (asg_ (call_ (ok_least_paper T) (hr.mono (by decide)) tk (acons_ (v_ 5) anil_)) (gn_ 8 nd))
    (scons_ (if_ (or2_ (notT_ (tru_ (call_ (ok__law_same T) (hr.mono (by decide)) tk (acons_ (v_ 8) (acons_ (v_ 2) anil_))))) (or1_ (neT_ (repr_ T.g_repr hr hr.g (acons_ (v_ 5) anil_)) (v_ 6) hr.units))).pt (sone_ (ret_ bl_)) snil_)
    (sone_ (spoil_ 8)))))))))
    (scons_ (asg_ (add_ (v_ 3) (lst_ (acons_ (call_ (ok__law_c_paper T) (hr.mono (by decide)) tk (acons_ (v_ 0) (acons_ int_ (acons_ int_ anil_)))) (acons_ (v_ 2) anil_)))) (gn_ 9 nd))
    (scons_ (asg_ (call_ (ok__law_pick T) (hr.mono (by decide)) tk (acons_ (v_ 0) (acons_ (v_ 3) anil_))) (gseq_ (gcons_ (gn_ 10 nd) (gcons_ (gn_ 11 nd) (gcons_ (gn_ 12 nd) (gcons_ (gn_ 13 nd) gnil_))))))
    (scons_ (asg_ (add_ int_ (call_ (ok__law_draw T) (hr.mono (by decide)) tk (acons_ (v_ 0) (acons_ (sub_ (add_ (v_ 10) (v_ 11)) int_) anil_)))) (gn_ 14 nd))
    (scons_ (app_ 9 (tup_ (acons_ (v_ 10) (acons_ (v_ 11) (acons_ (v_ 12) (acons_ (add_ (add_ (sl_ (v_ 13) onone_ (osome_ (v_ 14))) (lst_ (acons_ (add_ (ix_ (v_ 13) (v_ 14)) int_) anil_))) (sl_ (v_ 13) (osome_ (add_ (v_ 14) int_)) onone_)) anil_))))))
    (scons_ (app_ 9 (tup_ (acons_ (v_ 10) (acons_ (v_ 11) (acons_ (add_ (v_ 12) int_) (acons_ (v_ 13) anil_))))))
    (scons_ (for_ (seq_ (v_ 9)) (gn_ 15 nd) (scons_ (asg_ (call_ (ok__law_pick T) (hr.mono (by decide)) tk (acons_ (v_ 0) (acons_ (v_ 3) anil_))) (gn_ 4 nd))
    (scons_ (asg_ (lst_ (acons_ (call_ (ok__law_loose T) (hr.mono (by decide)) tk (acons_ (v_ 0) (acons_ (v_ 4) anil_))) (acons_ (call_ (ok__law_loose T) (hr.mono (by decide)) tk (acons_ (v_ 0) (acons_ (v_ 15) anil_))) anil_))) (gn_ 5 nd))
    (scons_ (asg_ (lst_ (acons_ (call_ (ok_papers_part T) (hr.mono (by decide)) tk (acons_ (ix_ (v_ 5) int_) (acons_ (ix_ (v_ 5) int_) anil_))) (acons_ (call_ (ok_papers_part T) (hr.mono (by decide)) tk (acons_ (ix_ (v_ 5) int_) (acons_ (ix_ (v_ 5) int_) anil_))) anil_))) (gn_ 8 nd))
    (sone_ (if_ (notT_ (tru_ (call_ (ok__law_same T) (hr.mono (by decide)) tk (acons_ (v_ 8) (acons_ (mul_ (lst_ (acons_ (call_ (ok__law_part T) (hr.mono (by decide)) tk (acons_ (v_ 4) (acons_ (v_ 15) anil_))) anil_)) int_) anil_))))) (sone_ (ret_ bl_)) snil_))))))
    (sone_ (ret_ bl_))))))))))
/-! _law_c_met -/
def ms__law_c_met : List Mcl := [⟨"BadBook", some 1, "book", [.fld "thing"]⟩, ⟨"BadPaper", some 1, "paper", [.fld "thing"]⟩, ⟨"BadNumber", some 1, "number", [.fld "thing"]⟩, ⟨"BadPeriod", some 1, "period", [.fld "thing"]⟩, ⟨"BadHeap", some 1, "heap", [.fld "thing"]⟩, ⟨"Grows", none, "grows", [.k 0]⟩]
theorem sc__law_c_met : FnScope ["_law_ask", "e"] ["_law_ask"] (defScope (top 25)) := ⟨rfl, rfl, rfl, by decide +kernel, rfl, by decide +kernel, by decide +kernel⟩
theorem ok__law_c_met (T : Tx c P w mg base) : Mok c P w mg base "_law_c_met" "_law_ask" ["_law_ask", "e"] ms__law_c_met := by
  obtain ⟨fd, F⟩ := T.d__law_c_met
  refine ⟨⟨defArgs (top 25), defBody (top 25), defScope (top 25), fd, F, F.bindsN fun _ _ _ _ _ _ us hl => match us, hl with | [_], _ => rfl, sc__law_c_met, rfl, .inl rfl, fun cdg A outer s H E0 ta act => ?_⟩, T.m__law_c_met, F.kp⟩
  unfold ms__law_c_met
  exact met_body rfl rfl sc__law_c_met.nd rfl act (clsN_ (i := 1) rfl T.m_BadBook rfl rfl (fun a oe cls d pn hz hf => (pa_cons (plf_ T.x_BadBook T.n_BadBook_thing hz hf rfl (.inl rfl)) pa_nil))
      (clsN_ (i := 1) rfl T.m_BadPaper rfl rfl (fun a oe cls d pn hz hf => (pa_cons (plf_ T.x_BadPaper T.n_BadPaper_thing hz hf rfl (.inl rfl)) pa_nil))
      (clsN_ (i := 1) rfl T.m_BadNumber rfl rfl (fun a oe cls d pn hz hf => (pa_cons (plf_ T.x_BadNumber T.n_BadNumber_thing hz hf rfl (.inl rfl)) pa_nil))
      (clsN_ (i := 1) rfl T.m_BadPeriod rfl rfl (fun a oe cls d pn hz hf => (pa_cons (plf_ T.x_BadPeriod T.n_BadPeriod_thing hz hf rfl (.inl rfl)) pa_nil))
      (clsN_ (i := 1) rfl T.m_BadHeap rfl rfl (fun a oe cls d pn hz hf => (pa_cons (plf_ T.x_BadHeap T.n_BadHeap_thing hz hf rfl (.inl rfl)) pa_nil))
      (clsB_ rfl T.m_Grows (fun a oe cls d pn hz hf => (pa_cons pe_int pa_nil))
      clsE_))))))
/-! law -/
theorem sc_law : FnScope ["_law_script", "_law_stream", "_law_turn", "_law_paper", "_law_odd", "_law_found"] ["_law_script"] (defScope (top 36)) := ⟨rfl, rfl, rfl, by decide +kernel, rfl, by decide +kernel, by decide +kernel⟩
def b_law (c : Cf) : XS c :=
  (.seq (.for [] (.rng1 (.cons (.int 8) .nil)) (.name 2) (.ite [1] (.not (.tru (.call (F__law_right c) (.cons (.var 1) (.cons (.call (F__law_c_paper c) (.cons (.var 1) (.cons (.int 7) (.cons (.int 2) .nil)))) .nil))))) (.ret [] (.bl false)) .pass))
    (.seq (.asg [] (.tup (.cons (.int 1) (.cons (.int 1) (.cons (.int 0) (.cons (.lst (.cons (.int 0) (.cons (.int 0) .nil))) .nil))))) (.name 3))
    (.seq (.for [] (.seq (.call (F__law_c_odd c) .nil)) (.name 4) (.seq (.asg [4] (.lst (.cons (.met (He.cT c.K ("law", none)).2 ("law" ++ ".<locals>." ++ "<lambda>") 2 ms__law_c_met (.call (F_least_paper c) (.cons (.var 4) .nil))) .nil)) (.name 5))
    (.seq (.app 5 [4] (.met (He.cT c.K ("law", none)).2 ("law" ++ ".<locals>." ++ "<lambda>") 2 ms__law_c_met (.call (F_papers_part c) (.cons (.var 4) (.cons .non .nil)))))
    (.seq (.app 5 [3, 4] (.met (He.cT c.K ("law", none)).2 ("law" ++ ".<locals>." ++ "<lambda>") 2 ms__law_c_met (.call (F_papers_part c) (.cons (.var 3) (.cons (.var 4) .nil)))))
    (.ite [4, 5] (.not (.tru (.call (F__law_same c) (.cons (.var 5) (.cons (.mul (.lst (.cons (.tup (.cons (.str "paper") (.cons (.var 4) .nil))) .nil)) (.int 3)) .nil))))) (.ret [] (.bl false)) .pass)))))
    (.seq (.asg [3] (.lst (.cons (.call (F_least_paper c) (.cons (.tup (.cons (.int 4) (.cons (.int 6) (.cons (.int 0) (.cons (.lst (.cons (.int 0) (.cons (.int 1) (.cons (.int 2) (.cons (.int 1) (.cons (.int 2) (.cons (.int 1) (.cons (.int 2) (.cons (.int 1) (.cons (.int 2) (.cons (.int 1) .nil))))))))))) .nil))))) .nil)) (.cons (.call (F_papers_part c) (.cons (.var 3) (.cons (.tup (.cons (.int 1) (.cons (.int 1) (.cons (.int 1) (.cons (.lst (.cons (.int 0) (.cons (.int 0) .nil))) .nil))))) .nil))) .nil))) (.name 5))
    (.ret [5] (.call (F__law_same c) (.cons (.var 5) (.cons (.lst (.cons (.tup (.cons (.int 1) (.cons (.int 2) (.cons (.int 0) (.cons (.lst (.cons (.int 0) (.cons (.int 1) (.cons (.int 2) .nil)))) .nil))))) (.cons (.int 2) .nil))) .nil))))))))
theorem ok_law (T0 : Tx c P w mg base)
    (hb : ∀ (x y : Addr) (ns : List Int), ns.length ≤ 63 → ∃ s', (b_law (c.at x y)).ev ⟨ns, 0, 0, 11⟩ (lawEnv 6 x) = .ok (.rt (.bl true)) s')
    {fd : FuncData} (F : FunD c.K "law" "law" (defArgs (top 36)) (defBody (top 36)) (defScope (top 36)) [] [] (c.A "law") fd) : FnG P w c.K mg base 20 (c.A "law") fd ["_law_script"] (spLaw c) := by
  obtain ⟨fs, s1, s2, s3⟩ := ok__law_start T0
  refine law_ok (b := b_law) F sc_law (by decide) (fun cdv A outer s H E hcd hr => ?_) hb
  have nd := sc_law.nd
  have tk : Takes (cxOf (L2.CX P w) P w c.K mg base ["_law_script", "_law_stream", "_law_turn", "_law_paper", "_law_odd", "_law_found"] "law" (defScope (top 36)) (c.A "law") cdv A outer s H E) (fun cls d _ H' => E cls d H') := takes_of rfl rfl rfl rfl
  refine pss_cons (ps_asg (pe_callG s1 (hr.mono (by decide)) rfl T0.m__law_start s3 s2 (fun σ => passAt tk σ) (pa_cons (v_ (c := c) (W := W0) 0) pa_nil)) (gn_ (c := c) 1 nd)) (pss_ex fun x y => ?_)
  have T : Tx (c.at x y) P w mg base := T0.at x y
  have hk := T.cd_law _ hcd
  unfold b_law
  exact (scons_ (for_ (rng1_ T.g_range (acons_ int_ anil_)) (gn_ 2 nd) (sone_ (if_ (notT_ (tru_ (call_ (ok__law_right T) (hr.mono (by decide)) tk (acons_ (v_ 1) (acons_ (call_ (ok__law_c_paper T) (hr.mono (by decide)) tk (acons_ (v_ 1) (acons_ int_ (acons_ int_ anil_)))) anil_))))) (sone_ (ret_ bl_)) snil_)))
    (scons_ (asg_ (tup_ (acons_ int_ (acons_ int_ (acons_ int_ (acons_ (lst_ (acons_ int_ (acons_ int_ anil_))) anil_))))) (gn_ 3 nd))
    (scons_ (for_ (seq_ (call0_ (ok__law_c_odd T) (hr.mono (by decide)) tk)) (gn_ 4 nd) (scons_ (asg_ (lst_ (acons_ (met_ (kk := 5) (ok__law_c_met T) T.tb_law hk (hr.mono (by decide)) (LamX.lamS_by (sc := defScope (top 36)) (by decide +kernel)) (fun A outer s H E f c2 hr => lam_body (takes_of rfl rfl rfl rfl) fun tk => (call_ (ok_least_paper T) (hr.mono (by decide)) tk (acons_ (v_ 4) anil_)))) anil_)) (gn_ 5 nd))
    (scons_ (app_ 5 (met_ (kk := 5) (ok__law_c_met T) T.tb_law hk (hr.mono (by decide)) (LamX.lamS_by (sc := defScope (top 36)) (by decide +kernel)) (fun A outer s H E f c2 hr => lam_body (takes_of rfl rfl rfl rfl) fun tk => (call_ (ok_papers_part T) (hr.mono (by decide)) tk (acons_ (v_ 4) (acons_ non_ anil_))))))
    (scons_ (app_ 5 (met_ (kk := 5) (ok__law_c_met T) T.tb_law hk (hr.mono (by decide)) (LamX.lamS_by (sc := defScope (top 36)) (by decide +kernel)) (fun A outer s H E f c2 hr => lam_body (takes_of rfl rfl rfl rfl) fun tk => (call_ (ok_papers_part T) (hr.mono (by decide)) tk (acons_ (v_ 3) (acons_ (v_ 4) anil_))))))
    (sone_ (if_ (notT_ (tru_ (call_ (ok__law_same T) (hr.mono (by decide)) tk (acons_ (v_ 5) (acons_ (mul_ (lst_ (acons_ (tup_ (acons_ str_ (acons_ (v_ 4) anil_))) anil_)) int_) anil_))))) (sone_ (ret_ bl_)) snil_))))))
    (scons_ (asg_ (lst_ (acons_ (call_ (ok_least_paper T) (hr.mono (by decide)) tk (acons_ (tup_ (acons_ int_ (acons_ int_ (acons_ int_ (acons_ (lst_ (acons_ int_ (acons_ int_ (acons_ int_ (acons_ int_ (acons_ int_ (acons_ int_ (acons_ int_ (acons_ int_ (acons_ int_ (acons_ int_ anil_))))))))))) anil_))))) anil_)) (acons_ (call_ (ok_papers_part T) (hr.mono (by decide)) tk (acons_ (v_ 3) (acons_ (tup_ (acons_ int_ (acons_ int_ (acons_ int_ (acons_ (lst_ (acons_ int_ (acons_ int_ anil_))) anil_))))) anil_))) anil_))) (gn_ 5 nd))
    (sone_ (ret_ (call_ (ok__law_same T) (hr.mono (by decide)) tk (acons_ (v_ 5) (acons_ (lst_ (acons_ (tup_ (acons_ int_ (acons_ int_ (acons_ int_ (acons_ (lst_ (acons_ int_ (acons_ int_ (acons_ int_ anil_)))) anil_))))) (acons_ int_ anil_))) anil_)))))))))
end
-- levels: _law_c_odd 1, _law_same 15, value_in 1, gains_by 2, least_in 3, is_list 1, is_integer 1, is_number 2, as_paper 3, checked_paper 4, least_paper 5, papers_part 5, _law_draw 1, _law_pick 2, _law_a_told 1, _law_is_from 1, _law_least 2, _law_loose 16, _law_c_paper 2, _law_led 2, _law_part 2, _law_right 17, law 20
end Wk19

end
section
set_option Elab.async false
set_option linter.all false
set_option maxRecDepth 100000
set_option maxHeartbeats 0
namespace Wk19
open PySem L2 PySem.Spec PyProof.Rows Ly
/-! the head -/
def ini_BadPaper : Stmt := clsSt (top 6) 0
def fa0 : List He.Fa := [.glo "BadBook", .glo "BadHeap", .glo "BadNumber", .glo "BadPaper", .glo "BadPeriod", .glo "Grows", .glo "_law_start", .glo "_law_c_odd", .glo "_law_same", .glo "value_in", .glo "gains_by", .glo "least_in", .glo "is_list", .glo "is_integer", .glo "is_number", .glo "as_paper", .glo "checked_paper", .glo "least_paper", .glo "papers_part", .glo "_law_draw", .glo "_law_pick", .glo "_law_a_told", .glo "_law_is_from", .glo "_law_least", .glo "_law_loose", .glo "_law_c_paper", .glo "_law_led", .glo "_law_part", .glo "_law_right", .glo "_law_c_met"]
def fa1 : List He.Fa := [.glo "law", .free "all", .free "bool", .free "dict", .free "int", .free "isinstance", .free "len", .free "list", .free "max", .free "range", .free "repr", .free "tuple", .free "zip"]
def fa : List He.Fa := fa0 ++ fa1
def fn0 : List He.DefD := [⟨("_law_start", none), "_law_start", "_law_start", (defArgs (top 26)), (defBody (top 26)), (defScope (top 26)), [], []⟩, ⟨("_law_c_odd", none), "_law_c_odd", "_law_c_odd", (defArgs (top 24)), (defBody (top 24)), (defScope (top 24)), [], []⟩, ⟨("_law_same", none), "_law_same", "_law_same", (defArgs (top 29)), (defBody (top 29)), (defScope (top 29)), [], []⟩, ⟨("value_in", none), "value_in", "value_in", (defArgs (top 15)), (defBody (top 15)), (defScope (top 15)), [], []⟩, ⟨("gains_by", none), "gains_by", "gains_by", (defArgs (top 17)), (defBody (top 17)), (defScope (top 17)), [], []⟩, ⟨("least_in", none), "least_in", "least_in", (defArgs (top 18)), (defBody (top 18)), (defScope (top 18)), [], []⟩, ⟨("is_list", none), "is_list", "is_list", (defArgs (top 10)), (defBody (top 10)), (defScope (top 10)), [], []⟩, ⟨("is_integer", none), "is_integer", "is_integer", (defArgs (top 11)), (defBody (top 11)), (defScope (top 11)), [], []⟩, ⟨("is_number", none), "is_number", "is_number", (defArgs (top 12)), (defBody (top 12)), (defScope (top 12)), [], []⟩, ⟨("as_paper", none), "as_paper", "as_paper", (defArgs (top 14)), (defBody (top 14)), (defScope (top 14)), [], []⟩, ⟨("checked_paper", none), "checked_paper", "checked_paper", (defArgs (top 16)), (defBody (top 16)), (defScope (top 16)), [], []⟩, ⟨("least_paper", none), "least_paper", "least_paper", (defArgs (top 19)), (defBody (top 19)), (defScope (top 19)), [], []⟩, ⟨("papers_part", none), "papers_part", "papers_part", (defArgs (top 20)), (defBody (top 20)), (defScope (top 20)), [], []⟩, ⟨("_law_draw", none), "_law_draw", "_law_draw", (defArgs (top 27)), (defBody (top 27)), (defScope (top 27)), [], []⟩, ⟨("_law_pick", none), "_law_pick", "_law_pick", (defArgs (top 28)), (defBody (top 28)), (defScope (top 28)), [], []⟩, ⟨("_law_a_told", none), "_law_a_told", "_law_a_told", (defArgs (top 22)), (defBody (top 22)), (defScope (top 22)), [], []⟩, ⟨("_law_is_from", none), "_law_is_from", "_law_is_from", (defArgs (top 33)), (defBody (top 33)), (defScope (top 33)), [], []⟩, ⟨("_law_least", none), "_law_least", "_law_least", (defArgs (top 32)), (defBody (top 32)), (defScope (top 32)), [], []⟩, ⟨("_law_loose", none), "_law_loose", "_law_loose", (defArgs (top 30)), (defBody (top 30)), (defScope (top 30)), [], []⟩, ⟨("_law_c_paper", none), "_law_c_paper", "_law_c_paper", (defArgs (top 23)), (defBody (top 23)), (defScope (top 23)), [], []⟩]
def fn1 : List He.DefD := [⟨("_law_led", none), "_law_led", "_law_led", (defArgs (top 31)), (defBody (top 31)), (defScope (top 31)), [], []⟩, ⟨("_law_part", none), "_law_part", "_law_part", (defArgs (top 34)), (defBody (top 34)), (defScope (top 34)), [], []⟩, ⟨("_law_right", none), "_law_right", "_law_right", (defArgs (top 35)), (defBody (top 35)), (defScope (top 35)), [], []⟩, ⟨("_law_c_met", none), "_law_c_met", "_law_c_met", (defArgs (top 25)), (defBody (top 25)), (defScope (top 25)), [], []⟩, ⟨("law", none), "law", "law", (defArgs (top 36)), (defBody (top 36)), (defScope (top 36)), [], []⟩, ⟨("BadPaper", some "__init__"), "__init__", "BadPaper.__init__", (defArgs ini_BadPaper), (defBody ini_BadPaper), (defScope ini_BadPaper), [], []⟩]
def fn : List He.DefD := fn0 ++ fn1
def tf : List He.Defn := [("law", none)]
def errs : List (Str × Str) := [("BadPaper", "thing")]
def flds : List (Str × Str) := [("BadBook", "thing"), ("BadHeap", "thing"), ("BadNumber", "thing"), ("BadPaper", "thing"), ("BadPeriod", "thing")]
def exms : List (Str × Str) := [("BadPaper", "BadBook"), ("BadPaper", "BadHeap"), ("BadPaper", "BadNumber"), ("BadPaper", "BadPaper"), ("BadPaper", "BadPeriod"), ("BadPaper", "Grows")]
def bins : List (Str × String) := [("gcd", "math.gcd")]
abbrev RowR : PySem.W.OpenRow := PySem.W.OpenLaw.row PySem.Challenge.rw_takeandsplit_k19_whole_least_papers
abbrev ex : PySem.W.Frag → Bool := exB2 errs flds exms tf bins
abbrev hk : PySem.W.Hook := He.hookX 6 fa fn [] tf ex
def ob (s : PySem.W.SharedT) : He.AlX := He.obsX 6 fa fn [] tf ex (HandSHeadRun.getT s)
theorem ob_eq (s : PySem.W.SharedT) : ob s = hk.obs s.abs := He.obsX_eq (HandSHeadRun.getT_eq s)
def names : List Str := (["gcd", "__name__", "HeapError", "BadBook", "BadHeap", "BadNumber", "BadPaper", "BadPeriod", "Grows", "is_list", "is_integer", "is_number", "as_paper", "value_in", "checked_paper", "gains_by", "least_in", "least_paper", "papers_part", "_law_a_told", "_law_c_paper", "_law_c_odd", "_law_c_met", "_law_start", "_law_draw", "_law_pick", "_law_same", "_law_loose", "_law_led", "_law_least"] : List Str) ++ (["_law_is_from", "_law_part", "_law_right"] : List Str)
theorem run (w : World) : HandSHeadRun.RunEqI RowR (PySem.W.view RowR.prog [0, 36]) hk ob 6000 names w := by
  unfold HandSHeadRun.RunEqI
  kernel_rfl
theorem sc_ini_BadPaper : FnScope ["self", "thing"] ["self", "thing"] (defScope ini_BadPaper) := ⟨rfl, rfl, rfl, by decide +kernel, rfl, by decide +kernel, by decide +kernel⟩
section
variable {P : Program} {w : World} {K : PySem.W.Frag} {h base : Heap} {mg : Str → Option Value}
theorem tx_of (X : K.In h) (G : h.Ns mainGlobals mg) (Y : He.SaysX fa fn [] tf ex w h K) (tb : ∀ p ∈ tf, LamX.TabB base mg (He.cT K p).1 (He.cT K p).2) : Tx (cfOf tf K) P w mg base := by
  have c := Y.t.d
  have hx := Y.more
  obtain ⟨h1, h2, h3, h4, h5⟩ := exB2_ok hx
  have e_BadPaper := errB_ok (p := ("BadPaper", "thing")) (List.all_eq_true.mp h1 _ (by decide))
  exact {
    g_all := He.free_ok X G (c.fact 31 (f := .free "all") rfl)
    g_bool := He.free_ok X G (c.fact 32 (f := .free "bool") rfl)
    g_dict := He.free_ok X G (c.fact 33 (f := .free "dict") rfl)
    g_int := He.free_ok X G (c.fact 34 (f := .free "int") rfl)
    g_isinstance := He.free_ok X G (c.fact 35 (f := .free "isinstance") rfl)
    g_len := He.free_ok X G (c.fact 36 (f := .free "len") rfl)
    g_list := He.free_ok X G (c.fact 37 (f := .free "list") rfl)
    g_max := He.free_ok X G (c.fact 38 (f := .free "max") rfl)
    g_range := He.free_ok X G (c.fact 39 (f := .free "range") rfl)
    g_repr := He.free_ok X G (c.fact 40 (f := .free "repr") rfl)
    g_tuple := He.free_ok X G (c.fact 41 (f := .free "tuple") rfl)
    g_zip := He.free_ok X G (c.fact 42 (f := .free "zip") rfl)
    b_gcd := binB_ok X G (p := ("gcd", "math.gcd")) (List.all_eq_true.mp h5 _ (by decide))
    e_BadPaper := by
      obtain ⟨fd, F⟩ := c.def_ 25 (d := ⟨("BadPaper", some "__init__"), "__init__", "BadPaper.__init__", (defArgs ini_BadPaper), (defBody ini_BadPaper), (defScope ini_BadPaper), [], []⟩) rfl
      exact ⟨e_BadPaper.1, ⟨_, fd, e_BadPaper.2.1, e_BadPaper.2.2.1, einit F sc_ini_BadPaper e_BadPaper.1 e_BadPaper.2.2.2 (fun cdv A outer s H E => pss_one (ps_ost (pe_var (i := 0) rfl (.inl rfl) (by decide) (by decide)) (pe_var (i := 1) rfl (.inl rfl) (by decide) (by decide)))), F.bindsN fun _ _ _ _ _ _ us hl => match us, hl with | [_, _], _ => rfl⟩, He.glo_ok X G (c.fact 3 (f := .glo "BadPaper") rfl)⟩
    m_BadBook := He.glo_ok X G (c.fact 0 (f := .glo "BadBook") rfl)
    m_BadHeap := He.glo_ok X G (c.fact 1 (f := .glo "BadHeap") rfl)
    m_BadNumber := He.glo_ok X G (c.fact 2 (f := .glo "BadNumber") rfl)
    m_BadPaper := He.glo_ok X G (c.fact 3 (f := .glo "BadPaper") rfl)
    m_BadPeriod := He.glo_ok X G (c.fact 4 (f := .glo "BadPeriod") rfl)
    m_Grows := He.glo_ok X G (c.fact 5 (f := .glo "Grows") rfl)
    x_BadBook := (fldB_ok (p := ("BadBook", "thing")) (List.all_eq_true.mp h2 _ (by decide))).1
    x_BadHeap := (fldB_ok (p := ("BadHeap", "thing")) (List.all_eq_true.mp h2 _ (by decide))).1
    x_BadNumber := (fldB_ok (p := ("BadNumber", "thing")) (List.all_eq_true.mp h2 _ (by decide))).1
    x_BadPaper := (fldB_ok (p := ("BadPaper", "thing")) (List.all_eq_true.mp h2 _ (by decide))).1
    x_BadPeriod := (fldB_ok (p := ("BadPeriod", "thing")) (List.all_eq_true.mp h2 _ (by decide))).1
    n_BadBook_thing := (fldB_ok (p := ("BadBook", "thing")) (List.all_eq_true.mp h2 _ (by decide))).2
    n_BadHeap_thing := (fldB_ok (p := ("BadHeap", "thing")) (List.all_eq_true.mp h2 _ (by decide))).2
    n_BadNumber_thing := (fldB_ok (p := ("BadNumber", "thing")) (List.all_eq_true.mp h2 _ (by decide))).2
    n_BadPaper_thing := (fldB_ok (p := ("BadPaper", "thing")) (List.all_eq_true.mp h2 _ (by decide))).2
    n_BadPeriod_thing := (fldB_ok (p := ("BadPeriod", "thing")) (List.all_eq_true.mp h2 _ (by decide))).2
    d__law_start := c.def_ 0 (d := ⟨("_law_start", none), "_law_start", "_law_start", (defArgs (top 26)), (defBody (top 26)), (defScope (top 26)), [], []⟩) rfl
    m__law_start := He.glo_ok X G (c.fact 6 (f := .glo "_law_start") rfl)
    d__law_c_odd := c.def_ 1 (d := ⟨("_law_c_odd", none), "_law_c_odd", "_law_c_odd", (defArgs (top 24)), (defBody (top 24)), (defScope (top 24)), [], []⟩) rfl
    m__law_c_odd := He.glo_ok X G (c.fact 7 (f := .glo "_law_c_odd") rfl)
    d__law_same := c.def_ 2 (d := ⟨("_law_same", none), "_law_same", "_law_same", (defArgs (top 29)), (defBody (top 29)), (defScope (top 29)), [], []⟩) rfl
    m__law_same := He.glo_ok X G (c.fact 8 (f := .glo "_law_same") rfl)
    d_value_in := c.def_ 3 (d := ⟨("value_in", none), "value_in", "value_in", (defArgs (top 15)), (defBody (top 15)), (defScope (top 15)), [], []⟩) rfl
    m_value_in := He.glo_ok X G (c.fact 9 (f := .glo "value_in") rfl)
    d_gains_by := c.def_ 4 (d := ⟨("gains_by", none), "gains_by", "gains_by", (defArgs (top 17)), (defBody (top 17)), (defScope (top 17)), [], []⟩) rfl
    m_gains_by := He.glo_ok X G (c.fact 10 (f := .glo "gains_by") rfl)
    d_least_in := c.def_ 5 (d := ⟨("least_in", none), "least_in", "least_in", (defArgs (top 18)), (defBody (top 18)), (defScope (top 18)), [], []⟩) rfl
    m_least_in := He.glo_ok X G (c.fact 11 (f := .glo "least_in") rfl)
    d_is_list := c.def_ 6 (d := ⟨("is_list", none), "is_list", "is_list", (defArgs (top 10)), (defBody (top 10)), (defScope (top 10)), [], []⟩) rfl
    m_is_list := He.glo_ok X G (c.fact 12 (f := .glo "is_list") rfl)
    d_is_integer := c.def_ 7 (d := ⟨("is_integer", none), "is_integer", "is_integer", (defArgs (top 11)), (defBody (top 11)), (defScope (top 11)), [], []⟩) rfl
    m_is_integer := He.glo_ok X G (c.fact 13 (f := .glo "is_integer") rfl)
    d_is_number := c.def_ 8 (d := ⟨("is_number", none), "is_number", "is_number", (defArgs (top 12)), (defBody (top 12)), (defScope (top 12)), [], []⟩) rfl
    m_is_number := He.glo_ok X G (c.fact 14 (f := .glo "is_number") rfl)
    d_as_paper := c.def_ 9 (d := ⟨("as_paper", none), "as_paper", "as_paper", (defArgs (top 14)), (defBody (top 14)), (defScope (top 14)), [], []⟩) rfl
    m_as_paper := He.glo_ok X G (c.fact 15 (f := .glo "as_paper") rfl)
    d_checked_paper := c.def_ 10 (d := ⟨("checked_paper", none), "checked_paper", "checked_paper", (defArgs (top 16)), (defBody (top 16)), (defScope (top 16)), [], []⟩) rfl
    m_checked_paper := He.glo_ok X G (c.fact 16 (f := .glo "checked_paper") rfl)
    d_least_paper := c.def_ 11 (d := ⟨("least_paper", none), "least_paper", "least_paper", (defArgs (top 19)), (defBody (top 19)), (defScope (top 19)), [], []⟩) rfl
    m_least_paper := He.glo_ok X G (c.fact 17 (f := .glo "least_paper") rfl)
    d_papers_part := c.def_ 12 (d := ⟨("papers_part", none), "papers_part", "papers_part", (defArgs (top 20)), (defBody (top 20)), (defScope (top 20)), [], []⟩) rfl
    m_papers_part := He.glo_ok X G (c.fact 18 (f := .glo "papers_part") rfl)
    d__law_draw := c.def_ 13 (d := ⟨("_law_draw", none), "_law_draw", "_law_draw", (defArgs (top 27)), (defBody (top 27)), (defScope (top 27)), [], []⟩) rfl
    m__law_draw := He.glo_ok X G (c.fact 19 (f := .glo "_law_draw") rfl)
    d__law_pick := c.def_ 14 (d := ⟨("_law_pick", none), "_law_pick", "_law_pick", (defArgs (top 28)), (defBody (top 28)), (defScope (top 28)), [], []⟩) rfl
    m__law_pick := He.glo_ok X G (c.fact 20 (f := .glo "_law_pick") rfl)
    d__law_a_told := c.def_ 15 (d := ⟨("_law_a_told", none), "_law_a_told", "_law_a_told", (defArgs (top 22)), (defBody (top 22)), (defScope (top 22)), [], []⟩) rfl
    m__law_a_told := He.glo_ok X G (c.fact 21 (f := .glo "_law_a_told") rfl)
    d__law_is_from := c.def_ 16 (d := ⟨("_law_is_from", none), "_law_is_from", "_law_is_from", (defArgs (top 33)), (defBody (top 33)), (defScope (top 33)), [], []⟩) rfl
    m__law_is_from := He.glo_ok X G (c.fact 22 (f := .glo "_law_is_from") rfl)
    d__law_least := c.def_ 17 (d := ⟨("_law_least", none), "_law_least", "_law_least", (defArgs (top 32)), (defBody (top 32)), (defScope (top 32)), [], []⟩) rfl
    m__law_least := He.glo_ok X G (c.fact 23 (f := .glo "_law_least") rfl)
    d__law_loose := c.def_ 18 (d := ⟨("_law_loose", none), "_law_loose", "_law_loose", (defArgs (top 30)), (defBody (top 30)), (defScope (top 30)), [], []⟩) rfl
    m__law_loose := He.glo_ok X G (c.fact 24 (f := .glo "_law_loose") rfl)
    d__law_c_paper := c.def_ 19 (d := ⟨("_law_c_paper", none), "_law_c_paper", "_law_c_paper", (defArgs (top 23)), (defBody (top 23)), (defScope (top 23)), [], []⟩) rfl
    m__law_c_paper := He.glo_ok X G (c.fact 25 (f := .glo "_law_c_paper") rfl)
    d__law_led := c.def_ 20 (d := ⟨("_law_led", none), "_law_led", "_law_led", (defArgs (top 31)), (defBody (top 31)), (defScope (top 31)), [], []⟩) rfl
    m__law_led := He.glo_ok X G (c.fact 26 (f := .glo "_law_led") rfl)
    d__law_part := c.def_ 21 (d := ⟨("_law_part", none), "_law_part", "_law_part", (defArgs (top 34)), (defBody (top 34)), (defScope (top 34)), [], []⟩) rfl
    m__law_part := He.glo_ok X G (c.fact 27 (f := .glo "_law_part") rfl)
    d__law_right := c.def_ 22 (d := ⟨("_law_right", none), "_law_right", "_law_right", (defArgs (top 35)), (defBody (top 35)), (defScope (top 35)), [], []⟩) rfl
    m__law_right := He.glo_ok X G (c.fact 28 (f := .glo "_law_right") rfl)
    d__law_c_met := c.def_ 23 (d := ⟨("_law_c_met", none), "_law_c_met", "_law_c_met", (defArgs (top 25)), (defBody (top 25)), (defScope (top 25)), [], []⟩) rfl
    m__law_c_met := He.glo_ok X G (c.fact 29 (f := .glo "_law_c_met") rfl)
    d_law := c.def_ 24 (d := ⟨("law", none), "law", "law", (defArgs (top 36)), (defBody (top 36)), (defScope (top 36)), [], []⟩) rfl
    m_law := He.glo_ok X G (c.fact 30 (f := .glo "law") rfl)
    cd_law := fun v hv => codeAt_ref (p := ("law", none)) hv
    tb_law := tb ("law", none) (by decide)
  }
end
/-- what the evaluators read of the written part -/
structure Px (c : Cf) : Prop where
  x_BadPaper_BadBook : PySem.W.exmOne c.K (.ref (c.A "BadPaper")) (.ref (c.A "BadBook")) = some false
  x_BadPaper_BadHeap : PySem.W.exmOne c.K (.ref (c.A "BadPaper")) (.ref (c.A "BadHeap")) = some false
  x_BadPaper_BadNumber : PySem.W.exmOne c.K (.ref (c.A "BadPaper")) (.ref (c.A "BadNumber")) = some false
  x_BadPaper_BadPaper : PySem.W.exmOne c.K (.ref (c.A "BadPaper")) (.ref (c.A "BadPaper")) = some true
  x_BadPaper_BadPeriod : PySem.W.exmOne c.K (.ref (c.A "BadPaper")) (.ref (c.A "BadPeriod")) = some false
  x_BadPaper_Grows : PySem.W.exmOne c.K (.ref (c.A "BadPaper")) (.ref (c.A "Grows")) = some false
  t_law : tabOk c (He.cT c.K ("law", none)).2 ("law" ++ ".<locals>." ++ "<lambda>") = true
theorem px_of {w : World} {K : PySem.W.Frag} {h : Heap} (Y : He.SaysX fa fn [] tf ex w h K) (a b : Addr) : Px ((cfOf tf K).at a b) := by
  have hx := Y.more
  obtain ⟨h1, h2, h3, h4, h5⟩ := exB2_ok hx
  exact {
    x_BadPaper_BadBook := (exmB_ok (p := ("BadPaper", "BadBook")) (List.all_eq_true.mp h3 _ (by decide))).trans (by decide)
    x_BadPaper_BadHeap := (exmB_ok (p := ("BadPaper", "BadHeap")) (List.all_eq_true.mp h3 _ (by decide))).trans (by decide)
    x_BadPaper_BadNumber := (exmB_ok (p := ("BadPaper", "BadNumber")) (List.all_eq_true.mp h3 _ (by decide))).trans (by decide)
    x_BadPaper_BadPaper := (exmB_ok (p := ("BadPaper", "BadPaper")) (List.all_eq_true.mp h3 _ (by decide))).trans (by decide)
    x_BadPaper_BadPeriod := (exmB_ok (p := ("BadPaper", "BadPeriod")) (List.all_eq_true.mp h3 _ (by decide))).trans (by decide)
    x_BadPaper_Grows := (exmB_ok (p := ("BadPaper", "Grows")) (List.all_eq_true.mp h3 _ (by decide))).trans (by decide)
    t_law := cf_tab (of_decide_eq_true h4) a b (p := ("law", none)) (by decide)
  }
/-- the law's sentence: what is left is plain Lean -/
def Sentence : Prop := ∀ (c : Cf) (a b : Addr) (ns : List Int), Px (c.at a b) → ns.length ≤ 63 → ∃ s', (b_law (c.at a b)).ev ⟨ns, 0, 0, 11⟩ (lawEnv 6 a) = .ok (.rt (.bl true)) s'
end Wk19
open PySem PySem.W PySem.Calls PyProof.Rows
theorem Wk19.holds_of (sen : Wk19.Sentence) : PySem.Challenge.rw_takeandsplit_k19_whole_least_papers.Holds := by
  w_on; o_law
  refine HandSHeadRun.head_imp (r := OpenLaw.row PySem.Challenge.rw_takeandsplit_k19_whole_least_papers) (q := view (OpenLaw.row PySem.Challenge.rw_takeandsplit_k19_whole_least_papers).prog [0, 36]) (H := Wk19.hk) (ob := Wk19.ob) (M := 6000) (loose := Wk19.names) (d := HandSHeadRun.topDef (OpenLaw.row PySem.Challenge.rw_takeandsplit_k19_whole_least_papers).prog 36) (kwd := []) Wk19.ob_eq
    Wk19.run (by kernel_rfl) (by kernel_rfl) (by kernel_rfl) (by rfl) (by first | assumption | decide +kernel) (by decide +kernel) ⟨rfl, rfl, rfl, rfl, rfl, by decide +kernel⟩ ?hw ?hc
  case hw => w_witness2
  case hc =>
    refine Ly.walk_ofG (l := PySem.Challenge.rw_takeandsplit_k19_whole_least_papers) (n := 63) (k := 20) (x := "_law_script") rfl (by decide) (by kernel_rfl) ⟨rfl, by decide, by decide⟩ ?F
    intro w mg fa h Y G hmg0
    obtain ⟨K, KX, S⟩ := Y
    have hmg : mg ("law" : PySem.Str) = some (.ref fa) := by
      have e : (HandSHeadRun.topDef (OpenLaw.row PySem.Challenge.rw_takeandsplit_k19_whole_least_papers).prog 36).name = ("law" : PySem.Str) := by kernel_rfl
      rw [← e]
      exact hmg0
    have efa : fa = He.ga K "law" := by
      have z := hmg.symm.trans (He.glo_ok KX G (S.t.d.fact 30 (f := .glo "law") rfl))
      cases z
      rfl
    subst efa
    obtain ⟨fd, F⟩ := S.t.d.def_ 24 (d := ⟨("law", none), "law", "law", L2.defArgs (Wk19.top 36), L2.defBody (Wk19.top 36), L2.defScope (Wk19.top 36), [], []⟩) rfl
    have bn := L2.FunD.bindsA (ps := ["_law_script"]) F fun _ _ _ _ _ _ us hl => match us, hl with | [_], _ => rfl
    refine ⟨K, KX, fd, Wk19.tf.map (He.cT K), Ly.spLaw (Ly.cfOf Wk19.tf K), fun p hp => ?_, fun p hp => ?_, fun p hp => ?_, fun s v => bn s [v] rfl, fun H a ns hl hT hS => ⟨a, ns, rfl, hl, fun p hp => ?_, hS, fun _ => rfl⟩, fun base _ _ hb => ?_⟩
    · obtain ⟨r, hr, rfl⟩ := List.mem_map.mp hp
      exact S.empty r hr
    · obtain ⟨r, hr, rfl⟩ := List.mem_map.mp hp
      exact S.out r hr
    · obtain ⟨r, hr, rfl⟩ := List.mem_map.mp hp
      exact PySem.W.codeHd_of_K KX (S.hd r hr)
    · obtain ⟨r, hr, rfl⟩ := List.mem_map.mp hp
      exact hT (He.cT K r) (List.mem_map_of_mem hr)
    · have T := Wk19.tx_of (P := (PySem.Challenge.rw_takeandsplit_k19_whole_least_papers).prog) (base := base) KX G S fun p hp => hb _ (List.mem_map_of_mem hp)
      exact Wk19.ok_law T (fun a b ns hl => sen _ a b ns (Wk19.px_of S a b) hl) F

end
section
set_option Elab.async false
set_option linter.all false
set_option maxRecDepth 100000
set_option maxHeartbeats 1000000
namespace Wk19
open PySem L2 Ly
variable {c : Cf} {s : Strm}
/-! ### numbers, lists, papers: the program's defs on data -/
theorem isNum_int {i : Int} : F_is_number c s [.int i] = .ok (.bl (decide (0 ≤ i))) s := rfl
theorem isInt_int {i : Int} : F_is_integer c s [.int i] = .ok (.bl true) s := rfl
theorem isList_l {o : Bool} {ds : List D} : F_is_list c s [.lst o ds] = .ok (.bl true) s := rfl
theorem isList_t {o : Bool} {ds : List D} : F_is_list c s [.tup o ds] = .ok (.bl true) s := rfl
theorem nums_cmp {vs : List Int} {i : Nat} {Δ : Ly.Env} (hn : ∀ v ∈ vs, 0 ≤ v) (hm : vs.length ≤ 16777216) (hi : i < Δ.length) :
    cmpR (c := c) (.name i) XT.yes (XE.call (F_is_number c) (XA.cons (XE.var i) XA.nil)) Δ (vs.map D.int) s = .ok (.lst true (vs.map fun _ => .bl true)) s :=
  cmpR_ints _ hm fun v m => by simp [isNum_int, hi, hn v m]
structure Pap (b p g : Int) (vs : List Int) : Prop where
  hb : 1 ≤ b
  hp : 1 ≤ p
  hg : 0 ≤ g
  hg2 : g < 2 ^ 24
  hl : (vs.length : Int) = b + p
  hm : vs.length ≤ 16777216
  hz : nth vs 0 = 0
  hn : ∀ v ∈ vs, 0 ≤ v
/-- the value of n -/
def vAt (b p g : Int) (vs : List Int) (n : Int) : Int := if n < b + p then nth vs n else nth vs (b + (n - b) % p) + (n - b) / p * g
abbrev pap (t t' : Bool) (b p g : Int) (vs : List Int) : D := sq t [.int b, .int p, .int g, sq t' (vs.map D.int)]
abbrev own (b p g : Int) (vs : List Int) : D := .tup true [.int b, .int p, .int g, .lst true (vs.map D.int)]
variable {b p g n : Int} {vs : List Int} {t t' : Bool}
theorem value_in_ok (P : Pap b p g vs) (hn : 0 ≤ n) : F_value_in c s [pap true false b p g vs, .int n] = .ok (.int (vAt b p g vs n)) s := by
  obtain ⟨hb, hp, hg, hg2, hl, hm, hz, _⟩ := P
  unfold vAt
  rw [run_at (F_value_in.eq_def c) rfl]
  by_cases h : n < b + p
  · simp [b_value_in, sq, h, ix_nth (l := vs) hn (by omega)]
  · have hd : 0 ≤ (n - b) % p := Int.emod_nonneg _ (by omega)
    have hd2 : (n - b) % p < p := Int.emod_lt_of_pos _ (by omega)
    have he : n - (n - b) / p * p = b + (n - b) % p := by
      have := Int.emod_add_mul_ediv (n - b) p
      rw [Int.mul_comm] at this
      omega
    have h1 : 0 < p ∧ p.natAbs < 2 ^ 64 := by omega
    have h2 : p.natAbs < 2 ^ 64 := by omega
    have h3 : g.natAbs < 2 ^ 64 := by omega
    simp [b_value_in, sq, h, h1, h2, h3, he, ix_nth (l := vs) (show 0 ≤ b + (n - b) % p by omega) (by omega)]
theorem a_told_ok (P : Pap b p g vs) (hn : 0 ≤ n) : F__law_a_told c s [pap true false b p g vs, .int n] = .ok (.int (vAt b p g vs n)) s := by
  obtain ⟨hb, hp, hg, hg2, hl, hm, hz, _⟩ := P
  unfold vAt
  rw [run_at (F__law_a_told.eq_def c) rfl]
  by_cases h : n < b + p
  · simp [b__law_a_told, sq, h, ix_nth (l := vs) hn (by omega)]
  · have hd : 0 ≤ (n - b) % p := Int.emod_nonneg _ (by omega)
    have hd2 : (n - b) % p < p := Int.emod_lt_of_pos _ (by omega)
    have h0 : 0 < p := by omega
    have h2 : p.natAbs < 2 ^ 64 := by omega
    have h3 : g.natAbs < 2 ^ 64 := by omega
    simp [b__law_a_told, sq, h, h0, h2, h3, Int.mul_comm g, ix_nth (l := vs) (show 0 ≤ b + (n - b) % p by omega) (by omega)]
theorem as_paper_ok (P : Pap b p g vs) : F_as_paper c s [pap t t' b p g vs] = .ok (own b p g vs) s := by
  obtain ⟨hb, hp, hg, hg2, hl, hm, hz, hn⟩ := P
  rw [run_at (F_as_paper.eq_def c) rfl]
  have h0 := ix_nth (l := vs) (i := 0) (by omega) (by omega)
  have b0 : 0 ≤ b := by omega
  have p0 : 0 ≤ p := by omega
  have b1 : ¬ b < 1 := by omega
  have p1 : ¬ p < 1 := by omega
  cases t <;> cases t' <;> simp [b_as_paper, sq, gSl, HT.sIx, cutD, isNum_int, isList_t, isList_l, b0, p0, hg, b1, p1, hl, nums_cmp hn hm, h0, hz]
theorem frz_pap : frz (pap t t' b p g vs) = pap t t' b p g vs := by cases t <;> cases t' <;> simp [sq]
theorem shr_pap : shr (pap t t' b p g vs) = true := by cases t <;> cases t' <;> simp [sq]
theorem frz_own : frz (own b p g vs) = pap true false b p g vs := by simp [sq]
theorem shr_own : shr (own b p g vs) = false := by simp
theorem checked_paper_ok (P : Pap b p g vs) : F_checked_paper c s [pap t t' b p g vs] = .ok (own b p g vs) s := by
  rw [run_at (F_checked_paper.eq_def c) rfl]
  simp [b_checked_paper, frz_pap, as_paper_ok P]
/-- the values of 0 to n - 1 -/
def told (b p g : Int) (vs : List Int) (n : Nat) : List Int := (List.range n).map fun (k : Nat) => vAt b p g vs k
variable {c : Cf} {s : Strm}
/-! ### a thing is the same as itself -/
def sameOk : Nat → D → Bool
  | 0, _ => false
  | _ + 1, .non => true
  | _ + 1, .bl _ => true
  | _ + 1, .int _ => true
  | _ + 1, .str _ => true
  | k + 1, .lst _ ds => decide (ds.length ≤ lim) && ds.all (sameOk k)
  | k + 1, .tup _ ds => decide (ds.length ≤ lim) && ds.all (sameOk k)
  | k + 1, .dic _ ks ds => sameOk k (.lst true ((ks.zip (frzL ds)).map fun p => .tup false [keyD p.1, p.2]))
  | _ + 1, _ => false
theorem zip_self {α : Type} : ∀ l : List α, l.zip l = l.map fun x => (x, x)
  | [] => rfl
  | a :: l => by rw [List.zip_cons_cons, zip_self l]; rfl
theorem eq_non : gEq .non .non = some (.bl true) := rfl
theorem same_seq {k : Nat} {ds : List D} {Δ : Ly.Env} (hl : ds.length ≤ lim) (h : ∀ d ∈ ds, Fr__law_same c k s [frz d, frz d] = .ok (.bl true) s) (hd : 3 < Δ.length) :
    cmpR (c := c) (.seq (.cons (.name 2) (.cons (.name 3) .nil))) XT.yes (.call (Fr__law_same c k) (.cons (.var 2) (.cons (.var 3) .nil))) Δ (List.map (fun p => D.tup true [p.fst, p.snd]) ((frzL ds).zip (frzL ds))) s
      = .ok (.lst true (List.replicate ds.length (.bl true))) s := by
  rw [cmpR_map (f := fun _ => .bl true) (by simpa using hl) (fun d m => ?_), List.map_const']
  · simp
  · rw [zip_self, List.map_map] at m
    obtain ⟨x, hx, rfl⟩ := List.mem_map.mp m
    rw [frzL_map] at hx
    obtain ⟨y, hy, rfl⟩ := List.mem_map.mp hx
    refine ⟨[frz y, frz y], by simp, by simp, ?_⟩
    have h2 : 2 < Δ.length := by omega
    simp [h y hy, hd, h2]
theorem same_refl : ∀ (k : Nat) (d : D), sameOk k d = true → ∀ s : Strm, Fr__law_same c k s [frz d, frz d] = .ok (.bl true) s
  | 0, d, h, s => by simp [sameOk] at h
  | k + 1, d, h, s => by
    have e : ∀ ds : List D, Fr__law_same c (k + 1) s ds = runF 2 4 (b__law_same c (Fr__law_same c k)) s ds := fun _ => rfl
    rw [e, run_eq, if_pos (by rfl)]
    have seq : ∀ ds : List D, (decide (ds.length ≤ lim) && ds.all (sameOk k)) = true → ds.length ≤ lim ∧ ∀ d ∈ ds, Fr__law_same c k s [frz d, frz d] = .ok (.bl true) s := fun ds hh => by
      simp only [Bool.and_eq_true, decide_eq_true_eq, List.all_eq_true] at hh
      exact ⟨hh.1, fun d m => same_refl k d (hh.2 d m) s⟩
    cases d with
    | non => simp [b__law_same, eq_non]
    | bl b => simp [b__law_same]
    | int i => simp [b__law_same]
    | str z => simp [b__law_same]
    | lst o ds =>
      obtain ⟨h1, h2⟩ := seq ds (by simpa only [sameOk] using h)
      simp [b__law_same]
      rw [same_seq h1 h2 (by simp)]
      simp
    | tup o ds =>
      obtain ⟨h1, h2⟩ := seq ds (by simpa only [sameOk] using h)
      simp [b__law_same]
      rw [same_seq h1 h2 (by simp)]
      simp
    | dic o ks ds =>
      have h1 := same_refl k _ (by simpa only [sameOk] using h) s
      have e : gItems (.dic false ks (frzL ds)) = some (.lst true ((ks.zip (frzL ds)).map fun p => .tup false [keyD p.1, p.2])) := by
        show some (D.lst true ((List.zip ks (frzL (frzL ds))).map _)) = _
        rw [z_ffL]
      rw [zz_lst] at h1
      simp [b__law_same, XE.items, e, h1]
    | ins o cl fs ds => simp [sameOk] at h
    | opq v => simp [sameOk] at h
/-! ### lists and tuples in each other's place -/
/-- what a def gives back: a new tuple, or its own list as it is seen -/
def rt : Bool → List D → D
  | true, ds => .tup true ds
  | false, ds => .lst false ds
theorem frz_rt {t : Bool} {ds : List D} (h : frzL ds = ds) : frz (rt t ds) = sq t ds := by cases t <;> simp [rt, sq, h]
variable {x y : Addr}
theorem loose_int {k : Nat} {v : Int} : Fr__law_loose c (k + 1) s [.opq (.ref x), .int v] = .ok (.int v) s := by
  have e : ∀ ds : List D, Fr__law_loose c (k + 1) s ds = runF 2 4 (b__law_loose c (Fr__law_loose c k)) s ds := fun _ => rfl
  rw [e, run_eq, if_pos (by rfl)]
  simp [b__law_loose]
theorem loose_seq {k : Nat} {ds es : List D} {t : Bool} {s1 : Strm} {m : Int} (hc : c.st = some (x, y)) (hf : frzL ds = ds)
    (hcmp : ∀ Δ : Ly.Env, Δ.length = 4 → Δ[0]? = some (some (.opq (.ref x))) → cmpR (c := c) (.name 3) XT.yes (.call (Fr__law_loose c k) (.cons (.var 0) (.cons (.var 3) .nil))) Δ ds s = .ok (.lst true es) s1) (B : Bud (m + 1) s1) (hm : 0 ≤ m) :
    ∃ t' s2, Fr__law_loose c (k + 1) s [.opq (.ref x), sq t ds] = .ok (rt t' (frzL es)) s2 ∧ Bud m s2 := by
  have e : ∀ ds : List D, Fr__law_loose c (k + 1) s ds = runF 2 4 (b__law_loose c (Fr__law_loose c k)) s ds := fun _ => rfl
  rw [e, run_eq, if_pos (by rfl)]
  obtain ⟨v, s2, dr, v0, v1, B2⟩ := draw_at (m := 3) hc (by decide) (by decide) B hm
  have h1 := hcmp [some (.opq (.ref x)), some (sq t ds), none, none] rfl rfl
  by_cases hv : v = 0
  · refine ⟨false, s2, ?_, B2⟩
    cases t <;> simp [sq] at h1 <;> simp [b__law_loose, sq, hf, h1, dr, hv, rt]
  · refine ⟨true, s2, ?_, B2⟩
    cases t <;> simp [sq] at h1 <;> simp [b__law_loose, sq, hf, h1, dr, hv, rt]
theorem loose_nums {k : Nat} {vs : List Int} {t : Bool} {m : Int} (hc : c.st = some (x, y)) (hl : vs.length ≤ lim) (B : Bud (m + 1) s) (hm : 0 ≤ m) :
    ∃ t' s2, Fr__law_loose c (k + 2) s [.opq (.ref x), sq t (vs.map D.int)] = .ok (rt t' (vs.map D.int)) s2 ∧ Bud m s2 := by
  have := loose_seq (k := k + 1) (ds := vs.map D.int) (es := vs.map D.int) (t := t) (s := s) hc (by simp) (fun Δ h4 h0 => ?_) B hm
  · rw [z_frzNu] at this; exact this
  · refine cmpR_ints _ hl fun v m => ⟨rfl, ?_⟩
    have h3 : 3 < Δ.length := by omega
    have e0 : (Δ.set 3 (some (.int v)))[0]? = some (some (.opq (.ref x))) := by rw [List.getElem?_set_ne (by decide)]; exact h0
    have e3 : (Δ.set 3 (some (.int v)))[3]? = some (some (.int v)) := List.getElem?_set_self h3
    rw [ze_call, za_cons, ze_var, e0, zl_ok, consK_ok, za_cons, ze_var, e3, zl_ok, consK_ok, za_nil, cons2K_ok, cons2K_ok, callK_ok]
    exact loose_int
variable {b p g : Int} {vs : List Int}
theorem loose_paper {t t' : Bool} {m : Int} (hc : c.st = some (x, y)) (hl : vs.length ≤ lim) (B : Bud (m + 2) s) (hm : 0 ≤ m) :
    ∃ u u' s2, F__law_loose c s [.opq (.ref x), pap t t' b p g vs] = .ok (rt u [.int b, .int p, .int g, sq u' (vs.map D.int)]) s2 ∧ Bud m s2 := by
  obtain ⟨u', s1, e1, B1⟩ := loose_nums (c := c) (k := 11) (t := t') (vs := vs) (m := m + 1) hc hl (show Bud (m + 1 + 1) s from B.mono (by omega) (by omega)) (by omega)
  obtain ⟨u, s2, e2, B2⟩ := loose_seq (c := c) (k := 13) (ds := [.int b, .int p, .int g, sq t' (vs.map D.int)]) (es := [.int b, .int p, .int g, rt u' (vs.map D.int)]) (t := t) (s := s) hc (by simp [frz_sq]) (fun Δ h4 h0 => by
    have h3 : 3 < Δ.length := by omega
    have f : frz (sq t' (vs.map D.int)) = sq t' (vs.map D.int) := frz_sq (by simp)
    have h0' : Δ[0]? = some (some (D.opq (.ref x))) := h0
    rcases Δ with _ | ⟨a0, _ | ⟨a1, _ | ⟨a2, _ | ⟨a3, _ | ⟨a4, r⟩⟩⟩⟩⟩ <;> simp at h4 <;> simp at h0'
    subst h0'
    simp [loose_int, f, e1]) B1 hm
  exact ⟨u, u', s2, Eq.trans e2 (by simp [frz_rt]), B2⟩
/-- a drawn paper -/
theorem c_paper_ok {far gains k : Int} (hc : c.st = some (x, y)) (h1 : 0 < far) (h2 : far < 1000) (h3 : 0 < gains) (h4 : gains < 1000) (hk : 0 ≤ k) (B : Bud (k + 4 + 2 * far) s) :
    ∃ b p g vs s', F__law_c_paper c s [.opq (.ref x), .int far, .int gains] = .ok (.tup true [.int b, .int p, .int g, .lst false (vs.map D.int)]) s' ∧ Pap b p g vs ∧ b ≤ far ∧ p ≤ far ∧ g < gains ∧ (∀ v ∈ vs, v < 4) ∧ Bud k s' := by
  obtain ⟨b, s1, e1, b0, b1, B1⟩ := draw_at (c := c) (m := far) (k := k + 3 + 2 * far) hc (by omega) (by omega) (B.mono (by omega) (by omega)) (by omega)
  obtain ⟨p, s2, e2, p0, p1, B2⟩ := draw_at (c := c) (m := far) (k := k + 2 + 2 * far) hc (by omega) (by omega) (B1.mono (by omega) (by omega)) (by omega)
  obtain ⟨w, s3, e3, w0, w1, B3⟩ := draw_at (c := c) (m := 4) (k := k + 1 + 2 * far) hc (by omega) (by omega) (B2.mono (by omega) (by omega)) (by omega)
  have n0 : (0 : Int) ≤ 1 + b + (1 + p) - 1 := by omega
  obtain ⟨n, hn⟩ : ∃ n : Nat, (1 + b + (1 + p) - 1).toNat = n := ⟨_, rfl⟩
  have hn' : (n : Int) = 1 + b + (1 + p) - 1 := by rw [← hn, Int.toNat_of_nonneg n0]
  have h5 : rng1D [.int (1 + b + (1 + p) - 1)] = some (false, rngD 0 n) := by rw [← hn]; exact z_rng1 (by omega) (by omega)
  obtain ⟨ds, s4, e4, l4, a4, B4⟩ := cmpR_draw (c := c) (i := 7) (j := 0) (l := 5) (lo := 0) (m := 1 + w) (k := k + 1) (n := n) (s := s3) (Δ := [some (D.opq (V.ref x)), none, none, some (D.int (1 + b)), some (D.int (1 + p)), some (D.int (1 + w)), none, none])
    hc (by omega) (by omega) (B3.mono (by omega) (by omega)) (by omega) (by rw [z_lim]; omega) rfl rfl (by decide) (by decide)
  obtain ⟨q, s5, e5, q0, q1, B5⟩ := draw_at (c := c) (m := gains) (k := k) hc (by omega) (by omega) B4 (by omega)
  have l5 : 1 + ds.length ≤ lim := by rw [z_lim]; omega
  refine ⟨1 + b, 1 + p, q, 0 :: ds, s5, ?_, ⟨by omega, by omega, q0, by omega, by rw [List.length_cons, l4]; omega, by rw [List.length_cons, l4]; omega, rfl, fun v m => ?_⟩, by omega, by omega, q1, fun v m => ?_, B5⟩
  · rw [run_at (F__law_c_paper.eq_def c) rfl]
    have l6 : 1 + ds.length ≤ 16777216 := l5
    simp [b__law_c_paper, e1, e2, e3, h5, e4, e5, l6]
  · rcases List.mem_cons.mp m with rfl | m
    · omega
    · exact (a4 v m).1
  · rcases List.mem_cons.mp m with rfl | m
    · omega
    · have := (a4 v m).2; omega
variable {c : Cf} {s : Strm}
/-! ### repr of papers -/
theorem toPL_ints : ∀ vs : List Int, toPL (vs.map D.int) = some (vs.map .int)
  | [] => rfl
  | v :: vs => by simp only [List.map_cons, toPL, toP, toPL_ints vs]
theorem shown_int {v : Int} (h : v.natAbs < 10 ^ 7) : (PyData.shown (.int v)).length ≤ 8 := by
  have := int_text_length_le10 (k := 7) (by decide) h
  show (Str.ofString (toString v)).length ≤ 8
  rw [ofString_length]
  exact this
theorem able_log {v : Int} (h : v.natAbs < 10 ^ 7) : v.natAbs.log2 < 1920 := by
  by_cases h0 : v.natAbs = 0
  · rw [h0]; decide
  · exact Nat.lt_of_lt_of_le ((Nat.log2_lt h0).mpr (Nat.lt_of_lt_of_le h (by decide : 10 ^ 7 ≤ 2 ^ 24))) (by decide)
theorem able_int {v : Int} (h : v.natAbs < 10 ^ 7) : PyData.showable (.int v) = true := by
  simp only [PyData.showable, decide_eq_true_eq]
  exact able_log h
theorem able_ints : ∀ {vs : List Int}, (∀ v ∈ vs, v.natAbs < 10 ^ 7) → PyData.showableAll (vs.map .int) = true ∧ PyData.leavesShortAll 8 (vs.map .int) = true ∧ PyData.depthAll (vs.map .int) = 0 ∧ PyData.bulkAll (vs.map .int) = vs.length
  | [], _ => ⟨rfl, rfl, rfl, rfl⟩
  | v :: vs, h => by
    obtain ⟨a, b, c, d⟩ := able_ints fun w m => h w (List.mem_cons_of_mem _ m)
    have hv := h v List.mem_cons_self
    refine ⟨?_, ?_, ?_, ?_⟩
    · simp only [List.map_cons, PyData.showableAll, able_int hv, a]; rfl
    · simp only [List.map_cons, PyData.leavesShortAll, PyData.leavesShort, decide_eq_true (shown_int hv), b]; rfl
    · simp only [List.map_cons, PyData.depthAll, PyData.depth, c]; rfl
    · simp only [List.map_cons, PyData.bulkAll, PyData.bulk, d, List.length_cons]; omega
theorem reprOk_of {p : PyData} (h1 : p.showable = true) (h2 : p.depth ≤ 40) (h3 : p.leavesShort 8 = true) (h4 : p.bulk ≤ 1000000) : reprOk p = true := by
  have := PyData.shown_le_bulk 8 (by decide) p h3
  unfold reprOk
  rw [h1, decide_eq_true h2, decide_eq_true (show p.shown.length ≤ lim by rw [z_lim]; omega)]
  rfl
variable {b p g : Int} {vs : List Int} {t t' : Bool}
def papP (t t' : Bool) (b p g : Int) (vs : List Int) : PyData :=
  let q : PyData := if t' then .tuple (vs.map .int) else .list (vs.map .int)
  if t then .tuple [.int b, .int p, .int g, q] else .list [.int b, .int p, .int g, q]
theorem repr_pap (hb : b.natAbs < 10 ^ 7) (hp : p.natAbs < 10 ^ 7) (hg : g.natAbs < 10 ^ 7) (hv : ∀ v ∈ vs, v.natAbs < 10 ^ 7) (hl : vs.length ≤ 900000) : gRepr [pap t t' b p g vs] = some (.str (papP t t' b p g vs).shown) := by
  obtain ⟨a1, a2, a3, a4⟩ := able_ints hv
  have e : toP (pap t t' b p g vs) = some (papP t t' b p g vs) := by cases t <;> cases t' <;> simp [sq, toP, toPL, toPL_ints, papP]
  have ok : reprOk (papP t t' b p g vs) = true := by
    cases t <;> cases t' <;> refine reprOk_of ?_ ?_ ?_ ?_ <;> simp [papP, PyData.showable, PyData.showableAll, PyData.depth, PyData.depthAll, PyData.leavesShort, PyData.leavesShortAll, PyData.bulk, PyData.bulkAll, a1, a2, a3, a4] <;>
      first | omega | exact ⟨able_log hb, able_log hp, able_log hg⟩ | exact ⟨shown_int hb, shown_int hp, shown_int hg⟩ | skip
  show (if isRf _ = true then (match toP (pap t t' b p g vs) with | some p => if reprOk p = true then some (D.str p.shown) else none | none => none) else none) = _
  rw [e]
  dsimp only
  rw [ok, if_pos rfl, if_pos (by cases t <;> rfl)]
variable {c : Cf} {s : Strm} {b p g : Int} {vs : List Int} {t t' : Bool} {x y : Addr}
theorem draw_le {m j k : Int} (hc : c.st = some (x, y)) (B : Bud j s) (h0 : 0 < m) (h1 : m < 2 ^ 63) (hj : k + 1 ≤ j) (hk : 0 ≤ k) : ∃ v s', F_draw c s [.opq (.ref x), .int m] = .ok (.int v) s' ∧ 0 ≤ v ∧ v < m ∧ Bud k s' := draw_at hc h0 h1 (B.mono (by omega) hj) hk
theorem for_step {g : XG c} {b rest : XS c} {ds : List D} {s : Strm} {Δ : Ly.Env} {I : Ly.Env → Prop} {k k2 : Int} {r : Strm → R D}
    (h : ∃ s' Δ', forE g b ds s Δ = .ok (.nx Δ') s' ∧ I Δ' ∧ Bud k s') (next : ∀ s' Δ', I Δ' → Bud k s' → ∃ s2, runR (rest.ev s' Δ') = r s2 ∧ Bud k2 s2) : ∃ s2, runR (seqK rest (forE g b ds s Δ)) = r s2 ∧ Bud k2 s2 := by
  obtain ⟨s', Δ', e, h1, h2⟩ := h
  rw [e]
  exact next s' Δ' h1 h2
theorem shr_rt {t : Bool} {u : Bool} {b p g : Int} {vs : List Int} : shr (rt t [.int b, .int p, .int g, sq u (vs.map D.int)]) = true := by cases t <;> cases u <;> simp [rt, sq]
theorem frz_rtp {t : Bool} {u : Bool} {b p g : Int} {vs : List Int} : frz (rt t [.int b, .int p, .int g, sq u (vs.map D.int)]) = pap t u b p g vs := by cases t <;> cases u <;> simp [rt, sq]
theorem ix_pap0 : gIx (pap t t' b p g vs) (.int 0) = some (.int b) := by cases t <;> simp [sq]
theorem ix_pap1 : gIx (pap t t' b p g vs) (.int 1) = some (.int p) := by cases t <;> simp [sq]
theorem ix_pap2 : gIx (pap t t' b p g vs) (.int 2) = some (.int g) := by cases t <;> simp [sq]
theorem ix_pap3 : gIx (pap t t' b p g vs) (.int 3) = some (sq t' (vs.map D.int)) := by cases t <;> simp [sq]
theorem told_len {n : Nat} : (told b p g vs n).length = n := by simp [told]
theorem cmp_told {n i j : Nat} {Δ : Ly.Env} (P : Pap b p g vs) (hn : n ≤ lim) (hj : Δ[j]? = some (some (pap true false b p g vs))) (hi : i < Δ.length) (hij : i ≠ j) :
    cmpR (c := c) (.name i) XT.yes (.call (F__law_a_told c) (.cons (.var j) (.cons (.var i) .nil))) Δ (rngD 0 n) s = .ok (.lst true ((told b p g vs n).map D.int)) s := by
  rw [cmpR_rng (f := fun k => .int (vAt b p g vs k)) hn (fun v h0 h1 => ⟨rfl, ?_⟩)]
  · simp [told]
  · have gj : (Δ.set i (some (.int v)))[j]? = some (some (pap true false b p g vs)) := by rw [List.getElem?_set_ne hij]; exact hj
    have gi : (Δ.set i (some (.int v)))[i]? = some (some (.int v)) := List.getElem?_set_self hi
    rw [ze_call, za_cons, ze_var, gj, zl_ok, consK_ok, za_cons, ze_var, gi, zl_ok, consK_ok, za_nil, cons2K_ok, cons2K_ok, callK_ok, z_frzL1, frz_pap]
    exact a_told_ok P (by omega)
theorem same_ints {l : List Int} (h : l.length ≤ lim) : F__law_same c s [.lst false (l.map D.int), .lst false (l.map D.int)] = .ok (.bl true) s := by
  have := same_refl (c := c) 14 (.lst false (l.map D.int)) (by
    simp only [sameOk, List.length_map, decide_eq_true h, List.all_map]
    simp [Function.comp_def, sameOk]) s
  simpa using this
theorem same_int {v : Int} : F__law_same c s [.int v, .int v] = .ok (.bl true) s := same_refl (c := c) 14 (.int v) rfl s
theorem not_len (hb : 1 ≤ b) (hp : 1 ≤ p) (hg : 0 ≤ g) (hl : (vs.length : Int) ≠ b + p) : F_as_paper c s [pap t t' b p g vs] = .ok .non s := by
  rw [run_at (F_as_paper.eq_def c) rfl]
  have b0 : 0 ≤ b := by omega
  have p0 : 0 ≤ p := by omega
  have b1 : ¬ b < 1 := by omega
  have p1 : ¬ p < 1 := by omega
  cases t <;> cases t' <;> simp [b_as_paper, sq, gSl, HT.sIx, cutD, isNum_int, isList_t, isList_l, b0, p0, hg, b1, p1, hl]
theorem nth_set {l : List Int} {i j v : Int} (h0 : 0 ≤ i) (h1 : 0 ≤ j) (h2 : i < l.length) : nth (l.set i.toNat v) j = if i = j then v else nth l j := by
  unfold nth
  rw [List.getD_eq_getElem?_getD, List.getD_eq_getElem?_getD, List.getElem?_set]
  by_cases h : i = j
  · subst h
    rw [if_pos rfl, if_pos rfl, if_pos (by omega)]
    rfl
  · rw [if_neg h, if_neg (by omega)]
theorem mem_set_or {l : List Int} {n : Nat} {v w : Int} (h : w ∈ l.set n v) : w = v ∨ w ∈ l := by
  rcases List.mem_or_eq_of_mem_set h with h | h
  · exact .inr h
  · exact .inl h
variable {c : Cf} {s : Strm} {b p g : Int} {vs : List Int} {t t' : Bool} {x y : Addr}
/-! ### what is told, or how it is refused -/
def metO (s : Strm) : Option (List D) → R D
  | some zs => if zs.length ≤ 16 then .ok (.tup true zs) s else .bad
  | none => .bad
@[simp] theorem metO_s {zs : List D} : metO s (some zs) = if zs.length ≤ 16 then .ok (.tup true zs) s else .bad := rfl
def metK (c : Cf) (ms : List Mcl) : R D → R D
  | .ok d s => .ok (.tup true [.str "told", d]) s
  | .er k p s => metO s (metE c k p ms)
  | .bad => .bad
@[simp] theorem metK_ok {ms : List Mcl} {d : D} : metK c ms (.ok d s) = .ok (.tup true [.str "told", d]) s := rfl
@[simp] theorem metK_er {ms : List Mcl} {k : Str} {p : Pyl} : metK c ms (.er k p s) = metO s (metE c k p ms) := rfl
theorem z_met {P : Addr} {q : Str} {mm : Nat} {ms : List Mcl} {b : XE c} {Δ : Ly.Env} (h : tabOk c P q = true) (h2 : msOk mm ms = true) : (XE.met P q mm ms b).ev s Δ = metK c ms (b.ev s Δ) := by
  show (if (tabOk c P q && msOk mm ms) = true then _ else _) = _
  rw [h, h2, if_pos (by rfl)]
  rcases b.ev s Δ with ⟨d, s'⟩ | ⟨k, p, s'⟩ | _
  · rfl
  · show _ = metO s' (metE c k p ms)
    dsimp only
    cases metE c k p ms <;> rfl
  · rfl
theorem ms_ok : msOk 2 ms__law_c_met = true := rfl
abbrev thing (d : D) : Pyl := some (["thing"], [d])
theorem fld_thing {d : D} : plEv (thing d) [.fld "thing"] = some [d] := rfl
theorem met_paper (X : Px c) {d : D} : metE c "BadPaper" (thing d) ms__law_c_met = some [.str "paper", d] := by
  simp [ms__law_c_met, metE, X.x_BadPaper_BadBook, X.x_BadPaper_BadPaper, fld_thing]
/-! ### what is none -/
structure Odd (c : Cf) (d : D) : Prop where
  ap : ∀ s, F_as_paper c s [d] = .ok .non s
  fz : frz d = d
  so : sameOk 11 d = true
variable {d : D}
theorem odd_checked (O : Odd c d) : F_checked_paper c s [d] = .er "BadPaper" (thing d) s := by
  rw [run_at (F_checked_paper.eq_def c) rfl]
  simp [b_checked_paper, O.fz, O.ap]
def odds : List D := [.non, .int 5, .str "paper", .tup true [], .dic true [] [], .bl true, .tup true [.int 1, .int 1, .int 0], .tup true [.int 1, .int 1, .int 0, .lst true [.int 0]], .tup true [.int 0, .int 1, .int 0, .lst true [.int 0]], .tup true [.int 1, .int 0, .int 0, .lst true [.int 0]],
  .tup true [.int 1, .int 1, .int (-1), .lst true [.int 0, .int 0]], .tup true [.int 1, .int 1, .int 0, .lst true [.int 0, .int (-1)]], .tup true [.int 1, .int 1, .int 0, .lst true [.int 0, .bl true]], .tup true [.int 1, .bl true, .int 0, .lst true [.int 0, .int 0]], .tup true [.int 1, .int 1, .int 0, .str "00"],
  .tup true [.int 1, .int 1, .int 0, .lst true [.int 1, .int 0]], .tup true [.int 1, .int 1, .int 0, .lst true [.int 0, .int 0, .int 0]], .tup true [.int 1, .int 1, .int 0, .non], .tup true [.int 1, .int 1, .non, .lst true [.int 0, .int 0]], .dic true [.inr "begin"] [.int 1], .tup true [.int 1, .int 1, .int 0, .lst true [.int 0, .int 0], .int 0]]
theorem c_odd_ok : ∃ l, (∀ s, F__law_c_odd c s [] = .ok (.lst true l) s) ∧ frzL l = odds.map frz := ⟨_, fun _ => rfl, rfl⟩
theorem odds_ok : ∀ d ∈ odds, Odd c (frz d) := by
  intro d m
  simp only [odds, List.mem_cons, List.not_mem_nil, or_false] at m
  rcases m with rfl | rfl | rfl | rfl | rfl | rfl | rfl | rfl | rfl | rfl | rfl | rfl | rfl | rfl | rfl | rfl | rfl | rfl | rfl | rfl | rfl <;> exact ⟨fun s => rfl, rfl, rfl⟩
theorem z_mulL {o : Bool} {ds : List D} {i : Int} : gMul (.lst o ds) (.int i) = if -(2 ^ 63) ≤ i ∧ i < 2 ^ 63 ∧ ds.length * i.toNat ≤ lim then some (.lst true (repl i.toNat (frzL ds))) else none := rfl
@[simp ↓] theorem ze_dic0 {Δ : Ly.Env} : (XE.dic0 (c := c)).ev s Δ = .ok (.dic true [] []) s := rfl
theorem so_mono : ∀ {k : Nat} {d : D}, sameOk k d = true → sameOk (k + 1) d = true
  | 0, d, h => by simp [sameOk] at h
  | k + 1, d, h => by
    cases d with
    | lst o ds =>
      simp only [sameOk, Bool.and_eq_true, List.all_eq_true, decide_eq_true_eq] at h ⊢
      exact ⟨h.1, fun d m => so_mono (h.2 d m)⟩
    | tup o ds =>
      simp only [sameOk, Bool.and_eq_true, List.all_eq_true, decide_eq_true_eq] at h ⊢
      exact ⟨h.1, fun d m => so_mono (h.2 d m)⟩
    | dic o ks ds =>
      have e : ∀ n, sameOk (n + 1) (.dic o ks ds) = sameOk n (.lst true ((ks.zip (frzL ds)).map fun p => .tup false [keyD p.1, p.2])) := fun n => by simp only [sameOk]
      rw [e] at h ⊢
      exact so_mono h
    | ins _ _ _ _ => simp [sameOk] at h
    | opq _ => simp [sameOk] at h
    | _ => rfl
/-- two equal pairs are the same -/
theorem same_pair {z : Str} (h : sameOk 11 d = true) (hf : frz d = d) : F__law_same c s [.tup false [.str z, d], .tup false [.str z, d]] = .ok (.bl true) s := by
  have := same_refl (c := c) 14 (.tup false [.str z, d]) (by simp [sameOk, so_mono (so_mono h)]) s
  simpa [hf] using this
theorem for_still {g : XG c} {b rest : XS c} {ds : List D} {s : Strm} {Δ : Ly.Env} {I : Ly.Env → Prop} {r : R D}
    (h : ∃ Δ', forE g b ds s Δ = .ok (.nx Δ') s ∧ I Δ') (next : ∀ Δ', I Δ' → runR (rest.ev s Δ') = r) : runR (seqK rest (forE g b ds s Δ)) = r := by
  obtain ⟨Δ', e, h1⟩ := h
  rw [e]
  exact next Δ' h1
end Wk19

end
section
set_option Elab.async false
set_option linter.all false
set_option maxRecDepth 100000
set_option maxHeartbeats 1000000
namespace Lst
/-- values that go on by p and g from b -/
structure Per (f : Int → Int) (b p g : Int) : Prop where
  hb : 1 ≤ b
  hp : 1 ≤ p
  hg : 0 ≤ g
  go : ∀ n, b ≤ n → f (n + p) = f n + g
def Sh (f : Int → Int) (N q G : Int) : Prop := ∀ n, N ≤ n → f (n + q) = f n + G
variable {f : Int → Int} {b p g q G N : Int}
theorem Sh.many (h : Sh f N q G) (hq : 0 ≤ q) : ∀ (k : Nat) (n : Int), N ≤ n → f (n + k * q) = f n + k * G
  | 0, n, _ => by simp
  | k + 1, n, hn => by
    have hk : 0 ≤ (k : Int) * q := Int.mul_nonneg (by omega) hq
    have e : n + ((k + 1 : Nat) : Int) * q = (n + k * q) + q := by push_cast; rw [Int.add_mul, Int.one_mul]; omega
    rw [e, h _ (by omega), h.many hq k n hn]
    push_cast; rw [Int.add_mul, Int.one_mul]; omega
theorem Sh.down (P : Per f b p g) (h : Sh f N q G) (hq : 0 ≤ q) : Sh f b q G := by
  intro n hn
  have hp := P.hp
  have hP : Sh f b p g := P.go
  obtain ⟨k, hk⟩ : ∃ k : Nat, N ≤ n + k * p := by
    refine ⟨(N - n).toNat, ?_⟩
    have h1 : ((N - n).toNat : Int) * 1 ≤ (N - n).toNat * p := Int.mul_le_mul_of_nonneg_left hp (by omega)
    omega
  have h1 := hP.many (by omega) k n hn
  have h2 := hP.many (by omega) k (n + q) (by omega)
  have h3 := h _ hk
  have e : n + (k : Int) * p + q = n + q + k * p := by omega
  rw [e] at h3
  omega
theorem Sh.sub {q' G' : Int} (P : Per f b p g) (h : Sh f b q G) (h' : Sh f b q' G') (h0 : 0 ≤ q') (hq : q' ≤ q) : Sh f b (q - q') (G - G') := by
  have h1 : Sh f (b + q') (q - q') (G - G') := fun n hn => by
    have a := h (n - q') (by omega)
    have c := h' (n - q') (by omega)
    have e1 : n - q' + q = n + (q - q') := by omega
    have e2 : n - q' + q' = n := by omega
    rw [e1] at a
    rw [e2] at c
    omega
  exact h1.down P (by omega)
theorem Sh.gain (P : Per f b p g) (h : Sh f b q G) (hq : 0 ≤ q) : p * G = q * g := by
  have hp := P.hp
  have hP : Sh f b p g := P.go
  have h1 := hP.many (by omega) q.toNat b (Int.le_refl _)
  have h2 := h.many hq p.toNat b (Int.le_refl _)
  rw [Int.toNat_of_nonneg hq] at h1
  rw [Int.toNat_of_nonneg (by omega)] at h2
  rw [Int.mul_comm p q] at h2
  omega
theorem Sh.pos (P : Per f b p g) (h : Sh f b q G) (hq : 0 ≤ q) : 0 ≤ G := by
  have e := h.gain P hq
  have h1 : 0 ≤ q * g := Int.mul_nonneg hq P.hg
  have hp := P.hp
  by_cases h0 : 0 ≤ G
  · exact h0
  · have : p * G < 0 := Int.mul_neg_of_pos_of_neg (by omega) (by omega)
    omega
/-- the least period divides -/
theorem Sh.dvd (P : Per f b p g) (h : Sh f b q G) (hq : 1 ≤ q) (least : ∀ q' G', 1 ≤ q' → Sh f b q' G' → q ≤ q') : p % q = 0 := by
  have hp := P.hp
  have hP : Sh f b p g := P.go
  have hm := Int.emod_nonneg p (show q ≠ 0 by omega)
  have hl := Int.emod_lt_of_pos p (show 0 < q by omega)
  have hd : 0 ≤ p / q := Int.ediv_nonneg (by omega) (by omega)
  have key : ∀ k : Nat, (k : Int) * q ≤ p → ∃ G', Sh f b (p - k * q) G' := by
    intro k
    induction k with
    | zero => intro _; exact ⟨g, by simpa using hP⟩
    | succ k ih =>
      intro hk
      push_cast at hk
      rw [Int.add_mul, Int.one_mul] at hk
      obtain ⟨G', h1⟩ := ih (by omega)
      refine ⟨G' - G, ?_⟩
      have := h1.sub P h (by omega) (by omega)
      have e : p - (k : Int) * q - q = p - ((k + 1 : Nat) : Int) * q := by push_cast; rw [Int.add_mul, Int.one_mul]; omega
      rw [e] at this
      exact this
  have e := Int.emod_add_mul_ediv p q
  obtain ⟨G', h1⟩ := key (p / q).toNat (by rw [Int.toNat_of_nonneg hd, Int.mul_comm]; omega)
  rw [Int.toNat_of_nonneg hd, Int.mul_comm (p / q) q] at h1
  have e2 : p - q * (p / q) = p % q := by omega
  rw [e2] at h1
  by_cases z : p % q = 0
  · exact z
  · have := least _ _ (by omega) h1
    omega
/-- the least period, then the least begin -/
structure Least (f : Int → Int) (B q G : Int) : Prop where
  hB : 1 ≤ B
  hq : 1 ≤ q
  sh : Sh f B q G
  mn : ∀ q' G' N, 1 ≤ q' → Sh f N q' G' → q ≤ q'
  st : B = 1 ∨ f (B - 1 + q) ≠ f (B - 1) + G
theorem Least.uniq {B q G B' q' G' : Int} (x : Least f B q G) (y : Least f B' q' G') : B = B' ∧ q = q' ∧ G = G' := by
  have e1 : q = q' := by
    have := x.mn _ _ _ y.hq y.sh
    have := y.mn _ _ _ x.hq x.sh
    omega
  subst e1
  have e2 : G = G' := by
    obtain ⟨M, h1, h2⟩ : ∃ M, B ≤ M ∧ B' ≤ M := ⟨max B B', by omega, by omega⟩
    have a := x.sh M h1
    have c := y.sh M h2
    omega
  subst e2
  refine ⟨?_, rfl, rfl⟩
  have := x.hB
  have := y.hB
  rcases Int.lt_trichotomy B B' with h | h | h
  · rcases y.st with s | s
    · omega
    · exact absurd (x.sh (B' - 1) (by omega)) s
  · exact h
  · rcases x.st with s | s
    · omega
    · exact absurd (y.sh (B - 1) (by omega)) s
/-- all windows -/
theorem sh_win (P : Per f b p g) (hq : 0 ≤ q) (h : ∀ n, b ≤ n → n < b + p → f (n + q) = f n + G) : Sh f b q G := by
  have hp := P.hp
  have key : ∀ k : Nat, ∀ n, b ≤ n → n < b + p + k → f (n + q) = f n + G := by
    intro k
    induction k with
    | zero => intro n h1 h2; exact h n h1 (by simpa using h2)
    | succ k ih =>
      intro n h1 h2
      by_cases h3 : n < b + p
      · exact h n h1 h3
      · have a := ih (n - p) (by omega) (by push_cast at h2; omega)
        have c := P.go (n - p) (by omega)
        have d := P.go (n - p + q) (by omega)
        have e1 : n - p + p = n := by omega
        have e2 : n - p + q + p = n + q := by omega
        rw [e1] at c
        rw [e2] at d
        omega
  intro n hn
  exact key (n - b).toNat n hn (by omega)
/-- two that tell alike long enough tell alike for ever -/
theorem alike {f' : Int → Int} {M L K K' : Int} (hL : 1 ≤ L) (h1 : Sh f M L K) (h2 : Sh f' M L K') (h : ∀ n, M ≤ n → n < M + 2 * L → f n = f' n) : ∀ n, M ≤ n → f n = f' n := by
  have eK : K = K' := by
    have a := h1 M (Int.le_refl _)
    have c := h2 M (Int.le_refl _)
    have d := h M (Int.le_refl _) (by omega)
    have e := h (M + L) (by omega) (by omega)
    omega
  subst eK
  have key : ∀ k : Nat, ∀ n, M ≤ n → n < M + L + k → f n = f' n := by
    intro k
    induction k with
    | zero => intro n a c; exact h n a (by omega)
    | succ k ih =>
      intro n a c
      by_cases h3 : n < M + L
      · exact h n a (by omega)
      · have x := h1 (n - L) (by omega)
        have y := h2 (n - L) (by omega)
        have z := ih (n - L) (by omega) (by omega)
        have e : n - L + L = n := by omega
        rw [e] at x y
        omega
  intro n hn
  exact key (n - M).toNat n hn (by omega)
end Lst
namespace Wk19
open PySem L2 Ly Lst
variable {c : Cf} {s : Strm} {b p g n : Int} {vs : List Int} {t t' : Bool} {x y : Addr}
theorem vAt_ge {h : Int} (hb : b ≤ h) (hp : 0 < p) : vAt b p g vs h = nth vs (b + (h - b) % p) + (h - b) / p * g := by
  unfold vAt
  split
  · rw [Int.emod_eq_of_lt (by omega) (by omega), Int.ediv_eq_zero_of_lt (by omega) (by omega)]
    rw [show b + (h - b) = h by omega]; omega
  · rfl
theorem per_vAt (P : Pap b p g vs) : Per (vAt b p g vs) b p g := ⟨P.hb, P.hp, P.hg, fun n hn => by
  have hp := P.hp
  rw [vAt_ge (by omega) (by omega), vAt_ge hn (by omega)]
  have e : n + p - b = (n - b) + p * 1 := by omega
  rw [e, Int.add_mul_emod_self_left, Int.add_mul_ediv_left _ _ (by omega), Int.add_mul]
  omega⟩
/-- the gains of a window -/
def gl (f : Int → Int) (b q : Int) (m : Nat) : List Int := (List.range m).map fun (k : Nat) => f (b + k + q) - f (b + k)
theorem gl_len {f : Int → Int} {q : Int} {m : Nat} : (gl f b q m).length = m := by simp [gl]
theorem gl_0 {f : Int → Int} {q : Int} {m : Nat} (h : 0 < m) : (gl f b q m)[0]? = some (f (b + q) - f b) := by
  unfold gl
  rw [List.getElem?_map, List.getElem?_range h]
  simp
theorem gl_all {f : Int → Int} {q G : Int} {m : Nat} : gl f b q m = List.replicate m G ↔ ∀ n, b ≤ n → n < b + m → f (n + q) = f n + G := by
  unfold gl
  rw [List.eq_replicate_iff]
  simp only [List.length_map, List.length_range, true_and, List.mem_map, List.mem_range, forall_exists_index, and_imp]
  constructor
  · intro h n h1 h2
    have := h _ (n - b).toNat (by omega) rfl
    rw [Int.toNat_of_nonneg (by omega), show b + (n - b) = n by omega] at this
    omega
  · rintro h w k hk rfl
    have := h (b + k) (by omega) (by omega)
    omega
/-- by how much values go on, if they do -/
def gb (f : Int → Int) (b q : Int) (m : Nat) : Option Int := if gl f b q m = List.replicate m (f (b + q) - f b) ∧ 0 ≤ f (b + q) - f b then some (f (b + q) - f b) else none
theorem gb_some {f : Int → Int} {q G : Int} {m : Nat} (P : Per f b p g) (hq : 0 ≤ q) (hm : p ≤ m) : gb f b q m = some G ↔ Sh f b q G := by
  have hp := P.hp
  unfold gb
  constructor
  · intro h
    split at h
    · rename_i h1
      cases h
      exact sh_win P hq fun n a c => gl_all.mp h1.1 n a (by omega)
    · cases h
  · intro h
    have e : f (b + q) - f b = G := by have := h b (Int.le_refl _); omega
    rw [e, if_pos ⟨gl_all.mpr fun n a _ => h n a, h.pos P hq⟩]
theorem gb_none {f : Int → Int} {q : Int} {m : Nat} (P : Per f b p g) (hq : 0 ≤ q) (hm : p ≤ m) : gb f b q m = none ↔ ∀ G, ¬ Sh f b q G := by
  constructor
  · intro h G hG
    rw [(gb_some P hq hm).mpr hG] at h
    cases h
  · intro h
    cases e : gb f b q m with
    | none => rfl
    | some G => exact absurd ((gb_some P hq hm).mp e) (h G)
theorem cmp_gains {Δ : Ly.Env} {q : Int} {i : Nat} (P : Pap b p g vs) (hq : 0 ≤ q) (h0 : Δ[0]? = some (some (pap true false b p g vs))) (h1 : Δ[1]? = some (some (.int q))) (hl : Δ.length = 5) (hm : i ≤ lim) :
    cmpR (c := c) (.name 4) XT.yes (.sub (.call (F_value_in c) (.cons (.var 0) (.cons (.add (.var 4) (.var 1)) .nil))) (.call (F_value_in c) (.cons (.var 0) (.cons (.var 4) .nil)))) Δ (rngD b i) s = .ok (.lst true ((gl (vAt b p g vs) b q i).map D.int)) s := by
  have hb := P.hb
  rw [cmpR_rng (f := fun k => .int (vAt b p g vs (k + q) - vAt b p g vs k)) hm (fun v a a2 => ⟨rfl, ?_⟩)]
  · simp [gl]
  · have g0 : (Δ.set 4 (some (.int v)))[0]? = some (some (pap true false b p g vs)) := by rw [List.getElem?_set_ne (by decide)]; exact h0
    have g1 : (Δ.set 4 (some (.int v)))[1]? = some (some (.int q)) := by rw [List.getElem?_set_ne (by decide)]; exact h1
    have g4 : (Δ.set 4 (some (.int v)))[4]? = some (some (.int v)) := List.getElem?_set_self (by omega)
    have e1 := value_in_ok (c := c) (s := s) P (n := v + q) (by omega)
    have e2 := value_in_ok (c := c) (s := s) P (n := v) (by omega)
    simp only [sq] at e1 e2 g0
    simp [g0, g1, g4, e1, e2]
theorem gains_ok {q : Int} (P : Pap b p g vs) (hq : 0 ≤ q) (hb : b ≤ 1000000) (hp : p ≤ 1000000) : F_gains_by c s [pap true false b p g vs, .int q] = .ok (oD (gb (vAt b p g vs) b q p.toNat)) s := by
  have hb1 := P.hb
  have hp1 := P.hp
  have hr : rng2D [.int b, .int (b + p)] = some (false, rngD b p.toNat) := by
    rw [z_rng2 (by omega) (by omega) (by omega) (by omega), show b + p - b = p by omega]
  have hc := fun Δ h0 h1 hl => cmp_gains (c := c) (s := s) (Δ := Δ) (i := p.toNat) P hq h0 h1 hl (by rw [z_lim]; omega)
  have h00 := gl_0 (f := vAt b p g vs) (b := b) (q := q) (m := p.toNat) (by omega)
  rw [run_at (F_gains_by.eq_def c) rfl]
  simp only [sq] at hc
  simp [b_gains_by, sq, hr]
  rw [hc _ rfl rfl rfl]
  have hmx : max p 0 = p := by omega
  have hl1 : -9223372036854775808 ≤ p ∧ p < 9223372036854775808 ∧ p ≤ 16777216 := by omega
  simp [h00, gl_len, z_mulL, repl1, eq_intsR, hmx, hl1]
  unfold gb
  by_cases h1 : gl (vAt b p g vs) b q p.toNat = List.replicate p.toNat (vAt b p g vs (b + q) - vAt b p g vs b)
  · rw [decide_eq_true h1]
    by_cases h2 : 0 ≤ vAt b p g vs (b + q) - vAt b p g vs b
    · rw [if_pos ⟨h1, h2⟩]
      have h3 : vAt b p g vs b ≤ vAt b p g vs (b + q) := by omega
      simp [h3, h00, oD]
    · rw [if_neg (fun z => h2 z.2)]
      have h3 : ¬ vAt b p g vs b ≤ vAt b p g vs (b + q) := by omega
      simp [h3, h00, oD]
  · rw [decide_eq_false h1, if_neg (fun z => h1 z.1)]
    simp [h00, oD]
/-- the least one that divides and by which values go on -/
def qL (f : Int → Int) (b p : Int) : List Int := ((intsL 1 p.toNat).filter fun q => decide (p % q = 0)).filter fun q => (gb f b q p.toNat).isSome
theorem qL_head {f : Int → Int} (P : Per f b p g) : ∃ q G, (qL f b p)[0]? = some q ∧ gb f b q p.toNat = some G ∧ 1 ≤ q ∧ q ≤ p ∧ Sh f b q G ∧ ∀ q' G' N, 1 ≤ q' → Sh f N q' G' → q ≤ q' := by
  have hp := P.hp
  unfold qL
  rw [head_filter, List.find?_filter]
  obtain ⟨q, h1, h2, h3, h4, h5⟩ := ints_find (P := fun q => (gb f b q p.toNat).isSome) (lo := 1) (h := p) (n := p.toNat) (by omega) (by omega) (by
    rw [(gb_some P (by omega) (by omega)).mpr P.go]; rfl)
  obtain ⟨G, hG⟩ := Option.isSome_iff_exists.mp h4
  have sG := (gb_some P (by omega) (by omega)).mp hG
  have least : ∀ q' G' N, 1 ≤ q' → Sh f N q' G' → q ≤ q' := fun q' G' N a e => by
    by_cases z : q ≤ q'
    · exact z
    · have := h5 q' a (by omega)
      rw [(gb_some P (by omega) (by omega)).mpr (e.down P (by omega))] at this
      cases this
  have dv := sG.dvd P h2 fun q' G' a e => least q' G' b a e
  obtain ⟨q2, a1, a2, a3, a4, a5⟩ := ints_find (P := fun q => decide (p % q = 0) && (gb f b q p.toNat).isSome) (lo := 1) (h := q) (n := p.toNat) (by omega) (by omega) (by rw [hG, dv]; rfl)
  have e : q2 = q := by
    by_cases z : q2 < q
    · have b1 := h5 q2 a2 z
      have b2 := (Bool.and_eq_true_iff.mp a4).2
      rw [b1] at b2
      cases b2
    · omega
  subst e
  refine ⟨q2, G, ?_, hG, h2, h3, sG, least⟩
  simpa using a1
end Wk19

end
section
set_option Elab.async false
set_option linter.all false
set_option maxRecDepth 100000
set_option maxHeartbeats 1000000
namespace Wk19
open PySem L2 Ly Lst
variable {c : Cf} {s : Strm} {b p g n : Int} {vs : List Int} {t t' : Bool} {x y : Addr}
abbrev whT (c : Cf) : XT c := (.and (.test (.gt (.var 1) (.int 1))) (.test (.eq (.add (.call (F_value_in c) (.cons (.var 0) (.cons (.sub (.var 1) (.int 1)) .nil))) (.var 4)) (.call (F_value_in c) (.cons (.var 0) (.cons (.add (.sub (.var 1) (.int 1)) (.var 3)) .nil))))))
abbrev whB (c : Cf) : XS c := (.asg [1] (.sub (.var 1) (.int 1)) (.name 1))
abbrev lE (b p g : Int) (vs : List Int) (a q G : Int) (pt : Option D) (a5 a6 : Option D) : Ly.Env := [some (pap true false b p g vs), some (.int a), pt, some (.int q), some (.int G), a5, a6]
/-- going down to the least begin -/
theorem down_ok (P : Pap b p g vs) {q G : Int} (hq : 1 ≤ q) (pt a5 a6 : Option D) : ∀ (k : Nat) (a : Int), a = k + 1 → Sh (vAt b p g vs) a q G →
    ∃ B, 1 ≤ B ∧ B ≤ a ∧ Sh (vAt b p g vs) B q G ∧ (B = 1 ∨ vAt b p g vs (B - 1 + q) ≠ vAt b p g vs (B - 1) + G) ∧
      ∀ (s : Strm) (m : Nat), k < m → whE [0, 1, 3, 4] (whT c) (whB c) m s (lE b p g vs a q G pt a5 a6) = .ok (.nx (lE b p g vs B q G pt a5 a6)) s
  | 0, a, ha, S => by
    subst ha
    refine ⟨1, by omega, by omega, by simpa using S, .inl rfl, fun s m hm => ?_⟩
    obtain ⟨m, rfl⟩ : ∃ j, m = j + 1 := ⟨m - 1, by omega⟩
    rw [whE_succ]
    simp [sq]
  | k + 1, a, ha, S => by
    have a1 : ((k + 1 : Nat) : Int) = k + 1 := by push_cast; rfl
    have e1 := fun s : Strm => value_in_ok (c := c) (s := s) P (n := a - 1) (by omega)
    have e2 := fun s : Strm => value_in_ok (c := c) (s := s) P (n := a - 1 + q) (by omega)
    have g1 : 1 < a := by omega
    simp only [sq] at e1 e2
    by_cases h : vAt b p g vs (a - 1) + G = vAt b p g vs (a - 1 + q)
    · have S' : Sh (vAt b p g vs) (a - 1) q G := fun n hn => by
        by_cases z : n = a - 1
        · rw [z]; exact h.symm
        · exact S n (by omega)
      obtain ⟨B, b1, b2, b3, b4, b5⟩ := down_ok P hq pt a5 a6 k (a - 1) (by omega) S'
      refine ⟨B, b1, by omega, b3, b4, fun s m hm => ?_⟩
      obtain ⟨m, rfl⟩ : ∃ j, m = j + 1 := ⟨m - 1, by omega⟩
      rw [whE_succ]
      have b6 := b5 s m (by omega)
      simp only [lE, pap, sq, if_pos, if_true, Bool.false_eq_true, if_false] at b6
      simp [sq, e1, e2, g1, h]
      exact b6
    · refine ⟨a, by omega, by omega, S, .inr fun z => h z.symm, fun s m hm => ?_⟩
      obtain ⟨m, rfl⟩ : ∃ j, m = j + 1 := ⟨m - 1, by omega⟩
      rw [whE_succ]
      simp [sq, e1, e2, g1, h]
abbrev lp (b p g : Int) (vs : List Int) (B q G : Int) : D := .tup true [.int B, .int q, .int G, .lst true ((told b p g vs (B + q).toNat).map D.int)]
theorem least_in_ok (P : Pap b p g vs) (hb : b ≤ 1000000) (hp : p ≤ 1000000) : ∃ B q G, Least (vAt b p g vs) B q G ∧ B ≤ b ∧ q ≤ p ∧ ∀ s : Strm, F_least_in c s [pap true false b p g vs] = .ok (lp b p g vs B q G) s := by
  have hb1 := P.hb
  have hp1 := P.hp
  obtain ⟨q, G, h0, hG, q1, q2, S, least⟩ := qL_head (per_vAt P)
  obtain ⟨B, b1, b2, b3, b4, b5⟩ := down_ok (c := c) P q1 (some (.lst true (((intsL 1 p.toNat).filter fun q => decide (p % q = 0)).map D.int))) none none (b - 1).toNat b (by omega) S
  refine ⟨B, q, G, ⟨b1, q1, b3, least, b4⟩, b2, q2, fun s => ?_⟩
  have gq := gains_ok (c := c) (s := s) P (q := q) (by omega) hb hp
  rw [hG] at gq
  have hr : rng2D [.int 1, .int (p + 1)] = some (false, rngD 1 p.toNat) := by
    rw [z_rng2 (by omega) (by omega) (by omega) (by omega), show p + 1 - 1 = p by omega]
  have hr1 : rng1D [.int (B + q)] = some (false, rngD 0 (B + q).toNat) := z_rng1 (by omega) (by omega)
  have c1 : ∀ Δ : Ly.Env, Δ[0]? = some (some (pap true false b p g vs)) → Δ.length = 7 → cmpR (c := c) (.name 3) (.test (.eq (.mod (.ix (.var 0) (.int 1)) (.var 3)) (.int 0))) (.var 3) Δ (rngD 1 p.toNat) s = .ok (.lst true (((intsL 1 p.toNat).filter fun q => decide (p % q = 0)).map D.int)) s := fun Δ h0 hl => by
    rw [rng_is, cmpR_sift (fun q => decide (p % q = 0)) D.int (by rw [ints_len, z_lim]; omega) (fun v m => ?_)]
    obtain ⟨v1, v2⟩ := ints_mem.mp m
    have g0 : (Δ.set 3 (some (.int v)))[0]? = some (some (pap true false b p g vs)) := by rw [List.getElem?_set_ne (by decide)]; exact h0
    have g3 : (Δ.set 3 (some (.int v)))[3]? = some (some (.int v)) := List.getElem?_set_self (by omega)
    have v3 : 0 < v := by omega
    simp [g0, g3, ix_pap1, v3]
  have c2 : ∀ Δ : Ly.Env, Δ[0]? = some (some (pap true false b p g vs)) → Δ.length = 7 → cmpR (c := c) (.name 5) (.test (.notN (.call (F_gains_by c) (.cons (.var 0) (.cons (.var 5) .nil))) .non)) (.var 5) Δ (((intsL 1 p.toNat).filter fun q => decide (p % q = 0)).map D.int) s = .ok (.lst true ((qL (vAt b p g vs) b p).map D.int)) s := fun Δ h0 hl => by
    rw [cmpR_sift (fun q => (gb (vAt b p g vs) b q p.toNat).isSome) D.int (by have := List.length_filter_le (fun q => decide (p % q = 0)) (intsL 1 p.toNat); rw [ints_len] at this; rw [z_lim]; omega) (fun v m => ?_)]
    · rfl
    obtain ⟨v1, v2⟩ := ints_mem.mp ((List.mem_filter.mp m).1)
    have g0 : (Δ.set 5 (some (.int v)))[0]? = some (some (pap true false b p g vs)) := by rw [List.getElem?_set_ne (by decide)]; exact h0
    have g5 : (Δ.set 5 (some (.int v)))[5]? = some (some (.int v)) := List.getElem?_set_self (by omega)
    have gv := gains_ok (c := c) (s := s) P (q := v) (by omega) hb hp
    simp only [sq] at g0 gv
    cases e : gb (vAt b p g vs) b v p.toNat <;> rw [e] at gv <;> simp [g0, g5, gv, oD]
  have c3 : ∀ Δ : Ly.Env, Δ[0]? = some (some (pap true false b p g vs)) → Δ.length = 7 → cmpR (c := c) (.name 6) XT.yes (.call (F_value_in c) (.cons (.var 0) (.cons (.var 6) .nil))) Δ (rngD 0 (B + q).toNat) s = .ok (.lst true ((told b p g vs (B + q).toNat).map D.int)) s := fun Δ h0 hl => by
    rw [cmpR_rng (f := fun k => .int (vAt b p g vs k)) (by simp; omega) (fun v v0 v1 => ⟨rfl, ?_⟩)]
    · simp [told]
    · have g0 : (Δ.set 6 (some (.int v)))[0]? = some (some (pap true false b p g vs)) := by rw [List.getElem?_set_ne (by decide)]; exact h0
      have g6 : (Δ.set 6 (some (.int v)))[6]? = some (some (.int v)) := List.getElem?_set_self (by omega)
      have := value_in_ok (c := c) (s := s) P (n := v) (by omega)
      simp only [sq] at this g0
      simp [this, g0, g6]
  rw [run_at (F_least_in.eq_def c) rfl]
  simp only [sq] at c1 c2 c3 gq
  simp [b_least_in, sq, hr]
  rw [c1 _ rfl rfl]
  simp
  rw [c2 _ rfl rfl]
  simp [h0, gq, oD]
  have b6 := b5 s 1000000000000 (by omega)
  simp only [lE, pap, sq, if_pos, if_true, Bool.false_eq_true, if_false] at b6
  rw [b6]
  simp [hr1]
  rw [c3 _ rfl rfl]
  simp
theorem least_paper_ok (P : Pap b p g vs) (hb : b ≤ 1000000) (hp : p ≤ 1000000) : ∃ B q G, Least (vAt b p g vs) B q G ∧ B ≤ b ∧ q ≤ p ∧ ∀ (t t' : Bool) (s : Strm), F_least_paper c s [pap t t' b p g vs] = .ok (lp b p g vs B q G) s := by
  obtain ⟨B, q, G, h1, h2, h3, h4⟩ := least_in_ok (c := c) P hb hp
  refine ⟨B, q, G, h1, h2, h3, fun t t' s => ?_⟩
  simp only [pap, sq, if_true] at h4
  rw [run_at (F_least_paper.eq_def c) rfl]
  simp [b_least_paper, frz_pap, checked_paper_ok P, h4]
theorem nth_told {m : Nat} {i : Int} (h0 : 0 ≤ i) (h1 : i < m) : nth (told b p g vs m) i = vAt b p g vs i := by
  unfold nth told
  rw [List.getD_eq_getElem?_getD, List.getElem?_map, List.getElem?_range (by omega)]
  simp [Int.toNat_of_nonneg h0]
theorem told_take {m k : Nat} (h : m ≤ k) : (told b p g vs k).take m = told b p g vs m := by
  unfold told
  rw [← List.map_take, List.take_range, Nat.min_eq_left h]
def isF (f : Int → Int) (e q G B : Int) : Bool := (intsL B (e - B).toNat).all fun n => decide (f (n + q) = f n + G)
theorem isF_iff {f : Int → Int} {e q G B : Int} : isF f e q G B = true ↔ ∀ n, B ≤ n → n < e → f (n + q) = f n + G := by
  unfold isF
  rw [List.all_eq_true]
  exact ⟨fun h n a a2 => by simpa using h n (ints_mem.mpr ⟨a, by omega⟩), fun h n m => by obtain ⟨a, a2⟩ := ints_mem.mp m; simpa using h n a (by omega)⟩
theorem isf_ok {m : Nat} {B q G : Int} (P : Pap b p g vs) (h0 : 0 ≤ B) (hB : B ≤ b) (hq : 0 ≤ q) (hm : b + p + q ≤ m) (hm2 : m ≤ 10000000) : F__law_is_from c s [.lst false ((told b p g vs m).map D.int), pap true false b p g vs, .int B, .int q, .int G] = .ok (.bl (isF (vAt b p g vs) (b + p) q G B)) s := by
  have hb1 := P.hb
  have hp1 := P.hp
  have hr : rng2D [.int B, .int (b + p)] = some (false, rngD B (b + p - B).toNat) := z_rng2 (by omega) (by omega) (by omega) (by omega)
  rw [run_at (F__law_is_from.eq_def c) rfl]
  simp [b__law_is_from, sq, hr]
  rw [cmpR_rng (f := fun k => .bl (decide (vAt b p g vs (k + q) = vAt b p g vs k + G))) (by simp; omega) (fun v v0 v1 => ⟨rfl, ?_⟩)]
  · simp [isF, intsL, List.all_map, Function.comp_def]
  · have e1 := ix_nth (l := told b p g vs m) (i := v + q) (by omega) (by rw [told_len]; omega)
    have e2 := ix_nth (l := told b p g vs m) (i := v) (by omega) (by rw [told_len]; omega)
    rw [nth_told (by omega) (by omega)] at e1 e2
    simp [e1, e2]
theorem cmp_gainsT {Δ : Ly.Env} {q : Int} {i m : Nat} (P : Pap b p g vs) (hq : 0 ≤ q) (h1 : Δ[1]? = some (some (.lst false ((told b p g vs m).map D.int)))) (h2 : Δ[2]? = some (some (.int q))) (hl : Δ.length = 7) (hm : i ≤ lim) (hm2 : b + i + q ≤ m) :
    cmpR (c := c) (.name 5) XT.yes (.sub (.ix (.var 1) (.add (.var 5) (.var 2))) (.ix (.var 1) (.var 5))) Δ (rngD b i) s = .ok (.lst true ((gl (vAt b p g vs) b q i).map D.int)) s := by
  have hb := P.hb
  rw [cmpR_rng (f := fun k => .int (vAt b p g vs (k + q) - vAt b p g vs k)) hm (fun v a a2 => ⟨rfl, ?_⟩)]
  · simp [gl]
  · have g1 : (Δ.set 5 (some (.int v)))[1]? = some (some (.lst false ((told b p g vs m).map D.int))) := by rw [List.getElem?_set_ne (by decide)]; exact h1
    have g2 : (Δ.set 5 (some (.int v)))[2]? = some (some (.int q)) := by rw [List.getElem?_set_ne (by decide)]; exact h2
    have g5 : (Δ.set 5 (some (.int v)))[5]? = some (some (.int v)) := List.getElem?_set_self (by omega)
    have e1 := ix_nth (l := told b p g vs m) (i := v + q) (by omega) (by rw [told_len]; omega)
    have e2 := ix_nth (l := told b p g vs m) (i := v) (by omega) (by rw [told_len]; omega)
    rw [nth_told (by omega) (by omega)] at e1 e2
    simp [g1, g2, g5, e1, e2]
/-- the least one by which values go on -/
theorem qT_head {f : Int → Int} (P : Per f b p g) : ∃ q G, (intsL 1 p.toNat).find? (fun q => (gb f b q (p + 1).toNat).isSome) = some q ∧ gb f b q (p + 1).toNat = some G ∧ 1 ≤ q ∧ q ≤ p ∧ Sh f b q G ∧ ∀ q' G' N, 1 ≤ q' → Sh f N q' G' → q ≤ q' := by
  have hp := P.hp
  obtain ⟨q, h1, h2, h3, h4, h5⟩ := ints_find (P := fun q => (gb f b q (p + 1).toNat).isSome) (lo := 1) (h := p) (n := p.toNat) (by omega) (by omega) (by
    rw [(gb_some P (by omega) (by omega)).mpr P.go]; rfl)
  obtain ⟨G, hG⟩ := Option.isSome_iff_exists.mp h4
  have sG := (gb_some P (by omega) (by omega)).mp hG
  refine ⟨q, G, h1, hG, h2, h3, sG, fun q' G' N a e => ?_⟩
  by_cases z : q ≤ q'
  · exact z
  · have := h5 q' a (by omega)
    rw [(gb_some P (by omega) (by omega)).mpr (e.down P (by omega))] at this
    cases this
theorem sl1 {L : List Int} {w0 : Int} (h0 : L[0]? = some w0) : gSl (.lst false (L.map D.int)) none (some 1) = some (.lst true [.int w0]) := by
  cases L with
  | nil => cases h0
  | cons a r =>
    cases h0
    rfl
theorem mulR {w0 : Int} {k : Nat} (hl : k ≤ 10000000) : gMul (.lst true [.int w0]) (.int k) = some (.lst true (List.replicate k (.int w0))) := by
  rw [z_mulL, if_pos ⟨by omega, by omega, by rw [z_lim]; simp; omega⟩]
  simp [repl1]
theorem gb_is {f : Int → Int} {q : Int} {m : Nat} {L : List Int} {w0 : Int} (hL : gl f b q m = L) (hw : f (b + q) - f b = w0) : gb f b q m = if L = List.replicate L.length w0 ∧ 0 ≤ w0 then some w0 else none := by
  have := gl_len (f := f) (b := b) (q := q) (m := m)
  rw [hL] at this
  unfold gb
  rw [hL, hw, this]
theorem tst_ok {Δ : Ly.Env} {L : List Int} {w0 : Int} (h3 : Δ[3]? = some (some (.lst false (L.map D.int)))) (h0 : L[0]? = some w0) (hl : L.length ≤ 10000000) :
    (XT.and (.test (.eq (.var 3) (.mul (.sl (.var 3) .none (.some (.int 1))) (.len (.cons (.var 3) .nil))))) (.test (.ge (.ix (.var 3) (.int 0)) (.int 0))) : XT c).ev s Δ = .ok (decide (L = List.replicate L.length w0) && decide (0 ≤ w0)) s := by
  have hs := sl1 h0
  have hm := mulR (w0 := w0) hl
  simp [h3, hs, hm, eq_intsR]
  by_cases h : L = List.replicate L.length w0
  · rw [decide_eq_true h]; simp [h3, h0]
  · rw [decide_eq_false h]; simp
theorem law_least_ok (P : Pap b p g vs) (hb : b ≤ 1000000) (hp : p ≤ 1000000) : ∃ B q G, Least (vAt b p g vs) B q G ∧ B ≤ b ∧ q ≤ p ∧ ∀ s : Strm, F__law_least c s [pap true false b p g vs] = .ok (lp b p g vs B q G) s := by
  have hb1 := P.hb
  have hp1 := P.hp
  obtain ⟨q, G, h0, hG, q1, q2, S, least⟩ := qT_head (per_vAt P)
  obtain ⟨B, b1, b2, b3, b4, b5⟩ := ints_find (P := isF (vAt b p g vs) (b + p) q G) (lo := 1) (h := b) (n := b.toNat) (by omega) (by omega) (isF_iff.mpr fun n a _ => S n a)
  have SB : Sh (vAt b p g vs) B q G := fun n hn => by
    by_cases z : n < b + p
    · exact isF_iff.mp b4 n hn z
    · exact S n (by omega)
  refine ⟨B, q, G, ⟨b2, q1, SB, least, ?_⟩, b3, q2, fun s => ?_⟩
  · by_cases z : B = 1
    · exact .inl z
    · refine .inr fun e => ?_
      have := b5 (B - 1) (by omega) (by omega)
      rw [isF_iff.mpr fun n a a2 => ?_] at this
      · cases this
      · by_cases z2 : n = B - 1
        · rw [z2]; exact e
        · exact SB n (by omega)
  obtain ⟨K, hK⟩ : ∃ K : Nat, (p + 1).toNat = K := ⟨_, rfl⟩
  have hK' : (K : Int) = p + 1 := by omega
  rw [hK] at h0 hG
  obtain ⟨m, hm⟩ : ∃ m : Nat, (b + 3 * p + 2).toNat = m := ⟨_, rfl⟩
  have hm' : (m : Int) = b + 3 * p + 2 := by omega
  have hr1 : rng1D [.int (b + 3 * p + 2)] = some (false, rngD 0 m) := by rw [← hm]; exact z_rng1 (by omega) (by omega)
  have hr2 : rng2D [.int 1, .int (p + 1)] = some (false, rngD 1 p.toNat) := by
    rw [z_rng2 (by omega) (by omega) (by omega) (by omega), show p + 1 - 1 = p by omega]
  have hr3 : rng2D [.int b, .int (b + p + 1)] = some (false, rngD b K) := by
    rw [z_rng2 (by omega) (by omega) (by omega) (by omega), show b + p + 1 - b = p + 1 by omega, hK]
  have hr4 : rng2D [.int 1, .int (b + 1)] = some (false, rngD 1 b.toNat) := by
    rw [z_rng2 (by omega) (by omega) (by omega) (by omega), show b + 1 - 1 = b by omega]
  have ct := fun (s : Strm) (Δ : Ly.Env) => cmp_told (c := c) (s := s) (Δ := Δ) (n := m) (i := 5) (j := 0) P (by rw [z_lim]; omega)
  rw [run_at (F__law_least.eq_def c) rfl]
  simp [b__law_least, frz_pap, ix_pap0, ix_pap1, hr1, ct, hr2, -forE_con]
  have hmx : max p 0 = p := by omega
  have cg := fun (v : Int) (h : 1 ≤ v) (h2 : v ≤ p) (Δ : Ly.Env) => cmp_gainsT (c := c) (s := s) (Δ := Δ) (q := v) (i := K) (m := m) P (by omega)
  rw [forE_find (c := c) (fun Δ => ∃ a2 a3, Δ = [some (pap true false b p g vs), some (D.lst true (List.map D.int (told b p g vs m))), a2, a3, none, none, none]) (fun q => (gb (vAt b p g vs) b q K).isSome) h0 ⟨_, _, rfl⟩
    (r := lp b p g vs B q G) (s' := s) (fun v v1 v2 hv Δ hΔ => ?_) (fun Δ hΔ => ?_)]
  · as_aux_lemma => rfl
  · as_aux_lemma =>
    obtain ⟨a2, a3, rfl⟩ := hΔ
    have h00 := gl_0 (f := vAt b p g vs) (b := b) (q := v) (m := K) (by omega)
    obtain ⟨w0, hw⟩ : ∃ w0, vAt b p g vs (b + v) - vAt b p g vs b = w0 := ⟨_, rfl⟩
    have cgv := cg v v1 (by omega)
    have ln := gl_len (f := vAt b p g vs) (b := b) (q := v) (m := K)
    obtain ⟨L, hL⟩ : ∃ L, gl (vAt b p g vs) b v K = L := ⟨_, rfl⟩
    rw [gb_is hL hw] at hv
    rw [hw, hL] at h00
    rw [hL] at ln cgv
    refine ⟨[some (pap true false b p g vs), some (D.lst true (List.map D.int (told b p g vs m))), some (.int v), some (.lst true (L.map D.int)), none, none, none], by simp, ?_, _, _, rfl⟩
    simp [frz_pap, ix_pap0, ix_pap1, hr3, hmx]
    rw [cgv _ rfl rfl rfl (by rw [z_lim]; omega) (by omega)]
    rw [asg_own (by simp) (by simp), seqK_nx]
    simp only [List.set_cons_succ, List.set_cons_zero]
    rw [zs_if, tst_ok (L := L) (w0 := w0) (by simp) h00 (by omega)]
    by_cases c1 : L = List.replicate L.length w0
    · by_cases c2 : 0 ≤ w0
      · rw [if_pos ⟨c1, c2⟩] at hv; cases hv
      · rw [decide_eq_false c2, Bool.and_false]
        rfl
    · rw [decide_eq_false c1]
      rfl
  · as_aux_lemma =>
    obtain ⟨a2, a3, rfl⟩ := hΔ
    have h00 := gl_0 (f := vAt b p g vs) (b := b) (q := q) (m := K) (by omega)
    obtain ⟨w0, hw⟩ : ∃ w0, vAt b p g vs (b + q) - vAt b p g vs b = w0 := ⟨_, rfl⟩
    have cgv := cg q q1 (by omega)
    have ln := gl_len (f := vAt b p g vs) (b := b) (q := q) (m := K)
    obtain ⟨L, hL⟩ : ∃ L, gl (vAt b p g vs) b q K = L := ⟨_, rfl⟩
    have hG' := hG
    rw [gb_is hL hw] at hG'
    rw [hw, hL] at h00
    rw [hL] at ln cgv
    refine ⟨by simp, ?_⟩
    simp [frz_pap, ix_pap0, ix_pap1, hr3, hmx]
    rw [cgv _ rfl rfl rfl (by rw [z_lim]; omega) (by omega)]
    rw [asg_own (by simp) (by simp), seqK_nx]
    simp only [List.set_cons_succ, List.set_cons_zero]
    rw [zs_if, tst_ok (L := L) (w0 := w0) (by simp) h00 (by omega)]
    split at hG'
    case isFalse => cases hG'
    rename_i hc
    cases hG'
    rw [decide_eq_true hc.1, decide_eq_true hc.2]
    have isf := fun (v : Int) (h : 1 ≤ v) (h2 : v ≤ b) => isf_ok (c := c) (s := s) (m := m) (B := v) (q := q) (G := G) P (by omega) h2 (by omega) (by omega) (by omega)
    have c2 : ∀ Δ : Ly.Env, Δ[0]? = some (some (pap true false b p g vs)) → Δ[1]? = some (some (.lst false ((told b p g vs m).map D.int))) → Δ[2]? = some (some (.int q)) → Δ[3]? = some (some (.lst false (L.map D.int))) → Δ.length = 7 →
        cmpR (c := c) (.name 6) (.tru (.call (F__law_is_from c) (.cons (.var 1) (.cons (.var 0) (.cons (.var 6) (.cons (.var 2) (.cons (.ix (.var 3) (.int 0)) .nil))))))) (.var 6) Δ (rngD 1 b.toNat) s = .ok (.lst true (((intsL 1 b.toNat).filter (isF (vAt b p g vs) (b + p) q G)).map D.int)) s := fun Δ e0 e1 e2 e3 hl => by
      rw [rng_is, cmpR_sift (isF (vAt b p g vs) (b + p) q G) D.int (by rw [ints_len, z_lim]; omega) (fun v mm => ?_)]
      obtain ⟨v1, v2⟩ := ints_mem.mp mm
      have g0 : (Δ.set 6 (some (.int v)))[0]? = some (some (pap true false b p g vs)) := by rw [List.getElem?_set_ne (by decide)]; exact e0
      have g1 : (Δ.set 6 (some (.int v)))[1]? = some (some (.lst false ((told b p g vs m).map D.int))) := by rw [List.getElem?_set_ne (by decide)]; exact e1
      have g2 : (Δ.set 6 (some (.int v)))[2]? = some (some (.int q)) := by rw [List.getElem?_set_ne (by decide)]; exact e2
      have g3 : (Δ.set 6 (some (.int v)))[3]? = some (some (.lst false (L.map D.int))) := by rw [List.getElem?_set_ne (by decide)]; exact e3
      have g6 : (Δ.set 6 (some (.int v)))[6]? = some (some (.int v)) := List.getElem?_set_self (by omega)
      have e := isf v v1 (by omega)
      simp only [pap, sq, if_true, Bool.false_eq_true, if_false] at g0 e
      simp [g0, g1, g2, g3, g6, h00, e]
    simp [h00, hc.2, frz_pap, ix_pap0, hr4]
    rw [c2 _ rfl rfl rfl rfl rfl]
    simp [h00, head_filter, b1]
    rw [sl_to (by omega), ← List.map_take, told_take (by omega)]
    simp
end Wk19

end
section
set_option Elab.async false
set_option linter.all false
set_option maxRecDepth 100000
set_option maxHeartbeats 1000000
namespace Wk19
open PySem L2 Ly Lst
variable {c : Cf} {s : Strm} {b p g n : Int} {vs : List Int} {t t' : Bool} {x y : Addr}
/-- where two tell unlike values -/
def prt (f f' : Int → Int) (N : Nat) : Option Int := (intsL 0 N).find? fun n => decide (f n ≠ f' n)
theorem prt_same {f f' : Int → Int} {M L K K' : Int} {N N' : Nat} (hM : 0 ≤ M) (hL : 1 ≤ L) (h1 : Sh f M L K) (h2 : Sh f' M L K') (hN : M + 2 * L ≤ N) (hN' : M + 2 * L ≤ N') : prt f f' N = prt f f' N' := by
  have key : ∀ {A A' : Nat}, M + 2 * L ≤ A → M + 2 * L ≤ A' → ∀ q, prt f f' A = some q → prt f f' A' = some q := by
    intro A A' hA hA' q h
    obtain ⟨a1, a2, a3, a4⟩ := ints_some h
    have lt : q < M + 2 * L := by
      by_cases z : q < M + 2 * L
      · exact z
      · have al := alike hL h1 h2 (fun n b1 b2 => by
          have := a4 n (by omega) (by omega)
          simpa using this) q (by omega)
        rw [al] at a3
        simp at a3
    obtain ⟨q', b1, b2, b3, b4, b5⟩ := ints_find (P := fun n => decide (f n ≠ f' n)) (lo := 0) (h := q) (n := A') a1 (by omega) a3
    have : q' = q := by
      by_cases z : q' < q
      · rw [a4 q' b2 z] at b4; cases b4
      · omega
    rw [← this]
    exact b1
  cases e : prt f f' N with
  | some q => exact (key hN hN' q e).symm
  | none =>
    cases e' : prt f f' N' with
    | none => rfl
    | some q => rw [key hN' hN q e'] at e; cases e
theorem prt_comm {f f' : Int → Int} {N : Nat} : prt f f' N = prt f' f N := by
  unfold prt
  congr 1
  funext n
  by_cases h : f n = f' n
  · simp [h]
  · have h' : ¬ f' n = f n := fun z => h z.symm
    simp [h, h']
variable {b' p' g' : Int} {vs' : List Int}
/-- a loop that tells the first number at which two differ -/
theorem loop_part {B : XS c} {i : Nat} {N : Nat} {f f' : Int → Int} (I : Ly.Env → Prop) {Δ : Ly.Env} (h0 : I Δ)
    (step : ∀ v, 0 ≤ v → f v = f' v → ∀ Δ, I Δ → ∃ Δ', i < Δ.length ∧ B.ev s (Δ.set i (some (.int v))) = .ok (.nx Δ') s ∧ I Δ')
    (last : ∀ v, 0 ≤ v → f v ≠ f' v → ∀ Δ, I Δ → i < Δ.length ∧ B.ev s (Δ.set i (some (.int v))) = .ok (.rt (.int v)) s) :
    runR (seqK (.ret [] .non : XS c) (forE (.name i) B (rngD 0 N) s Δ)) = .ok (oD (prt f f' N)) s := by
  cases e : prt f f' N with
  | none =>
    obtain ⟨Δ', e1, e2⟩ := forE_thru (c := c) (s := s) (b := B) (i := i) I (lo := 0) (n := N) h0 fun v v0 v1 Δ hΔ => by
      have := ints_none.mp e v v0 v1
      exact step v v0 (by simpa using this) Δ hΔ
    rw [e1]
    simp [oD]
  | some q =>
    obtain ⟨a1, a2, a3, a4⟩ := ints_some e
    rw [forE_find (c := c) I (fun n => decide (f n ≠ f' n)) e h0 (fun v v0 v1 hv Δ hΔ => step v v0 (by simpa using hv) Δ hΔ) (fun Δ hΔ => last q a1 (by simpa using a3) Δ hΔ)]
    rfl
theorem law_part_ok (P : Pap b p g vs) (P' : Pap b' p' g' vs') (hb : b ≤ 1000) (hb2 : b' ≤ 1000) (hp : p ≤ 1000) (hp2 : p' ≤ 1000) :
    F__law_part c s [pap true false b p g vs, pap true false b' p' g' vs'] = .ok (oD (prt (vAt b p g vs) (vAt b' p' g' vs') (max b b' + 2 * p * p').toNat)) s := by
  have hb1 := P.hb
  have hp1 := P.hp
  have hb1' := P'.hb
  have hp1' := P'.hp
  have q1 : 1 * 1 ≤ p * p' := Int.mul_le_mul hp1 hp1' (by omega) (by omega)
  have q2 : p * p' ≤ 1000 * 1000 := Int.mul_le_mul hp hp2 (by omega) (by omega)
  have q3 : 2 * p * p' = 2 * (p * p') := Int.mul_assoc _ _ _
  have mx : (if b < b' then b' else b) = max b b' := by split <;> omega
  have hr : rng1D [.int (max b b' + 2 * p * p')] = some (false, rngD 0 (max b b' + 2 * p * p').toNat) := z_rng1 (by omega) (by omega)
  have n1 : (2 * p).natAbs < 18446744073709551616 := by omega
  have n2 : p.natAbs < 18446744073709551616 := by omega
  rw [run_at (F__law_part.eq_def c) rfl]
  simp [b__law_part, frz_pap, ix_pap0, ix_pap1, mx, n1, n2, hr, -forE_con]
  refine loop_part (fun Δ => ∃ a2, Δ = [some (pap true false b p g vs), some (pap true false b' p' g' vs'), a2]) ⟨_, rfl⟩ (fun v v0 e Δ hΔ => ?_) (fun v v0 e Δ hΔ => ?_)
  · obtain ⟨a2, rfl⟩ := hΔ
    have e1 := a_told_ok (c := c) (s := s) P v0
    have e2 := a_told_ok (c := c) (s := s) P' v0
    refine ⟨[some (pap true false b p g vs), some (pap true false b' p' g' vs'), some (.int v)], by simp, ?_, _, rfl⟩
    simp [frz_pap, e1, e2, e]
  · obtain ⟨a2, rfl⟩ := hΔ
    have e1 := a_told_ok (c := c) (s := s) P v0
    have e2 := a_told_ok (c := c) (s := s) P' v0
    refine ⟨by simp, ?_⟩
    simp [frz_pap, e1, e2, e]
theorem papers_part_ok (P : Pap b p g vs) (P' : Pap b' p' g' vs') (hb : b ≤ 1000) (hb2 : b' ≤ 1000) (hp : p ≤ 1000) (hp2 : p' ≤ 1000) (t t' u u' : Bool) :
    F_papers_part c s [pap t t' b p g vs, pap u u' b' p' g' vs'] = .ok (oD (prt (vAt b p g vs) (vAt b' p' g' vs') (max b b' + 2 * p * p').toNat)) s := by
  have hb1 := P.hb
  have hp1 := P.hp
  have hb1' := P'.hb
  have hp1' := P'.hp
  have q1 : 1 * 1 ≤ p * p' := Int.mul_le_mul hp1 hp1' (by omega) (by omega)
  have q2 : p * p' ≤ 1000 * 1000 := Int.mul_le_mul hp hp2 (by omega) (by omega)
  have q3 : 2 * p * p' = 2 * (p * p') := Int.mul_assoc _ _ _
  obtain ⟨L, k, k', hL, l1, l2, l3, l4, l5, l6⟩ : ∃ L k k' : Int, p * p' / (Nat.gcd p.natAbs p'.natAbs : Nat) = L ∧ L = k * p ∧ L = k' * p' ∧ 1 ≤ L ∧ L ≤ p * p' ∧ 0 ≤ k ∧ 0 ≤ k' := by
    obtain ⟨a, rfl⟩ : ∃ a : Nat, p = a := ⟨p.toNat, by omega⟩
    obtain ⟨a', rfl⟩ : ∃ a' : Nat, p' = a' := ⟨p'.toNat, by omega⟩
    simp only [Int.natAbs_natCast]
    have e : ((a : Int) * a' / (Nat.gcd a a' : Nat)) = ((Nat.lcm a a' : Nat) : Int) := by
      rw [Nat.lcm, ← Int.natCast_mul, Int.natCast_ediv]
    obtain ⟨k, hk⟩ := Nat.dvd_lcm_left a a'
    obtain ⟨k', hk'⟩ := Nat.dvd_lcm_right a a'
    have pos := Nat.lcm_pos (m := a) (n := a') (by omega) (by omega)
    have le : Nat.lcm a a' ≤ a * a' := Nat.div_le_self _ _
    refine ⟨_, k, k', e, by rw [hk]; push_cast; exact Int.mul_comm _ _, by rw [hk']; push_cast; exact Int.mul_comm _ _, by omega, by exact_mod_cast le, by omega, by omega⟩
  have mx : (if b < b' then b' else b) = max b b' := by split <;> omega
  have hr : rng1D [.int (max b b' + 2 * L)] = some (false, rngD 0 (max b b' + 2 * L).toNat) := z_rng1 (by omega) (by omega)
  have n2 : p.natAbs < 18446744073709551616 := by omega
  have g0 : 0 < Nat.gcd p.natAbs p'.natAbs := Nat.gcd_pos_of_pos_left _ (by omega)
  have g1 : Nat.gcd p.natAbs p'.natAbs ≤ p.natAbs := Nat.gcd_le_left _ (by omega)
  obtain ⟨d, hd⟩ : ∃ d : Int, ((Nat.gcd p.natAbs p'.natAbs : Nat) : Int) = d := ⟨_, rfl⟩
  have d1 : 0 < d ∧ d.natAbs < 18446744073709551616 := by omega
  rw [hd] at hL
  have S1 : Sh (vAt b p g vs) (max b b') L (k * g) := fun n hn => by
    have h : Sh (vAt b p g vs) b p g := (per_vAt P).go
    have := h.many (by omega) k.toNat n (by omega)
    rw [Int.toNat_of_nonneg l5, ← l1] at this
    exact this
  have S2 : Sh (vAt b' p' g' vs') (max b b') L (k' * g') := fun n hn => by
    have h : Sh (vAt b' p' g' vs') b' p' g' := (per_vAt P').go
    have := h.many (by omega) k'.toNat n (by omega)
    rw [Int.toNat_of_nonneg l6, ← l2] at this
    exact this
  rw [prt_same (M := max b b') (L := L) (N' := (max b b' + 2 * L).toNat) (by omega) l3 S1 S2 (by omega) (by omega)]
  have cp := fun s : Strm => checked_paper_ok (c := c) (s := s) (t := t) (t' := t') P
  have cp' := fun s : Strm => checked_paper_ok (c := c) (s := s) (t := u) (t' := u') P'
  have d2 : d.natAbs < 18446744073709551616 := d1.2
  rw [run_at (F_papers_part.eq_def c) rfl]
  simp [b_papers_part, frz_pap, ix_pap0, ix_pap1, cp, cp', mx, n2, hd, d1, d2, hL, hr, -forE_con]
  refine loop_part (fun Δ => ∃ a5, Δ = [some (pap t t' b p g vs), some (pap u u' b' p' g' vs'), some (own b p g vs), some (own b' p' g' vs'), some (.int L), a5]) ⟨_, rfl⟩ (fun v v0 e Δ hΔ => ?_) (fun v v0 e Δ hΔ => ?_)
  · obtain ⟨a5, rfl⟩ := hΔ
    have e1 := value_in_ok (c := c) (s := s) P v0
    have e2 := value_in_ok (c := c) (s := s) P' v0
    simp only [pap, sq, if_true, Bool.false_eq_true, if_false] at e1 e2
    refine ⟨[some (pap t t' b p g vs), some (pap u u' b' p' g' vs'), some (own b p g vs), some (own b' p' g' vs'), some (.int L), some (.int v)], by simp, ?_, _, rfl⟩
    simp [e1, e2, e]
  · obtain ⟨a5, rfl⟩ := hΔ
    have e1 := value_in_ok (c := c) (s := s) P v0
    have e2 := value_in_ok (c := c) (s := s) P' v0
    simp only [pap, sq, if_true, Bool.false_eq_true, if_false] at e1 e2
    refine ⟨by simp, ?_⟩
    simp [e1, e2, e]
/-- a paper that tells the same, with another begin and period -/
theorem led_ok {k : Int} (hc : c.st = some (x, y)) (P : Pap b p g vs) (hb : b ≤ 8) (hp : p ≤ 8) (hg : g < 3) (hv : ∀ v ∈ vs, v < 4) (hk : 0 ≤ k) (B : Bud (k + 2) s) :
    ∃ b' p' g' vs' s', F__law_led c s [.opq (.ref x), pap true false b p g vs] = .ok (.tup true [.int b', .int p', .int g', .lst false (vs'.map D.int)]) s' ∧ Pap b' p' g' vs' ∧ b' ≤ 20 ∧ p' ≤ 40 ∧ g' ≤ 12 ∧ (∀ v ∈ vs', v < 1000) ∧ (∀ n, 0 ≤ n → vAt b' p' g' vs' n = vAt b p g vs n) ∧ Bud k s' := by
  have hb1 := P.hb
  have hp1 := P.hp
  have hg1 := P.hg
  have hl := P.hl
  obtain ⟨z1, s1, e1, z10, z11, B1⟩ := draw_le (m := 6) (k := k + 1) hc B (by omega) (by omega) (by omega) (by omega)
  obtain ⟨z2, s2, e2, z20, z21, B2⟩ := draw_le (m := 4) (k := k) hc B1 (by omega) (by omega) (by omega) (by omega)
  obtain ⟨m, hm⟩ : ∃ m, 1 + z2 = m := ⟨_, rfl⟩
  obtain ⟨B', hB'⟩ : ∃ B', b + z1 = B' := ⟨_, rfl⟩
  have m1 : m * p ≤ 4 * 8 := Int.mul_le_mul (by omega) hp (by omega) (by omega)
  have m2 : 1 * 1 ≤ m * p := Int.mul_le_mul (by omega) hp1 (by omega) (by omega)
  have m3 : m * g ≤ 4 * 2 := Int.mul_le_mul (by omega) (by omega) hg1 (by omega)
  have m4 : 0 ≤ m * g := Int.mul_nonneg (by omega) hg1
  obtain ⟨n, hn⟩ : ∃ n : Nat, (B' + m * p).toNat = n := ⟨_, rfl⟩
  have hn' : (n : Int) = B' + m * p := by omega
  have hr : rng1D [.int (B' + m * p)] = some (false, rngD 0 n) := by rw [← hn]; exact z_rng1 (by omega) (by omega)
  have ct := fun (s : Strm) (Δ : Ly.Env) => cmp_told (c := c) (s := s) (Δ := Δ) (n := n) (i := 5) (j := 1) P (by rw [z_lim]; omega)
  have n1 : m.natAbs < 18446744073709551616 := by omega
  have val : ∀ h, 0 ≤ h → h < 100 → 0 ≤ vAt b p g vs h ∧ vAt b p g vs h < 1000 := fun h h0 h1 => by
    unfold vAt
    have mem : ∀ i : Int, 0 ≤ i → i < vs.length → nth vs i ∈ vs := fun i i0 i1 => by
      have := nth_at (l := vs) i0 i1
      exact List.mem_of_getElem? this
    split
    · have w := mem h h0 (by omega)
      have := P.hn _ w
      have := hv _ w
      omega
    · have r0 := Int.emod_nonneg (h - b) (show p ≠ 0 by omega)
      have r1 := Int.emod_lt_of_pos (h - b) (show 0 < p by omega)
      have := mem (b + (h - b) % p) (by omega) (by omega)
      have a1 := P.hn _ this
      have a2 := hv _ this
      have d0 : 0 ≤ (h - b) / p := Int.ediv_nonneg (by omega) (by omega)
      have d1 : (h - b) / p ≤ h - b := Int.ediv_le_self _ (by omega)
      have d2 : (h - b) / p * g ≤ 100 * 2 := Int.mul_le_mul (by omega) (by omega) hg1 (by omega)
      have d3 : 0 ≤ (h - b) / p * g := Int.mul_nonneg d0 hg1
      omega
  have mem : ∀ v ∈ told b p g vs n, 0 ≤ v ∧ v < 1000 := fun v hv => by
    unfold told at hv
    obtain ⟨i, hi, rfl⟩ := List.mem_map.mp hv
    have := List.mem_range.mp hi
    exact val i (by omega) (by omega)
  refine ⟨B', m * p, m * g, told b p g vs n, s2, ?_, ⟨by omega, by omega, by omega, by omega, by rw [told_len]; omega, by rw [told_len]; omega, ?_, fun v hv => (mem v hv).1⟩, by omega, by omega, by omega, fun v hv => (mem v hv).2, ?_, B2⟩
  · rw [run_at (F__law_led.eq_def c) rfl]
    simp [b__law_led, frz_pap, ix_pap0, ix_pap1, ix_pap2, e1, e2, hm, hB', n1, hr, ct]
  · rw [nth_told (by omega) (by omega)]
    unfold vAt
    rw [if_pos (by omega)]
    exact P.hz
  · intro h h0
    have S : Sh (vAt b p g vs) b p g := (per_vAt P).go
    have S2 : Sh (vAt b p g vs) b (m * p) (m * g) := fun i hi => by
      have := S.many (by omega) m.toNat i hi
      rw [Int.toNat_of_nonneg (by omega)] at this
      exact this
    by_cases hh : h < B' + m * p
    · conv => lhs; unfold vAt
      rw [if_pos hh, nth_told h0 (by omega)]
    · have r0 := Int.emod_nonneg (h - B') (show m * p ≠ 0 by omega)
      have r1 := Int.emod_lt_of_pos (h - B') (show 0 < m * p by omega)
      have d0 : 0 ≤ (h - B') / (m * p) := Int.ediv_nonneg (by omega) (by omega)
      have e := Int.emod_add_mul_ediv (h - B') (m * p)
      have := S2.many (by omega) ((h - B') / (m * p)).toNat (B' + (h - B') % (m * p)) (by omega)
      rw [Int.toNat_of_nonneg d0, Int.mul_comm ((h - B') / (m * p)) (m * p)] at this
      conv => lhs; unfold vAt
      rw [if_neg hh, nth_told (by omega) (by omega)]
      rw [show B' + (h - B') % (m * p) + m * p * ((h - B') / (m * p)) = h by omega] at this
      omega
end Wk19

end
section
set_option Elab.async false
set_option linter.all false
set_option maxRecDepth 100000
set_option maxHeartbeats 1000000
namespace Wk19
open PySem L2 Ly Lst
variable {c : Cf} {s : Strm} {b p g n : Int} {vs : List Int} {t t' : Bool} {x y : Addr}
theorem pick_ok {ds : List D} {k : Int} (hc : c.st = some (x, y)) (h1 : ds ≠ []) (h2 : ds.length ≤ 1000) (hk : 0 ≤ k) (B : Bud (k + 1) s) :
    ∃ d s', F__law_pick c s [.opq (.ref x), .lst false ds] = .ok d s' ∧ d ∈ frzL ds ∧ Bud k s' := by
  have h3 : 0 < ds.length := by cases ds with
    | nil => exact absurd rfl h1
    | cons a r => simp
  obtain ⟨v, s1, e1, v0, v1, B1⟩ := draw_le (m := ds.length) (k := k) hc B (by omega) (by omega) (by omega) (by omega)
  have h4 : v.toNat < (frzL ds).length := by rw [z_frzLen]; omega
  refine ⟨(frzL ds)[v.toNat], s1, ?_, List.getElem_mem h4, B1⟩
  rw [run_at (F__law_pick.eq_def c) rfl]
  simp [b__law_pick, e1, atI_pos v0, List.getElem?_eq_getElem h4]
theorem told_congr {b' p' g' : Int} {vs' : List Int} (h : ∀ n, 0 ≤ n → vAt b' p' g' vs' n = vAt b p g vs n) (m : Nat) : told b' p' g' vs' m = told b p g vs m := by
  unfold told
  exact List.map_congr_left fun k _ => h k (by omega)
theorem least_congr {f f' : Int → Int} {B q G : Int} (h : ∀ n, 0 ≤ n → f n = f' n) (L : Least f B q G) : Least f' B q G := by
  have hB := L.hB
  have hq := L.hq
  refine ⟨hB, hq, fun n hn => by rw [← h _ (by omega), ← h _ (by omega)]; exact L.sh n hn, fun q' G' N a e => L.mn q' G' (max N 0) a fun n hn => by rw [h _ (by omega), h _ (by omega)]; exact e n (by omega), ?_⟩
  rcases L.st with z | z
  · exact .inl z
  · exact .inr (by rw [← h _ (by omega), ← h _ (by omega)]; exact z)
/-- a paper that tells f -/
structure LedD (f : Int → Int) (d : D) (b p g : Int) (vs : List Int) : Prop where
  e : d = pap true false b p g vs
  P : Pap b p g vs
  hb : b ≤ 20
  hp : p ≤ 40
  hg : g ≤ 12
  hv : ∀ v ∈ vs, v < 1000
  f : ∀ n, 0 ≤ n → vAt b p g vs n = f n
def Led (f : Int → Int) (d : D) : Prop := ∃ b p g vs, LedD f d b p g vs
structure PpD (d : D) (b p g : Int) (vs : List Int) : Prop where
  e : d = pap true false b p g vs
  P : Pap b p g vs
  hb : b ≤ 1000
  hp : p ≤ 1000
def Pp (d : D) : Prop := ∃ b p g vs, PpD d b p g vs
theorem Led.pp {f : Int → Int} {d : D} (h : Led f d) : Pp d := by
  obtain ⟨b, p, g, vs, L⟩ := h
  exact ⟨b, p, g, vs, L.e, L.P, by have := L.hb; omega, by have := L.hp; omega⟩
theorem Pp.fz {d : D} (h : Pp d) : frz d = d := by
  obtain ⟨b, p, g, vs, L⟩ := h
  rw [L.e, frz_pap]
abbrev lpF (b p g : Int) (vs : List Int) (B q G : Int) : D := .tup false [.int B, .int q, .int G, .lst false ((told b p g vs (B + q).toNat).map D.int)]
theorem same_lp {B q G : Int} (h : (B + q).toNat ≤ 1000) : F__law_same c s [lpF b p g vs B q G, lpF b p g vs B q G] = .ok (.bl true) s := by
  have := same_refl (c := c) 14 (lpF b p g vs B q G) (by simp [sameOk, told_len]; omega) s
  simpa using this
abbrev body1 (c : Cf) : XS c := (.seq (.asg [0, 4] (.call (F__law_loose c) (.cons (.var 0) (.cons (.var 4) .nil))) (.name 5))
    (.seq (.asg [5] (.repr (.cons (.var 5) .nil)) (.name 6))
    (.for [] (.rng1 (.cons (.int 2) .nil)) (.name 7) (.seq (.asg [5] (.call (F_least_paper c) (.cons (.var 5) .nil)) (.name 8))
    (.seq (.ite [2, 5, 6, 8] (.or (.not (.tru (.call (F__law_same c) (.cons (.var 8) (.cons (.var 2) .nil))))) (.test (.ne (.repr (.cons (.var 5) .nil)) (.var 6)))) (.ret [] (.bl false)) .pass)
    (.spoil 8 3 "late"))))))
/-- a led paper passed loosely: its least paper is the same -/
theorem body1_ok {d : D} {B q G k : Int} (hc : c.st = some (x, y)) (P : Pap b p g vs) (hd : Led (vAt b p g vs) d) (L : Least (vAt b p g vs) B q G) (hB : B ≤ 20) (hq : q ≤ 40) (hk : 0 ≤ k) (Bd : Bud (k + 2) s) {a1 a3 a5 a6 a7 a8 : Option D} :
    ∃ s' a5' a6' a7' a8', (body1 c).ev s [some (.opq (.ref x)), a1, some (lp b p g vs B q G), a3, some d, a5, a6, a7, a8, none, none, none, none, none, none, none, none] = .ok (.nx [some (.opq (.ref x)), a1, some (lp b p g vs B q G), a3, some d, a5', a6', a7', a8', none, none, none, none, none, none, none, none]) s' ∧ Bud k s' := by
  obtain ⟨b', p', g', vs', D⟩ := hd
  obtain ⟨rfl, P', hb', hp', hg', hv', hf⟩ := D
  have hb1 := P'.hb
  have hp1 := P'.hp
  have hg1 := P'.hg
  have hl := P'.hl
  have hB1 := L.hB
  have hq1 := L.hq
  obtain ⟨u, u', s1, e1, B1⟩ := loose_paper (c := c) (t := true) (t' := false) (b := b') (p := p') (g := g') (vs := vs') (m := k) hc (by rw [z_lim]; omega) (s := s) Bd hk
  have e2 : gRepr [pap u u' b' p' g' vs'] = some (.str (papP u u' b' p' g' vs').shown) := repr_pap (by omega) (by omega) (by omega) (fun v m => by have := P'.hn v m; have := hv' v m; omega) (by omega)
  obtain ⟨B2, q2, G2, L2, _, _, e3⟩ := least_paper_ok (c := c) P' (by omega) (by omega)
  obtain ⟨rfl, rfl, rfl⟩ := (least_congr hf L2).uniq L
  have e4 := fun s : Strm => same_lp (c := c) (s := s) (b := b) (p := p) (g := g) (vs := vs) (B := B2) (q := q2) (G := G2) (by omega)
  have e3' := e3 u u'
  rw [lp, told_congr hf] at e3'
  have r2 : rng1D [.int 2] = some (false, [.int 0, .int 1]) := rfl
  refine ⟨s1, some (rt u [.int b', .int p', .int g', sq u' (vs'.map D.int)]), some (.str (papP u u' b' p' g' vs').shown), some (.int 1), none, ?_, B1⟩
  have h5 : B2 + q2 < 16777216 := by omega
  simp [frz_pap, shr_pap, e1, shr_rt, frz_rtp, XE.repr, e2, r2, e3', e4, told_len, h5]
abbrev body2 (c : Cf) : XS c := (.seq (.asg [0, 3] (.call (F__law_pick c) (.cons (.var 0) (.cons (.var 3) .nil))) (.name 4))
    (.seq (.asg [0, 4, 15] (.lst (.cons (.call (F__law_loose c) (.cons (.var 0) (.cons (.var 4) .nil))) (.cons (.call (F__law_loose c) (.cons (.var 0) (.cons (.var 15) .nil))) .nil))) (.name 5))
    (.seq (.asg [5] (.lst (.cons (.call (F_papers_part c) (.cons (.ix (.var 5) (.int 0)) (.cons (.ix (.var 5) (.int 1)) .nil))) (.cons (.call (F_papers_part c) (.cons (.ix (.var 5) (.int 1)) (.cons (.ix (.var 5) (.int 0)) .nil))) .nil))) (.name 8))
    (.ite [4, 8, 15] (.not (.tru (.call (F__law_same c) (.cons (.var 8) (.cons (.mul (.lst (.cons (.call (F__law_part c) (.cons (.var 4) (.cons (.var 15) .nil))) .nil)) (.int 2)) .nil))))) (.ret [] (.bl false)) .pass))))
theorem body2_ok {d : D} {o : Bool} {leds : List D} {k : Int} (hc : c.st = some (x, y)) (h1 : leds ≠ []) (h2 : leds.length ≤ 1000) (hf : frzL leds = leds) (hl : ∀ e ∈ leds, Pp e) (hd : Pp d) (hk : 0 ≤ k) (Bd : Bud (k + 5) s) {a1 a2 a4 a5 a6 a7 a8 a9 a10 a11 a12 a13 a14 : Option D} :
    ∃ s' a4' a5' a8', (body2 c).ev s [some (.opq (.ref x)), a1, a2, some (.lst o leds), a4, a5, a6, a7, a8, a9, a10, a11, a12, a13, a14, some d, none] = .ok (.nx [some (.opq (.ref x)), a1, a2, some (.lst false leds), a4', a5', a6, a7, a8', a9, a10, a11, a12, a13, a14, some d, none]) s' ∧ Bud k s' := by
  obtain ⟨e, s1, e1, me, B1⟩ := pick_ok (c := c) (k := k + 4) hc h1 h2 (by omega) (Bd.mono (by omega) (by omega))
  rw [hf] at me
  obtain ⟨b, p, g, vs, rfl, P, hb, hp⟩ := hl e me
  obtain ⟨b', p', g', vs', rfl, P', hb', hp'⟩ := hd
  have l1 := P.hl
  have l2 := P'.hl
  obtain ⟨u, u', s2, e2, B2⟩ := loose_paper (c := c) (t := true) (t' := false) (b := b) (p := p) (g := g) (vs := vs) (m := k + 2) hc (by rw [z_lim]; omega) (s := s1) (B1.mono (by omega) (by omega)) (by omega)
  obtain ⟨w, w', s3, e3, B3⟩ := loose_paper (c := c) (t := true) (t' := false) (b := b') (p := p') (g := g') (vs := vs') (m := k) hc (by rw [z_lim]; omega) (s := s2) (B2.mono (by omega) (by omega)) (by omega)
  have e4 := papers_part_ok (c := c) (s := s3) P P' hb hb' hp hp' u u' w w'
  have e5 := papers_part_ok (c := c) (s := s3) P' P hb' hb hp' hp w w' u u'
  have e6 := law_part_ok (c := c) (s := s3) P P' hb hb' hp hp'
  have m1 : max b' b + 2 * p' * p = max b b' + 2 * p * p' := by
    rw [Int.max_comm, Int.mul_assoc, Int.mul_assoc, Int.mul_comm p' p]
  rw [m1, prt_comm] at e5
  generalize prt (vAt b p g vs) (vAt b' p' g' vs') (max b b' + 2 * p * p').toNat = z at e4 e5 e6
  have e7 : F__law_same c s3 [.lst false [oD z, oD z], .lst false [oD z, oD z]] = .ok (.bl true) s3 := by
    have := same_refl (c := c) 14 (.lst false [oD z, oD z]) (by cases z <;> simp [sameOk, oD]) s3
    simpa [frz_oD] using this
  have r1 : repl 2 [oD z] = [oD z, oD z] := rfl
  have sz : shr (oD z) = false := by cases z <;> rfl
  refine ⟨s3, some (pap true false b p g vs), some (.lst true [rt u [.int b, .int p, .int g, sq u' (vs.map D.int)], rt w [.int b', .int p', .int g', sq w' (vs'.map D.int)]]), some (.lst true [oD z, oD z]), ?_, B3⟩
  simp [hf, frz_pap, shr_pap, e1, e2, e3, shr_rt, frz_rtp, e4, e5, e6, frz_oD, z_mulL, r1, e7, sz]
end Wk19

end
section
set_option Elab.async false
set_option linter.all false
set_option maxRecDepth 100000
set_option maxHeartbeats 1000000
namespace Wk19
open PySem L2 Ly Lst
variable {c : Cf} {s : Strm} {b p g n : Int} {vs : List Int} {t t' : Bool} {x y : Addr}
theorem led_led {k : Int} (hc : c.st = some (x, y)) (P : Pap b p g vs) (hb : b ≤ 8) (hp : p ≤ 8) (hg : g < 3) (hv : ∀ v ∈ vs, v < 4) (hk : 0 ≤ k) (B : Bud (k + 2) s) :
    ∃ b' p' g' vs' s', F__law_led c s [.opq (.ref x), pap true false b p g vs] = .ok (.tup true [.int b', .int p', .int g', .lst false (vs'.map D.int)]) s' ∧ LedD (vAt b p g vs) (pap true false b' p' g' vs') b' p' g' vs' ∧ Bud k s' := by
  obtain ⟨b', p', g', vs', s', e, P', h1, h2, h3, h4, h5, B'⟩ := led_ok hc P hb hp hg hv hk B
  exact ⟨b', p', g', vs', s', e, ⟨rfl, P', h1, h2, h3, h4, h5⟩, B'⟩
theorem least_pap {B q G : Int} (P : Pap b p g vs) (L : Least (vAt b p g vs) B q G) (hB : B ≤ b) (hq : q ≤ p) (hm : vs.length ≤ 1000000) : Pap B q G (told b p g vs (B + q).toNat) := by
  have hb1 := P.hb
  have hp1 := P.hp
  have hB1 := L.hB
  have hq1 := L.hq
  have hg1 := P.hg
  have hg2 := P.hg2
  have hl := P.hl
  have S := L.sh.down (per_vAt P) (by omega)
  have e := S.gain (per_vAt P) (by omega)
  have G0 := S.pos (per_vAt P) (by omega)
  have G1 : G ≤ g := by
    by_cases z : G ≤ g
    · exact z
    · have a1 : p * (g + 1) ≤ p * G := Int.mul_le_mul_of_nonneg_left (by omega) (by omega)
      have a2 : q * g ≤ p * g := Int.mul_le_mul_of_nonneg_right hq hg1
      rw [Int.mul_add, Int.mul_one] at a1
      omega
  refine ⟨hB1, hq1, G0, by omega, by rw [told_len]; omega, by rw [told_len]; omega, ?_, fun v hv => ?_⟩
  · rw [nth_told (by omega) (by omega)]
    unfold vAt
    rw [if_pos (by omega)]
    exact P.hz
  · unfold told at hv
    obtain ⟨i, hi, rfl⟩ := List.mem_map.mp hv
    have hi := List.mem_range.mp hi
    unfold vAt
    have mem : ∀ i : Int, 0 ≤ i → i < vs.length → 0 ≤ nth vs i := fun i i0 i1 => P.hn _ (List.mem_of_getElem? (nth_at (l := vs) i0 i1))
    rw [if_pos (by omega)]
    exact mem i (by omega) (by omega)
theorem changed_pap {a : Int} (P : Pap b p g vs) (h1 : 1 ≤ a) (h2 : a < b + p) : Pap b p g (vs.take a.toNat ++ [nth vs a + 1] ++ vs.drop (a.toNat + 1)) := by
  have hl := P.hl
  have hm := P.hm
  have len : (vs.take a.toNat ++ [nth vs a + 1] ++ vs.drop (a.toNat + 1)).length = vs.length := by
    simp
    omega
  refine ⟨P.hb, P.hp, P.hg, P.hg2, by rw [len]; exact hl, by rw [len]; exact hm, ?_, fun v hv => ?_⟩
  · have hz := P.hz
    cases vs with
    | nil => simp at hl; have := P.hb; have := P.hp; omega
    | cons w r =>
      obtain ⟨k, hk⟩ : ∃ k, a.toNat = k + 1 := ⟨a.toNat - 1, by omega⟩
      rw [hk]
      exact hz
  · rcases List.mem_append.mp hv with hv | hv
    · rcases List.mem_append.mp hv with hv | hv
      · exact P.hn v (List.mem_of_mem_take hv)
      · rw [List.mem_singleton.mp hv]
        have := P.hn _ (List.mem_of_getElem? (nth_at (l := vs) (i := a) (by omega) (by omega)))
        omega
    · exact P.hn v (List.mem_of_mem_drop hv)
theorem right_ok {k : Int} (hc : c.st = some (x, y)) (P : Pap b p g vs) (hb : b ≤ 8) (hp : p ≤ 8) (hg : g < 3) (hv : ∀ v ∈ vs, v < 4) (hk : 0 ≤ k) (B : Bud (k + 100) s) :
    ∃ s', F__law_right c s [.opq (.ref x), pap true false b p g vs] = .ok (.bl true) s' ∧ Bud k s' := by
  have hl := P.hl
  have hb1 := P.hb
  have hp1 := P.hp
  have hg0 := P.hg
  obtain ⟨BB, q, G, L, hB, hq, e1⟩ := law_least_ok (c := c) P (by omega) (by omega)
  have hB1 := L.hB
  have hq1 := L.hq
  obtain ⟨bx, px, gx, vx, s1, l1, D1, B1⟩ := led_led (c := c) (k := k + 94) hc P hb hp hg hv (by omega) (s := s) (B.mono (by omega) (by omega))
  obtain ⟨by', py, gy, vy, s2, l2, D2, B2⟩ := led_led (c := c) (k := k + 92) hc P hb hp hg hv (by omega) (s := s1) (B1.mono (by omega) (by omega))
  obtain ⟨bz, pz, gz, vz, s3, l3, D3, B3⟩ := led_led (c := c) (k := k + 90) hc P hb hp hg hv (by omega) (s := s2) (B2.mono (by omega) (by omega))
  have D0 : LedD (vAt b p g vs) (pap true false b p g vs) b p g vs := ⟨rfl, P, by omega, by omega, by omega, fun v m => by have := hv v m; omega, fun _ _ => rfl⟩
  obtain ⟨leds, hleds⟩ : ∃ leds : List D, [pap true false b p g vs, pap true false bx px gx vx, pap true false by' py gy vy, pap true false bz pz gz vz] = leds := ⟨_, rfl⟩
  have led : ∀ d ∈ leds, Led (vAt b p g vs) d := by
    rw [← hleds]
    intro d m
    simp only [List.mem_cons, List.not_mem_nil, or_false] at m
    rcases m with rfl | rfl | rfl | rfl
    · exact ⟨_, _, _, _, D0⟩
    · exact ⟨_, _, _, _, D1⟩
    · exact ⟨_, _, _, _, D2⟩
    · exact ⟨_, _, _, _, D3⟩
  have fl : frzL leds = leds := by rw [← hleds]; simp [frz_pap]
  have ll : leds.length = 4 := by rw [← hleds]; rfl
  have r3 : rng1D [.int 3] = some (false, [.int 0, .int 1, .int 2]) := rfl
  rw [run_at (F__law_right.eq_def c) rfl]
  simp [b__law_right, frz_pap, e1, r3, l1, l2, l3, -forE_con]
  have hl2 : [pap true false b p g vs, D.tup false [D.int bx, D.int px, D.int gx, D.lst false (List.map D.int vx)], D.tup false [D.int by', D.int py, D.int gy, D.lst false (List.map D.int vy)], D.tup false [D.int bz, D.int pz, D.int gz, D.lst false (List.map D.int vz)]] = leds := hleds
  rw [hl2]
  refine for_step (I := fun Δ => ∃ a4 a5 a6 a7 a8, Δ = [some (.opq (.ref x)), some (pap true false b p g vs), some (lp b p g vs BB q G), some (.lst false leds), a4, a5, a6, a7, a8, none, none, none, none, none, none, none, none])
    (k := k + 80) (forE_bud (m := 2) (by omega) _ (by omega) (B3.mono (by rw [ll]; omega) (by rw [ll]; omega)) ⟨_, _, _, _, _, rfl⟩ fun d m s Δ j hj Bj hΔ => ?_) (fun s4 Δ' hΔ B4 => ?_)
  · as_aux_lemma =>
    obtain ⟨a4, a5, a6, a7, a8, rfl⟩ := hΔ
    have hd := led d m
    have fd := hd.pp.fz
    obtain ⟨s', a5', a6', a7', a8', e, B'⟩ := body1_ok (c := c) (s := s) (k := j) (d := d) (a1 := some (pap true false b p g vs)) (a3 := some (.lst false leds)) (a5 := a5) (a6 := a6) (a7 := a7) (a8 := a8) hc P hd L (by omega) (by omega) hj Bj
    exact ⟨[d], s', _, by rw [fd]; rfl, rfl, .inl e, ⟨_, _, _, _, _, rfl⟩, B'⟩
  obtain ⟨a4, a5, a6, a7, a8, rfl⟩ := hΔ
  clear hl2 hleds
  obtain ⟨b9, p9, g9, v9, s5, e5, P9, h9b, h9p, h9g, h9v, B5⟩ := c_paper_ok (c := c) (s := s4) (far := 8) (gains := 3) (k := k + 50) hc (by omega) (by omega) (by omega) (by omega) (by omega) (B4.mono (by omega) (by omega))
  obtain ⟨d, s6, e6, md, B6⟩ := pick_ok (c := c) (s := s5) (k := k + 49) (ds := leds) hc (by intro z; rw [z] at ll; cases ll) (by omega) (by omega) (B5.mono (by omega) (by omega))
  rw [fl] at md
  obtain ⟨bw, pw, gw, vw, rfl, PW, hwb, hwp, hwg, hwv, hwf⟩ := led d md
  have w1 := PW.hb
  have w2 := PW.hp
  have w3 := PW.hl
  have w4 := PW.hg
  obtain ⟨a, s7, e7, a0, a1', B7⟩ := draw_le (c := c) (m := bw + pw - 1) (k := k + 48) hc B6 (by omega) (by omega) (by omega) (by omega)
  obtain ⟨at', hat⟩ : ∃ at', 1 + a = at' := ⟨_, rfl⟩
  obtain ⟨at2, hat2⟩ : ∃ at2, at' + 1 = at2 := ⟨_, rfl⟩
  have ix := ix_nth (l := vw) (i := at') (by omega) (by omega)
  have sl1 := sl_to (o := false) (ds := vw.map D.int) (k := at') (by omega)
  have sl2 := sl_from (o := false) (ds := vw.map D.int) (k := at2) (by omega)
  obtain ⟨A, hA⟩ : ∃ A, at'.toNat = A := ⟨_, rfl⟩
  have hA2 : at2.toNat = A + 1 := by omega
  have hA3 : min A vw.length = A := by omega
  have hA4 : A ≤ 16777215 := by omega
  have hA5 : A + 1 + (vw.length - (A + 1)) ≤ 16777216 := by omega
  have PC := changed_pap (a := at') PW (by omega) (by omega)
  rw [hA] at PC
  obtain ⟨vc, hvc⟩ : ∃ vc, vw.take A ++ [nth vw at' + 1] ++ vw.drop (A + 1) = vc := ⟨_, rfl⟩
  have hcat : List.take A (List.map D.int vw) ++ D.int (nth vw at' + 1) :: List.drop (A + 1) (List.map D.int vw) = vc.map D.int := by rw [← hvc]; simp
  rw [hvc] at PC
  rw [hA] at sl1
  rw [hA2] at sl2
  simp only [pap, sq, if_true, Bool.false_eq_true, if_false] at e6
  simp [sq, fl, frz_pap, e5, e6, e7, hat, hat2, ll, ix, sl1, sl2, shrL_app, frzL_app, hA3, hA4, hA5, hcat, -forE_con]
  obtain ⟨oth, ho⟩ : ∃ oth, leds ++ [D.tup false [D.int b9, D.int p9, D.int g9, D.lst false (List.map D.int v9)], D.tup false [D.int BB, D.int q, D.int G, D.lst false (List.map D.int (told b p g vs (BB + q).toNat))], D.tup false [D.int bw, D.int pw, D.int gw, D.lst false (List.map D.int vc)], D.tup false [D.int bw, D.int pw, D.int (gw + 1), D.lst false (List.map D.int vw)]] = oth := ⟨_, rfl⟩
  have lo : oth.length = 8 := by rw [← ho, List.length_append, ll]; rfl
  have all : ∀ d ∈ oth, Pp d := by
    rw [← ho]
    intro d m
    rcases List.mem_append.mp m with m | m
    · exact (led d m).pp
    · simp only [List.mem_cons, List.not_mem_nil, or_false] at m
      rcases m with rfl | rfl | rfl | rfl
      · exact ⟨b9, p9, g9, v9, rfl, P9, by omega, by omega⟩
      · exact ⟨BB, q, G, _, rfl, least_pap P L hB hq (by omega), by omega, by omega⟩
      · exact ⟨bw, pw, gw, vc, rfl, PC, by omega, by omega⟩
      · exact ⟨bw, pw, gw + 1, vw, rfl, ⟨PW.hb, PW.hp, by omega, by omega, PW.hl, PW.hm, PW.hz, PW.hn⟩, by omega, by omega⟩
  rw [ho]
  refine for_step (I := fun Δ => ∃ a4 a5 a6 a7 a8 a15, Δ = [some (.opq (.ref x)), some (D.tup false [D.int b, D.int p, D.int g, D.lst false (List.map D.int vs)]),
                some
                  (D.tup false
                    [D.int BB, D.int q, D.int G, D.lst false (List.map D.int (told b p g vs (BB + q).toNat))]), some (.lst false leds), a4, a5, a6, a7, a8, some (.lst false oth), some (D.int bw), some (D.int pw), some (D.int gw), some (D.lst false (List.map D.int vw)),
                some (D.int at'), a15, none])
    (k := k) (forE_bud (m := 5) (by omega) _ (by omega) (B7.mono (by rw [lo]; omega) (by rw [lo]; omega)) ⟨_, _, _, _, _, _, rfl⟩ fun d m s Δ j hj Bj hΔ => ?_) (fun s8 Δ' hΔ B8 => ?_)
  · as_aux_lemma =>
    obtain ⟨a4, a5, a6, a7, a8, a15, rfl⟩ := hΔ
    have hd := all d m
    have fd := hd.fz
    obtain ⟨s', a4', a5', a8', e, B'⟩ := body2_ok (c := c) (s := s) (k := j) (o := false) (leds := leds) (d := d) (a1 := some (D.tup false [D.int b, D.int p, D.int g, D.lst false (List.map D.int vs)]))
      (a2 := some
                  (D.tup false
                    [D.int BB, D.int q, D.int G, D.lst false (List.map D.int (told b p g vs (BB + q).toNat))])) (a4 := a4) (a5 := a5) (a6 := a6) (a7 := a7) (a8 := a8) (a9 := some (.lst false oth)) (a10 := some (D.int bw)) (a11 := some (D.int pw)) (a12 := some (D.int gw)) (a13 := some (D.lst false (List.map D.int vw))) (a14 := some (D.int at')) hc (by intro z; rw [z] at ll; cases ll) (by omega) fl (fun e m => (led e m).pp) hd hj Bj
    exact ⟨[d], s', _, by rw [fd]; rfl, rfl, .inl e, ⟨_, _, _, _, _, _, rfl⟩, B'⟩
  obtain ⟨a4, a5, a6, a7, a8, a15, rfl⟩ := hΔ
  exact ⟨s8, rfl, B8⟩
end Wk19

end
section
set_option Elab.async false
set_option linter.all false
set_option maxRecDepth 100000
set_option maxHeartbeats 1000000
namespace Wk19
open PySem L2 Ly Lst
variable {c : Cf} {s : Strm} {b p g n : Int} {vs : List Int} {t t' : Bool} {x y : Addr} {d : D}
theorem odd_least (O : Odd c d) : F_least_paper c s [d] = .er "BadPaper" (thing d) s := by
  rw [run_at (F_least_paper.eq_def c) rfl]
  simp [b_least_paper, O.fz, odd_checked O]
theorem odd_part (O : Odd c d) : F_papers_part c s [d, .non] = .er "BadPaper" (thing d) s := by
  rw [run_at (F_papers_part.eq_def c) rfl]
  simp [b_papers_part, O.fz, odd_checked O]
theorem odd_part2 (P : Pap b p g vs) (O : Odd c d) : F_papers_part c s [pap true false b p g vs, d] = .er "BadPaper" (thing d) s := by
  rw [run_at (F_papers_part.eq_def c) rfl]
  simp [b_papers_part, O.fz, odd_checked O, frz_pap, checked_paper_ok P]
theorem pap1 : Pap 1 1 0 [0, 0] := ⟨by decide, by decide, by decide, by decide, rfl, by decide, rfl, by decide⟩
theorem pap2 : Pap 1 1 1 [0, 0] := ⟨by decide, by decide, by decide, by decide, rfl, by decide, rfl, by decide⟩
theorem pap3 : Pap 4 6 0 [0, 1, 2, 1, 2, 1, 2, 1, 2, 1] := ⟨by decide, by decide, by decide, by decide, rfl, by decide, rfl, by decide⟩
theorem last_part : F_papers_part c s [.tup false [.int 1, .int 1, .int 0, .lst false [.int 0, .int 0]], .tup false [.int 1, .int 1, .int 1, .lst false [.int 0, .int 0]]] = .ok (.int 2) s :=
  papers_part_ok (c := c) (s := s) pap1 pap2 (by decide) (by decide) (by decide) (by decide) true false true false
theorem least3 : Least (vAt 4 6 0 [0, 1, 2, 1, 2, 1, 2, 1, 2, 1]) 1 2 0 := by
  have P := per_vAt pap3
  have S4 : Sh (vAt 4 6 0 [0, 1, 2, 1, 2, 1, 2, 1, 2, 1]) 4 2 0 := sh_win P (by decide) fun n h0 h1 => by
    have h : n = 4 ∨ n = 5 ∨ n = 6 ∨ n = 7 ∨ n = 8 ∨ n = 9 := by omega
    rcases h with rfl | rfl | rfl | rfl | rfl | rfl <;> rfl
  refine ⟨by decide, by decide, fun n hn => ?_, fun q' G' N a e => ?_, .inl rfl⟩
  · by_cases z : 4 ≤ n
    · exact S4 n z
    · have h : n = 1 ∨ n = 2 ∨ n = 3 := by omega
      rcases h with rfl | rfl | rfl <;> rfl
  · by_cases z : 2 ≤ q'
    · exact z
    · have : q' = 1 := by omega
      subst this
      have e4 := e.down P (by omega)
      have a1 := e4 4 (by decide)
      have a2 := e4 5 (by decide)
      have b1 : vAt 4 6 0 [0, 1, 2, 1, 2, 1, 2, 1, 2, 1] (4 + 1) = 1 := rfl
      have b2 : vAt 4 6 0 [0, 1, 2, 1, 2, 1, 2, 1, 2, 1] 4 = 2 := rfl
      have b3 : vAt 4 6 0 [0, 1, 2, 1, 2, 1, 2, 1, 2, 1] (5 + 1) = 2 := rfl
      have b4 : vAt 4 6 0 [0, 1, 2, 1, 2, 1, 2, 1, 2, 1] 5 = 1 := rfl
      omega
theorem last_least : F_least_paper c s [.tup false [.int 4, .int 6, .int 0, .lst false [.int 0, .int 1, .int 2, .int 1, .int 2, .int 1, .int 2, .int 1, .int 2, .int 1]]] = .ok (.tup true [.int 1, .int 2, .int 0, .lst true [.int 0, .int 1, .int 2]]) s := by
  obtain ⟨B, q, G, L, _, _, e⟩ := least_paper_ok (c := c) pap3 (by decide) (by decide)
  obtain ⟨rfl, rfl, rfl⟩ := L.uniq least3
  exact e true false s
theorem for_step2 {g : XG c} {b rest : XS c} {ds : List D} {s : Strm} {Δ : Ly.Env} {I : Ly.Env → Prop} {k : Int} {r : Fl}
    (h : ∃ s' Δ', forE g b ds s Δ = .ok (.nx Δ') s' ∧ I Δ' ∧ Bud k s') (next : ∀ s' Δ', I Δ' → Bud k s' → ∃ s2, rest.ev s' Δ' = .ok r s2) : ∃ s2, seqK rest (forE g b ds s Δ) = .ok r s2 := by
  obtain ⟨s', Δ', e, h1, h2⟩ := h
  rw [e]
  exact next s' Δ' h1 h2
theorem for_still2 {g : XG c} {b rest : XS c} {ds : List D} {s : Strm} {Δ : Ly.Env} {I : Ly.Env → Prop} {r : Fl}
    (h : ∃ Δ', forE g b ds s Δ = .ok (.nx Δ') s ∧ I Δ') (next : ∀ Δ', I Δ' → ∃ s2, rest.ev s Δ' = .ok r s2) : ∃ s2, seqK rest (forE g b ds s Δ) = .ok r s2 := by
  obtain ⟨Δ', e, h1⟩ := h
  rw [e]
  exact next Δ' h1
theorem sentence : Sentence := by
  intro c x y ns X hn
  have hc : (c.at x y).st = some (x, y) := rfl
  have T := X.t_law
  generalize c.at x y = c at *
  have B0 : Bud (2 ^ 40) (⟨ns, 0, 0, 11⟩ : Strm) := ⟨by decide, by simp, by simp, by simp, by simp, by simp⟩
  have r8 : rng1D [.int 8] = some (false, rngD 0 8) := by rw [z_rng1 (by omega) (by omega)]; rfl
  have e9 := fun s : Strm => same_refl (c := c) 14 (.lst false [.tup false [.int 1, .int 2, .int 0, .lst false [.int 0, .int 1, .int 2]], .int 2]) rfl s
  simp at e9
  obtain ⟨ol, oe, of⟩ := c_odd_ok (c := c)
  unfold b_law lawEnv
  simp [r8, -forE_con]
  refine for_step2 (k := 0) (I := fun Δ => ∃ a2, Δ = [none, some (D.opq (.ref x)), a2, none, none, none]) (forE_bud (m := 150) (by omega) _ (by omega) (B0.mono (by rw [z_rngLen]; decide) (by rw [z_rngLen]; decide)) ⟨_, rfl⟩ fun d m s Δ j hj Bj hΔ => ?_) (fun s1 Δ1 hΔ B1 => ?_)
  · as_aux_lemma =>
    obtain ⟨a2, rfl⟩ := hΔ
    rw [rng_ints] at m
    obtain ⟨v, -, rfl⟩ := List.mem_map.mp m
    obtain ⟨b, p, g, vs, s2, e1, P, hb, hp, hg, hv, B2⟩ := c_paper_ok (c := c) (far := 7) (gains := 2) (k := j + 100) hc (by omega) (by omega) (by omega) (by omega) (by omega) (s := s) (Bj.mono (by omega) (by omega))
    obtain ⟨s3, e2, B3⟩ := right_ok (c := c) (k := j) hc P (by omega) (by omega) (by omega) hv hj B2
    simp only [pap, sq, if_true, Bool.false_eq_true, if_false] at e2
    refine ⟨[.int v], s3, [none, some (D.opq (.ref x)), some (.int v), none, none, none], rfl, rfl, .inl ?_, ⟨_, rfl⟩, B3⟩
    simp [e1, e2]
  obtain ⟨a2, rfl⟩ := hΔ
  simp [oe, of, -forE_con]
  refine for_still2 (I := fun Δ => ∃ a4 a5, Δ = [none, some (D.opq (.ref x)), a2, some (.tup true [.int 1, .int 1, .int 0, .lst true [.int 0, .int 0]]), a4, a5] ∨ Δ = [none, some (D.opq (.ref x)), a2, some (.tup false [.int 1, .int 1, .int 0, .lst false [.int 0, .int 0]]), a4, a5]) (forE_still _ ⟨_, _, .inl rfl⟩ fun d m Δ hΔ => ?_) (fun Δ' hΔ => ?_)
  · as_aux_lemma =>
    have O : Odd c d := by
      obtain ⟨d0, h0, rfl⟩ := List.mem_map.mp m
      exact odds_ok d0 h0
    have e := fun s : Strm => same_refl (c := c) 14 (.lst false [.tup false [.str "paper", d], .tup false [.str "paper", d], .tup false [.str "paper", d]]) (by simp [sameOk, so_mono O.so]) s
    simp [O.fz] at e
    have o3 := fun s : Strm => odd_part2 (c := c) (s := s) pap1 O
    simp [sq] at o3
    obtain ⟨a4, a5, rfl | rfl⟩ := hΔ
    · cases hs : shr d
      · refine ⟨[d], [none, some (D.opq (.ref x)), a2, some (.tup true [.int 1, .int 1, .int 0, .lst true [.int 0, .int 0]]), some d, some (.lst true [.tup true [.str "paper", d], .tup true [.str "paper", d], .tup true [.str "paper", d]])], by simp [O.fz], rfl, .inl ?_, ⟨_, _, .inl rfl⟩⟩
        simp [z_met T ms_ok, O.fz, odd_least O, odd_part O, o3, met_paper X, z_mulL, repl, e, hs]
      · refine ⟨[d], [none, some (D.opq (.ref x)), a2, some (.tup false [.int 1, .int 1, .int 0, .lst false [.int 0, .int 0]]), some d, some (.lst true [.tup true [.str "paper", d], .tup true [.str "paper", d], .tup true [.str "paper", d]])], by simp [O.fz], rfl, .inl ?_, ⟨_, _, .inr rfl⟩⟩
        simp [z_met T ms_ok, O.fz, odd_least O, odd_part O, o3, met_paper X, z_mulL, repl, e, hs]
    · cases hs : shr d
      · refine ⟨[d], [none, some (D.opq (.ref x)), a2, some (.tup false [.int 1, .int 1, .int 0, .lst false [.int 0, .int 0]]), some d, some (.lst true [.tup true [.str "paper", d], .tup true [.str "paper", d], .tup true [.str "paper", d]])], by simp [O.fz], rfl, .inl ?_, ⟨_, _, .inr rfl⟩⟩
        simp [z_met T ms_ok, O.fz, odd_least O, odd_part O, o3, met_paper X, z_mulL, repl, e, hs]
      · refine ⟨[d], [none, some (D.opq (.ref x)), a2, some (.tup false [.int 1, .int 1, .int 0, .lst false [.int 0, .int 0]]), some d, some (.lst true [.tup true [.str "paper", d], .tup true [.str "paper", d], .tup true [.str "paper", d]])], by simp [O.fz], rfl, .inl ?_, ⟨_, _, .inr rfl⟩⟩
        simp [z_met T ms_ok, O.fz, odd_least O, odd_part O, o3, met_paper X, z_mulL, repl, e, hs]
  obtain ⟨a4, a5, rfl | rfl⟩ := hΔ
  · simp [last_least, last_part, e9]
  · simp [last_least, last_part, e9]
end Wk19
theorem PySem.Challenge.cw_takeandsplit_k19_whole_least_papers_holds : PySem.Challenge.rw_takeandsplit_k19_whole_least_papers.Holds :=
  Wk19.holds_of Wk19.sentence

end
