import PyProof.Rows.All
import HandS.ForMost
import HandS.Zip
import HandS.TupAny
import HandS.Wide
import HandS.Walk
import HandS.IsInst
import HandS.Strs
import HandS.Conv
import HandS.Deep
import HandS.Style
import HandS.ForExc
import HandS.WordsExc
import KE.GoesMore
import HandS.RevTup
import HandS.Rev
import HandS.SetFor
import PyProof.ReprRoads
import KE.KExcSuper
import HandS.ExcInit
import HandS.ExcField
import HandS.ExcIs
import HandS.ExcOwn
import HandS.TryOnly
import PyProof.ReprLen
import PySem.Challenge.RW_fencedterms_k73_whole_products
set_option Elab.async false
set_option linter.all false
set_option maxRecDepth 100000
set_option maxHeartbeats 2000000
/-! J1: cells of data over the abstract heap: who owns what, and how it stays. -/
namespace JJ
open PySem L2
abbrev Da := PyData

def OwnO : HO → Prop
  | .lst _ => True
  | .dK _ => True
  | .dT _ => True
  | .set _ _ => True
  | .ins _ _ _ => True
  | .own _ => True
  | .xd _ => True
  | .ext _ => True
  | _ => False
/-- what nobody owns stays -/
def Tx (H H' : Hp) : Prop := ∀ a u, H a = some u → ¬ OwnO u → H' a = some u
theorem Tx.rfl' {H : Hp} : Tx H H := fun _ _ h _ => h
theorem Tx.trans {H H1 H2 : Hp} (a : Tx H H1) (b : Tx H1 H2) : Tx H H2 := fun x u h n => b x u (a x u h n) n
theorem Tx.tup {K : PySem.W.Frag} {H H' : Hp} (t : Tx H H') {a : Addr} {xs : List V} (h : SqT K H a xs) : SqT K H' a xs := by
  rcases h with (h | ⟨o, h⟩) | h
  · exact .inl (.inl (t _ _ h id))
  · exact .inl (.inr ⟨o, t _ _ h id⟩)
  · exact .inr h

mutual
/-- v stands for the datum d, which nobody can change -/
inductive Dat (K : PySem.W.Frag) (H : Hp) : V → Da → Prop
  | non : Dat K H .non .none
  | bl (b : Bool) : Dat K H (.bl b) (.bool b)
  | int (i : Int) : Dat K H (.int i) (.int i)
  | str (x : Str) : Dat K H (.str x) (.str x)
  | tup {a : Addr} {xs : List V} {ds : List Da} : SqT K H a xs → DatL K H xs ds → Dat K H (.ref a) (.tuple ds)
inductive DatL (K : PySem.W.Frag) (H : Hp) : List V → List Da → Prop
  | nil : DatL K H [] []
  | cons {v : V} {vs : List V} {d : Da} {ds : List Da} : Dat K H v d → DatL K H vs ds → DatL K H (v :: vs) (d :: ds)
end
section
variable {K : PySem.W.Frag} {H H' : Hp}
mutual
theorem Dat.mono (t : Tx H H') : ∀ {v : V} {d : Da}, Dat K H v d → Dat K H' v d
  | _, _, .non => .non
  | _, _, .bl b => .bl b
  | _, _, .int i => .int i
  | _, _, .str x => .str x
  | _, _, .tup h hs => .tup (t.tup h) (DatL.mono t hs)
theorem DatL.mono (t : Tx H H') : ∀ {v : List V} {d : List Da}, DatL K H v d → DatL K H' v d
  | _, _, .nil => .nil
  | _, _, .cons h hs => .cons (Dat.mono t h) (DatL.mono t hs)
end
theorem DatL.length : ∀ {v : List V} {d : List Da}, DatL K H v d → v.length = d.length
  | _, _, .nil => rfl
  | _, _, .cons _ hs => by rw [List.length_cons, List.length_cons, DatL.length hs]
theorem DatL.append : ∀ {v w : List V} {d e : List Da}, DatL K H v d → DatL K H w e → DatL K H (v ++ w) (d ++ e)
  | _, _, _, _, .nil, b => b
  | _, _, _, _, .cons h hs, b => .cons h (DatL.append hs b)
theorem DatL.get : ∀ {v : List V} {d : List Da} {i : Nat} {x : Da}, DatL K H v d → d[i]? = some x → ∃ u, v[i]? = some u ∧ Dat K H u x
  | _, _, _, _, .nil, e => by simp at e
  | _, _, 0, _, .cons h _, e => by simp at e; subst e; exact ⟨_, by simp, h⟩
  | _, _, i + 1, _, .cons _ t, e => by
    obtain ⟨u, h1, h2⟩ := DatL.get (i := i) t (by simpa using e)
    exact ⟨u, by simpa using h1, h2⟩
theorem DatL.get' : ∀ {v : List V} {d : List Da} {i : Nat} {u : V}, DatL K H v d → v[i]? = some u → ∃ x, d[i]? = some x ∧ Dat K H u x
  | _, _, _, _, .nil, e => by simp at e
  | _, _, 0, _, .cons h _, e => by simp at e; subst e; exact ⟨_, by simp, h⟩
  | _, _, i + 1, _, .cons _ t, e => by
    obtain ⟨x, h1, h2⟩ := DatL.get' (i := i) t (by simpa using e)
    exact ⟨x, by simpa using h1, h2⟩
theorem DatL.drop : ∀ {v : List V} {d : List Da} (n : Nat), DatL K H v d → DatL K H (v.drop n) (d.drop n)
  | _, _, 0, h => h
  | _, _, _ + 1, .nil => .nil
  | _, _, n + 1, .cons _ t => DatL.drop n t
theorem DatL.take : ∀ {v : List V} {d : List Da} (n : Nat), DatL K H v d → DatL K H (v.take n) (d.take n)
  | _, _, 0, _ => .nil
  | _, _, _ + 1, .nil => .nil
  | _, _, n + 1, .cons h t => .cons h (DatL.take n t)
theorem DatL.set {x : V} {y : Da} (r : Dat K H x y) : ∀ {v : List V} {d : List Da} (i : Nat), DatL K H v d → DatL K H (v.set i x) (d.set i y)
  | _, _, _, .nil => .nil
  | _, _, 0, .cons _ t => .cons r t
  | _, _, i + 1, .cons q t => .cons q (DatL.set r i t)
theorem DatL.reverse {v : List V} {d : List Da} (h : DatL K H v d) : DatL K H v.reverse d.reverse := by
  induction v generalizing d with
  | nil => cases h; exact .nil
  | cons a r ih =>
    cases h with
    | cons h1 h2 =>
      rw [List.reverse_cons, List.reverse_cons]
      exact (ih h2).append (.cons h1 .nil)
theorem DatL.dropLast {v : List V} {d : List Da} (h : DatL K H v d) : DatL K H v.dropLast d.dropLast := by
  rw [List.dropLast_eq_take, List.dropLast_eq_take, h.length]
  exact h.take _
theorem DatL.ints : ∀ {v : List V} {ns : List Int}, DatL K H v (ns.map PyData.int) → v = ns.map V.int
  | _, [], .nil => rfl
  | _, n :: ns, .cons h t => by
    cases h
    rw [DatL.ints t, List.map_cons]
theorem DatL.ofInts : ∀ (ns : List Int), DatL K H (ns.map V.int) (ns.map PyData.int)
  | [] => .nil
  | n :: ns => .cons (.int n) (DatL.ofInts ns)
mutual
/-- to the layer's own reading of data -/
theorem Dat.dp : ∀ {v : V} {d : Da}, Dat K H v d → Dp K H v d
  | _, _, .non => .non
  | _, _, .bl b => .bl b
  | _, _, .int i => .int i
  | _, _, .str x => .str x
  | _, _, .tup h hs => .tup h (DatL.dp hs)
theorem DatL.dp : ∀ {v : List V} {d : List Da}, DatL K H v d → DpAll K H v d
  | _, _, .nil => .nil
  | _, _, .cons h hs => .cons (Dat.dp h) (DatL.dp hs)
end
end

/-- what a slot or a value holds: nothing told, a datum, a list of data that is owned, the bag of draws, a dict of data, the frozen script, a tuple by its values -/
inductive CD where
  | any
  | dat (d : Da)
  | lst (xs : List Da)
  | bag (cs : List Int) (dg mx : Int)
  | dic (kvs : List (Key × Da))
  | scr (ns : List Int)
  | shp (vs : List V)

def DatK (K : PySem.W.Frag) (H : Hp) : List (Key × V) → List (Key × Da) → Prop
  | [], [] => True
  | a :: r, b :: t => a.1 = b.1 ∧ Dat K H a.2 b.2 ∧ DatK K H r t
  | _, _ => False
theorem DatK.mono {K : PySem.W.Frag} {H H' : Hp} (t : Tx H H') : ∀ {a : List (Key × V)} {b : List (Key × Da)}, DatK K H a b → DatK K H' a b
  | [], [], _ => True.intro
  | _ :: _, _ :: _, ⟨h1, h2, h3⟩ => ⟨h1, h2.mono t, DatK.mono t h3⟩

/-- the script, that nobody changes -/
def ScrAt (K : PySem.W.Frag) (H : Hp) (p : Addr) (xs : List V) : Prop := (∃ ob, H p = some (.frz ob (.lst xs))) ∨
    ∃ (o : Obj) (its : Array Value) (n : Nat), K.lookup p = some o ∧ o.cls = .type "list" ∧ o.dict = none ∧ o.data = .seq its n ∧ its.size ≤ sizeLine ∧ Vals xs its.toList
theorem ScrAt.sql {K : PySem.W.Frag} {H : Hp} {p : Addr} {xs : List V} (h : ScrAt K H p xs) : SqL K H p xs := by
  rcases h with ⟨ob, h⟩ | h
  · exact .inl (.inr ⟨ob, h⟩)
  · exact .inr h
def CR (K : PySem.W.Frag) (H : Hp) : CD → Option V → List Addr → Prop
  | .any, _, F => F = []
  | .dat d, o, F => F = [] ∧ ∃ v, o = some v ∧ Dat K H v d
  | .lst xs, o, F => ∃ p vs, o = some (.ref p) ∧ F = [p] ∧ H p = some (.lst vs) ∧ DatL K H vs xs
  | .bag cs dg mx, o, F => ∃ p c, o = some (.ref p) ∧ F = [p, c] ∧ H p = some (.lst [.ref c, .int dg, .int mx]) ∧ H c = some (.lst (cs.map V.int))
  | .dic kvs, o, F => ∃ p vs, o = some (.ref p) ∧ F = [p] ∧ H p = some (.dK vs) ∧ DatK K H vs kvs
  | .scr ns, o, F => F = [] ∧ ∃ p, o = some (.ref p) ∧ ScrAt K H p (ns.map V.int)
  | .shp vs, o, F => F = [] ∧ ∃ p, o = some (.ref p) ∧ SqT K H p vs

/-- pairs of a cell and its value, with what they own -/
def HF (K : PySem.W.Frag) (H : Hp) : List (CD × Option V) → List Addr → Prop
  | [], F => F = []
  | p :: ps, F => ∃ F1 F2, F = F1 ++ F2 ∧ CR K H p.1 p.2 F1 ∧ HF K H ps F2
def HP (K : PySem.W.Frag) (H : Hp) (ps : List (CD × Option V)) : Prop := ∃ F, HF K H ps F ∧ F.Nodup

section
variable {K : PySem.W.Frag} {H H' : Hp} {c c' : CD} {o o' : Option V} {F : List Addr} {ps qs : List (CD × Option V)}
theorem CR.mono (t : Tx H H') (h : CR K H c o F) (e : ∀ a ∈ F, H' a = H a) : CR K H' c o F := by
  cases c with
  | any => exact h
  | dat d => obtain ⟨h1, v, h2, h3⟩ := h; exact ⟨h1, v, h2, h3.mono t⟩
  | lst xs => obtain ⟨p, vs, h1, rfl, h3, h4⟩ := h; exact ⟨p, vs, h1, rfl, (e p (by simp)).trans h3, h4.mono t⟩
  | bag cs dg mx => obtain ⟨p, q, h1, rfl, h3, h4⟩ := h; exact ⟨p, q, h1, rfl, (e p (by simp)).trans h3, (e q (by simp)).trans h4⟩
  | dic kvs => obtain ⟨p, vs, h1, rfl, h3, h4⟩ := h; exact ⟨p, vs, h1, rfl, (e p (by simp)).trans h3, h4.mono t⟩
  | shp vs =>
    obtain ⟨h1, p, h2, h3⟩ := h
    exact ⟨h1, p, h2, t.tup h3⟩
  | scr ns =>
    obtain ⟨h1, p, h2, h3⟩ := h
    refine ⟨h1, p, h2, ?_⟩
    rcases h3 with ⟨ob, h3⟩ | h3
    · exact .inl ⟨ob, t _ _ h3 id⟩
    · exact .inr h3
theorem CR.own (h : CR K H c o F) : ∀ a ∈ F, ∃ u, H a = some u ∧ OwnO u := by
  cases c with
  | any => intro a ha; rw [show F = [] from h] at ha; cases ha
  | dat d => intro a ha; rw [h.1] at ha; cases ha
  | lst xs =>
    obtain ⟨p, vs, _, rfl, h3, _⟩ := h
    intro a ha
    rw [List.mem_singleton.mp ha]
    exact ⟨_, h3, True.intro⟩
  | bag cs dg mx =>
    obtain ⟨p, q, _, rfl, h3, h4⟩ := h
    intro a ha
    rcases List.mem_cons.mp ha with rfl | ha
    · exact ⟨_, h3, True.intro⟩
    · rw [List.mem_singleton.mp ha]; exact ⟨_, h4, True.intro⟩
  | dic kvs =>
    obtain ⟨p, vs, _, rfl, h3, _⟩ := h
    intro a ha
    rw [List.mem_singleton.mp ha]
    exact ⟨_, h3, True.intro⟩
  | scr ns => intro a ha; rw [h.1] at ha; cases ha
  | shp vs => intro a ha; rw [h.1] at ha; cases ha
theorem HF.own : ∀ {ps : List (CD × Option V)} {F : List Addr}, HF K H ps F → ∀ a ∈ F, ∃ u, H a = some u ∧ OwnO u
  | [], F, h, a, ha => by rw [show F = [] from h] at ha; cases ha
  | p :: ps, F, ⟨F1, F2, e, h1, h2⟩, a, ha => by
    subst e
    rcases List.mem_append.mp ha with q | q
    · exact h1.own a q
    · exact HF.own h2 a q
theorem HF.mono (t : Tx H H') : ∀ {ps : List (CD × Option V)} {F : List Addr}, HF K H ps F → (∀ a ∈ F, H' a = H a) → HF K H' ps F
  | [], _, h, _ => h
  | _ :: _, _, ⟨F1, F2, e, h1, h2⟩, k => ⟨F1, F2, e, h1.mono t fun a ha => k a (by rw [e]; exact List.mem_append_left _ ha), HF.mono t h2 fun a ha => k a (by rw [e]; exact List.mem_append_right _ ha)⟩
theorem HF.perm (p : ps.Perm qs) : ∀ {F}, HF K H ps F → ∃ G, HF K H qs G ∧ F.Perm G := by
  induction p with
  | nil => exact fun {F} h => ⟨F, h, .refl _⟩
  | cons x _ ih =>
    rintro F ⟨F1, F2, rfl, h1, h2⟩
    obtain ⟨G, g1, g2⟩ := ih h2
    exact ⟨F1 ++ G, ⟨F1, G, rfl, h1, g1⟩, g2.append_left F1⟩
  | swap x y l =>
    rintro F ⟨F1, F2, rfl, h1, G1, G2, rfl, h2, h3⟩
    refine ⟨G1 ++ (F1 ++ G2), ⟨G1, _, rfl, h2, F1, G2, rfl, h1, h3⟩, ?_⟩
    rw [← List.append_assoc, ← List.append_assoc]
    exact List.perm_append_comm.append_right G2
  | trans _ _ ih1 ih2 =>
    intro F h
    obtain ⟨G, g1, g2⟩ := ih1 h
    obtain ⟨G', g3, g4⟩ := ih2 g1
    exact ⟨G', g3, g2.trans g4⟩
theorem HP.perm (h : HP K H ps) (p : ps.Perm qs) : HP K H qs := by
  obtain ⟨F, h1, h2⟩ := h
  obtain ⟨G, g1, g2⟩ := HF.perm p h1
  exact ⟨G, g1, g2.nodup h2⟩
theorem HP.swap {x y : CD × Option V} (h : HP K H (x :: y :: ps)) : HP K H (y :: x :: ps) := h.perm (.swap _ _ _)
theorem HP.drop {x : CD × Option V} (h : HP K H (x :: ps)) : HP K H ps := by
  obtain ⟨F, ⟨F1, F2, rfl, _, h2⟩, n⟩ := h
  exact ⟨F2, h2, (List.nodup_append.mp n).2.1⟩
theorem HP.push (h : HP K H ps) (r : CR K H c o []) : HP K H ((c, o) :: ps) := by
  obtain ⟨F, h1, n⟩ := h
  exact ⟨F, ⟨[], F, rfl, r, h1⟩, n⟩
theorem HP.top (h : HP K H ((c, o) :: ps)) : ∃ F, CR K H c o F ∧ F.Nodup := by
  obtain ⟨F, ⟨F1, F2, rfl, h1, _⟩, n⟩ := h
  exact ⟨F1, h1, (List.nodup_append.mp n).1⟩
theorem HP.dat {d : Da} (h : HP K H ((.dat d, o) :: ps)) : ∃ v, o = some v ∧ Dat K H v d := by
  obtain ⟨F, r, _⟩ := h.top
  exact r.2
theorem HP.mem {p : CD × Option V} (h : HP K H ps) (m : p ∈ ps) : ∃ F, CR K H p.1 p.2 F := by
  obtain ⟨A, B, rfl⟩ := List.append_of_mem m
  obtain ⟨F, r, _⟩ := (h.perm List.perm_middle).top
  exact ⟨F, r⟩
theorem tx_of {F1 : List Addr} (own : ∀ a ∈ F1, ∃ u, H a = some u ∧ OwnO u) (k : ∀ a u, a ∉ F1 → H a = some u → H' a = some u) : Tx H H' := fun a u h n =>
  k a u (fun m => by obtain ⟨u', e, w⟩ := own a m; rw [h] at e; cases e; exact n w) h
/-- one cell is changed; all else that is tracked stays -/
theorem HP.step (h : HP K H ((c, o) :: ps)) (k : ∀ F1, CR K H c o F1 → F1.Nodup → ∃ F2, CR K H' c' o' F2 ∧ F2.Nodup ∧ (∀ a u, a ∉ F1 → H a = some u → H' a = some u) ∧ ∀ a ∈ F2, a ∈ F1 ∨ H a = none) : HP K H' ((c', o') :: ps) := by
  obtain ⟨F, ⟨F1, G, rfl, h1, h2⟩, n⟩ := h
  obtain ⟨n1, n2, n3⟩ := List.nodup_append.mp n
  obtain ⟨F2, k1, k2, k3, k4⟩ := k F1 h1 n1
  have t : Tx H H' := tx_of h1.own k3
  have e : ∀ a ∈ G, H' a = H a := fun a ha => by
    obtain ⟨u, hu, _⟩ := h2.own a ha
    rw [hu]
    exact k3 a u (fun m => n3 a m a ha rfl) hu
  refine ⟨F2 ++ G, ⟨F2, G, rfl, k1, HF.mono t h2 e⟩, List.nodup_append.mpr ⟨k2, n2, fun a ha b hb q => ?_⟩⟩
  subst q
  rcases k4 a ha with m | m
  · exact n3 a m a hb rfl
  · obtain ⟨u, hu, _⟩ := h2.own a hb
    rw [m] at hu; cases hu
/-- a new cell -/
theorem HP.new (h : HP K H ps) (k : ∀ a u, H a = some u → H' a = some u) {F2 : List Addr} (r : CR K H' c o F2) (n : F2.Nodup) (f : ∀ a ∈ F2, H a = none) : HP K H' ((c, o) :: ps) :=
  (h.push (c := .any) (o := none) rfl).step fun F1 _ _ => ⟨F2, r, n, fun a u _ q => k a u q, fun a ha => .inr (f a ha)⟩
theorem HP.tx (h : HP K H ((c, o) :: ps)) (F1 : List Addr) (r : CR K H c o F1) (k : ∀ a u, a ∉ F1 → H a = some u → H' a = some u) : Tx H H' := tx_of r.own k
theorem upd_new {p : Addr} {u : HO} (hp : H p = none) : ∀ a w, H a = some w → upd H p u a = some w := fun a w e => by
  rw [upd_ne (ne_of_none e hp)]; exact e
theorem tx_new {p : Addr} {u : HO} (hp : H p = none) : Tx H (upd H p u) := fun a w e _ => upd_new hp a w e
theorem tx_upd {p : Addr} {u w : HO} (hp : H p = some w) (ow : OwnO w) : Tx H (upd H p u) := fun a x e n => by
  rw [upd_ne]
  · exact e
  · intro q; subst q; rw [hp] at e; cases e; exact n ow
theorem HP.newL {p : Addr} {vs : List V} {xs : List Da} (h : HP K H ps) (hp : H p = none) (d : DatL K H vs xs) : HP K (upd H p (.lst vs)) ((.lst xs, some (.ref p)) :: ps) :=
  h.new (upd_new hp) (F2 := [p]) ⟨p, vs, rfl, rfl, upd_same, d.mono (tx_new hp)⟩ (by simp) (by simpa using hp)
theorem HP.newT {p : Addr} {vs : List V} {xs : List Da} (h : HP K H ps) (hp : H p = none) (d : DatL K H vs xs) : HP K (upd H p (.tup vs)) ((.dat (.tuple xs), some (.ref p)) :: ps) :=
  h.new (upd_new hp) (F2 := []) ⟨rfl, _, rfl, .tup (.inl (.inl upd_same)) (d.mono (tx_new hp))⟩ .nil (by simp)
theorem HP.updL {p : Addr} {vs ws : List V} {xs ys : List Da} (h : HP K H ((.lst xs, some (.ref p)) :: ps)) (hp : H p = some (.lst vs)) (d : DatL K H ws ys) : HP K (upd H p (.lst ws)) ((.lst ys, some (.ref p)) :: ps) :=
  h.step fun F1 r _ => by
    obtain ⟨q, us, e1, rfl, _, _⟩ := r
    cases e1
    exact ⟨[p], ⟨p, ws, rfl, rfl, upd_same, d.mono (tx_upd hp True.intro)⟩, by simp, fun a u m e => by rw [upd_ne (fun z => m (by simp [z]))]; exact e, fun a ha => .inl ha⟩
theorem HP.mapTop (h : HP K H ((c, o) :: ps)) (k : ∀ F, CR K H c o F → CR K H c' o' F) : HP K H ((c', o') :: ps) := by
  obtain ⟨F, ⟨F1, F2, rfl, h1, h2⟩, n⟩ := h
  exact ⟨F1 ++ F2, ⟨F1, F2, rfl, k _ h1, h2⟩, n⟩
theorem HP.lst {xs : List Da} (h : HP K H ((.lst xs, o) :: ps)) : ∃ p vs, o = some (.ref p) ∧ H p = some (.lst vs) ∧ DatL K H vs xs := by
  obtain ⟨F, ⟨p, vs, h1, _, h3, h4⟩, _⟩ := h.top
  exact ⟨p, vs, h1, h3, h4⟩
/-- a cell over again: a datum is told as often as one likes -/
theorem HP.copy {d : Da} (h : HP K H ((.dat d, o) :: ps)) : HP K H ((.dat d, o) :: (.dat d, o) :: ps) := by
  obtain ⟨v, e, r⟩ := h.dat
  exact h.push ⟨rfl, v, e, r⟩
end

/-! ### slots -/
def Hs (K : PySem.W.Frag) (H : Hp) (Δ : List (CD × Option V)) (Γ : List CD) (σ : St) : Prop := Γ.length = σ.length ∧ HP K H (Δ ++ Γ.zip σ)
theorem zip_at : ∀ {Γ : List CD} {σ : St} {i : Nat} {c : CD}, Γ.length = σ.length → Γ[i]? = some c →
    ∃ o A B, σ[i]? = some o ∧ Γ.zip σ = A ++ (c, o) :: B ∧ ∀ c' o', (Γ.set i c').zip (σ.set i o') = A ++ (c', o') :: B
  | [], _, _, _, _, e => by simp at e
  | _ :: _, [], _, _, l, _ => by simp at l
  | g :: Γ, s :: σ, 0, c, l, e => by
    simp at e; subst e
    exact ⟨s, [], Γ.zip σ, by simp, rfl, fun _ _ => rfl⟩
  | g :: Γ, s :: σ, i + 1, c, l, e => by
    obtain ⟨o, A, B, h1, h2, h3⟩ := zip_at (i := i) (Γ := Γ) (σ := σ) (by simpa using l) (by simpa using e)
    refine ⟨o, (g, s) :: A, B, by simpa using h1, ?_, fun c' o' => ?_⟩
    · rw [List.zip_cons_cons, h2]; rfl
    · rw [List.set_cons_succ, List.set_cons_succ, List.zip_cons_cons, h3]; rfl
section
variable {K : PySem.W.Frag} {H H' : Hp} {c c' : CD} {o o' : Option V} {Δ Δ' : List (CD × Option V)} {Γ Γ' : List CD} {σ : St} {i : Nat}
theorem set_self {α : Type} : ∀ {l : List α} {i : Nat} {x : α}, l[i]? = some x → l.set i x = l
  | [], _, _, _ => rfl
  | a :: l, 0, x, e => by simp at e; subst e; rfl
  | a :: l, i + 1, x, e => by rw [List.set_cons_succ, set_self (by simpa using e)]
theorem Hs.len (h : Hs K H Δ Γ σ) : Γ.length = σ.length := h.1
theorem Hs.at (h : Hs K H Δ Γ σ) (e : Γ[i]? = some c) : ∃ o F, σ[i]? = some o ∧ CR K H c o F := by
  obtain ⟨o, A, B, h1, h2, h3⟩ := zip_at h.1 e
  obtain ⟨F, r⟩ := h.2.mem (p := (c, o)) (by rw [h2]; simp)
  exact ⟨o, F, h1, r⟩
theorem Hs.take (h : Hs K H Δ Γ σ) (e : Γ[i]? = some c) : ∃ o, σ[i]? = some o ∧ Hs K H ((c, o) :: Δ) (Γ.set i .any) σ := by
  obtain ⟨o, A, B, h1, h2, h3⟩ := zip_at h.1 e
  refine ⟨o, h1, by rw [List.length_set]; exact h.1, ?_⟩
  have q := h3 .any o
  rw [set_self h1] at q
  have z := h.2
  rw [h2] at z
  show HP K H ((c, o) :: (Δ ++ (Γ.set i .any).zip σ))
  rw [q]
  have p1 : (Δ ++ (A ++ (c, o) :: B)).Perm ((c, o) :: (Δ ++ (A ++ B))) := by
    rw [← List.append_assoc, ← List.append_assoc]; exact List.perm_middle
  have y := ((z.perm p1).push (c := .any) (o := o) rfl).swap
  refine y.perm (.cons _ ?_)
  rw [← List.append_assoc, ← List.append_assoc]; exact List.perm_middle.symm
theorem Hs.put (h : Hs K H ((c, o) :: Δ) Γ σ) (hi : i < σ.length) : Hs K H Δ (Γ.set i c) (σ.set i o) := by
  have e : Γ[i]? = some (Γ[i]'(by rw [h.1]; exact hi)) := List.getElem?_eq_getElem _
  obtain ⟨o', A, B, h1, h2, h3⟩ := zip_at h.1 e
  refine ⟨by rw [List.length_set, List.length_set]; exact h.1, ?_⟩
  rw [h3]
  have z : HP K H ((c, o) :: (Δ ++ Γ.zip σ)) := h.2
  rw [h2] at z
  have p1 : (Δ ++ (A ++ (Γ[i]'(by rw [h.1]; exact hi), o') :: B)).Perm ((Γ[i]'(by rw [h.1]; exact hi), o') :: (Δ ++ (A ++ B))) := by
    rw [← List.append_assoc, ← List.append_assoc]; exact List.perm_middle
  refine ((z.perm (.cons _ p1)).swap.drop).perm ?_
  rw [← List.append_assoc, ← List.append_assoc]; exact List.perm_middle.symm
theorem Hs.back (h : Hs K H ((c, o) :: Δ) Γ σ) (hi : σ[i]? = some o) : Hs K H Δ (Γ.set i c) σ := by
  have q := h.put (i := i) (List.getElem?_eq_some_iff.mp hi).1
  rw [set_self hi] at q
  exact q
theorem Hs.copy {d : Da} (h : Hs K H Δ Γ σ) (e : Γ[i]? = some (.dat d)) : ∃ v, σ[i]? = some (some v) ∧ Dat K H v d ∧ Hs K H ((.dat d, some v) :: Δ) Γ σ := by
  obtain ⟨o, F, h1, hF, v, rfl, r⟩ := h.at e
  exact ⟨v, h1, r, h.1, h.2.push ⟨rfl, v, rfl, r⟩⟩
theorem Hs.mapP (h : Hs K H Δ Γ σ) (k : ∀ ps, HP K H (Δ ++ ps) → HP K H' (Δ' ++ ps)) : Hs K H' Δ' Γ σ := ⟨h.1, k _ h.2⟩
theorem Hs.dropTop (h : Hs K H ((c, o) :: Δ) Γ σ) : Hs K H Δ Γ σ := ⟨h.1, h.2.drop⟩
theorem Hs.swapTop {x y : CD × Option V} (h : Hs K H (x :: y :: Δ) Γ σ) : Hs K H (y :: x :: Δ) Γ σ := ⟨h.1, h.2.swap⟩
theorem Hs.permD (h : Hs K H Δ Γ σ) (p : Δ.Perm Δ') : Hs K H Δ' Γ σ := ⟨h.1, h.2.perm (p.append_right _)⟩
end
end JJ
/-! J2: contexts, judgements on expressions, operands and their cells. -/
namespace JJ
open PySem L2

/-- a family of contexts of one def's body (or of a comprehension's blocks within it) -/
structure Ev (ι : Type) where
  X : ι → Cx
  P : Program
  w : World
  K : PySem.W.Frag
  mg : Str → Option Value
  base : Heap
  N : List Str
  k : Nat
  hP : ∀ i, (X i).prog = P
  hw : ∀ i, (X i).w = w
  hK : ∀ i, (X i).K = K
  hm : ∀ i, (X i).mg = mg
  hb : ∀ i, (X i).base = base
  hN : ∀ i, (X i).N = N
  nd : N.Nodup
  room : ∀ i, Room k (X i).A
  calm : ∀ i, (X i).calm = true
  gds : ∀ i, (X i).A.guards = some []

abbrev ME := List CD → Option (CD × List CD)
abbrev MT := List CD → Option (Bool × List CD)
abbrev Op := CD ⊕ Nat
abbrev MP := List CD → Option (Op × List CD)
abbrev ML := List CD → Option (List Op × List CD)

def tmps : List Op → List V → List (CD × Option V)
  | .inl c :: r, v :: vs => (c, some v) :: tmps r vs
  | .inr _ :: r, _ :: vs => tmps r vs
  | _, _ => []
def slotsOk (σ : St) : List Op → List V → Prop
  | [], [] => True
  | .inl _ :: r, _ :: vs => slotsOk σ r vs
  | .inr i :: r, v :: vs => σ[i]? = some (some v) ∧ slotsOk σ r vs
  | _, _ => False

def SE (K : PySem.W.Frag) (te : TE) (m : ME) : Prop := ∀ (Δ : List (CD × Option V)) (Γ : List CD) (σ : St) (H : Hp) (Q : VK) (c : CD) (Γ' : List CD),
  m Γ = some (c, Γ') → Hs K H Δ Γ σ → (∀ v H', Hs K H' ((c, some v) :: Δ) Γ' σ → Q v H') → te σ H Q
def ST (K : PySem.W.Frag) (tt : TT) (m : MT) : Prop := ∀ (Δ : List (CD × Option V)) (Γ : List CD) (σ : St) (H : Hp) (Q : Bool → Hp → Prop) (b : Bool) (Γ' : List CD),
  m Γ = some (b, Γ') → Hs K H Δ Γ σ → (∀ H', Hs K H' Δ Γ' σ → Q b H') → tt σ H Q
def SX (K : PySem.W.Frag) (te : TE) (m : MP) : Prop := ∀ (Δ : List (CD × Option V)) (Γ : List CD) (σ : St) (H : Hp) (Q : VK) (op : Op) (Γ' : List CD),
  m Γ = some (op, Γ') → Hs K H Δ Γ σ → (∀ v H', Hs K H' (tmps [op] [v] ++ Δ) Γ' σ → slotsOk σ [op] [v] → Q v H') → te σ H Q
def SA (K : PySem.W.Frag) (ta : TA) (m : ML) : Prop := ∀ (Δ : List (CD × Option V)) (Γ : List CD) (σ : St) (H : Hp) (Q : List V → Hp → Prop) (ops : List Op) (Γ' : List CD),
  m Γ = some (ops, Γ') → Hs K H Δ Γ σ → (∀ vs H', Hs K H' (tmps ops vs ++ Δ) Γ' σ → slotsOk σ ops vs → Q vs H') → ta σ H Q

section
variable {ι : Type}
def JE (E : Ev ι) (e : Expr) (m : ME) : Prop := ∃ te, (∀ i, PE (E.X i) e te) ∧ SE E.K te m
def JT (E : Ev ι) (e : Expr) (m : MT) : Prop := ∃ te, (∀ i, PT (E.X i) e te) ∧ ST E.K te m
def JW (E : Ev ι) (e : Expr) (m : MT) : Prop := ∃ te, (∀ i, PW (E.X i) e te) ∧ ST E.K te m
def JP (E : Ev ι) (e : Expr) (m : MP) : Prop := ∃ te, (∀ i, PE (E.X i) e te) ∧ SX E.K te m
def JA (E : Ev ι) (es : List Expr) (m : ML) : Prop := ∃ te, (∀ i, PA (E.X i) es te) ∧ SA E.K te m
end

/-! ### operands, then the cells that an operation sees -/
def isC : CD → Bool
  | .dat _ => true
  | .scr _ => true
  | .shp _ => true
  | _ => false
@[simp] def takeO : List Op → List CD → Option (List CD × List CD)
  | [], Γ => some ([], Γ)
  | .inl c :: r, Γ => match takeO r Γ with
    | some (cs, Γ') => some (c :: cs, Γ')
    | none => none
  | .inr i :: r, Γ => match Γ[i]? with
    | some c => (match takeO r (if isC c then Γ else Γ.set i .any) with
      | some (cs, Γ') => some (c :: cs, Γ')
      | none => none)
    | none => none
@[simp] def giveO : List Op → List CD → List CD → List CD
  | .inr i :: r, c :: cs, Γ => giveO r cs (if isC c then Γ else Γ.set i c)
  | .inl _ :: r, _ :: cs, Γ => giveO r cs Γ
  | _, _, Γ => Γ

section
variable {K : PySem.W.Frag} {H : Hp} {σ : St}
theorem HP.copyC {ps : List (CD × Option V)} {c : CD} {o : Option V} {F : List Addr} (h : HP K H ps) (r : CR K H c o F) (hc : isC c = true) : HP K H ((c, o) :: ps) := by
  cases c with
  | dat d => exact h.push ⟨rfl, r.2⟩
  | scr ns => exact h.push ⟨rfl, r.2⟩
  | shp ns => exact h.push ⟨rfl, r.2⟩
  | any => cases hc
  | lst _ => cases hc
  | bag _ _ _ => cases hc
  | dic _ => cases hc
theorem Hs.slot {Δ : List (CD × Option V)} {Γ : List CD} {i : Nat} {c : CD} {v : V} (h : Hs K H Δ Γ σ) (e : Γ[i]? = some c) (hv : σ[i]? = some (some v)) : Hs K H ((c, some v) :: Δ) (if isC c then Γ else Γ.set i .any) σ := by
  by_cases hc : isC c = true
  · rw [if_pos hc]
    obtain ⟨o, F, h1, r⟩ := h.at e
    rw [hv] at h1
    cases h1
    exact ⟨h.1, h.2.copyC r hc⟩
  · rw [if_neg hc]
    obtain ⟨o, h1, q⟩ := h.take e
    rw [hv] at h1
    cases h1
    exact q
theorem takeO_ok : ∀ {ops : List Op} {vs : List V} {Δ : List (CD × Option V)} {Γ Γ' : List CD} {cs : List CD}, slotsOk σ ops vs → Hs K H (tmps ops vs ++ Δ) Γ σ → takeO ops Γ = some (cs, Γ') →
    Hs K H (cs.zip (vs.map some) ++ Δ) Γ' σ ∧ cs.length = vs.length
  | [], [], Δ, Γ, Γ', cs, _, h, e => by
    cases e
    exact ⟨h, rfl⟩
  | .inl c :: r, v :: vs, Δ, Γ, Γ', cs, s, h, e => by
    unfold takeO at e
    cases q : takeO r Γ with
    | none => rw [q] at e; cases e
    | some p =>
      obtain ⟨cs', G⟩ := p
      rw [q] at e
      cases e
      have h1 : Hs K H (tmps r vs ++ ((c, some v) :: Δ)) Γ σ := h.permD (by
        show ((c, some v) :: (tmps r vs ++ Δ)).Perm _
        exact List.perm_middle.symm)
      obtain ⟨a, b⟩ := takeO_ok (show slotsOk σ r vs from s) h1 q
      refine ⟨a.permD ?_, by simp [b]⟩
      exact List.perm_middle
  | .inr i :: r, v :: vs, Δ, Γ, Γ', cs, s, h, e => by
    unfold takeO at e
    cases q0 : Γ[i]? with
    | none => rw [q0] at e; cases e
    | some c =>
      rw [q0] at e
      simp only at e
      cases q : takeO r (if isC c then Γ else Γ.set i .any) with
      | none => rw [q] at e; cases e
      | some p =>
        obtain ⟨cs', G⟩ := p
        rw [q] at e
        cases e
        have h0 : Hs K H (tmps r vs ++ Δ) Γ σ := h
        have h1 : Hs K H (tmps r vs ++ ((c, some v) :: Δ)) (if isC c then Γ else Γ.set i .any) σ := (h0.slot q0 s.1).permD (List.perm_middle.symm)
        obtain ⟨a, b⟩ := takeO_ok (show slotsOk σ r vs from s.2) h1 q
        exact ⟨a.permD List.perm_middle, by simp [b]⟩
  | [], _ :: _, _, _, _, _, s, _, _ => s.elim
  | .inl _ :: _, [], _, _, _, _, s, _, _ => s.elim
  | .inr _ :: _, [], _, _, _, _, s, _, _ => s.elim
theorem giveO_ok : ∀ {ops : List Op} {vs : List V} {Δ : List (CD × Option V)} {Γ : List CD} {cs : List CD}, slotsOk σ ops vs → cs.length = vs.length → Hs K H (cs.zip (vs.map some) ++ Δ) Γ σ → Hs K H Δ (giveO ops cs Γ) σ
  | [], [], Δ, Γ, [], _, _, h => h
  | .inl c :: r, v :: vs, Δ, Γ, c' :: cs, s, l, h => giveO_ok (ops := r) (show slotsOk σ r vs from s) (by simpa using l) (show Hs K H (cs.zip (vs.map some) ++ Δ) Γ σ from Hs.dropTop (c := c') (o := some v) h)
  | .inr i :: r, v :: vs, Δ, Γ, c' :: cs, s, l, h => by
    show Hs K H Δ (giveO r cs (if isC c' then Γ else Γ.set i c')) σ
    refine giveO_ok (ops := r) (show slotsOk σ r vs from s.2) (by simpa using l) ?_
    have h1 : Hs K H ((c', some v) :: (cs.zip (vs.map some) ++ Δ)) Γ σ := h
    by_cases hc : isC c' = true
    · rw [if_pos hc]; exact h1.dropTop
    · rw [if_neg hc]; exact h1.back s.1
  | [], [], _, _, _ :: _, _, l, _ => by cases l
  | [], _ :: _, _, _, _, s, _, _ => s.elim
  | .inl _ :: _, [], _, _, _, s, _, _ => s.elim
  | .inr _ :: _, [], _, _, _, s, _, _ => s.elim
  | .inl _ :: _, _ :: _, _, _, [], _, l, _ => by cases l
  | .inr _ :: _, _ :: _, _, _, [], _, l, _ => by cases l
end

/-- an operation on values, told by the cells of its arguments: a result, and the arguments' cells behind it -/
abbrev MF := List CD → Option (CD × List CD)
def PR (K : PySem.W.Frag) (r : List V → Hp → VK → Prop) (f : MF) : Prop := ∀ (vs : List V) (cs : List CD) (c : CD) (cs' : List CD) (H : Hp) (ps : List (CD × Option V)) (Q : VK),
  f cs = some (c, cs') → cs.length = vs.length → HP K H (cs.zip (vs.map some) ++ ps) → (∀ v H', HP K H' ((c, some v) :: (cs'.zip (vs.map some) ++ ps)) → cs'.length = vs.length → Q v H') → r vs H Q
def mApp (f : MF) (ml : ML) : ME := fun Γ => match ml Γ with
  | some (ops, Γ1) => (match takeO ops Γ1 with
    | some (cs, Γ2) => (match f cs with
      | some (c, cs') => some (c, giveO ops cs' Γ2)
      | none => none)
    | none => none)
  | none => none
theorem app_ok {K : PySem.W.Frag} {ta : TA} {ml : ML} {r : List V → Hp → VK → Prop} {f : MF} (ha : SA K ta ml) (hr : PR K r f) : SE K (tCB r ta) (mApp f ml) := by
  intro Δ Γ σ H Q c Γ' e h k
  unfold mApp at e
  cases e1 : ml Γ with
  | none => rw [e1] at e; cases e
  | some p =>
    obtain ⟨ops, Γ1⟩ := p
    rw [e1] at e
    simp only at e
    cases e2 : takeO ops Γ1 with
    | none => rw [e2] at e; cases e
    | some p2 =>
      obtain ⟨cs, Γ2⟩ := p2
      rw [e2] at e
      simp only at e
      cases e3 : f cs with
      | none => rw [e3] at e; cases e
      | some p3 =>
        obtain ⟨c3, cs'⟩ := p3
        rw [e3] at e
        cases e
        refine ha Δ Γ σ H _ ops Γ1 e1 h fun vs H1 h1 s => ?_
        obtain ⟨h2, l2⟩ := takeO_ok s h1 e2
        have h3 : HP K H1 (cs.zip (vs.map some) ++ (Δ ++ Γ2.zip σ)) := by
          rw [← List.append_assoc]; exact h2.2
        refine hr vs cs c cs' H1 _ _ e3 l2 h3 fun v H' h4 l4 => k v H' ?_
        have h5 : Hs K H' (cs'.zip (vs.map some) ++ ((c, some v) :: Δ)) Γ2 σ := ⟨h2.1, by
          refine h4.perm ?_
          rw [← List.append_assoc]
          show ((c, some v) :: (cs'.zip (vs.map some) ++ Δ ++ Γ2.zip σ)).Perm _
          exact (List.Perm.append_right _ List.perm_middle.symm)⟩
        exact giveO_ok s l4 h5

/-! ### operands and argument lists -/
def mpE (m : ME) : MP := fun Γ => match m Γ with
  | some (c, Γ') => some (.inl c, Γ')
  | none => none
def mpV (i : Nat) : MP := fun Γ => match Γ[i]? with
  | some .any => none
  | some _ => some (.inr i, Γ)
  | none => none
def mlN : ML := fun Γ => some ([], Γ)
def mlC (mp : MP) (ml : ML) : ML := fun Γ => match mp Γ with
  | some (op, Γ1) => (match ml Γ1 with
    | some (ops, Γ2) => some (op :: ops, Γ2)
    | none => none)
  | none => none
theorem CR.val {K : PySem.W.Frag} {H : Hp} {c : CD} {o : Option V} {F : List Addr} (r : CR K H c o F) (hc : c ≠ .any) : ∃ v, o = some v := by
  cases c with
  | any => exact (hc rfl).elim
  | dat d => obtain ⟨_, v, e, _⟩ := r; exact ⟨v, e⟩
  | lst xs => obtain ⟨p, _, e, _⟩ := r; exact ⟨_, e⟩
  | bag a b c => obtain ⟨p, _, e, _⟩ := r; exact ⟨_, e⟩
  | dic a => obtain ⟨p, _, e, _⟩ := r; exact ⟨_, e⟩
  | scr a => obtain ⟨_, p, e, _⟩ := r; exact ⟨_, e⟩
  | shp a => obtain ⟨_, p, e, _⟩ := r; exact ⟨_, e⟩
theorem sx_e {K : PySem.W.Frag} {te : TE} {m : ME} (h : SE K te m) : SX K te (mpE m) := by
  intro Δ Γ σ H Q op Γ' e hs k
  unfold mpE at e
  cases e1 : m Γ with
  | none => rw [e1] at e; cases e
  | some p =>
    obtain ⟨c, G⟩ := p
    rw [e1] at e
    cases e
    exact h Δ Γ σ H Q c _ e1 hs fun v H' h' => k v H' h' True.intro
theorem sx_v {K : PySem.W.Frag} {i : Nat} : SX K (tVar i) (mpV i) := by
  intro Δ Γ σ H Q op Γ' e hs k
  unfold mpV at e
  cases e1 : Γ[i]? with
  | none => rw [e1] at e; cases e
  | some c =>
    rw [e1] at e
    have hc : c ≠ .any := by rintro rfl; cases e
    have e' : op = .inr i ∧ Γ' = Γ := by
      cases c <;> first | (cases e; done) | (cases e; exact ⟨rfl, rfl⟩)
    obtain ⟨rfl, rfl⟩ := e'
    obtain ⟨o, F, h1, r⟩ := hs.at e1
    obtain ⟨v, rfl⟩ := r.val hc
    exact ⟨v, h1, k v H hs ⟨h1, True.intro⟩⟩
theorem sa_nil {K : PySem.W.Frag} : SA K tNil mlN := by
  intro Δ Γ σ H Q ops Γ' e hs k
  cases e
  exact k [] H hs True.intro
theorem sa_cons {K : PySem.W.Frag} {te : TE} {ta : TA} {mp : MP} {ml : ML} (h : SX K te mp) (ht : SA K ta ml) : SA K (tCons te ta) (mlC mp ml) := by
  intro Δ Γ σ H Q ops Γ' e hs k
  unfold mlC at e
  cases e1 : mp Γ with
  | none => rw [e1] at e; cases e
  | some p =>
    obtain ⟨op, Γ1⟩ := p
    rw [e1] at e
    simp only at e
    cases e2 : ml Γ1 with
    | none => rw [e2] at e; cases e
    | some p2 =>
      obtain ⟨r, Γ2⟩ := p2
      rw [e2] at e
      cases e
      refine h Δ Γ σ H _ op Γ1 e1 hs fun v H1 h1 s1 => ?_
      refine ht (tmps [op] [v] ++ Δ) Γ1 σ H1 _ r _ e2 h1 fun vs H2 h2 s2 => k (v :: vs) H2 ?_ ?_
      · cases op with
        | inl c => exact h2.permD (List.perm_middle (a := (c, some v)))
        | inr i => exact h2
      · cases op with
        | inl c => exact s2
        | inr i => exact ⟨s1.1, s2⟩

section
variable {ι : Type} {E : Ev ι} {e e2 : Expr} {es : List Expr} {m m2 : ME} {mp mp2 : MP} {ml : ML} {pos : Pos} {x : Str}
theorem jp_e (h : JE E e m) : JP E e (mpE m) := let ⟨te, h1, h2⟩ := h; ⟨te, h1, sx_e h2⟩
theorem jp_v (i : Nat) (hN : E.N[i]? = some x := by rfl) (hv : ∀ j, Vis (E.X j).env.scope x := by first | exact fun _ => Or.inl rfl | exact fun _ => Or.inr (Or.inl rfl) | exact fun _ => Or.inr (Or.inr rfl))
    (hd : (x == ("__debug__" : Str)) = false := by decide) (hcd : (x == ("__classdict__" : Str)) = false := by decide) : JP E (.Name x pos) (mpV i) :=
  ⟨tVar i, fun j => pe_var (by rw [E.hN]; exact hN) (hv j) hd hcd, sx_v⟩
theorem ja_nil : JA E [] mlN := ⟨tNil, fun _ => pa_nil, sa_nil⟩
theorem ja_cons (h : JP E e mp) (ht : JA E es ml) (hs : ∀ env, starEach (e :: es) env = (false, eval e env) :: starEach es env := by intro _; rfl) : JA E (e :: es) (mlC mp ml) :=
  let ⟨te, h1, h2⟩ := h; let ⟨ta, t1, t2⟩ := ht; ⟨tCons te ta, fun i => pa_cons (h1 i) (t1 i) (hs _), sa_cons h2 t2⟩

/-! ### names and constants -/
def mC (d : Da) : ME := fun Γ => some (.dat d, Γ)
def mVar (i : Nat) : ME := fun Γ => match Γ[i]? with
  | some (.dat d) => some (.dat d, Γ)
  | some (.scr ns) => some (.scr ns, Γ)
  | _ => none
/-- a name whose object is handed on for good -/
def mMv (i : Nat) : ME := fun Γ => match Γ[i]? with
  | some .any => none
  | some c => some (c, Γ.set i .any)
  | none => none
theorem se_c {K : PySem.W.Frag} {v : V} {d : Da} (h : ∀ H, Dat K H v d) : SE K (tC v) (mC d) := by
  intro Δ Γ σ H Q c Γ' e hs k
  cases e
  exact k v H ⟨hs.1, hs.2.push ⟨rfl, v, rfl, h H⟩⟩
theorem se_var {K : PySem.W.Frag} {i : Nat} : SE K (tVar i) (mVar i) := by
  intro Δ Γ σ H Q c Γ' e hs k
  unfold mVar at e
  cases e1 : Γ[i]? with
  | none => rw [e1] at e; cases e
  | some c1 =>
    rw [e1] at e
    obtain ⟨o, F, h1, r⟩ := hs.at e1
    cases c1 with
    | dat d =>
      cases e
      obtain ⟨v, rfl⟩ := r.val (by intro z; cases z)
      exact ⟨v, h1, k v H ⟨hs.1, hs.2.copyC r rfl⟩⟩
    | shp d => cases e
    | scr d =>
      cases e
      obtain ⟨v, rfl⟩ := r.val (by intro z; cases z)
      exact ⟨v, h1, k v H ⟨hs.1, hs.2.copyC r rfl⟩⟩
    | any => cases e
    | lst _ => cases e
    | bag _ _ _ => cases e
    | dic _ => cases e
theorem se_mv {K : PySem.W.Frag} {i : Nat} : SE K (tVar i) (mMv i) := by
  intro Δ Γ σ H Q c Γ' e hs k
  unfold mMv at e
  cases e1 : Γ[i]? with
  | none => rw [e1] at e; cases e
  | some c1 =>
    rw [e1] at e
    have hc : c1 ≠ .any := by rintro rfl; cases e
    obtain ⟨o, h1, q⟩ := hs.take e1
    obtain ⟨F, r, _⟩ := q.2.top
    obtain ⟨v, rfl⟩ := r.val hc
    have e' : c = c1 ∧ Γ' = Γ.set i .any := by
      cases c1 <;> first | (cases e; done) | (cases e; exact ⟨rfl, rfl⟩)
    obtain ⟨rfl, rfl⟩ := e'
    exact ⟨v, h1, k v H q⟩
theorem je_int {i : Int} {j : Nat} : JE E (.Constant (.int i) j pos) (mC (.int i)) := ⟨_, fun _ => pe_int, se_c fun _ => .int i⟩
theorem je_bl {b : Bool} {j : Nat} : JE E (.Constant (.bool b) j pos) (mC (.bool b)) := ⟨_, fun _ => pe_bl, se_c fun _ => .bl b⟩
theorem je_non {j : Nat} : JE E (.Constant .none j pos) (mC .none) := ⟨_, fun _ => pe_non, se_c fun _ => .non⟩
theorem je_str {z : Str} {j : Nat} : JE E (.Constant (.str z) j pos) (mC (.str z)) := ⟨_, fun _ => pe_str, se_c fun _ => .str z⟩
theorem je_var (i : Nat) (hN : E.N[i]? = some x := by rfl) (hv : ∀ j, Vis (E.X j).env.scope x := by first | exact fun _ => Or.inl rfl | exact fun _ => Or.inr (Or.inl rfl) | exact fun _ => Or.inr (Or.inr rfl))
    (hd : (x == ("__debug__" : Str)) = false := by decide) (hcd : (x == ("__classdict__" : Str)) = false := by decide) : JE E (.Name x pos) (mVar i) :=
  ⟨tVar i, fun j => pe_var (by rw [E.hN]; exact hN) (hv j) hd hcd, se_var⟩
theorem je_mv (i : Nat) (hN : E.N[i]? = some x := by rfl) (hv : ∀ j, Vis (E.X j).env.scope x := by first | exact fun _ => Or.inl rfl | exact fun _ => Or.inr (Or.inl rfl) | exact fun _ => Or.inr (Or.inr rfl))
    (hd : (x == ("__debug__" : Str)) = false := by decide) (hcd : (x == ("__classdict__" : Str)) = false := by decide) : JE E (.Name x pos) (mMv i) :=
  ⟨tVar i, fun j => pe_var (by rw [E.hN]; exact hN) (hv j) hd hcd, se_mv⟩
/-- a whole number that the module keeps under a name -/
theorem je_gint {i : Int} {t : Tok} (hm : E.mg x = some (.int i t)) (hg : ∀ j, Gl (E.X j) x := by exact fun _ => rfl) (hd : (x == ("__debug__" : Str)) = false := by decide) : JE E (.Name x pos) (mC (.int i)) :=
  ⟨tC (.int i), fun j => pe_glob (hg j) (by rw [E.hm]; exact hm) ⟨t, rfl⟩ hd, se_c fun _ => .int i⟩

/-! ### operations by values -/
def r2L (r : R2) : List V → Hp → VK → Prop := fun vs H Q => match vs with
  | [x, y] => r x y H Q
  | _ => False
def r1L (r : V → Hp → VK → Prop) : List V → Hp → VK → Prop := fun vs H Q => match vs with
  | [x] => r x H Q
  | _ => False
theorem je_bin {op : Operator} {r : R2} {f : MF} (ho : ∀ i, OpR (E.X i) (binaryOp op) r) (hr : PR E.K (r2L r) f) (h1 : JP E e mp) (h2 : JP E e2 mp2) : JE E (.BinOp e op e2 pos) (mApp f (mlC mp (mlC mp2 mlN))) := by
  obtain ⟨ta, a1, a2⟩ := h1
  obtain ⟨tb, b1, b2⟩ := h2
  exact ⟨tOp r ta tb, fun i => pe_op (ho i) (a1 i) (b1 i), app_ok (sa_cons a2 (sa_cons b2 sa_nil)) hr⟩
theorem je_cmp {op : CmpOp} {r : R2} {f : MF} (ho : ∀ i, OpR (E.X i) (compareOp op) r) (hr : PR E.K (r2L r) f) (h1 : JP E e mp) (h2 : JP E e2 mp2) (hm : behindInMarks op e2 = false := by first | rfl | exact nomark _) : JE E (.Compare e [op] [e2] pos) (mApp f (mlC mp (mlC mp2 mlN))) := by
  obtain ⟨ta, a1, a2⟩ := h1
  obtain ⟨tb, b1, b2⟩ := h2
  exact ⟨tOp r ta tb, fun i => pe_cmpR (ho i) (a1 i) (b1 i) hm, app_ok (sa_cons a2 (sa_cons b2 sa_nil)) hr⟩
def mTst (m : ME) : MT := fun Γ => match m Γ with
  | some (.dat (.bool b), Γ') => some (b, Γ')
  | _ => none
theorem st_tst {K : PySem.W.Frag} {te : TE} {m : ME} (h : SE K te m) : ST K (tTest te) (mTst m) := by
  intro Δ Γ σ H Q b Γ' e hs k
  unfold mTst at e
  cases e1 : m Γ with
  | none => rw [e1] at e; cases e
  | some p =>
    obtain ⟨c, G⟩ := p
    rw [e1] at e
    cases c with
    | dat d =>
      cases d with
      | bool b' =>
        cases e
        refine h Δ Γ σ H _ _ _ e1 hs fun v H' h' => ?_
        obtain ⟨v', e2, r⟩ := h'.2.dat
        cases e2
        cases r
        exact ⟨b, rfl, k H' h'.dropTop⟩
      | none => cases e
      | int _ => cases e
      | str _ => cases e
      | list _ => cases e
      | tuple _ => cases e
      | dict _ => cases e
    | any => cases e
    | lst _ => cases e
    | bag _ _ _ => cases e
    | dic _ => cases e
    | scr _ => cases e
    | shp _ => cases e
theorem jt_cmp {op : CmpOp} {r : R2} {f : MF} (ho : ∀ i, OpR (E.X i) (compareOp op) r) (hr : PR E.K (r2L r) f) (h1 : JP E e mp) (h2 : JP E e2 mp2) (hm : behindInMarks op e2 = false := by first | rfl | exact nomark _) : JT E (.Compare e [op] [e2] pos) (mTst (mApp f (mlC mp (mlC mp2 mlN)))) := by
  obtain ⟨ta, a1, a2⟩ := h1
  obtain ⟨tb, b1, b2⟩ := h2
  exact ⟨_, fun i => pt_cmpR (ho i) (a1 i) (b1 i) hm, st_tst (app_ok (sa_cons a2 (sa_cons b2 sa_nil)) hr)⟩
/-- any other test: the value is a truth value -/
theorem jt_val (h : JE E e m) (he : ∀ (env : Env) whole, isTrue e env whole = (do let v ← whole; standAt e.pos; holding [v] (truthy v)) := by intro _ _; rfl) : JT E e (mTst m) := by
  obtain ⟨te, h1, h2⟩ := h
  exact ⟨tTest te, fun i => pt_val (h1 i) (he _), st_tst h2⟩
def mNot (m : MT) : MT := fun Γ => match m Γ with
  | some (b, Γ') => some (!b, Γ')
  | none => none
def mAnd (m n : MT) : MT := fun Γ => match m Γ with
  | some (true, Γ') => n Γ'
  | some (false, Γ') => some (false, Γ')
  | none => none
def mOr (m n : MT) : MT := fun Γ => match m Γ with
  | some (true, Γ') => some (true, Γ')
  | some (false, Γ') => n Γ'
  | none => none
variable {a b : Expr} {rest : List Expr} {mt mt2 : MT}
theorem jt_not (h : JT E a mt) : JT E (.UnaryOp .Not a pos) (mNot mt) := by
  obtain ⟨tt, h1, h2⟩ := h
  refine ⟨tNot tt, fun i => pt_not (h1 i), fun Δ Γ σ H Q b Γ' e hs k => ?_⟩
  unfold mNot at e
  cases e1 : mt Γ with
  | none => rw [e1] at e; cases e
  | some p =>
    obtain ⟨c, G⟩ := p
    rw [e1] at e
    cases e
    exact h2 Δ Γ σ H _ _ _ e1 hs fun H' h' => k H' h'
theorem jw_pt (h : JW E e mt) : JT E e mt := let ⟨t, h1, h2⟩ := h; ⟨t, fun i => (h1 i).pt, h2⟩
theorem jw_and1 (h : JT E a mt) : JW E (.BoolOp .And [a] pos) mt := let ⟨t, h1, h2⟩ := h; ⟨t, fun i => pw_and1 (h1 i), h2⟩
theorem jw_or1 (h : JT E a mt) : JW E (.BoolOp .Or [a] pos) mt := let ⟨t, h1, h2⟩ := h; ⟨t, fun i => pw_or1 (h1 i), h2⟩
theorem st_and {K : PySem.W.Frag} {t u : TT} {mt mt2 : MT} (h : ST K t mt) (h2 : ST K u mt2) : ST K (tAnd t u) (mAnd mt mt2) := by
  intro Δ Γ σ H Q b Γ' e hs k
  unfold mAnd at e
  cases e1 : mt Γ with
  | none => rw [e1] at e; cases e
  | some p =>
    obtain ⟨c, G⟩ := p
    rw [e1] at e
    cases c with
    | true =>
      refine h Δ Γ σ H _ _ _ e1 hs fun H' h' => ?_
      show u σ H' Q
      exact h2 Δ G σ H' Q b Γ' e h' k
    | false =>
      cases e
      exact h Δ Γ σ H _ _ _ e1 hs fun H' h' => k H' h'
theorem st_or {K : PySem.W.Frag} {t u : TT} {mt mt2 : MT} (h : ST K t mt) (h2 : ST K u mt2) : ST K (tOr t u) (mOr mt mt2) := by
  intro Δ Γ σ H Q b Γ' e hs k
  unfold mOr at e
  cases e1 : mt Γ with
  | none => rw [e1] at e; cases e
  | some p =>
    obtain ⟨c, G⟩ := p
    rw [e1] at e
    cases c with
    | true =>
      cases e
      exact h Δ Γ σ H _ _ _ e1 hs fun H' h' => k H' h'
    | false =>
      refine h Δ Γ σ H _ _ _ e1 hs fun H' h' => ?_
      show u σ H' Q
      exact h2 Δ G σ H' Q b Γ' e h' k
theorem jw_and (h : JT E a mt) (h2 : JW E (.BoolOp .And (b :: rest) pos) mt2) : JW E (.BoolOp .And (a :: b :: rest) pos) (mAnd mt mt2) :=
  let ⟨t, h1, s1⟩ := h; let ⟨u, g1, s2⟩ := h2; ⟨tAnd t u, fun i => pw_and (h1 i) (g1 i), st_and s1 s2⟩
theorem jw_or (h : JT E a mt) (h2 : JW E (.BoolOp .Or (b :: rest) pos) mt2) : JW E (.BoolOp .Or (a :: b :: rest) pos) (mOr mt mt2) :=
  let ⟨t, h1, s1⟩ := h; let ⟨u, g1, s2⟩ := h2; ⟨tOr t u, fun i => pw_or (h1 i) (g1 i), st_or s1 s2⟩

/-! ### and, or, not as values; a conditional expression -/
def mAndV (m n : ME) : ME := fun Γ => match m Γ with
  | some (.dat (.bool true), Γ') => n Γ'
  | some (.dat (.bool false), Γ') => some (.dat (.bool false), Γ')
  | _ => none
def mOrV (m n : ME) : ME := fun Γ => match m Γ with
  | some (.dat (.bool true), Γ') => some (.dat (.bool true), Γ')
  | some (.dat (.bool false), Γ') => n Γ'
  | _ => none
def mNotV (m : ME) : ME := fun Γ => match m Γ with
  | some (.dat (.bool b), Γ') => some (.dat (.bool !b), Γ')
  | _ => none
def mIfE (t : MT) (m n : ME) : ME := fun Γ => match t Γ with
  | some (true, Γ') => m Γ'
  | some (false, Γ') => n Γ'
  | none => none
theorem se_bool {K : PySem.W.Frag} {te : TE} {m : ME} (h : SE K te m) {Δ : List (CD × Option V)} {Γ : List CD} {σ : St} {H : Hp} {Q : VK} {b : Bool} {Γ' : List CD} (e : m Γ = some (.dat (.bool b), Γ')) (hs : Hs K H Δ Γ σ) (k : ∀ H', Hs K H' Δ Γ' σ → Q (.bl b) H') : te σ H Q :=
  h Δ Γ σ H Q _ _ e hs fun v H' h' => by
    obtain ⟨v', e2, r⟩ := h'.2.dat
    cases e2
    cases r
    exact k H' h'.dropTop
/-- a mirror that gave a truth value gave nothing else -/
theorem boolCases {o : Option (CD × List CD)} {R : Option (CD × List CD)} {f : List CD → Option (CD × List CD)} {g : List CD → Option (CD × List CD)} (e : (match o with
  | some (.dat (.bool true), Γ') => f Γ'
  | some (.dat (.bool false), Γ') => g Γ'
  | _ => none) = R) (hR : R ≠ none) : (∃ G, o = some (.dat (.bool true), G) ∧ f G = R) ∨ ∃ G, o = some (.dat (.bool false), G) ∧ g G = R := by
  match o, e with
  | some (.dat (.bool true), G), e => exact .inl ⟨G, rfl, e⟩
  | some (.dat (.bool false), G), e => exact .inr ⟨G, rfl, e⟩
  | none, e => exact (hR e.symm).elim
  | some (.any, G), e => exact (hR e.symm).elim
  | some (.lst _, G), e => exact (hR e.symm).elim
  | some (.bag _ _ _, G), e => exact (hR e.symm).elim
  | some (.dic _, G), e => exact (hR e.symm).elim
  | some (.scr _, G), e => exact (hR e.symm).elim
  | some (.shp _, G), e => exact (hR e.symm).elim
  | some (.dat .none, G), e => exact (hR e.symm).elim
  | some (.dat (.int _), G), e => exact (hR e.symm).elim
  | some (.dat (.str _), G), e => exact (hR e.symm).elim
  | some (.dat (.list _), G), e => exact (hR e.symm).elim
  | some (.dat (.tuple _), G), e => exact (hR e.symm).elim
  | some (.dat (.dict _), G), e => exact (hR e.symm).elim
theorem se_and {K : PySem.W.Frag} {ta tb : TE} {m n : ME} (h : SE K ta m) (h2 : SE K tb n) : SE K (tAndV ta tb) (mAndV m n) := by
  intro Δ Γ σ H Q c Γ' e hs k
  rcases boolCases (f := n) (g := fun Γ' => some (.dat (.bool false), Γ')) e (by simp) with ⟨G, e1, e2⟩ | ⟨G, e1, e2⟩
  · exact se_bool h e1 hs fun H' h' => ⟨true, rfl, h2 Δ G σ H' Q c Γ' e2 h' k⟩
  · cases e2
    exact se_bool h e1 hs fun H' h' => ⟨false, rfl, k (.bl false) H' ⟨h'.1, h'.2.push ⟨rfl, _, rfl, .bl false⟩⟩⟩
theorem se_or {K : PySem.W.Frag} {ta tb : TE} {m n : ME} (h : SE K ta m) (h2 : SE K tb n) : SE K (tOrV ta tb) (mOrV m n) := by
  intro Δ Γ σ H Q c Γ' e hs k
  rcases boolCases (f := fun Γ' => some (.dat (.bool true), Γ')) (g := n) e (by simp) with ⟨G, e1, e2⟩ | ⟨G, e1, e2⟩
  · cases e2
    exact se_bool h e1 hs fun H' h' => ⟨true, rfl, k (.bl true) H' ⟨h'.1, h'.2.push ⟨rfl, _, rfl, .bl true⟩⟩⟩
  · exact se_bool h e1 hs fun H' h' => ⟨false, rfl, h2 Δ G σ H' Q c Γ' e2 h' k⟩
theorem se_not {K : PySem.W.Frag} {ta : TE} {m : ME} (h : SE K ta m) : SE K (tNotV ta) (mNotV m) := by
  intro Δ Γ σ H Q c Γ' e hs k
  have e' : (match m Γ with
    | some (.dat (.bool true), Γ') => some (CD.dat (.bool false), Γ')
    | some (.dat (.bool false), Γ') => some (CD.dat (.bool true), Γ')
    | _ => none) = some (c, Γ') := by
    rw [← e]
    unfold mNotV
    match m Γ with
    | some (.dat (.bool true), G) => rfl
    | some (.dat (.bool false), G) => rfl
    | none => rfl
    | some (.any, G) => rfl
    | some (.lst _, G) => rfl
    | some (.bag _ _ _, G) => rfl
    | some (.dic _, G) => rfl
    | some (.scr _, G) => rfl
    | some (.shp _, G) => rfl
    | some (.dat .none, G) => rfl
    | some (.dat (.int _), G) => rfl
    | some (.dat (.str _), G) => rfl
    | some (.dat (.list _), G) => rfl
    | some (.dat (.tuple _), G) => rfl
    | some (.dat (.dict _), G) => rfl
  rcases boolCases (f := fun Γ' => some (.dat (.bool false), Γ')) (g := fun Γ' => some (.dat (.bool true), Γ')) e' (by simp) with ⟨G, e1, e2⟩ | ⟨G, e1, e2⟩
  · cases e2
    exact se_bool h e1 hs fun H' h' => ⟨true, rfl, k (.bl false) H' ⟨h'.1, h'.2.push ⟨rfl, _, rfl, .bl false⟩⟩⟩
  · cases e2
    exact se_bool h e1 hs fun H' h' => ⟨false, rfl, k (.bl true) H' ⟨h'.1, h'.2.push ⟨rfl, _, rfl, .bl true⟩⟩⟩
theorem se_ifE {K : PySem.W.Frag} {t : TT} {ta tb : TE} {mt : MT} {m n : ME} (h : ST K t mt) (h1 : SE K ta m) (h2 : SE K tb n) : SE K (tIf t ta tb) (mIfE mt m n) := by
  intro Δ Γ σ H Q c Γ' e hs k
  unfold mIfE at e
  cases e1 : mt Γ with
  | none => rw [e1] at e; cases e
  | some p =>
    obtain ⟨b, G⟩ := p
    rw [e1] at e
    refine h Δ Γ σ H _ _ _ e1 hs fun H' h' => ?_
    cases b with
    | true => exact h1 Δ G σ H' Q c Γ' e h' k
    | false => exact h2 Δ G σ H' Q c Γ' e h' k
variable {m1 : ME}
theorem je_one {op : BoolOp} (h : JE E a m) : JE E (.BoolOp op [a] pos) m := let ⟨t, h1, h2⟩ := h; ⟨t, fun i => pe_one (h1 i), h2⟩
theorem je_and (h : JE E a m) (h2 : JE E (.BoolOp .And (b :: rest) pos) m2) : JE E (.BoolOp .And (a :: b :: rest) pos) (mAndV m m2) :=
  let ⟨t, h1, s1⟩ := h; let ⟨u, g1, s2⟩ := h2; ⟨tAndV t u, fun i => pe_and (h1 i) (g1 i), se_and s1 s2⟩
theorem je_or (h : JE E a m) (h2 : JE E (.BoolOp .Or (b :: rest) pos) m2) : JE E (.BoolOp .Or (a :: b :: rest) pos) (mOrV m m2) :=
  let ⟨t, h1, s1⟩ := h; let ⟨u, g1, s2⟩ := h2; ⟨tOrV t u, fun i => pe_or (h1 i) (g1 i), se_or s1 s2⟩
theorem je_not (h : JE E a m) : JE E (.UnaryOp .Not a pos) (mNotV m) := let ⟨t, h1, s1⟩ := h; ⟨tNotV t, fun i => pe_not (h1 i), se_not s1⟩
theorem je_ifE {c : Expr} (hc : JT E c mt) (h : JE E a m) (h2 : JE E b m2) : JE E (.IfExp c a b pos) (mIfE mt m m2) :=
  let ⟨t, c1, c2⟩ := hc; let ⟨u, a1, a2⟩ := h; let ⟨w, b1, b2⟩ := h2; ⟨tIf t u w, fun i => pe_ifExp (c1 i) (a1 i) (b1 i), se_ifE c2 a2 b2⟩
end
end JJ
/-! J3: operations by values, told by cells. -/
namespace JJ
open PySem L2

theorem OpRor {X : Cx} {f : Value → Value → Sem Value} {r r' : R2} (h : OpR X f r) (h' : OpR X f r') : OpR X f (fun x y H Q => r x y H Q ∨ r' x y H Q) := by
  intro pins s σ H x y v u Q I rx ry q
  rcases q with q | q
  · exact h pins s σ H x y v u Q I rx ry q
  · exact h' pins s σ H x y v u Q I rx ry q
theorem CallRor {X : Cx} {f : Value} {r r' : List V → Hp → VK → Prop} (h : CallR X f r) (h' : CallR X f r') : CallR X f (fun x H Q => r x H Q ∨ r' x H Q) := by
  intro pins s σ H xs us Q I rx q
  rcases q with q | q
  · exact h pins s σ H xs us Q I rx q
  · exact h' pins s σ H xs us Q I rx q

/-- the datum of a cell that is read: a list is read as a list -/
def pyOf : CD → Option Da
  | .dat d => some d
  | .lst xs => some (.list xs)
  | _ => none
/-- a reading operation: the arguments stay -/
def mR (g : List CD → Option Da) : MF := fun cs => match g cs with
  | some d => some (.dat d, cs)
  | none => none

section
variable {K : PySem.W.Frag} {H H' : Hp}
theorem CR.dp {c : CD} {v : V} {F : List Addr} {d : Da} (r : CR K H c (some v) F) (e : pyOf c = some d) : Dp K H v d := by
  cases c with
  | dat d' =>
    cases e
    obtain ⟨_, v', q, r'⟩ := r
    cases q
    exact r'.dp
  | lst xs =>
    cases e
    obtain ⟨p, vs, q, _, h, hs⟩ := r
    cases q
    exact .lst (.inl (.inl h)) hs.dp
  | any => cases e
  | bag _ _ _ => cases e
  | dic _ => cases e
  | scr _ => cases e
  | shp _ => cases e
theorem hp_at : ∀ {cs : List CD} {vs : List V} {ps : List (CD × Option V)} {i : Nat} {c : CD}, cs.length = vs.length → HP K H (cs.zip (vs.map some) ++ ps) → cs[i]? = some c → ∃ v F, vs[i]? = some v ∧ CR K H c (some v) F := by
  intro cs vs ps i c l h e
  have hi : i < cs.length := (List.getElem?_eq_some_iff.mp e).1
  have e2 : vs[i]? = some (vs[i]'(by omega)) := List.getElem?_eq_getElem _
  have m : (c, some (vs[i]'(by omega))) ∈ cs.zip (vs.map some) ++ ps := by
    refine List.mem_append_left _ (List.mem_of_getElem? (i := i) ?_)
    rw [List.getElem?_zip_eq_some]
    exact ⟨e, by rw [List.getElem?_map, e2]; rfl⟩
  obtain ⟨F, r⟩ := h.mem m
  exact ⟨_, F, e2, r⟩
/-- one argument; two arguments -/
theorem hp_1 {c : CD} {vs : List V} {ps : List (CD × Option V)} (l : [c].length = vs.length) (h : HP K H ([c].zip (vs.map some) ++ ps)) : ∃ v F, vs = [v] ∧ CR K H c (some v) F := by
  match vs, l, h with
  | [v], l, h =>
    obtain ⟨v', F, e, r⟩ := hp_at (i := 0) l h rfl
    cases e
    exact ⟨v, F, rfl, r⟩
theorem hp_2 {c c2 : CD} {vs : List V} {ps : List (CD × Option V)} (l : [c, c2].length = vs.length) (h : HP K H ([c, c2].zip (vs.map some) ++ ps)) : ∃ v w F G, vs = [v, w] ∧ CR K H c (some v) F ∧ CR K H c2 (some w) G := by
  match vs, l, h with
  | [v, w], l, h =>
    obtain ⟨v', F, e, r⟩ := hp_at (i := 0) l h rfl
    obtain ⟨w', G, e2, r2⟩ := hp_at (i := 1) l h rfl
    cases e
    cases e2
    exact ⟨v, w, F, G, rfl, r, r2⟩
/-- a reading operation -/
theorem pr_r {r : List V → Hp → VK → Prop} {g : List CD → Option Da} (h : ∀ (vs : List V) (cs : List CD) (d : Da) (H : Hp) (ps : List (CD × Option V)) (Q : VK), g cs = some d → cs.length = vs.length → HP K H (cs.zip (vs.map some) ++ ps) →
    (∀ v H', (∀ a u, H a = some u → H' a = some u) → Dat K H' v d → Q v H') → r vs H Q) : PR K r (mR g) := by
  intro vs cs c cs' H ps Q e l hp k
  unfold mR at e
  cases e1 : g cs with
  | none => rw [e1] at e; cases e
  | some d =>
    rw [e1] at e
    cases e
    exact h vs cs d H ps Q e1 l hp fun v H' ke rd => k v H' (hp.new (o := some v) (c := .dat d) (F2 := []) ke ⟨rfl, v, rfl, rd⟩ .nil (by simp)) l
theorem CR.int {v : V} {F : List Addr} {i : Int} (r : CR K H (.dat (.int i)) (some v) F) : v = .int i := by
  obtain ⟨_, v', q, r'⟩ := r
  cases q
  cases r'
  rfl
theorem CR.str {v : V} {F : List Addr} {i : Str} (r : CR K H (.dat (.str i)) (some v) F) : v = .str i := by
  obtain ⟨_, v', q, r'⟩ := r
  cases q
  cases r'
  rfl
theorem CR.bl {v : V} {F : List Addr} {i : Bool} (r : CR K H (.dat (.bool i)) (some v) F) : v = .bl i := by
  obtain ⟨_, v', q, r'⟩ := r
  cases q
  cases r'
  rfl
theorem CR.non {v : V} {F : List Addr} (r : CR K H (.dat .none) (some v) F) : v = .non := by
  obtain ⟨_, v', q, r'⟩ := r
  cases q
  cases r'
  rfl
theorem CR.tup {v : V} {F : List Addr} {ds : List Da} (r : CR K H (.dat (.tuple ds)) (some v) F) : ∃ a xs, v = .ref a ∧ SqT K H a xs ∧ DatL K H xs ds := by
  obtain ⟨_, v', q, r'⟩ := r
  cases q
  cases r' with
  | tup h hs => exact ⟨_, _, rfl, h, hs⟩
theorem CR.lstv {v : V} {F : List Addr} {ds : List Da} (r : CR K H (.lst ds) (some v) F) : ∃ a xs, v = .ref a ∧ H a = some (.lst xs) ∧ DatL K H xs ds := by
  obtain ⟨p, xs, q, _, h1, h2⟩ := r
  cases q
  exact ⟨p, xs, rfl, h1, h2⟩
end

/-! ### whole numbers -/
def g2I (f : Int → Int → Option Da) : List CD → Option Da
  | [.dat (.int i), .dat (.int j)] => f i j
  | _ => none
theorem g2I_of {f : Int → Int → Option Da} {cs : List CD} {d : Da} (e : g2I f cs = some d) : ∃ i j, cs = [.dat (.int i), .dat (.int j)] ∧ f i j = some d := by
  match cs, e with
  | [.dat (.int i), .dat (.int j)], e => exact ⟨i, j, rfl, e⟩
/-- an operation on two whole numbers under a condition -/
theorem pr_2I {K : PySem.W.Frag} {C : Int → Int → Prop} {g : Int → Int → V} {f : Int → Int → Option Da} (hf : ∀ i j d, f i j = some d → C i j ∧ ∀ H, Dat K H (g i j) d) : PR K (r2L (rI C g)) (mR (g2I f)) :=
  pr_r fun vs cs d H ps Q e l hp k => by
    obtain ⟨i, j, rfl, e⟩ := g2I_of e
    obtain ⟨v, w, F, G, rfl, r1, r2⟩ := hp_2 l hp
    cases r1.int
    cases r2.int
    obtain ⟨h1, h2⟩ := hf i j d e
    exact ⟨i, j, rfl, rfl, h1, k _ H (fun _ _ x => x) (h2 H)⟩
theorem pr_2I0 {K : PySem.W.Frag} {g : Int → Int → V} {f : Int → Int → Option Da} (hf : ∀ i j d, f i j = some d → ∀ H, Dat K H (g i j) d) : PR K (r2L (rI0 g)) (mR (g2I f)) :=
  pr_r fun vs cs d H ps Q e l hp k => by
    obtain ⟨i, j, rfl, e⟩ := g2I_of e
    obtain ⟨v, w, F, G, rfl, r1, r2⟩ := hp_2 l hp
    cases r1.int
    cases r2.int
    exact ⟨i, j, rfl, rfl, k _ H (fun _ _ x => x) (hf i j d e H)⟩
def fSub : MF := mR (g2I fun i j => some (.int (i - j)))
def fMul : MF := mR (g2I fun i j => if i.natAbs.log2 + j.natAbs.log2 < 1000000 then some (.int (i * j)) else none)
def fDiv : MF := mR (g2I fun i j => if 0 < j ∧ j.natAbs.log2 < 9000 then some (.int (i / j)) else none)
def fMod : MF := mR (g2I fun i j => if 0 < j then some (.int (i % j)) else none)
def fPow : MF := mR (g2I fun i j => if 0 ≤ j ∧ j ≤ 1000000 ∧ i.natAbs < 2 ^ 64 then some (.int (i ^ j.toNat)) else none)
def fLt : MF := mR (g2I fun i j => some (.bool (decide (i < j))))
def fLe : MF := mR (g2I fun i j => some (.bool (decide (i ≤ j))))
def fGt : MF := mR (g2I fun i j => some (.bool (decide (j < i))))
def fGe : MF := mR (g2I fun i j => some (.bool (decide (j ≤ i))))
theorem ite_none {α : Type} {C : Prop} [Decidable C] {x d : α} (e : (if C then some x else none) = some d) : C ∧ d = x := by
  by_cases h : C
  · rw [if_pos h] at e; cases e; exact ⟨h, rfl⟩
  · rw [if_neg h] at e; cases e
section
variable {ι : Type} {E : Ev ι} {e e2 : Expr} {mp mp2 : MP} {pos : Pos}
theorem je_sub (h1 : JP E e mp) (h2 : JP E e2 mp2) : JE E (.BinOp e .Sub e2 pos) (mApp fSub (mlC mp (mlC mp2 mlN))) :=
  je_bin (fun _ => op_sub) (pr_2I0 fun i j d q H => by cases q; exact .int _) h1 h2
theorem je_mul (h1 : JP E e mp) (h2 : JP E e2 mp2) : JE E (.BinOp e .Mult e2 pos) (mApp fMul (mlC mp (mlC mp2 mlN))) :=
  je_bin (fun _ => op_mulW) (pr_2I fun i j d q => by obtain ⟨a, rfl⟩ := ite_none q; exact ⟨a, fun _ => .int _⟩) h1 h2
theorem je_div (h1 : JP E e mp) (h2 : JP E e2 mp2) : JE E (.BinOp e .FloorDiv e2 pos) (mApp fDiv (mlC mp (mlC mp2 mlN))) :=
  je_bin (fun _ => op_fdivW) (pr_2I fun i j d q => by obtain ⟨a, rfl⟩ := ite_none q; exact ⟨a, fun _ => .int _⟩) h1 h2
theorem je_mod (h1 : JP E e mp) (h2 : JP E e2 mp2) : JE E (.BinOp e .Mod e2 pos) (mApp fMod (mlC mp (mlC mp2 mlN))) :=
  je_bin (fun _ => op_mod) (pr_2I fun i j d q => by obtain ⟨a, rfl⟩ := ite_none q; exact ⟨a, fun _ => .int _⟩) h1 h2
theorem je_pow (h1 : JP E e mp) (h2 : JP E e2 mp2) : JE E (.BinOp e .Pow e2 pos) (mApp fPow (mlC mp (mlC mp2 mlN))) :=
  je_bin (fun _ => op_pow) (pr_2I fun i j d q => by obtain ⟨a, rfl⟩ := ite_none q; exact ⟨a, fun _ => .int _⟩) h1 h2
theorem pr_lt {K : PySem.W.Frag} : PR K (r2L (rI0 fun i j => .bl (decide (i < j)))) fLt := pr_2I0 fun i j d q H => by cases q; exact .bl _
theorem pr_le {K : PySem.W.Frag} : PR K (r2L (rI0 fun i j => .bl (decide (i ≤ j)))) fLe := pr_2I0 fun i j d q H => by cases q; exact .bl _
theorem pr_gt {K : PySem.W.Frag} : PR K (r2L (rI0 fun i j => .bl (decide (j < i)))) fGt := pr_2I0 fun i j d q H => by cases q; exact .bl _
theorem pr_ge {K : PySem.W.Frag} : PR K (r2L (rI0 fun i j => .bl (decide (j ≤ i)))) fGe := pr_2I0 fun i j d q H => by cases q; exact .bl _
theorem je_lt (h1 : JP E e mp) (h2 : JP E e2 mp2) : JE E (.Compare e [.Lt] [e2] pos) (mApp fLt (mlC mp (mlC mp2 mlN))) := je_cmp (fun _ => op_lt) pr_lt h1 h2
theorem je_le (h1 : JP E e mp) (h2 : JP E e2 mp2) : JE E (.Compare e [.LtE] [e2] pos) (mApp fLe (mlC mp (mlC mp2 mlN))) := je_cmp (fun _ => op_le) pr_le h1 h2
theorem je_gt (h1 : JP E e mp) (h2 : JP E e2 mp2) : JE E (.Compare e [.Gt] [e2] pos) (mApp fGt (mlC mp (mlC mp2 mlN))) := je_cmp (fun _ => op_gt) pr_gt h1 h2
theorem je_ge (h1 : JP E e mp) (h2 : JP E e2 mp2) : JE E (.Compare e [.GtE] [e2] pos) (mApp fGe (mlC mp (mlC mp2 mlN))) := je_cmp (fun _ => op_ge) pr_ge h1 h2
theorem jt_lt (h1 : JP E e mp) (h2 : JP E e2 mp2) : JT E (.Compare e [.Lt] [e2] pos) (mTst (mApp fLt (mlC mp (mlC mp2 mlN)))) := jt_cmp (fun _ => op_lt) pr_lt h1 h2
theorem jt_le (h1 : JP E e mp) (h2 : JP E e2 mp2) : JT E (.Compare e [.LtE] [e2] pos) (mTst (mApp fLe (mlC mp (mlC mp2 mlN)))) := jt_cmp (fun _ => op_le) pr_le h1 h2
theorem jt_gt (h1 : JP E e mp) (h2 : JP E e2 mp2) : JT E (.Compare e [.Gt] [e2] pos) (mTst (mApp fGt (mlC mp (mlC mp2 mlN)))) := jt_cmp (fun _ => op_gt) pr_gt h1 h2
theorem jt_ge (h1 : JP E e mp) (h2 : JP E e2 mp2) : JT E (.Compare e [.GtE] [e2] pos) (mTst (mApp fGe (mlC mp (mlC mp2 mlN)))) := jt_cmp (fun _ => op_ge) pr_ge h1 h2
end

/-! ### a + b: whole numbers, tuples, texts -/
def gAdd : List CD → Option Da
  | [.dat (.int i), .dat (.int j)] => some (.int (i + j))
  | [.dat (.tuple xs), .dat (.tuple ys)] => if xs.length + ys.length ≤ sizeLine then some (.tuple (xs ++ ys)) else none
  | [.dat (.str x), .dat (.str y)] => if x.length + y.length ≤ sizeLine then some (.str (x ++ y)) else none
  | _ => none
def fAdd : MF := mR gAdd
abbrev rStrAdd : R2 := fun x y H Q => ∃ i j, x = .str i ∧ y = .str j ∧ i.length + j.length ≤ sizeLine ∧ Q (.str (i ++ j)) H
abbrev rAddX (K : PySem.W.Frag) : R2 := fun x y H Q => rI0 (fun i j => .int (i + j)) x y H Q ∨ (rCatA K x y H Q ∨ rStrAdd x y H Q)
theorem pr_add {K : PySem.W.Frag} : PR K (r2L (rAddX K)) fAdd := pr_r fun vs cs d H ps Q e l hp k => by
  match cs, e with
  | [.dat (.int i), .dat (.int j)], e =>
    cases e
    obtain ⟨v, w, F, G, rfl, r1, r2⟩ := hp_2 l hp
    cases r1.int
    cases r2.int
    exact .inl ⟨i, j, rfl, rfl, k _ H (fun _ _ x => x) (.int _)⟩
  | [.dat (.tuple xs), .dat (.tuple ys)], e =>
    obtain ⟨hz, rfl⟩ := ite_none e
    obtain ⟨v, w, F, G, rfl, r1, r2⟩ := hp_2 l hp
    obtain ⟨a, us, rfl, h1, d1⟩ := r1.tup
    obtain ⟨b, ws, rfl, h2, d2⟩ := r2.tup
    refine .inr (.inl ⟨a, b, us, ws, rfl, rfl, h1, h2, by rw [d1.length, d2.length]; exact hz, fun z => ?_, fun _ z => ?_, fun _ _ p hp => ?_⟩)
    · subst z
      cases d1
      exact k _ H (fun _ _ x => x) (.tup h2 d2)
    · subst z
      cases d2
      rw [List.append_nil] at *
      exact k _ H (fun _ _ x => x) (.tup h1 d1)
    · exact k _ _ (upd_new hp) (.tup (.inl (.inl upd_same)) ((d1.append d2).mono (tx_new hp)))
  | [.dat (.str x), .dat (.str y)], e =>
    obtain ⟨hz, rfl⟩ := ite_none e
    obtain ⟨v, w, F, G, rfl, r1, r2⟩ := hp_2 l hp
    cases r1.str
    cases r2.str
    exact .inr (.inr ⟨x, y, rfl, rfl, hz, k _ H (fun _ _ x => x) (.str _)⟩)
theorem je_add {ι : Type} {E : Ev ι} {e e2 : Expr} {mp mp2 : MP} {pos : Pos} (h1 : JP E e mp) (h2 : JP E e2 mp2) : JE E (.BinOp e .Add e2 pos) (mApp fAdd (mlC mp (mlC mp2 mlN))) :=
  je_bin (fun i => by
    have q := OpRor (op_add (X := E.X i)) (OpRor op_catA (op_add_str (X := E.X i)))
    rw [E.hK] at q
    exact q) pr_add h1 h2
/-- list + list: a new list -/
def fCatL : MF
  | [.lst xs, .lst ys] => if xs.length + ys.length ≤ sizeLine then some (.lst (xs ++ ys), [.lst xs, .lst ys]) else none
  | _ => none
theorem pr_catL {K : PySem.W.Frag} : PR K (r2L rCat) fCatL := by
  intro vs cs c cs' H ps Q e l hp k
  match cs, e with
  | [.lst xs, .lst ys], e =>
    unfold fCatL at e
    dsimp only at e
    by_cases hz : xs.length + ys.length ≤ sizeLine
    · rw [if_pos hz] at e
      cases e
      obtain ⟨v, w, F, G, rfl, r1, r2⟩ := hp_2 l hp
      obtain ⟨a, us, rfl, h1, d1⟩ := r1.lstv
      obtain ⟨b, ws, rfl, h2, d2⟩ := r2.lstv
      exact ⟨a, b, us, ws, rfl, rfl, h1, h2, by rw [d1.length, d2.length]; exact hz, fun p hp' => k _ _ (hp.newL hp' (d1.append d2)) l⟩
    · rw [if_neg hz] at e; cases e
theorem je_catL {ι : Type} {E : Ev ι} {e e2 : Expr} {mp mp2 : MP} {pos : Pos} (h1 : JP E e mp) (h2 : JP E e2 mp2) : JE E (.BinOp e .Add e2 pos) (mApp fCatL (mlC mp (mlC mp2 mlN))) :=
  je_bin (fun _ => op_cat) pr_catL h1 h2

/-! ### ==, !=, is, in -/
def gEq (n : Bool) : List CD → Option Da
  | [a, b] => match pyOf a, pyOf b with
    | some x, some y => if SeqAt.shaped x = true ∧ SeqAt.shaped y = true then some (.bool (if n then !PyData.eqv x y else PyData.eqv x y)) else none
    | _, _ => none
  | _ => none
theorem gEq_of {n : Bool} {cs : List CD} {d : Da} (e : gEq n cs = some d) : ∃ a b x y, cs = [a, b] ∧ pyOf a = some x ∧ pyOf b = some y ∧ SeqAt.shaped x = true ∧ SeqAt.shaped y = true ∧ d = .bool (if n then !PyData.eqv x y else PyData.eqv x y) := by
  match cs, e with
  | [a, b], e =>
    unfold gEq at e
    dsimp only at e
    cases e1 : pyOf a with
    | none => rw [e1] at e; cases e
    | some x =>
      cases e2 : pyOf b with
      | none => rw [e1, e2] at e; cases e
      | some y =>
        rw [e1, e2] at e
        obtain ⟨⟨h1, h2⟩, rfl⟩ := ite_none e
        exact ⟨a, b, x, y, rfl, e1, e2, h1, h2, rfl⟩
def fEq : MF := mR (gEq false)
def fNe : MF := mR (gEq true)
theorem pr_eq {K : PySem.W.Frag} : PR K (r2L (rEqD K)) fEq := pr_r fun vs cs d H ps Q e l hp k => by
  obtain ⟨a, b, x, y, rfl, e1, e2, h1, h2, rfl⟩ := gEq_of e
  obtain ⟨v, w, F, G, rfl, r1, r2⟩ := hp_2 l hp
  exact ⟨x, y, r1.dp e1, r2.dp e2, h1, h2, k _ H (fun _ _ x => x) (.bl _)⟩
theorem pr_ne {K : PySem.W.Frag} : PR K (r2L (rNeD K)) fNe := pr_r fun vs cs d H ps Q e l hp k => by
  obtain ⟨a, b, x, y, rfl, e1, e2, h1, h2, rfl⟩ := gEq_of e
  obtain ⟨v, w, F, G, rfl, r1, r2⟩ := hp_2 l hp
  exact ⟨x, y, r1.dp e1, r2.dp e2, h1, h2, k _ H (fun _ _ x => x) (.bl _)⟩
def isNon : Da → Bool
  | .none => true
  | _ => false
def gIs (n : Bool) : List CD → Option Da
  | [.dat d, .dat .none] => some (.bool (n != isNon d))
  | [.lst _, .dat .none] => some (.bool n)
  | [.dic _, .dat .none] => some (.bool n)
  | _ => none
def fIs : MF := mR (gIs false)
def fIsN : MF := mR (gIs true)
theorem none_of {K : PySem.W.Frag} {H : Hp} {v : V} {d : Da} (r : Dat K H v d) : decide (v = .non) = isNon d := by
  cases r <;> first | rfl | exact decide_eq_false (fun q => nomatch q)
theorem gIs_of {K : PySem.W.Frag} {H : Hp} {n : Bool} {cs : List CD} {vs : List V} {d : Da} {ps : List (CD × Option V)} (e : gIs n cs = some d) (l : cs.length = vs.length) (hp : HP K H (cs.zip (vs.map some) ++ ps)) : ∃ v, vs = [v, .non] ∧ d = .bool (n != decide (v = .non)) := by
  match cs, e with
  | [.dat d', .dat .none], e =>
    cases e
    obtain ⟨v, w, F, G, rfl, r1, r2⟩ := hp_2 l hp
    cases r2.non
    obtain ⟨_, v', q, r⟩ := r1
    cases q
    exact ⟨v, rfl, by rw [none_of r]⟩
  | [.lst xs, .dat .none], e =>
    cases e
    obtain ⟨v, w, F, G, rfl, r1, r2⟩ := hp_2 l hp
    cases r2.non
    obtain ⟨a, us, rfl, _, _⟩ := r1.lstv
    exact ⟨_, rfl, by rw [decide_eq_false (fun q => nomatch q)]; simp⟩
  | [.dic xs, .dat .none], e =>
    cases e
    obtain ⟨v, w, F, G, rfl, r1, r2⟩ := hp_2 l hp
    cases r2.non
    obtain ⟨a, us, q, _⟩ := r1
    cases q
    exact ⟨_, rfl, by rw [decide_eq_false (fun q => nomatch q)]; simp⟩
theorem pr_is {K : PySem.W.Frag} : PR K (r2L (fun x y H Q => y = .non ∧ Q (.bl (decide (x = .non))) H)) fIs := pr_r fun vs cs d H ps Q e l hp k => by
  obtain ⟨v, rfl, rfl⟩ := gIs_of e l hp
  refine ⟨rfl, k _ H (fun _ _ x => x) ?_⟩
  rw [Bool.false_bne]
  exact .bl _
theorem pr_isN {K : PySem.W.Frag} : PR K (r2L (fun x y H Q => y = .non ∧ Q (.bl (!decide (x = .non))) H)) fIsN := pr_r fun vs cs d H ps Q e l hp k => by
  obtain ⟨v, rfl, rfl⟩ := gIs_of e l hp
  refine ⟨rfl, k _ H (fun _ _ x => x) ?_⟩
  rw [Bool.true_bne]
  exact .bl _
/-- x in a list of data -/
def gIn (n : Bool) : List CD → Option Da
  | [.dat x, .lst ys] => if SeqAt.shaped x = true ∧ SeqAt.shaped (.list ys) = true then some (.bool (n != ys.any fun z => PyData.eqv z x)) else none
  | _ => none
def fIn : MF := mR (gIn false)
def fNotIn : MF := mR (gIn true)
theorem gIn_of {n : Bool} {cs : List CD} {d : Da} (e : gIn n cs = some d) : ∃ x ys, cs = [.dat x, .lst ys] ∧ SeqAt.shaped x = true ∧ SeqAt.shaped (.list ys) = true ∧ d = .bool (n != ys.any fun z => PyData.eqv z x) := by
  match cs, e with
  | [.dat x, .lst ys], e =>
    obtain ⟨⟨h1, h2⟩, rfl⟩ := ite_none e
    exact ⟨x, ys, rfl, h1, h2, rfl⟩
theorem pr_in {K : PySem.W.Frag} : PR K (r2L (rInD K)) fIn := pr_r fun vs cs d H ps Q e l hp k => by
  obtain ⟨x, ys, rfl, h1, h2, rfl⟩ := gIn_of e
  obtain ⟨v, w, F, G, rfl, r1, r2⟩ := hp_2 l hp
  refine ⟨x, ys, r1.dp rfl, r2.dp rfl, h1, h2, k _ H (fun _ _ x => x) ?_⟩
  rw [Bool.false_bne]
  exact .bl _
theorem pr_notIn {K : PySem.W.Frag} : PR K (r2L (rNotInD K)) fNotIn := pr_r fun vs cs d H ps Q e l hp k => by
  obtain ⟨x, ys, rfl, h1, h2, rfl⟩ := gIn_of e
  obtain ⟨v, w, F, G, rfl, r1, r2⟩ := hp_2 l hp
  refine ⟨x, ys, r1.dp rfl, r2.dp rfl, h1, h2, k _ H (fun _ _ x => x) ?_⟩
  rw [Bool.true_bne]
  exact .bl _
theorem roomUnits {k : Nat} {A : Around} (r : Room k A) : A.units + 65 < cLine := by have := r.un; omega
section
variable {ι : Type} {E : Ev ι} {e e2 : Expr} {mp mp2 : MP} {pos : Pos}
theorem o_eq (i : ι) : OpR (E.X i) (compareOp .Eq) (rEqD E.K) := by rw [← E.hK i]; exact op_eqD (E.room i).units
theorem o_ne (i : ι) : OpR (E.X i) (compareOp .NotEq) (rNeD E.K) := by rw [← E.hK i]; exact op_neD (E.room i).units
theorem o_in (i : ι) : OpR (E.X i) (compareOp .In) (rInD E.K) := by rw [← E.hK i]; exact op_inD (roomUnits (E.room i))
theorem o_notIn (i : ι) : OpR (E.X i) (compareOp .NotIn) (rNotInD E.K) := by rw [← E.hK i]; exact op_notInD (roomUnits (E.room i))
theorem je_eq (h1 : JP E e mp) (h2 : JP E e2 mp2) : JE E (.Compare e [.Eq] [e2] pos) (mApp fEq (mlC mp (mlC mp2 mlN))) := je_cmp o_eq pr_eq h1 h2
theorem je_ne (h1 : JP E e mp) (h2 : JP E e2 mp2) : JE E (.Compare e [.NotEq] [e2] pos) (mApp fNe (mlC mp (mlC mp2 mlN))) := je_cmp o_ne pr_ne h1 h2
theorem jt_eq (h1 : JP E e mp) (h2 : JP E e2 mp2) : JT E (.Compare e [.Eq] [e2] pos) (mTst (mApp fEq (mlC mp (mlC mp2 mlN)))) := jt_cmp o_eq pr_eq h1 h2
theorem jt_ne (h1 : JP E e mp) (h2 : JP E e2 mp2) : JT E (.Compare e [.NotEq] [e2] pos) (mTst (mApp fNe (mlC mp (mlC mp2 mlN)))) := jt_cmp o_ne pr_ne h1 h2
theorem je_is (h1 : JP E e mp) (h2 : JP E e2 mp2) : JE E (.Compare e [.Is] [e2] pos) (mApp fIs (mlC mp (mlC mp2 mlN))) := je_cmp (fun _ => op_isN) pr_is h1 h2
theorem je_isN (h1 : JP E e mp) (h2 : JP E e2 mp2) : JE E (.Compare e [.IsNot] [e2] pos) (mApp fIsN (mlC mp (mlC mp2 mlN))) := je_cmp (fun _ => op_notN) pr_isN h1 h2
theorem jt_is (h1 : JP E e mp) (h2 : JP E e2 mp2) : JT E (.Compare e [.Is] [e2] pos) (mTst (mApp fIs (mlC mp (mlC mp2 mlN)))) := jt_cmp (fun _ => op_isN) pr_is h1 h2
theorem jt_isN (h1 : JP E e mp) (h2 : JP E e2 mp2) : JT E (.Compare e [.IsNot] [e2] pos) (mTst (mApp fIsN (mlC mp (mlC mp2 mlN)))) := jt_cmp (fun _ => op_notN) pr_isN h1 h2
theorem je_in (h1 : JP E e mp) (h2 : JP E e2 mp2) (hm : behindInMarks .In e2 = false := by rfl) : JE E (.Compare e [.In] [e2] pos) (mApp fIn (mlC mp (mlC mp2 mlN))) := je_cmp o_in pr_in h1 h2 hm
theorem je_notIn (h1 : JP E e mp) (h2 : JP E e2 mp2) (hm : behindInMarks .NotIn e2 = false := by rfl) : JE E (.Compare e [.NotIn] [e2] pos) (mApp fNotIn (mlC mp (mlC mp2 mlN))) := je_cmp o_notIn pr_notIn h1 h2 hm
theorem jt_in (h1 : JP E e mp) (h2 : JP E e2 mp2) (hm : behindInMarks .In e2 = false := by rfl) : JT E (.Compare e [.In] [e2] pos) (mTst (mApp fIn (mlC mp (mlC mp2 mlN)))) := jt_cmp o_in pr_in h1 h2 hm
theorem jt_notIn (h1 : JP E e mp) (h2 : JP E e2 mp2) (hm : behindInMarks .NotIn e2 = false := by rfl) : JT E (.Compare e [.NotIn] [e2] pos) (mTst (mApp fNotIn (mlC mp (mlC mp2 mlN)))) := jt_cmp o_notIn pr_notIn h1 h2 hm
end

/-! ### subscripts and slices -/
def gIx : List CD → Option Da
  | [.dat (.tuple xs), .dat (.int i)] => atI xs i
  | [.lst xs, .dat (.int i)] => atI xs i
  | _ => none
def fIx : MF := mR gIx
theorem DatL.atI {K : PySem.W.Frag} {H : Hp} {vs : List V} {ds : List Da} {i : Int} {d : Da} (h : DatL K H vs ds) (e : L2.atI ds i = some d) : ∃ v, L2.atI vs i = some v ∧ Dat K H v d := by
  unfold L2.atI at *
  rw [h.length]
  cases q : ixN ds.length i with
  | none => rw [q] at e; cases e
  | some j =>
    rw [q] at e
    exact h.get e
theorem pr_ix {K : PySem.W.Frag} : PR K (r2L (rIx K)) fIx := pr_r fun vs cs d H ps Q e l hp k => by
  match cs, e with
  | [.dat (.tuple xs), .dat (.int i)], e =>
    obtain ⟨v, w, F, G, rfl, r1, r2⟩ := hp_2 l hp
    cases r2.int
    obtain ⟨a, us, rfl, h1, d1⟩ := r1.tup
    obtain ⟨y, e2, r⟩ := d1.atI e
    exact .inr (.inl ⟨a, us, i, y, rfl, rfl, h1, e2, k _ H (fun _ _ x => x) r⟩)
  | [.lst xs, .dat (.int i)], e =>
    obtain ⟨v, w, F, G, rfl, r1, r2⟩ := hp_2 l hp
    cases r2.int
    obtain ⟨a, us, rfl, h1, d1⟩ := r1.lstv
    obtain ⟨y, e2, r⟩ := d1.atI e
    exact .inl ⟨a, us, i, y, rfl, rfl, .inl (.inl h1), e2, k _ H (fun _ _ x => x) r⟩
theorem je_ix {ι : Type} {E : Ev ι} {e e2 : Expr} {mp mp2 : MP} {pos : Pos} (h1 : JP E e mp) (h2 : JP E e2 mp2) (hs : PlainIx e2 := by exact fun _ _ => rfl) : JE E (.Subscript e e2 pos) (mApp fIx (mlC mp (mlC mp2 mlN))) := by
  obtain ⟨ta, a1, a2⟩ := h1
  obtain ⟨tb, b1, b2⟩ := h2
  exact ⟨tOp (rIx E.K) ta tb, fun i => by
    have q := pe_ix (pos := pos) (ix_seq (X := E.X i)) (a1 i) (b1 i) hs
    rw [E.hK] at q
    exact q, app_ok (sa_cons a2 (sa_cons b2 sa_nil)) pr_ix⟩

/-- an optional bound of a slice -/
abbrev MO := List CD → Option (Option Int × List CD)
def SO (K : PySem.W.Frag) (to : TO) (m : MO) : Prop := ∀ (Δ : List (CD × Option V)) (Γ : List CD) (σ : St) (H : Hp) (Q : Option Int → Hp → Prop) (o : Option Int) (Γ' : List CD),
  m Γ = some (o, Γ') → Hs K H Δ Γ σ → (∀ H', Hs K H' Δ Γ' σ → Q o H') → to σ H Q
section
variable {ι : Type}
def JO (E : Ev ι) (e : Option Expr) (m : MO) : Prop := ∃ te, (∀ i, PO (E.X i) e te) ∧ SO E.K te m
def moN : MO := fun Γ => some (none, Γ)
def moS (m : ME) : MO := fun Γ => match m Γ with
  | some (.dat (.int i), Γ') => some (some i, Γ')
  | _ => none
theorem moS_of {m : ME} {Γ Γ' : List CD} {o : Option Int} (e : moS m Γ = some (o, Γ')) : ∃ i, o = some i ∧ m Γ = some (.dat (.int i), Γ') := by
  unfold moS at e
  match h : m Γ, e with
  | some (.dat (.int i), G), e => cases e; exact ⟨i, rfl, rfl⟩
variable {E : Ev ι} {e : Expr} {m : ME} {lo hi : Option Expr} {ml mh : MO} {pos p2 : Pos} {mp : MP}
theorem jo_n : JO E none moN := ⟨tNoPart, fun _ => po_none, fun Δ Γ σ H Q o Γ' e h k => by cases e; exact k H h⟩
theorem jo_s (h : JE E e m) : JO E (some e) (moS m) := by
  obtain ⟨te, h1, h2⟩ := h
  refine ⟨tPart te, fun i => po_some (h1 i), fun Δ Γ σ H Q o Γ' q hs k => ?_⟩
  obtain ⟨i, rfl, e1⟩ := moS_of q
  refine h2 Δ Γ σ H _ _ _ e1 hs fun v H' h' => ?_
  obtain ⟨v', e2, r⟩ := h'.2.dat
  cases e2
  cases r
  exact ⟨i, rfl, k H' h'.dropTop⟩
def cutD (xs : List Da) (lo hi : Option Int) : List Da := (xs.drop (HT.sIx xs.length 0 lo)).take (HT.sIx xs.length xs.length hi - HT.sIx xs.length 0 lo)
theorem DatL.cut {K : PySem.W.Frag} {H : Hp} {vs : List V} {ds : List Da} (h : DatL K H vs ds) (lo hi : Option Int) : DatL K H (cutV vs lo hi) (cutD ds lo hi) := by
  unfold cutV cutD
  rw [h.length]
  exact (h.drop _).take _
/-- a slice: of a tuple a tuple, of a list (or of the script) a new list -/
def sliceC (c : CD) (lo hi : Option Int) : Option CD := match c with
  | .dat (.tuple xs) => some (.dat (.tuple (cutD xs lo hi)))
  | .lst xs => some (.lst (cutD xs lo hi))
  | .scr ns => some (.lst (cutD (ns.map .int) lo hi))
  | _ => none
def mSl (mp : MP) (ml mh : MO) : ME := fun Γ => match mp Γ with
  | some (op, Γ1) => (match ml Γ1 with
    | some (lo, Γ2) => (match mh Γ2 with
      | some (hi, Γ3) => (match takeO [op] Γ3 with
        | some ([c], Γ4) => (match sliceC c lo hi with
          | some r => some (r, giveO [op] [c] Γ4)
          | none => none)
        | _ => none)
      | none => none)
    | none => none)
  | none => none
abbrev rSlX2 (K : PySem.W.Frag) : V → Option Int → Option Int → Hp → VK → Prop := fun x lo hi H Q => rSlA K x lo hi H Q ∨ rSlL K x lo hi H Q
theorem SlRor {X : Cx} {r r' : V → Option Int → Option Int → Hp → VK → Prop} (h : SlR X r) (h' : SlR X r') : SlR X (fun x lo hi H Q => r x lo hi H Q ∨ r' x lo hi H Q) := by
  intro pins s σ H x v vl vu lo hi sl Q I rx hs pl pu q
  rcases q with q | q
  · exact h pins s σ H x v vl vu lo hi sl Q I rx hs pl pu q
  · exact h' pins s σ H x v vl vu lo hi sl Q I rx hs pl pu q
theorem sIx_whole {xs : List Da} {lo hi : Option Int} (h : HT.sIx xs.length 0 lo = 0 ∧ HT.sIx xs.length xs.length hi = xs.length) : cutD xs lo hi = xs := by
  unfold cutD
  rw [h.1, h.2]
  simp
theorem sl_ok {K : PySem.W.Frag} {H : Hp} {c r : CD} {v : V} {lo hi : Option Int} {ps : List (CD × Option V)} {Q : VK} (e : sliceC c lo hi = some r) (hp : HP K H ((c, some v) :: ps)) (k : ∀ v' H', HP K H' ((r, some v') :: (c, some v) :: ps) → Q v' H') : rSlX2 K v lo hi H Q := by
  match c, e with
  | .dat (.tuple xs), e =>
    cases e
    obtain ⟨F, rc, _⟩ := hp.top
    obtain ⟨a, us, rfl, h1, d1⟩ := rc.tup
    refine .inl ⟨a, us, rfl, h1, fun w => k _ H ?_, fun _ p hp' => k _ _ (hp.newT hp' (d1.cut lo hi))⟩
    rw [d1.length] at w
    rw [sIx_whole w]
    exact hp.push ⟨rfl, _, rfl, .tup h1 d1⟩
  | .lst xs, e =>
    cases e
    obtain ⟨F, rc, _⟩ := hp.top
    obtain ⟨a, us, rfl, h1, d1⟩ := rc.lstv
    exact .inr ⟨a, us, rfl, .inl (.inl h1), fun p hp' => k _ _ (hp.newL hp' (d1.cut lo hi))⟩
  | .scr ns, e =>
    cases e
    obtain ⟨F, ⟨_, a, q, h1⟩, _⟩ := hp.top
    cases q
    exact .inr ⟨a, _, rfl, h1.sql, fun p hp' => k _ _ (hp.newL hp' ((DatL.ofInts ns).cut lo hi))⟩
theorem je_sl (h : JP E e mp) (hl : JO E lo ml) (hh : JO E hi mh) : JE E (.Subscript e (.Slice lo hi none p2) pos) (mSl mp ml mh) := by
  obtain ⟨te, a1, a2⟩ := h
  obtain ⟨tl, b1, b2⟩ := hl
  obtain ⟨th, c1, c2⟩ := hh
  refine ⟨tSl (rSlX2 E.K) te tl th, fun i => ?_, ?_⟩
  · have q := pe_slice (pos := pos) (p2 := p2) (SlRor (sl_tupA (X := E.X i)) sl_list) (a1 i) (b1 i) (c1 i)
    rw [E.hK] at q
    exact q
  · intro Δ Γ σ H Q c Γ' q hs k
    unfold mSl at q
    cases e1 : mp Γ with
    | none => rw [e1] at q; cases q
    | some p1 =>
      obtain ⟨op, Γ1⟩ := p1
      rw [e1] at q
      simp only at q
      cases e2 : ml Γ1 with
      | none => rw [e2] at q; cases q
      | some p2 =>
        obtain ⟨lo', Γ2⟩ := p2
        rw [e2] at q
        simp only at q
        cases e3 : mh Γ2 with
        | none => rw [e3] at q; cases q
        | some p3 =>
          obtain ⟨hi', Γ3⟩ := p3
          rw [e3] at q
          simp only at q
          cases e4 : takeO [op] Γ3 with
          | none => rw [e4] at q; cases q
          | some p4 =>
            obtain ⟨cs, Γ4⟩ := p4
            rw [e4] at q
            match cs, e4, q with
            | [c4], e4, q =>
              simp only at q
              cases e5 : sliceC c4 lo' hi' with
              | none => rw [e5] at q; cases q
              | some r =>
                rw [e5] at q
                cases q
                refine a2 Δ Γ σ H _ op Γ1 e1 hs fun v H1 h1 s1 => ?_
                refine b2 _ Γ1 σ H1 _ lo' Γ2 e2 h1 fun H2 h2 => ?_
                refine c2 _ Γ2 σ H2 _ hi' Γ3 e3 h2 fun H3 h3 => ?_
                obtain ⟨h4, l4⟩ := takeO_ok s1 h3 e4
                refine sl_ok (ps := Δ ++ Γ4.zip σ) e5 h4.2 fun v' H' h5 => k v' H' ?_
                exact giveO_ok (ops := [op]) (vs := [v]) (cs := [c4]) s1 rfl ⟨h4.1, h5.swap⟩
            | [], _, q => cases q
            | _ :: _ :: _, _, q => cases q
end

/-! ### displays -/
def datsOf : List CD → Option (List Da)
  | [] => some []
  | .dat d :: r => match datsOf r with
    | some ds => some (d :: ds)
    | none => none
  | _ :: _ => none
theorem datsOf_ok {K : PySem.W.Frag} {H : Hp} : ∀ {cs : List CD} {vs : List V} {ds : List Da} {ps : List (CD × Option V)}, datsOf cs = some ds → cs.length = vs.length → HP K H (cs.zip (vs.map some) ++ ps) → DatL K H vs ds
  | [], [], _, _, e, _, _ => by cases e; exact .nil
  | .dat d :: r, v :: vs, ds, ps, e, l, h => by
    unfold datsOf at e
    cases e1 : datsOf r with
    | none => rw [e1] at e; cases e
    | some ds' =>
      rw [e1] at e
      cases e
      have h' : HP K H ((.dat d, some v) :: (r.zip (vs.map some) ++ ps)) := h
      obtain ⟨v', q, rd⟩ := h'.dat
      cases q
      exact .cons rd (datsOf_ok e1 (by simpa using l) h'.drop)
  | .any :: _, _ :: _, _, _, e, _, _ => by cases e
  | .lst _ :: _, _ :: _, _, _, e, _, _ => by cases e
  | .bag _ _ _ :: _, _ :: _, _, _, e, _, _ => by cases e
  | .dic _ :: _, _ :: _, _, _, e, _, _ => by cases e
  | .scr _ :: _, _ :: _, _, _, e, _, _ => by cases e
  | .shp _ :: _, _ :: _, _, _, e, _, _ => by cases e
  | [], _ :: _, _, _, _, l, _ => by cases l
  | _ :: _, [], _, _, _, l, _ => by cases l
def fTup : MF := fun cs => match datsOf cs with
  | some ds => if ds.length ≤ sizeLine then some (.dat (.tuple ds), cs) else none
  | none => none
def fLst : MF := fun cs => match datsOf cs with
  | some ds => if ds.length ≤ sizeLine then some (.lst ds, cs) else none
  | none => none
def rTupD : List V → Hp → VK → Prop := fun xs H1 Q => xs.length ≤ sizeLine ∧ ∀ p, H1 p = none → Q (.ref p) (upd H1 p (.tup xs))
def rLstD : List V → Hp → VK → Prop := fun xs H1 Q => xs.length ≤ sizeLine ∧ ∀ p, H1 p = none → Q (.ref p) (upd H1 p (.lst xs))
theorem pr_tup {K : PySem.W.Frag} : PR K rTupD fTup := by
  intro vs cs c cs' H ps Q e l hp k
  unfold fTup at e
  cases e1 : datsOf cs with
  | none => rw [e1] at e; cases e
  | some ds =>
    rw [e1] at e
    simp only at e
    by_cases hz : ds.length ≤ sizeLine
    · rw [if_pos hz] at e
      cases e
      have d := datsOf_ok e1 l hp
      exact ⟨by rw [d.length]; exact hz, fun p hp' => k _ _ (hp.newT hp' d) l⟩
    · rw [if_neg hz] at e; cases e
theorem pr_lst {K : PySem.W.Frag} : PR K rLstD fLst := by
  intro vs cs c cs' H ps Q e l hp k
  unfold fLst at e
  cases e1 : datsOf cs with
  | none => rw [e1] at e; cases e
  | some ds =>
    rw [e1] at e
    simp only at e
    by_cases hz : ds.length ≤ sizeLine
    · rw [if_pos hz] at e
      cases e
      have d := datsOf_ok e1 l hp
      exact ⟨by rw [d.length]; exact hz, fun p hp' => k _ _ (hp.newL hp' d) l⟩
    · rw [if_neg hz] at e; cases e
section
variable {ι : Type} {E : Ev ι} {es : List Expr} {ml : ML} {pos : Pos} {x1 : Nat}
theorem je_tup {x1} (h : JA E es ml) : JE E (.Tuple es x1 pos) (mApp fTup ml) := let ⟨ta, a1, a2⟩ := h; ⟨tTup ta, fun i => pe_tup (a1 i), app_ok a2 pr_tup⟩
theorem je_lst (h : JA E es ml) : JE E (.List es pos) (mApp fLst ml) := let ⟨ta, a1, a2⟩ := h; ⟨tLst ta, fun i => pe_lst (a1 i), app_ok a2 pr_lst⟩
end

/-! ### calls of what is built in -/
section
variable {ι : Type} {E : Ev ι} {e e2 : Expr} {es : List Expr} {ml : ML} {pos p : Pos} {x : Str} {id T : String} {r : List V → Hp → VK → Prop} {f : MF} {mp : MP}
theorem je_blt (hc : ∀ i, CallR (E.X i) (.builtin id) r) (hr : PR E.K r f) (hm : E.mg x = none) (hv : bootBuiltins x = some (.builtin id)) (ha : JA E (e :: es) ml) (hg : ∀ j, Gl (E.X j) x := by exact fun _ => rfl) (hn : x ≠ "__name__" := by decide) (hdb : (x == ("__debug__" : Str)) = false := by decide)
    (he : ∀ env, starEach (e :: es) env = (false, eval e env) :: starEach es env := by intro _; rfl) (hpl : ∀ env, (backTo pos (starEach es env)).any (·.1) = false := by intro _; rfl) : JE E (.Call (.Name x p) (e :: es) [] pos) (mApp f ml) := by
  obtain ⟨ta, a1, a2⟩ := ha
  exact ⟨tCB r ta, fun i => pe_callB (hc i) (hg i) (by rw [E.hm]; exact hm) hv (a1 i) hn hdb (he _) (hpl _), app_ok a2 hr⟩
theorem je_bty (hc : ∀ i, CallR (E.X i) (.type T) r) (hr : PR E.K r f) (hm : E.mg x = none) (hv : bootBuiltins x = some (.type T)) (ha : JA E (e :: es) ml) (hg : ∀ j, Gl (E.X j) x := by exact fun _ => rfl) (hn : x ≠ "__name__" := by decide) (hdb : (x == ("__debug__" : Str)) = false := by decide)
    (he : ∀ env, starEach (e :: es) env = (false, eval e env) :: starEach es env := by intro _; rfl) (hpl : ∀ env, (backTo pos (starEach es env)).any (·.1) = false := by intro _; rfl) : JE E (.Call (.Name x p) (e :: es) [] pos) (mApp f ml) := by
  obtain ⟨ta, a1, a2⟩ := ha
  exact ⟨tCB r ta, fun i => pe_callTy (hc i) (hg i) (by rw [E.hm]; exact hm) hv (a1 i) hn hdb (he _) (hpl _), app_ok a2 hr⟩
end
def gLen : List CD → Option Da
  | [.dat (.tuple xs)] => some (.int xs.length)
  | [.lst xs] => some (.int xs.length)
  | _ => none
def fLen : MF := mR gLen
abbrev rLenQ (K : PySem.W.Frag) : List V → Hp → VK → Prop := fun xs H Q => ∃ p ys, xs = [.ref p] ∧ (SqL K H p ys ∨ SqT K H p ys) ∧ Q (.int ys.length) H
theorem pr_len {K : PySem.W.Frag} : PR K (rLenQ K) fLen := pr_r fun vs cs d H ps Q e l hp k => by
  match cs, e with
  | [.dat (.tuple xs)], e =>
    cases e
    obtain ⟨v, F, rfl, r⟩ := hp_1 l hp
    obtain ⟨a, us, rfl, h1, d1⟩ := r.tup
    refine ⟨a, us, rfl, .inr h1, k _ H (fun _ _ x => x) ?_⟩
    rw [d1.length]
    exact .int _
  | [.lst xs], e =>
    cases e
    obtain ⟨v, F, rfl, r⟩ := hp_1 l hp
    obtain ⟨a, us, rfl, h1, d1⟩ := r.lstv
    refine ⟨a, us, rfl, .inl (.inl (.inl h1)), k _ H (fun _ _ x => x) ?_⟩
    rw [d1.length]
    exact .int _
def gInt : List CD → Option Da
  | [.dat (.int i)] => some (.int i)
  | [.dat (.bool b)] => some (.int (if b then 1 else 0))
  | _ => none
def fInt : MF := mR gInt
theorem pr_int {K : PySem.W.Frag} : PR K (fun xs H Q => (∃ i, xs = [.int i] ∧ Q (.int i) H) ∨ ∃ k, xs = [.bl k] ∧ Q (.int (if k then 1 else 0)) H) fInt := pr_r fun vs cs d H ps Q e l hp k => by
  match cs, e with
  | [.dat (.int i)], e =>
    cases e
    obtain ⟨v, F, rfl, r⟩ := hp_1 l hp
    cases r.int
    exact .inl ⟨i, rfl, k _ H (fun _ _ x => x) (.int _)⟩
  | [.dat (.bool i)], e =>
    cases e
    obtain ⟨v, F, rfl, r⟩ := hp_1 l hp
    cases r.bl
    exact .inr ⟨i, rfl, k _ H (fun _ _ x => x) (.int _)⟩
def gAbs : List CD → Option Da
  | [.dat (.int i)] => some (.int (if i < 0 then -i else i))
  | _ => none
def fAbs : MF := mR gAbs
theorem pr_abs {K : PySem.W.Frag} : PR K (fun xs H Q => ∃ i, xs = [.int i] ∧ Q (.int (if i < 0 then -i else i)) H) fAbs := pr_r fun vs cs d H ps Q e l hp k => by
  match cs, e with
  | [.dat (.int i)], e =>
    cases e
    obtain ⟨v, F, rfl, r⟩ := hp_1 l hp
    cases r.int
    exact ⟨i, rfl, k _ H (fun _ _ x => x) (.int _)⟩
def fMax2 : MF := mR (g2I fun i j => some (.int (if j > i then j else i)))
def fMin2 : MF := mR (g2I fun i j => some (.int (if j < i then j else i)))
theorem pr_max2 {K : PySem.W.Frag} : PR K (fun xs H Q => ∃ i j, xs = [.int i, .int j] ∧ Q (.int (if j > i then j else i)) H) fMax2 := pr_r fun vs cs d H ps Q e l hp k => by
  obtain ⟨i, j, rfl, e⟩ := g2I_of e
  cases e
  obtain ⟨v, w, F, G, rfl, r1, r2⟩ := hp_2 l hp
  cases r1.int
  cases r2.int
  exact ⟨i, j, rfl, k _ H (fun _ _ x => x) (.int _)⟩
theorem pr_min2 {K : PySem.W.Frag} : PR K (fun xs H Q => ∃ i j, xs = [.int i, .int j] ∧ Q (.int (if j < i then j else i)) H) fMin2 := pr_r fun vs cs d H ps Q e l hp k => by
  obtain ⟨i, j, rfl, e⟩ := g2I_of e
  cases e
  obtain ⟨v, w, F, G, rfl, r1, r2⟩ := hp_2 l hp
  cases r1.int
  cases r2.int
  exact ⟨i, j, rfl, k _ H (fun _ _ x => x) (.int _)⟩
/-- list(x), tuple(x) -/
def fList : MF
  | [.dat (.tuple xs)] => some (.lst xs, [.dat (.tuple xs)])
  | [.lst xs] => some (.lst xs, [.lst xs])
  | _ => none
def gTuple : List CD → Option Da
  | [.dat (.tuple xs)] => some (.tuple xs)
  | [.lst xs] => some (.tuple xs)
  | _ => none
def fTuple : MF := mR gTuple
abbrev rListQ (K : PySem.W.Frag) : List V → Hp → VK → Prop := fun xs H Q => ∃ p ys, xs = [.ref p] ∧ (SqL K H p ys ∨ SqT K H p ys) ∧ ∀ l, H l = none → Q (.ref l) (upd H l (.lst ys))
abbrev rTupleQ (K : PySem.W.Frag) : List V → Hp → VK → Prop := fun xs H Q => ∃ p ys, xs = [.ref p] ∧ ((SqL K H p ys ∧ ∀ l, H l = none → Q (.ref l) (upd H l (.tup ys))) ∨ (SqT K H p ys ∧ Q (.ref p) H))
theorem pr_list {K : PySem.W.Frag} : PR K (rListQ K) fList := by
  intro vs cs c cs' H ps Q e l hp k
  match cs, e with
  | [.dat (.tuple xs)], e =>
    cases e
    obtain ⟨v, F, rfl, r⟩ := hp_1 l hp
    obtain ⟨a, us, rfl, h1, d1⟩ := r.tup
    exact ⟨a, us, rfl, .inr h1, fun p hp' => k _ _ (hp.newL hp' d1) l⟩
  | [.lst xs], e =>
    cases e
    obtain ⟨v, F, rfl, r⟩ := hp_1 l hp
    obtain ⟨a, us, rfl, h1, d1⟩ := r.lstv
    exact ⟨a, us, rfl, .inl (.inl (.inl h1)), fun p hp' => k _ _ (hp.newL hp' d1) l⟩
theorem pr_tuple {K : PySem.W.Frag} : PR K (rTupleQ K) fTuple := pr_r fun vs cs d H ps Q e l hp k => by
  match cs, e with
  | [.dat (.tuple xs)], e =>
    cases e
    obtain ⟨v, F, rfl, r⟩ := hp_1 l hp
    obtain ⟨a, us, rfl, h1, d1⟩ := r.tup
    exact ⟨a, us, rfl, .inr ⟨h1, k _ H (fun _ _ x => x) (.tup h1 d1)⟩⟩
  | [.lst xs], e =>
    cases e
    obtain ⟨v, F, rfl, r⟩ := hp_1 l hp
    obtain ⟨a, us, rfl, h1, d1⟩ := r.lstv
    exact ⟨a, us, rfl, .inl ⟨.inl (.inl h1), fun p hp' => k _ _ (upd_new hp') (.tup (.inl (.inl upd_same)) (d1.mono (tx_new hp')))⟩⟩
/-- sum, all, any of a list -/
def intsOf : List Da → Option (List Int)
  | [] => some []
  | .int i :: r => match intsOf r with
    | some ns => some (i :: ns)
    | none => none
  | _ :: _ => none
theorem intsOf_ok : ∀ {xs : List Da} {ns : List Int}, intsOf xs = some ns → xs = ns.map .int
  | [], _, e => by cases e; rfl
  | .int i :: r, ns, e => by
    unfold intsOf at e
    cases e1 : intsOf r with
    | none => rw [e1] at e; cases e
    | some m => rw [e1] at e; cases e; rw [intsOf_ok e1]; rfl
  | .none :: _, _, e => by cases e
  | .bool _ :: _, _, e => by cases e
  | .str _ :: _, _, e => by cases e
  | .list _ :: _, _, e => by cases e
  | .tuple _ :: _, _, e => by cases e
  | .dict _ :: _, _, e => by cases e
theorem intsOf_map : ∀ (ns : List Int), intsOf (ns.map PyData.int) = some ns
  | [] => rfl
  | n :: ns => by rw [List.map_cons]; unfold intsOf; rw [intsOf_map ns]
def boolsOf : List Da → Option (List Bool)
  | [] => some []
  | .bool i :: r => match boolsOf r with
    | some ns => some (i :: ns)
    | none => none
  | _ :: _ => none
theorem boolsOf_ok {K : PySem.W.Frag} {H : Hp} : ∀ {xs : List Da} {vs : List V} {ns : List Bool}, boolsOf xs = some ns → DatL K H vs xs → vs = ns.map V.bl
  | [], _, _, e, h => by cases e; cases h; rfl
  | .bool i :: r, _, ns, e, h => by
    unfold boolsOf at e
    cases e1 : boolsOf r with
    | none => rw [e1] at e; cases e
    | some m =>
      rw [e1] at e
      cases e
      cases h with
      | cons h1 h2 => cases h1; rw [boolsOf_ok e1 h2]; rfl
  | .none :: _, _, _, e, _ => by cases e
  | .int _ :: _, _, _, e, _ => by cases e
  | .str _ :: _, _, _, e, _ => by cases e
  | .list _ :: _, _, _, e, _ => by cases e
  | .tuple _ :: _, _, _, e, _ => by cases e
  | .dict _ :: _, _, _, e, _ => by cases e
theorem boolsOf_map : ∀ (ns : List Bool), boolsOf (ns.map PyData.bool) = some ns
  | [] => rfl
  | n :: ns => by rw [List.map_cons]; unfold boolsOf; rw [boolsOf_map ns]
def gSum : List CD → Option Da
  | [.lst xs] => match intsOf xs with
    | some ns => some (.int ns.sum)
    | none => none
  | _ => none
def fSum : MF := mR gSum
theorem pr_sum {K : PySem.W.Frag} : PR K (rSum K) fSum := pr_r fun vs cs d H ps Q e l hp k => by
  match cs, e with
  | [.lst xs], e =>
    unfold gSum at e
    dsimp only at e
    cases e1 : intsOf xs with
    | none => rw [e1] at e; cases e
    | some ns =>
      rw [e1] at e
      cases e
      obtain ⟨v, F, rfl, r⟩ := hp_1 l hp
      obtain ⟨a, us, rfl, h1, d1⟩ := r.lstv
      rw [intsOf_ok e1] at d1
      exact ⟨a, ns, rfl, .inl (.inl (by rw [h1, d1.ints])), k _ H (fun _ _ x => x) (.int _)⟩
def gAll (f : List Bool → Bool) : List CD → Option Da
  | [.lst xs] => match boolsOf xs with
    | some ns => some (.bool (f ns))
    | none => none
  | _ => none
theorem gAll_of {f : List Bool → Bool} {cs : List CD} {d : Da} (e : gAll f cs = some d) : ∃ xs ns, cs = [.lst xs] ∧ boolsOf xs = some ns ∧ d = .bool (f ns) := by
  match cs, e with
  | [.lst xs], e =>
    unfold gAll at e
    dsimp only at e
    cases e1 : boolsOf xs with
    | none => rw [e1] at e; cases e
    | some ns => rw [e1] at e; cases e; exact ⟨xs, ns, rfl, e1, rfl⟩
def fAll : MF := mR (gAll fun bs => bs.all id)
def fAny : MF := mR (gAll fun bs => bs.any id)
theorem pr_all {K : PySem.W.Frag} : PR K (rAll K) fAll := pr_r fun vs cs d H ps Q e l hp k => by
  obtain ⟨xs, ns, rfl, e1, rfl⟩ := gAll_of e
  obtain ⟨v, F, rfl, r⟩ := hp_1 l hp
  obtain ⟨a, us, rfl, h1, d1⟩ := r.lstv
  exact ⟨a, ns, rfl, .inl (.inl (by rw [h1, boolsOf_ok e1 d1])), k _ H (fun _ _ x => x) (.bl _)⟩
theorem pr_any {K : PySem.W.Frag} : PR K (rAny K) fAny := pr_r fun vs cs d H ps Q e l hp k => by
  obtain ⟨xs, ns, rfl, e1, rfl⟩ := gAll_of e
  obtain ⟨v, F, rfl, r⟩ := hp_1 l hp
  obtain ⟨a, us, rfl, h1, d1⟩ := r.lstv
  exact ⟨a, ns, rfl, .inl (.inl (by rw [h1, boolsOf_ok e1 d1])), k _ H (fun _ _ x => x) (.bl _)⟩

/-! ### isinstance of a built-in class -/
def tyD : Da → String
  | .none => "NoneType"
  | .bool _ => "bool"
  | .int _ => "int"
  | .str _ => "str"
  | .list _ => "list"
  | .tuple _ => "tuple"
  | .dict _ => "dict"
def tyC : CD → Option String
  | .dat d => some (tyD d)
  | .lst _ => some "list"
  | .dic _ => some "dict"
  | _ => none
def mIsi (T : String) (mp : MP) : ME := mApp (mR fun cs => match cs with
  | [c] => (match tyC c with
    | some t => (match kitB t T with
      | some b => some (.bool b)
      | none => none)
    | none => none)
  | _ => none) (mlC mp mlN)
def rIsi1 (K : PySem.W.Frag) (T : String) : List V → Hp → VK → Prop := fun xs H Q => match xs with
  | [x] => rIsi K [x, .ty T] H Q
  | _ => False
theorem tyx_of {K : PySem.W.Frag} {H : Hp} {v : V} {d : Da} (r : Dat K H v d) : TyX K H v (.type (tyD d)) := by
  cases r with
  | non => exact .base .non
  | bl b => exact .base (.bl b)
  | int i => exact .base (.int i)
  | str x => exact .base (.str x)
  | tup h _ =>
    rcases h with (h | ⟨o, h⟩) | ⟨o, its, n, h1, h2, _⟩
    · exact .base (.tup h)
    · exact .fTuple h
    · exact .kTuple h1 h2
theorem je_isi {ι : Type} {E : Ev ι} {e : Expr} {x : Str} {T : String} {p p2 p3 pos : Pos} {mp : MP} (h : JP E e mp) (hm : E.mg "isinstance" = none) (hm2 : E.mg x = none) (hv2 : bootBuiltins x = some (.type T)) (hg : ∀ j, Gl (E.X j) "isinstance" := by exact fun _ => rfl) (hg2 : ∀ j, Gl (E.X j) x := by exact fun _ => rfl)
    (hv : bootBuiltins "isinstance" = some (.builtin "isinstance") := by decide +kernel) (hn2 : x ≠ "__name__" := by decide) (hd2 : (x == ("__debug__" : Str)) = false := by decide)
    (he : ∀ env, starEach [e, .Name x p2] env = (false, eval e env) :: starEach [.Name x p2] env := by intro _; rfl) (hs2 : ∀ env, starEach [.Name x p2] env = (false, eval (.Name x p2) env) :: starEach [] env := by intro _; rfl)
    (hpl : ∀ env, (backTo pos (starEach [.Name x p2] env)).any (·.1) = false := by intro _; rfl) :
    JE E (.Call (.Name "isinstance" p) [e, .Name x p2] [] pos) (mIsi T mp) := by
  obtain ⟨te, a1, a2⟩ := h
  have key : SE E.K (tCB (rIsi1 E.K T) (tCons te tNil)) (mIsi T mp) := by
    refine app_ok (sa_cons a2 sa_nil) (pr_r fun vs cs d H ps Q e l hp k => ?_)
    match cs, e with
    | [c], e =>
      simp only at e
      cases e1 : tyC c with
      | none => rw [e1] at e; cases e
      | some t =>
        rw [e1] at e
        simp only at e
        cases e2 : kitB t T with
        | none => rw [e2] at e; cases e
        | some b =>
          rw [e2] at e
          cases e
          obtain ⟨v, F, rfl, r⟩ := hp_1 l hp
          refine ⟨v, .ty T, .type t, .type T, b, rfl, .ty T, ?_, kit_ty e2, k _ H (fun _ _ x => x) (.bl _)⟩
          cases c with
          | dat d =>
            cases e1
            obtain ⟨_, v', q, rd⟩ := r
            cases q
            exact tyx_of rd
          | lst xs =>
            cases e1
            obtain ⟨a, us, rfl, h1, _⟩ := r.lstv
            exact .base (.lst h1)
          | dic xs =>
            cases e1
            obtain ⟨a, us, q, _, h1, _⟩ := r
            cases q
            exact .base (.dK h1)
          | any => cases e1
          | bag _ _ _ => cases e1
          | scr _ => cases e1
          | shp _ => cases e1
  refine ⟨_, fun i => ?_, key⟩
  have hb : PE (E.X i) (.Name x p2) (tC (.ty T)) := pe_bltn (hg2 i) (by rw [E.hm]; exact hm2) hv2 rfl hn2 hd2
  have q := pe_callB (pos := pos) (p := p) (call_isi (X := E.X i)) (hg i) (by rw [E.hm]; exact hm) hv (pa_cons (a1 i) (pa_cons hb pa_nil (hs2 _)) (he _)) (by decide) (by decide) (he _) (hpl _)
  rw [E.hK] at q
  exact q
end JJ
/-! J4: statements. -/
namespace JJ
open PySem L2

inductive Out where
  | nx (Γ : List CD)
  | rt (c : CD) (Γ : List CD)
  | bk (Γ : List CD)
  | ct (Γ : List CD)
  | ex (x : Str) (d : Da) (Γ : List CD)
abbrev MS := List CD → Option Out

/-- what an error of the class x keeps its datum as -/
def fldOf (x : Str) : Str := if x = "BadTerm" then "error" else if x = "BadText" then "place" else "limit"
/-- an error of the class that the module calls x, that keeps d -/
def ExcAt (K : PySem.W.Frag) (mg : Str → Option Value) (H : Hp) (x : Str) (d : Da) (cls : Value) (dx : Option Addr) : Prop :=
  ∃ (C dd : Addr) (v : V), mg x = some (.ref C) ∧ cls = .ref C ∧ dx = some dd ∧ H dd = some (.xd [(fldOf x, v)]) ∧ Dat K H v d
/-- a wish about errors -/
abbrev WX := Value → Option Addr → St → Hp → Prop
structure Wi where
  K : PySem.W.Frag
  mg : Str → Option Value
  W : WX

def Keep (W : List Nat) (σ σ' : St) : Prop := σ'.length = σ.length ∧ ∀ j, j ∉ W → σ'[j]? = σ[j]?
theorem Keep.rfl' {W : List Nat} {σ : St} : Keep W σ σ := ⟨rfl, fun _ _ => rfl⟩
theorem Keep.trans {W W' : List Nat} {σ σ1 σ2 : St} (a : Keep W σ σ1) (b : Keep W' σ1 σ2) : Keep (W ++ W') σ σ2 :=
  ⟨b.1.trans a.1, fun j h => (b.2 j fun m => h (List.mem_append_right _ m)).trans (a.2 j fun m => h (List.mem_append_left _ m))⟩
theorem Keep.mono {W W' : List Nat} {σ σ1 : St} (a : Keep W σ σ1) (h : ∀ j ∈ W, j ∈ W') : Keep W' σ σ1 := ⟨a.1, fun j q => a.2 j fun m => q (h j m)⟩
theorem Keep.set {W : List Nat} {σ σ1 : St} {i : Nat} {o : Option V} (a : Keep W σ σ1) : Keep (W ++ [i]) σ (σ1.set i o) :=
  ⟨by rw [List.length_set]; exact a.1, fun j q => by
    rw [List.getElem?_set_ne (fun z => q (by simp [z]))]
    exact a.2 j fun m => q (List.mem_append_left _ m)⟩

def OutOk (w : Wi) (Δ : List (CD × Option V)) (P : St → Prop) (D : Ends) : Out → Prop
  | .nx Γ => ∀ σ H, Hs w.K H Δ Γ σ → P σ → D.nx σ H
  | .rt c Γ => ∀ v σ H, Hs w.K H ((c, some v) :: Δ) Γ σ → P σ → D.rt v H
  | .bk Γ => ∀ σ H, Hs w.K H Δ Γ σ → P σ → D.bk σ H
  | .ct Γ => ∀ σ H, Hs w.K H Δ Γ σ → P σ → D.ct σ H
  | .ex x d Γ => ∀ cls dx σ H, ExcAt w.K w.mg H x d cls dx → Hs w.K H Δ Γ σ → P σ → w.W cls dx σ H
theorem OutOk.mono {w : Wi} {Δ : List (CD × Option V)} {P P' : St → Prop} {D : Ends} {o : Out} (h : OutOk w Δ P D o) (k : ∀ σ, P' σ → P σ) : OutOk w Δ P' D o := by
  cases o with
  | nx Γ => exact fun σ H a b => h σ H a (k σ b)
  | rt c Γ => exact fun v σ H a b => h v σ H a (k σ b)
  | bk Γ => exact fun σ H a b => h σ H a (k σ b)
  | ct Γ => exact fun σ H a b => h σ H a (k σ b)
  | ex x d Γ => exact fun c dx σ H e a b => h c dx σ H e a (k σ b)

def SS (w : Wi) (ts : TS) (m : MS) (W : List Nat) : Prop := ∀ (Δ : List (CD × Option V)) (Γ : List CD) (σ : St) (H : Hp) (D : Ends) (o : Out),
  m Γ = some o → Hs w.K H Δ Γ σ → OutOk w Δ (Keep W σ) D o → ts D σ H

/-- a family of contexts with its wish about errors -/
structure Es (ι : Type) extends Ev ι where
  W : WX
abbrev Es.wi {ι : Type} (E : Es ι) : Wi := ⟨E.K, E.mg, E.W⟩
section
variable {ι : Type}
def JS (E : Es ι) (st : Stmt) (m : MS) (W : List Nat) : Prop := ∃ ts, (∀ i, PS (E.X i) st ts) ∧ SS E.wi ts m W
def JB (E : Es ι) (st : List Stmt) (m : MS) (W : List Nat) : Prop := ∃ ts, (∀ i, PSs (E.X i) st ts) ∧ SS E.wi ts m W
end

def mSkip : MS := fun Γ => some (.nx Γ)
def mSeq (m n : MS) : MS := fun Γ => match m Γ with
  | some (.nx Γ1) => n Γ1
  | o => o
theorem ss_seq {w : Wi} {t u : TS} {m n : MS} {W W' : List Nat} (h : SS w t m W) (h2 : SS w u n W') : SS w (tSeq t u) (mSeq m n) (W ++ W') := by
  intro Δ Γ σ H D o e hs k
  have wk : ∀ σ', Keep W σ σ' → Keep (W ++ W') σ σ' := fun σ' q => q.mono fun j m => List.mem_append_left _ m
  unfold mSeq at e
  show t { D with nx := u D } σ H
  cases e1 : m Γ with
  | none => rw [e1] at e; cases e
  | some o1 =>
    rw [e1] at e
    cases o1 with
    | nx Γ1 =>
      refine h Δ Γ σ H _ (.nx Γ1) e1 hs fun σ1 H1 h1 k1 => ?_
      exact h2 Δ Γ1 σ1 H1 D o e h1 (k.mono fun σ' q => k1.trans q)
    | rt c Γ1 =>
      cases e
      exact h Δ Γ σ H _ (.rt c Γ1) e1 hs fun v σ' H' a b => k v σ' H' a (wk _ b)
    | bk Γ1 =>
      cases e
      exact h Δ Γ σ H _ (.bk Γ1) e1 hs fun σ' H' a b => k σ' H' a (wk _ b)
    | ct Γ1 =>
      cases e
      exact h Δ Γ σ H _ (.ct Γ1) e1 hs fun σ' H' a b => k σ' H' a (wk _ b)
    | ex x d Γ1 =>
      cases e
      exact h Δ Γ σ H _ (.ex x d Γ1) e1 hs fun c dx σ' H' z a b => k c dx σ' H' z a (wk _ b)

section
variable {ι : Type} {E : Es ι} {st : Stmt} {rest a b : List Stmt} {m n : MS} {W W' : List Nat} {e : Expr} {me : ME} {mt : MT} {pos pos' : Pos} {x : Str}
theorem jb_nil : JB E [] mSkip [] := ⟨tNext, fun _ => pss_nil, fun Δ Γ σ H D o e hs k => by cases e; exact k σ H hs .rfl'⟩
theorem jb_one (h : JS E st m W) : JB E [st] m W := let ⟨t, h1, h2⟩ := h; ⟨t, fun i => pss_one (h1 i), h2⟩
theorem jb_cons (h : JS E st m W) (hr : JB E rest n W') : JB E (st :: rest) (mSeq m n) (W ++ W') :=
  let ⟨t, h1, h2⟩ := h; let ⟨u, g1, g2⟩ := hr; ⟨tSeq t u, fun i => pss_cons (h1 i) (g1 i), ss_seq h2 g2⟩
def mStuck : MS := fun _ => none
/-- what is never run -/
theorem js_never : JS E st mStuck [] := ⟨tNever, fun _ => ps_never, fun Δ Γ σ H D o e => by cases e⟩
theorem jb_never : JB E rest mStuck [] := ⟨tNever, fun _ => pss_never, fun Δ Γ σ H D o e => by cases e⟩
theorem js_pass : JS E (.Pass pos) mSkip [] := ⟨tNext, fun _ => ps_pass, fun Δ Γ σ H D o e hs k => by cases e; exact k σ H hs .rfl'⟩
theorem js_break : JS E (.Break pos) (fun Γ => some (.bk Γ)) [] := ⟨tBreak, fun _ => ps_break, fun Δ Γ σ H D o e hs k => by cases e; exact k σ H hs .rfl'⟩
theorem js_cont : JS E (.Continue pos) (fun Γ => some (.ct Γ)) [] := ⟨tCont, fun _ => ps_continue, fun Δ Γ σ H D o e hs k => by cases e; exact k σ H hs .rfl'⟩
def mExpr (m : ME) : MS := fun Γ => match m Γ with
  | some (_, Γ') => some (.nx Γ')
  | none => none
def mRet (m : ME) : MS := fun Γ => match m Γ with
  | some (c, Γ') => some (.rt c Γ')
  | none => none
def mRetN : MS := fun Γ => some (.rt (.dat .none) Γ)
theorem js_expr (h : JE E.toEv e me) (hs : ∀ i, swapsWith e none pos.line (E.X i).env = pure false := by intro _; rfl) : JS E (.Expr e pos) (mExpr me) [] := by
  obtain ⟨te, h1, h2⟩ := h
  refine ⟨tDrop te, fun i => ps_expr (h1 i) (hs i), fun Δ Γ σ H D o q hs k => ?_⟩
  unfold mExpr at q
  cases e1 : me Γ with
  | none => rw [e1] at q; cases q
  | some p =>
    obtain ⟨c, Γ'⟩ := p
    rw [e1] at q
    cases q
    exact h2 Δ Γ σ H _ c Γ' e1 hs fun v H' h' => k σ H' h'.dropTop .rfl'
theorem js_ret (h : JE E.toEv e me) : JS E (.Return (some e) pos) (mRet me) [] := by
  obtain ⟨te, h1, h2⟩ := h
  refine ⟨tRet te, fun i => ps_ret (h1 i), fun Δ Γ σ H D o q hs k => ?_⟩
  unfold mRet at q
  cases e1 : me Γ with
  | none => rw [e1] at q; cases q
  | some p =>
    obtain ⟨c, Γ'⟩ := p
    rw [e1] at q
    cases q
    exact h2 Δ Γ σ H _ c Γ' e1 hs fun v H' h' => k v σ H' h' .rfl'
theorem js_retN : JS E (.Return none pos) mRetN [] := by
  refine ⟨tRetN, fun _ => ps_retN, fun Δ Γ σ H D o q hs k => ?_⟩
  cases q
  exact k .non σ H ⟨hs.1, hs.2.push ⟨rfl, _, rfl, .non⟩⟩ .rfl'
def mIf (t : MT) (m n : MS) : MS := fun Γ => match t Γ with
  | some (true, Γ') => m Γ'
  | some (false, Γ') => n Γ'
  | none => none
theorem js_if {c : Expr} (hc : JT E.toEv c mt) (h : JB E a m W) (h2 : JB E b n W') : JS E (.If c a b pos) (mIf mt m n) (W ++ W') := by
  obtain ⟨tt, c1, c2⟩ := hc
  obtain ⟨t, a1, a2⟩ := h
  obtain ⟨u, b1, b2⟩ := h2
  refine ⟨tIfS tt t u, fun i => ps_if (c1 i) (a1 i) (b1 i), fun Δ Γ σ H D o q hs k => ?_⟩
  unfold mIf at q
  cases e1 : mt Γ with
  | none => rw [e1] at q; cases q
  | some p =>
    obtain ⟨v, Γ'⟩ := p
    rw [e1] at q
    refine c2 Δ Γ σ H _ v Γ' e1 hs fun H' h' => ?_
    cases v with
    | true => exact a2 Δ Γ' σ H' D o q h' (k.mono fun σ' z => z.mono fun j m => List.mem_append_left _ m)
    | false => exact b2 Δ Γ' σ H' D o q h' (k.mono fun σ' z => z.mono fun j m => List.mem_append_right _ m)
end

/-! ### stores to names -/
theorem Hs.store {K : PySem.W.Frag} {H : Hp} {c : CD} {o : Option V} {Δ : List (CD × Option V)} {Γ : List CD} {σ : St} {i : Nat} (h : Hs K H ((c, o) :: Δ) Γ σ) : Hs K H Δ (Γ.set i c) (σ.set i o) := by
  by_cases hi : i < σ.length
  · exact h.put hi
  · rw [List.set_eq_of_length_le (by rw [h.1]; omega), List.set_eq_of_length_le (by omega)]
    exact h.dropTop
def mAsg (i : Nat) (m : ME) : MS := fun Γ => match m Γ with
  | some (c, Γ') => some (.nx (Γ'.set i c))
  | none => none
/-- values into names, one by one -/
@[simp] def setAll : List Nat → List CD → List CD → List CD
  | i :: is, c :: cs, Γ => setAll is cs (Γ.set i c)
  | _, _, Γ => Γ
def setAllV : List Nat → List V → St → St
  | i :: is, v :: vs, σ => setAllV is vs (σ.set i (some v))
  | _, _, σ => σ
theorem setAll_ok {K : PySem.W.Frag} {H : Hp} : ∀ {is : List Nat} {cs : List CD} {vs : List V} {Δ : List (CD × Option V)} {Γ : List CD} {σ : St}, cs.length = vs.length → is.length = cs.length → Hs K H (cs.zip (vs.map some) ++ Δ) Γ σ → Hs K H Δ (setAll is cs Γ) (setAllV is vs σ)
  | [], [], [], _, _, _, _, _, h => h
  | i :: is, c :: cs, v :: vs, Δ, Γ, σ, l, l2, h => setAll_ok (is := is) (cs := cs) (vs := vs) (by simpa using l) (by simpa using l2) (Hs.store (c := c) (o := some v) h)
  | [], _ :: _, _, _, _, _, _, l, _ => by cases l
  | _ :: _, [], _, _, _, _, _, l, _ => by cases l
  | _ :: _, _ :: _, [], _, _, _, l, _, _ => by cases l
  | [], [], _ :: _, _, _, _, l, _, _ => by cases l
theorem setAllV_keep : ∀ {is : List Nat} {vs : List V} {σ σ0 : St} {W : List Nat}, Keep W σ0 σ → Keep (W ++ is) σ0 (setAllV is vs σ)
  | [], _, σ, σ0, W, h => by rw [List.append_nil]; exact h
  | i :: is, [], σ, σ0, W, h => h.mono fun j m => List.mem_append_left _ m
  | i :: is, v :: vs, σ, σ0, W, h => by
    have q := setAllV_keep (is := is) (vs := vs) (h.set (i := i) (o := some v))
    rw [List.append_assoc] at q
    exact q
/-- a, b, .. = a tuple -/
def mUnp (is : List Nat) (m : ME) : MS := fun Γ => match m Γ with
  | some (.dat (.tuple ds), Γ') => if ds.length = is.length then some (.nx (setAll is (ds.map .dat) Γ')) else none
  | _ => none
theorem mUnp_of {is : List Nat} {m : ME} {Γ : List CD} {o : Out} (e : mUnp is m Γ = some o) : ∃ ds Γ', m Γ = some (.dat (.tuple ds), Γ') ∧ ds.length = is.length ∧ o = .nx (setAll is (ds.map .dat) Γ') := by
  unfold mUnp at e
  match h : m Γ, e with
  | some (.dat (.tuple ds), G), e =>
    obtain ⟨h1, rfl⟩ := ite_none e
    exact ⟨ds, G, rfl, h1, rfl⟩
/-- a, b = x, y of a display -/
def mPar (is : List Nat) (ml : ML) : MS := fun Γ => match ml Γ with
  | some (ops, Γ1) => (match takeO ops Γ1 with
    | some (cs, Γ2) => if cs.length = is.length then some (.nx (setAll is cs Γ2)) else none
    | none => none)
  | none => none
theorem mPar_of {is : List Nat} {ml : ML} {Γ : List CD} {o : Out} (e : mPar is ml Γ = some o) : ∃ ops Γ1 cs Γ2, ml Γ = some (ops, Γ1) ∧ takeO ops Γ1 = some (cs, Γ2) ∧ cs.length = is.length ∧ o = .nx (setAll is cs Γ2) := by
  unfold mPar at e
  cases e1 : ml Γ with
  | none => rw [e1] at e; cases e
  | some p =>
    obtain ⟨ops, Γ1⟩ := p
    rw [e1] at e
    simp only at e
    cases e2 : takeO ops Γ1 with
    | none => rw [e2] at e; cases e
    | some p2 =>
      obtain ⟨cs, Γ2⟩ := p2
      rw [e2] at e
      simp only at e
      obtain ⟨h1, rfl⟩ := ite_none e
      exact ⟨ops, Γ1, cs, Γ2, rfl, e2, h1, rfl⟩
theorem zip_dats {K : PySem.W.Frag} {H : Hp} : ∀ {vs : List V} {ds : List Da} {ps : List (CD × Option V)}, DatL K H vs ds → HP K H ps → HP K H ((ds.map CD.dat).zip (vs.map some) ++ ps)
  | _, _, _, .nil, h => h
  | _, _, _, .cons r t, h => (zip_dats t h).push ⟨rfl, _, rfl, r⟩

/-! ### targets -/
abbrev MG := Da → List CD → Option (List CD)
abbrev MGs := List Da → List CD → Option (List CD)
def SG (K : PySem.W.Frag) (g : TG) (m : MG) (W : List Nat) : Prop := ∀ (Δ : List (CD × Option V)) (Γ : List CD) (σ : St) (H : Hp) (Q : St → Hp → Prop) (v : V) (d : Da) (Γ' : List CD),
  m d Γ = some Γ' → Dat K H v d → Hs K H Δ Γ σ → (∀ σ', Hs K H Δ Γ' σ' → Keep W σ σ' → Q σ' H) → g v σ H Q
def SGs (K : PySem.W.Frag) (g : TGs) (m : MGs) (W : List Nat) : Prop := ∀ (Δ : List (CD × Option V)) (Γ : List CD) (σ : St) (H : Hp) (Q : St → Hp → Prop) (vs : List V) (ds : List Da) (Γ' : List CD),
  m ds Γ = some Γ' → DatL K H vs ds → Hs K H Δ Γ σ → (∀ σ', Hs K H Δ Γ' σ' → Keep W σ σ' → Q σ' H) → g vs σ H Q
def mgN (i : Nat) : MG := fun d Γ => some (Γ.set i (.dat d))
def mgsN : MGs := fun ds Γ => match ds with
  | [] => some Γ
  | _ => none
def mgsC (m : MG) (n : MGs) : MGs := fun ds Γ => match ds with
  | d :: r => (match m d Γ with
    | some Γ' => n r Γ'
    | none => none)
  | [] => none
def mgT (k : Nat) (n : MGs) : MG := fun d Γ => match d with
  | .tuple ds => if ds.length = k then n ds Γ else none
  | _ => none
section
variable {ι : Type}
def JG (E : Ev ι) (e : Expr) (m : MG) (W : List Nat) : Prop := ∃ g, (∀ i, PG (E.X i) e g) ∧ SG E.K g m W
def JGs (E : Ev ι) (es : List Expr) (m : MGs) (W : List Nat) : Prop := ∃ g, (∀ i, PGs (E.X i) es g) ∧ SGs E.K g m W
variable {E : Ev ι} {e : Expr} {es : List Expr} {m : MG} {n : MGs} {W W' : List Nat} {pos : Pos} {x : Str}
theorem jg_name (i : Nat) (hi : E.N[i]? = some x := by rfl) (hx : ∀ j, Loc (E.X j).env.scope x := by first | exact fun _ => Or.inl rfl | exact fun _ => Or.inr rfl)
    (hf : ∀ j, (E.X j).fn x = true ∨ (E.X j).env.scope.names.lookup x = some .local := by first | exact fun _ => .inl rfl | exact fun _ => .inr rfl) : JG E (.Name x pos) (mgN i) [i] :=
  ⟨gName i, fun j => pg_name (by rw [E.hN]; exact E.nd) (by rw [E.hN]; exact hi) (hx j) (hf j), fun Δ Γ σ H Q v d Γ' e r hs k => by
    cases e
    exact k _ (Hs.store (c := .dat d) (o := some v) ⟨hs.1, hs.2.push ⟨rfl, v, rfl, r⟩⟩) (Keep.set (W := []) .rfl')⟩
theorem jgs_nil : JGs E [] mgsN [] := ⟨gNil, fun _ => pgs_nil, fun Δ Γ σ H Q vs ds Γ' e r hs k => by
  cases r with
  | nil => cases e; exact ⟨rfl, k σ hs .rfl'⟩
  | cons _ _ => cases e⟩
theorem jgs_cons (h : JG E e m W) (hr : JGs E es n W') (hs : ∀ env, (assignEach (e :: es) env).map (·.2) = assign e env :: (assignEach es env).map (·.2) := by intro _; rfl) : JGs E (e :: es) (mgsC m n) (W ++ W') := by
  obtain ⟨g, g1, g2⟩ := h
  obtain ⟨u, u1, u2⟩ := hr
  refine ⟨gCons g u, fun i => pgs_cons (g1 i) (u1 i) (hs _), fun Δ Γ σ H Q vs ds Γ' q r hs k => ?_⟩
  cases r with
  | nil => cases q
  | cons r rr =>
    rename_i v vr d dr
    unfold mgsC at q
    dsimp only at q
    cases e1 : m d Γ with
    | none => rw [e1] at q; cases q
    | some Γ1 =>
      rw [e1] at q
      refine ⟨v, vr, rfl, g2 Δ Γ σ H _ v d Γ1 e1 r hs fun σ1 h1 k1 => ?_⟩
      exact u2 Δ Γ1 σ1 H Q vr dr Γ' q rr h1 fun σ2 h2 k2 => k σ2 h2 (k1.trans k2)
theorem jg_tup {kk : Nat} {k : Nat} (h : JGs E es n W) (hn : ∀ env, (assignEach es env).length = k := by intro _; rfl) (hst : ∀ env, (assignEach es env).findIdx? (·.1) = none := by intro _; rfl) : JG E (.Tuple es kk pos) (mgT k n) W := by
  obtain ⟨g, g1, g2⟩ := h
  refine ⟨gTup E.K k g, fun i => ?_, fun Δ Γ σ H Q v d Γ' q r hs k2 => ?_⟩
  · have z := pg_tup (k := kk) (pos := pos) (E.calm i) (g1 i) (hn _) (hst _)
    rw [E.hK] at z
    exact z
  · cases r with
    | tup ht hd =>
      unfold mgT at q
      dsimp only at q
      rename_i a xs ds
      by_cases hl : ds.length = k
      · rw [if_pos hl] at q
        exact ⟨a, xs, rfl, ht, by rw [hd.length]; exact hl, g2 Δ Γ σ H Q xs ds Γ' q hd hs k2⟩
      · rw [if_neg hl] at q; cases q
    | non => cases q
    | bl _ => cases q
    | int _ => cases q
    | str _ => cases q
end

section
variable {ι : Type} {E : Es ι} {e tg o idx : Expr} {es : List Expr} {me mi : ME} {ml : ML} {mg : MG} {pos pos' : Pos} {x y z : Str} {i k : Nat} {W : List Nat}
/-- name = value -/
theorem js_set (i : Nat) (h : JE E.toEv e me) (hi : E.N[i]? = some x := by rfl) (hx : ∀ j, Loc (E.X j).env.scope x := by first | exact fun _ => Or.inl rfl | exact fun _ => Or.inr rfl)
    (hs : ∀ j, swapsWith e (some (.Name x pos')) pos.line (E.X j).env = pure false := by intro _; rfl)
    (hf : ∀ j, (E.X j).fn x = true ∨ (E.X j).env.scope.names.lookup x = some .local := by first | exact fun _ => .inl rfl | exact fun _ => .inr rfl) : JS E (.Assign [.Name x pos'] e pos) (mAsg i me) [i] := by
  obtain ⟨te, h1, h2⟩ := h
  refine ⟨tAsg te (gName i), fun j => ps_set (by rw [E.hN]; exact E.nd) (by rw [E.hN]; exact hi) (hx j) (h1 j) (hs j) (hf j), fun Δ Γ σ H D o q hs k => ?_⟩
  unfold mAsg at q
  cases e1 : me Γ with
  | none => rw [e1] at q; cases q
  | some p =>
    obtain ⟨c, Γ'⟩ := p
    rw [e1] at q
    cases q
    exact h2 Δ Γ σ H _ c Γ' e1 hs fun v H' h' => k _ H' h'.store (Keep.set (W := []) .rfl')
/-- a datum into a target -/
def mAsgG (m : ME) (mg : MG) : MS := fun Γ => match m Γ with
  | some (.dat d, Γ1) => (match mg d Γ1 with
    | some Γ2 => some (.nx Γ2)
    | none => none)
  | _ => none
theorem mAsgG_of {m : ME} {mg : MG} {Γ : List CD} {o : Out} (e : mAsgG m mg Γ = some o) : ∃ d Γ1 Γ2, m Γ = some (.dat d, Γ1) ∧ mg d Γ1 = some Γ2 ∧ o = .nx Γ2 := by
  unfold mAsgG at e
  match h : m Γ, e with
  | some (.dat d, Γ1), e =>
    dsimp only at e
    cases e2 : mg d Γ1 with
    | none => rw [e2] at e; cases e
    | some Γ2 => rw [e2] at e; cases e; exact ⟨d, Γ1, Γ2, rfl, e2, rfl⟩
theorem js_asg (h : JE E.toEv e me) (hg : JG E.toEv tg mg W) (hs : ∀ j, swapsWithSole [tg] e pos.line (E.X j).env = pure false := by intro _; rfl) (hw : ∀ j, swappedStores [tg] e (E.X j).env = pure none := by intro _; rfl)
    (h1 : ∀ env, (assignEach [tg] env).map (·.2) = [assign tg env] := by intro _; rfl) : JS E (.Assign [tg] e pos) (mAsgG me mg) W := by
  obtain ⟨te, a1, a2⟩ := h
  obtain ⟨g, g1, g2⟩ := hg
  refine ⟨tAsg te g, fun j => ps_asg (a1 j) (g1 j) (hs j) (hw j) (h1 _), fun Δ Γ σ H D o q hs k => ?_⟩
  obtain ⟨d, Γ1, Γ2, e1, e2, rfl⟩ := mAsgG_of q
  refine a2 Δ Γ σ H _ _ _ e1 hs fun v H' h' => ?_
  obtain ⟨v', e3, r⟩ := h'.2.dat
  cases e3
  exact g2 Δ Γ1 σ H' _ v d Γ2 e2 r h'.dropTop fun σ' hh kk => k σ' H' hh kk
/-- a, b = x, y -/
theorem js_par {a b : Expr} {px py pt : Pos} {kt k2 pt2} (i j : Nat) (ha : JA E.toEv [a, b] ml) (hi : E.N[i]? = some x := by rfl) (hj : E.N[j]? = some y := by rfl) (hij : i ≠ j := by decide)
    (hx : ∀ u, (E.X u).env.scope.names.lookup x = some .local := by intro _; rfl) (hy : ∀ u, (E.X u).env.scope.names.lookup y = some .local := by intro _; rfl)
    (hw : ∀ u, swappedStores [.Tuple [.Name x px, .Name y py] kt pt] (.Tuple [a, b] k2 pt2) (E.X u).env = pure (some [x, y]) := by intro _; rfl)
    (hs : ∀ u, swapsWithSole [.Tuple [.Name x px, .Name y py] kt pt] (.Tuple [a, b] k2 pt2) pos.line (E.X u).env = pure false := by intro _; rfl) :
    JS E (.Assign [.Tuple [.Name x px, .Name y py] kt pt] (.Tuple [a, b] k2 pt2) pos) (mPar [i, j] ml) [i, j] := by
  obtain ⟨ta, a1, a2⟩ := ha
  refine ⟨tPar i j ta, fun u => ps_par (E.calm u) (by rw [E.hN]; exact E.nd) (by rw [E.hN]; exact hi) (by rw [E.hN]; exact hj) hij (hx u) (hy u) (a1 u) (hw u) (hs u), fun Δ Γ σ H D o q hs k => ?_⟩
  obtain ⟨ops, Γ1, cs, Γ2, e1, e2, hl, rfl⟩ := mPar_of q
  refine a2 Δ Γ σ H _ ops Γ1 e1 hs fun vs H' h1 s1 => ?_
  obtain ⟨h3, l3⟩ := takeO_ok s1 h1 e2
  match vs, l3 with
  | [v, w], l3 => exact ⟨v, w, rfl, k _ H' (setAll_ok (is := [i, j]) (vs := [v, w]) l3 hl.symm h3) (setAllV_keep (is := [i, j]) (vs := [v, w]) (W := []) .rfl')⟩
  | [], l3 => rw [l3] at hl; cases hl
  | [_], l3 => rw [l3] at hl; cases hl
  | _ :: _ :: _ :: _, l3 => rw [l3] at hl; cases hl
theorem js_par3 {a b c : Expr} {px py pz pt : Pos} {kt k2 pt2} (i j l : Nat) (ha : JA E.toEv [a, b, c] ml) (hi : E.N[i]? = some x := by rfl) (hj : E.N[j]? = some y := by rfl) (hl : E.N[l]? = some z := by rfl) (hij : i ≠ j := by decide) (hil : i ≠ l := by decide) (hjl : j ≠ l := by decide)
    (hx : ∀ u, (E.X u).env.scope.names.lookup x = some .local := by intro _; rfl) (hy : ∀ u, (E.X u).env.scope.names.lookup y = some .local := by intro _; rfl) (hz : ∀ u, (E.X u).env.scope.names.lookup z = some .local := by intro _; rfl)
    (hw : ∀ u, swappedStores [.Tuple [.Name x px, .Name y py, .Name z pz] kt pt] (.Tuple [a, b, c] k2 pt2) (E.X u).env = pure (some [x, y, z]) := by intro _; rfl)
    (hs : ∀ u, swapsWithSole [.Tuple [.Name x px, .Name y py, .Name z pz] kt pt] (.Tuple [a, b, c] k2 pt2) pos.line (E.X u).env = pure false := by intro _; rfl) :
    JS E (.Assign [.Tuple [.Name x px, .Name y py, .Name z pz] kt pt] (.Tuple [a, b, c] k2 pt2) pos) (mPar [i, j, l] ml) [i, j, l] := by
  obtain ⟨ta, a1, a2⟩ := ha
  refine ⟨tPar3 i j l ta, fun u => ps_par3 (E.calm u) (by rw [E.hN]; exact E.nd) (by rw [E.hN]; exact hi) (by rw [E.hN]; exact hj) (by rw [E.hN]; exact hl) hij hil hjl (hx u) (hy u) (hz u) (a1 u) (hw u) (hs u), fun Δ Γ σ H D o q hs k => ?_⟩
  obtain ⟨ops, Γ1, cs, Γ2, e1, e2, hl', rfl⟩ := mPar_of q
  refine a2 Δ Γ σ H _ ops Γ1 e1 hs fun vs H' h1 s1 => ?_
  obtain ⟨h3, l3⟩ := takeO_ok s1 h1 e2
  match vs, l3 with
  | [u, v, w], l3 => exact ⟨u, v, w, rfl, k _ H' (setAll_ok (is := [i, j, l]) (vs := [u, v, w]) l3 hl'.symm h3) (setAllV_keep (is := [i, j, l]) (vs := [u, v, w]) (W := []) .rfl')⟩
  | [], l3 => rw [l3] at hl'; cases hl'
  | [_], l3 => rw [l3] at hl'; cases hl'
  | [_, _], l3 => rw [l3] at hl'; cases hl'
  | _ :: _ :: _ :: _ :: _, l3 => rw [l3] at hl'; cases hl'
/-- xs[i] = e, xs the list in the k-th slot -/
def mSetL (m : ME) (k : Nat) (mi : ME) : MS := fun Γ => match m Γ with
  | some (.dat d, Γ1) => (match Γ1[k]? with
    | some (.lst _) => (match mi Γ1 with
      | some (.dat (.int i), Γ2) => (match Γ2[k]? with
        | some (.lst xs) => (match ixN xs.length i with
          | some n => some (.nx (Γ2.set k (.lst (xs.set n d))))
          | none => none)
        | _ => none)
      | _ => none)
    | _ => none)
  | _ => none
theorem mSetL_of {m mi : ME} {k : Nat} {Γ : List CD} {o : Out} (e : mSetL m k mi Γ = some o) : ∃ d Γ1 ys i Γ2 xs n, m Γ = some (.dat d, Γ1) ∧ Γ1[k]? = some (.lst ys) ∧ mi Γ1 = some (.dat (.int i), Γ2) ∧ Γ2[k]? = some (.lst xs) ∧ ixN xs.length i = some n ∧ o = .nx (Γ2.set k (.lst (xs.set n d))) := by
  unfold mSetL at e
  match h : m Γ, e with
  | some (.dat d, Γ1), e =>
    dsimp only at e
    match h5 : Γ1[k]?, e with
    | some (.lst ys), e =>
      dsimp only at e
      match h2 : mi Γ1, e with
      | some (.dat (.int i), Γ2), e =>
        dsimp only at e
        match h3 : Γ2[k]?, e with
        | some (.lst xs), e =>
          dsimp only at e
          cases h4 : ixN xs.length i with
          | none => rw [h4] at e; cases e
          | some n => rw [h4] at e; cases e; exact ⟨d, Γ1, ys, i, Γ2, xs, n, rfl, h5, h2, h3, h4, rfl⟩
theorem js_setL (k : Nat) (h : JE E.toEv e me) (hi : JE E.toEv idx mi) (hN : E.N[k]? = some x := by rfl) (hv : ∀ j, Vis (E.X j).env.scope x := by first | exact fun _ => Or.inl rfl | exact fun _ => Or.inr (Or.inl rfl) | exact fun _ => Or.inr (Or.inr rfl))
    (hd : (x == ("__debug__" : Str)) = false := by decide) (hcd : (x == ("__classdict__" : Str)) = false := by decide)
    {p2 : Pos} (hs : ∀ j, swapsWithSole [.Subscript (.Name x pos') idx pos] e p2.line (E.X j).env = pure false := by intro _; rfl) (hw : ∀ j, swappedStores [.Subscript (.Name x pos') idx pos] e (E.X j).env = pure none := by intro _; rfl)
    (h1 : ∀ env, (assignEach [.Subscript (.Name x pos') idx pos] env).map (·.2) = [assign (.Subscript (.Name x pos') idx pos) env] := by intro _; rfl)
    (ha : ∀ env v, assign (.Subscript (.Name x pos') idx pos) env v = (do
      let ov ← holding [v] (eval (.Name x pos') env)
      let iv ← holding [v, ov] (eval idx env)
      standAt pos
      holding [v, ov, iv] (setItem ov iv v)
      release [v, ov, iv] []) := by intro _ _; rfl) : JS E (.Assign [.Subscript (.Name x pos') idx pos] e p2) (mSetL me k mi) [] := by
  obtain ⟨te, a1, a2⟩ := h
  obtain ⟨ti, b1, b2⟩ := hi
  refine ⟨tAsg te (gSub (tVar k) ti rSetL), fun j => ps_asg (a1 j) (pg_sub (pe_var (by rw [E.hN]; exact hN) (hv j) hd hcd) (b1 j) set_list (ha _)) (hs j) (hw j) (h1 _), fun Δ Γ σ H D o q hs k2 => ?_⟩
  obtain ⟨d, Γ1, ys, i, Γ2, xs, n, e1, e5, e2, e3, e4, rfl⟩ := mSetL_of q
  refine a2 Δ Γ σ H _ _ _ e1 hs fun v H1 h1 => ?_
  obtain ⟨o1, F, hσ, r1⟩ := h1.at e5
  obtain ⟨p, us, rfl, _, _, _⟩ := r1
  refine ⟨.ref p, hσ, b2 _ Γ1 σ H1 _ _ _ e2 h1 fun w H2 h2 => ?_⟩
  obtain ⟨w', ew, rw'⟩ := h2.2.dat
  cases ew
  cases rw'
  have h3 := h2.dropTop
  obtain ⟨o2, hσ2, h4⟩ := h3.take e3
  rw [hσ] at hσ2
  cases hσ2
  obtain ⟨p', zs, ep, hp, dz⟩ := h4.2.lst
  cases ep
  have h5 : HP E.K H2 ((.dat d, some v) :: (.lst xs, some (.ref p)) :: (Δ ++ (Γ2.set k .any).zip σ)) := h4.2.swap
  obtain ⟨v', ev, rv⟩ := h5.dat
  cases ev
  refine ⟨p, zs, i, n, rfl, rfl, hp, by rw [dz.length]; exact e4, k2 σ _ ?_ .rfl'⟩
  have h6 : Hs E.K (upd H2 p (.lst (zs.set n v))) ((.lst (xs.set n d), some (.ref p)) :: Δ) (Γ2.set k .any) σ := ⟨h4.1, (HP.updL h5.drop hp (dz.set rv n))⟩
  have h7 := h6.back hσ
  rw [List.set_set] at h7
  exact h7

/-! ### methods of lists -/
def isL : CD → Bool
  | .lst _ => true
  | _ => false
/-- o.m(args), o the name in the k-th slot -/
def mMth (ok : CD → Bool) (k : Nat) (f : MF) (ml : ML) : ME := fun Γ => match Γ[k]? with
  | some c => if ok c = true then mApp f (mlC (mpV k) ml) Γ else none
  | none => none
theorem je_mthL {f : MF} {id : String} {r : V → List V → Hp → VK → Prop} {name : Str} {apos cpos : Pos} (k : Nat) (slot : Slot "list" name id) (hty : typeOf (.builtin id) = pure (.type "method_descriptor")) (hm : ∀ j, MtR (E.X j) id r)
    (hf : PR E.K (fun vs H Q => match vs with | x :: xs => r x xs H Q | [] => False) f) (ha : JA E.toEv (e :: es) ml) (hN : E.N[k]? = some x := by rfl) (hv : ∀ j, Vis (E.X j).env.scope x := by first | exact fun _ => Or.inl rfl | exact fun _ => Or.inr (Or.inl rfl) | exact fun _ => Or.inr (Or.inr rfl))
    (hd : (x == ("__debug__" : Str)) = false := by decide) (hcd : (x == ("__classdict__" : Str)) = false := by decide)
    (hbase : ∀ env, attributeBase (.Name x pos) name env (eval (.Name x pos) env) = eval (.Name x pos) env := by intro _; rfl)
    (hfew : ∀ env, ((backTo cpos (starEach (e :: es) env)).all (fun x => !x.1) && (backToKw cpos (keywordEach [] env)).all (fun x => x.1.isSome)
      && decide ((e :: es).length + ([] : List Keyword).length + (if ([] : List Keyword).isEmpty then 0 else 1) < 30)) = true := by intro _; rfl)
    (hline : (apos.endLine == cpos.line) = true := by rfl) (hs : ∀ env, starEach (e :: es) env = (false, eval e env) :: starEach es env := by intro _; rfl) (hplain : ∀ env, (backTo cpos (starEach es env)).any (·.1) = false := by intro _; rfl) :
    JE E.toEv (.Call (.Attribute (.Name x pos) name apos) (e :: es) [] cpos) (mMth isL k f ml) := by
  obtain ⟨ta, a1, a2⟩ := ha
  refine ⟨tBM E.K "list" r (tVar k) ta, fun j => ?_, fun Δ Γ σ H Q c Γ' q hs' kk => ?_⟩
  · have z := pe_bm (cpos := cpos) (apos := apos) PySem.F.plainAttrs_list slot hty (hm j) (pe_var (pos := pos) (by rw [E.hN]; exact hN) (hv j) hd hcd) (a1 j) (hbase _) (hfew _) hline (hs _) (hplain _)
    rw [E.hK] at z
    exact z
  · unfold mMth at q
    cases e0 : Γ[k]? with
    | none => rw [e0] at q; cases q
    | some c0 =>
      rw [e0] at q
      dsimp only at q
      by_cases hc : isL c0 = true
      · rw [if_pos hc] at q
        have z := app_ok (sa_cons (sx_v (i := k)) a2) hf Δ Γ σ H Q c Γ' q hs' kk
        obtain ⟨v, hv', z⟩ := z
        refine ⟨v, hv', ?_, z⟩
        obtain ⟨o, F, h1, r1⟩ := hs'.at e0
        rw [hv'] at h1
        cases h1
        cases c0 with
        | lst xs =>
          obtain ⟨p, us, rfl, hp, _⟩ := r1.lstv
          exact .inl ⟨rfl, us, .inl (.inl hp)⟩
        | any => cases hc
        | dat _ => cases hc
        | bag _ _ _ => cases hc
        | dic _ => cases hc
        | scr _ => cases hc
        | shp _ => cases hc
      · rw [if_neg hc] at q; cases q
def fAppend : MF
  | [.lst xs, .dat d] => if xs.length < sizeLine then some (.dat .none, [.lst (xs ++ [d]), .dat d]) else none
  | _ => none
theorem fAppend_of {cs cs' : List CD} {c : CD} (e : fAppend cs = some (c, cs')) : ∃ xs d, cs = [.lst xs, .dat d] ∧ xs.length < sizeLine ∧ c = .dat .none ∧ cs' = [.lst (xs ++ [d]), .dat d] := by
  match cs, e with
  | [.lst xs, .dat d], e =>
    unfold fAppend at e
    dsimp only at e
    obtain ⟨h1, h2⟩ := ite_none e
    cases h2
    exact ⟨xs, d, rfl, h1, rfl, rfl⟩
theorem pr_append {K : PySem.W.Frag} : PR K (fun vs H Q => match vs with | x :: xs => rAppend x xs H Q | [] => False) fAppend := by
  intro vs cs c cs' H ps Q e l hp k
  obtain ⟨xs, d, rfl, hz, rfl, rfl⟩ := fAppend_of e
  obtain ⟨v, w, F, G, rfl, r1, r2⟩ := hp_2 l hp
  obtain ⟨a, us, rfl, h1, d1⟩ := r1.lstv
  obtain ⟨_, w', q, rw'⟩ := r2
  cases q
  have hp' : HP K H ((.lst xs, some (.ref a)) :: (.dat d, some w) :: ps) := hp
  have hn := hp'.updL h1 (d1.append (.cons rw' .nil))
  exact ⟨a, us, w, rfl, rfl, h1, by rw [d1.length]; exact hz, k .non _ (hn.push ⟨rfl, _, rfl, .non⟩) rfl⟩
theorem je_append {name : Str} {apos cpos : Pos} (k : Nat) (ha : JA E.toEv [e] ml) (hN : E.N[k]? = some x := by rfl) (hv : ∀ j, Vis (E.X j).env.scope x := by first | exact fun _ => Or.inl rfl | exact fun _ => Or.inr (Or.inl rfl) | exact fun _ => Or.inr (Or.inr rfl))
    (hd : (x == ("__debug__" : Str)) = false := by decide) (hcd : (x == ("__classdict__" : Str)) = false := by decide)
    (hbase : ∀ env, attributeBase (.Name x pos) "append" env (eval (.Name x pos) env) = eval (.Name x pos) env := by intro _; rfl)
    (hfew : ∀ env, ((backTo cpos (starEach [e] env)).all (fun x => !x.1) && (backToKw cpos (keywordEach [] env)).all (fun x => x.1.isSome)
      && decide ([e].length + ([] : List Keyword).length + (if ([] : List Keyword).isEmpty then 0 else 1) < 30)) = true := by intro _; rfl)
    (hline : (apos.endLine == cpos.line) = true := by rfl) (hs : ∀ env, starEach [e] env = (false, eval e env) :: starEach [] env := by intro _; rfl) :
    JE E.toEv (.Call (.Attribute (.Name x pos) "append" apos) [e] [] cpos) (mMth isL k fAppend ml) :=
  je_mthL k PySem.F.slot_list_append PySem.F.type_list_append (fun _ => mt_append) pr_append ha hN hv hd hcd hbase hfew hline hs (fun _ => rfl)
end
end JJ
/-! J5a: lists grown by lists and tuples, pop. -/
namespace PySem
namespace JX
set_option maxRecDepth 8000 in
theorem grow_by_tuple (l : Addr) (us : Array Value) (n : Nat) (b : Addr) (ws : Array Value) (m : Nat) (dd : Option Addr) (sl : Array (Option Value))
    (c0 : ¬(!us.isEmpty && Builtin.List.listTooLong (us.size + ws.size)) = true) (c1 : us.size ≤ sizeLine) (c2 : us.size + ws.size ≤ sizeLine + 1) :
    Meets (Builtin.«list.extend» ⟨[.ref l, .ref b], []⟩) (fun _ R s => s.heap.get? l = some { cls := .type "list", dict := none, data := .seq us n, slots := #[] } ∧
      s.heap.get? b = some { cls := .type "tuple", dict := dd, data := .seq ws m, slots := sl } ∧ R (.ok (.ret Value.none)) { s with heap := s.heap.update l (Obj.mapSeq fun x => x ++ ws), toks := s.toks }) := by
  refine .of_wp fun prog w A R s h => ?_
  obtain ⟨hp, g, d, tk, os⟩ := s
  obtain ⟨hl, hb, h⟩ := h
  have q1 := AutoSeq1.idx_int
  have q2 := AutoSeq1.sub_tuple_tuple
  have q3 := AutoSeq1.sub_list_list
  have q4 := AutoSeq1.sub_tuple_list
  have q5 := AutoSeq1.sub_list_tuple
  have big : (us ++ ws).size ≤ sizeLine + 1 := by rw [Array.size_append]; exact c2
  wp_walk using (wpAny_updateSeq hl rfl (hz := c1) (_hz' := big)), AutoSeq1.wpAny_loadPart' hl, AutoSeq1.wpAny_loadPart' hb
  exact ⟨_, rfl, h⟩
end JX
end PySem
namespace JJ
open PySem L2
/-- xs.extend(t), t a tuple -/
def rExtT (K : PySem.W.Frag) : V → List V → Hp → VK → Prop := fun x vs H Q => ∃ l b xs zs, x = .ref l ∧ vs = [.ref b] ∧ H l = some (.lst xs) ∧ SqT K H b zs ∧ xs.length + zs.length ≤ sizeLine ∧ Q .non (upd H l (.lst (xs ++ zs)))
theorem mt_extT {X : Cx} : MtM X "list.extend" (rExtT X.K) := by
  intro pins s σ H x vs v us Q I rx rv h
  obtain ⟨l, b, xs, zs, rfl, rfl, h1, h2, hz, q⟩ := h
  cases rx
  obtain ⟨u, rfl, ru⟩ := rv.one
  cases ru
  obtain ⟨z, its, n, r, hl, e⟩ := I.lstM h1
  obtain ⟨its2, r2, ⟨⟨cl, dd, da, sl⟩, e2, hc, m, hd⟩, _⟩ := I.tuple h2
  dsimp only at hc hd
  subst hc
  subst hd
  have l2 := r2.length
  have fit : its.toArray.size + its2.toArray.size ≤ sizeLine := by rw [List.size_toArray, List.size_toArray]; omega
  have door : ¬ (!its.toArray.isEmpty && Builtin.List.listTooLong (its.toArray.size + its2.toArray.size)) = true := by
    rw [notLongL fit, Bool.and_false]
    decide
  refine call_meets F.slot_list_extend ⟨_, e, rfl⟩ F.entry_list_extend (F.args_list_extend_2 _ _) (JX.grow_by_tuple l its.toArray n b its2.toArray m dd sl door (by rw [List.size_toArray]; omega) (by omega)) ⟨e, e2, ?_⟩
  refine ⟨.non, _, I.lset (its' := its ++ its2) h1 e (by simp) (r.append r2) ?_, rfl, q⟩
  rw [List.length_append]
  omega
def rExtX (K : PySem.W.Frag) : V → List V → Hp → VK → Prop := fun x vs H Q => rExtend x vs H Q ∨ rExtT K x vs H Q
theorem mt_extX {X : Cx} : MtR X "list.extend" (rExtX X.K) := by
  intro pins s σ H x xs v us Q I rx rs q
  rcases q with q | q
  · exact mt_extend pins s σ H x xs v us Q I rx rs q
  · exact mt_extT pins s σ H x xs v us Q I rx rs q
def fExtend : MF
  | [.lst xs, .lst ys] => if xs.length + ys.length ≤ sizeLine then some (.dat .none, [.lst (xs ++ ys), .lst ys]) else none
  | [.lst xs, .dat (.tuple ys)] => if xs.length + ys.length ≤ sizeLine then some (.dat .none, [.lst (xs ++ ys), .dat (.tuple ys)]) else none
  | _ => none
theorem pr_extend {K : PySem.W.Frag} : PR K (fun vs H Q => match vs with | x :: xs => rExtX K x xs H Q | [] => False) fExtend := by
  intro vs cs c cs' H ps Q e l hp k
  match cs, e with
  | [.lst xs, .lst ys], e =>
    unfold fExtend at e
    dsimp only at e
    obtain ⟨hz, e2⟩ := ite_none e
    cases e2
    obtain ⟨v, w, F, G, rfl, r1, r2⟩ := hp_2 l hp
    obtain ⟨a, us, rfl, h1, d1⟩ := r1.lstv
    obtain ⟨b, ws, rfl, h2, d2⟩ := r2.lstv
    have hp' : HP K H ((.lst xs, some (.ref a)) :: (.lst ys, some (.ref b)) :: ps) := hp
    have hn := hp'.updL h1 (d1.append d2)
    exact .inl ⟨a, b, us, ws, rfl, rfl, h1, h2, by rw [d1.length, d2.length]; exact hz, k .non _ (hn.push ⟨rfl, _, rfl, .non⟩) rfl⟩
  | [.lst xs, .dat (.tuple ys)], e =>
    unfold fExtend at e
    dsimp only at e
    obtain ⟨hz, e2⟩ := ite_none e
    cases e2
    obtain ⟨v, w, F, G, rfl, r1, r2⟩ := hp_2 l hp
    obtain ⟨a, us, rfl, h1, d1⟩ := r1.lstv
    obtain ⟨b, ws, rfl, h2, d2⟩ := r2.tup
    have hp' : HP K H ((.lst xs, some (.ref a)) :: (.dat (.tuple ys), some (.ref b)) :: ps) := hp
    have hn := hp'.updL h1 (d1.append d2)
    exact .inr ⟨a, b, us, ws, rfl, rfl, h1, h2, by rw [d1.length, d2.length]; exact hz, k .non _ (hn.push ⟨rfl, _, rfl, .non⟩) rfl⟩
def fPop : MF
  | [.lst xs] => match xs[xs.length - 1]? with
    | some d => some (.dat d, [.lst xs.dropLast])
    | none => none
  | _ => none
theorem pr_pop {K : PySem.W.Frag} : PR K (fun vs H Q => match vs with | x :: xs => rPop x xs H Q | [] => False) fPop := by
  intro vs cs c cs' H ps Q e l hp k
  match cs, e with
  | [.lst xs], e =>
    unfold fPop at e
    dsimp only at e
    cases e1 : xs[xs.length - 1]? with
    | none => rw [e1] at e; cases e
    | some d =>
      rw [e1] at e
      cases e
      obtain ⟨v, F, rfl, r1⟩ := hp_1 l hp
      obtain ⟨a, us, rfl, h1, d1⟩ := r1.lstv
      have hp' : HP K H ((.lst xs, some (.ref a)) :: ps) := hp
      have hn := hp'.updL h1 d1.dropLast
      rw [← d1.length] at e1
      obtain ⟨y, e2, r⟩ := d1.get e1
      exact ⟨a, us, y, rfl, rfl, h1, e2, k y _ (hn.push ⟨rfl, y, rfl, r.mono (tx_upd h1 True.intro)⟩) rfl⟩
section
variable {ι : Type} {E : Ev ι} {e : Expr} {es : List Expr} {ml : ML} {pos : Pos} {x : Str}
theorem je_extend {apos cpos : Pos} (k : Nat) (ha : JA E [e] ml) (hN : E.N[k]? = some x := by rfl) (hv : ∀ j, Vis (E.X j).env.scope x := by first | exact fun _ => Or.inl rfl | exact fun _ => Or.inr (Or.inl rfl) | exact fun _ => Or.inr (Or.inr rfl))
    (hd : (x == ("__debug__" : Str)) = false := by decide) (hcd : (x == ("__classdict__" : Str)) = false := by decide)
    (hbase : ∀ env, attributeBase (.Name x pos) "extend" env (eval (.Name x pos) env) = eval (.Name x pos) env := by intro _; rfl)
    (hfew : ∀ env, ((backTo cpos (starEach [e] env)).all (fun x => !x.1) && (backToKw cpos (keywordEach [] env)).all (fun x => x.1.isSome)
      && decide ([e].length + ([] : List Keyword).length + (if ([] : List Keyword).isEmpty then 0 else 1) < 30)) = true := by intro _; rfl)
    (hline : (apos.endLine == cpos.line) = true := by rfl) (hs : ∀ env, starEach [e] env = (false, eval e env) :: starEach [] env := by intro _; rfl) :
    JE E (.Call (.Attribute (.Name x pos) "extend" apos) [e] [] cpos) (mMth isL k fExtend ml) :=
  je_mthL (E := ⟨E, fun _ _ _ _ => False⟩) k PySem.F.slot_list_extend PySem.F.type_list_extend (fun j => by
    have q := mt_extX (X := E.X j)
    rw [E.hK] at q
    exact q) pr_extend ha hN hv hd hcd hbase hfew hline hs (fun _ => rfl)
/-- xs.pop() -/
theorem je_pop {apos cpos : Pos} (k : Nat) (hN : E.N[k]? = some x := by rfl) (hv : ∀ j, Vis (E.X j).env.scope x := by first | exact fun _ => Or.inl rfl | exact fun _ => Or.inr (Or.inl rfl) | exact fun _ => Or.inr (Or.inr rfl))
    (hd : (x == ("__debug__" : Str)) = false := by decide) (hcd : (x == ("__classdict__" : Str)) = false := by decide)
    (hbase : ∀ env, attributeBase (.Name x pos) "pop" env (eval (.Name x pos) env) = eval (.Name x pos) env := by intro _; rfl) (hline : (apos.endLine == cpos.line) = true := by rfl) :
    JE E (.Call (.Attribute (.Name x pos) "pop" apos) [] [] cpos) (mMth isL k fPop mlN) := by
  refine ⟨tBM0 E.K "list" rPop (tVar k), fun j => ?_, fun Δ Γ σ H Q c Γ' q hs' kk => ?_⟩
  · have z := pe_bm0 (cpos := cpos) (apos := apos) PySem.F.plainAttrs_list PySem.F.slot_list_pop PySem.F.type_list_pop (mt_pop (X := E.X j)) (pe_var (pos := pos) (by rw [E.hN]; exact hN) (hv j) hd hcd) (hbase _) hline
    rw [E.hK] at z
    exact z
  · unfold mMth at q
    cases e0 : Γ[k]? with
    | none => rw [e0] at q; cases q
    | some c0 =>
      rw [e0] at q
      dsimp only at q
      by_cases hc : isL c0 = true
      · rw [if_pos hc] at q
        have z := app_ok (sa_cons (sx_v (i := k)) sa_nil) pr_pop Δ Γ σ H Q c Γ' q hs' kk
        obtain ⟨v, hv', z⟩ := z
        refine ⟨v, hv', ?_, z⟩
        obtain ⟨o, F, h1, r1⟩ := hs'.at e0
        rw [hv'] at h1
        cases h1
        cases c0 with
        | lst xs =>
          obtain ⟨p, us, rfl, hp, _⟩ := r1.lstv
          exact .inl ⟨rfl, us, .inl (.inl hp)⟩
        | any => cases hc
        | dat _ => cases hc
        | bag _ _ _ => cases hc
        | dic _ => cases hc
        | scr _ => cases hc
        | shp _ => cases hc
      · rw [if_neg hc] at q; cases q
end
end JJ
/-! J5: what is walked, for, while, comprehensions. -/
namespace JJ
open PySem L2

open RZ

theorem HP.ext {K : PySem.W.Frag} {H H' : Hp} {ps : List (CD × Option V)} (h : HP K H ps) (k : ∀ a u, H a = some u → H' a = some u) : HP K H' ps :=
  (h.new (c := .any) (o := none) (F2 := []) k rfl .nil (by simp)).drop
theorem Hs.ext {K : PySem.W.Frag} {H H' : Hp} {Δ : List (CD × Option V)} {Γ : List CD} {σ : St} (h : Hs K H Δ Γ σ) (k : ∀ a u, H a = some u → H' a = some u) : Hs K H' Δ Γ σ := ⟨h.1, h.2.ext k⟩
theorem HP.app {K : PySem.W.Frag} {H : Hp} {ps qs : List (CD × Option V)} (h : HP K H (ps ++ qs)) : HP K H ps := by
  induction qs with
  | nil => rw [List.append_nil] at h; exact h
  | cons q r ih => exact ih (h.perm List.perm_middle).drop

theorem sl_len : ∀ {σ : St} {ops : List Op} {vs : List V}, slotsOk σ ops vs → ops.length = vs.length
  | _, [], [], _ => rfl
  | σ, .inl _ :: r, v :: vs, s => by rw [List.length_cons, List.length_cons, sl_len (σ := σ) (ops := r) (vs := vs) s]
  | σ, .inr _ :: r, v :: vs, s => by rw [List.length_cons, List.length_cons, sl_len (σ := σ) (ops := r) (vs := vs) s.2]
  | _, [], _ :: _, s => s.elim
  | _, .inl _ :: _, [], s => s.elim
  | _, .inr _ :: _, [], s => s.elim
/-- an iterator that gives the data items, while hold stands -/
structure WD (K : PySem.W.Frag) (J : It) (items : List Da) (hold : List (CD × Option V)) : Prop where
  goes : ∀ i H, i < items.length → HP K H hold → J.go i H
  stops : ∀ H, HP K H hold → J.stop items.length H
  yields : ∀ i H x H', i < items.length → HP K H hold → J.yld i H x H' → (∀ a u, H a = some u → H' a = some u) ∧ ∃ d, items[i]? = some d ∧ Dat K H' x d

/-- what a for walks: the items; the operands that are held meanwhile, with their cells -/
abbrev MI := List CD → Option (List Da × List Op × List CD × List CD)
def SI (K : PySem.W.Frag) (wi : TI) (m : MI) : Prop := ∀ (Δ : List (CD × Option V)) (Γ : List CD) (σ : St) (H : Hp) (R : It → Hp → Prop) (items : List Da) (ops : List Op) (cs Γ' : List CD),
  m Γ = some (items, ops, cs, Γ') → Hs K H Δ Γ σ → (∀ (J : It) (H' : Hp) (vs : List V), WD K J items (cs.zip (vs.map some)) → Hs K H' (cs.zip (vs.map some) ++ Δ) Γ' σ → slotsOk σ ops vs → cs.length = vs.length → R J H') → wi σ H R
section
variable {ι : Type}
def JI (E : Ev ι) (tg iter : Expr) (m : MI) : Prop := ∃ wi, (∀ i, PI (E.X i) tg iter wi) ∧ SI E.K wi m
end
theorem PIor {X : Cx} {tg iter : Expr} {w1 w2 : TI} (h1 : PI X tg iter w1) (h2 : PI X tg iter w2) : PI X tg iter (fun σ H R => w1 σ H R ∨ w2 σ H R) :=
  ⟨fun pins s σ H R I h => h.elim (h1.run pins s σ H R I) (h2.run pins s σ H R I)⟩
def mI (g : List CD → Option (List Da)) (ml : ML) : MI := fun Γ => match ml Γ with
  | some (ops, Γ1) => (match takeO ops Γ1 with
    | some (cs, Γ2) => (match g cs with
      | some items => some (items, ops, cs, Γ2)
      | none => none)
    | none => none)
  | none => none
theorem mI_of {g : List CD → Option (List Da)} {ml : ML} {Γ Γ' : List CD} {items : List Da} {ops : List Op} {cs : List CD} (e : mI g ml Γ = some (items, ops, cs, Γ')) : ∃ Γ1, ml Γ = some (ops, Γ1) ∧ takeO ops Γ1 = some (cs, Γ') ∧ g cs = some items := by
  unfold mI at e
  cases e1 : ml Γ with
  | none => rw [e1] at e; cases e
  | some p =>
    obtain ⟨ops', Γ1⟩ := p
    rw [e1] at e
    dsimp only at e
    cases e2 : takeO ops' Γ1 with
    | none => rw [e2] at e; cases e
    | some p2 =>
      obtain ⟨cs', Γ2⟩ := p2
      rw [e2] at e
      dsimp only at e
      cases e3 : g cs' with
      | none => rw [e3] at e; cases e
      | some it =>
        rw [e3] at e
        cases e
        exact ⟨Γ1, rfl, e2, e3⟩
/-- a list or a tuple -/
def gSeq : List CD → Option (List Da)
  | [.lst xs] => some xs
  | [.dat (.tuple xs)] => some xs
  | _ => none
theorem wd_list {K : PySem.W.Frag} {a : Addr} {xs : List Da} : WD K (Itl K a) xs [(.lst xs, some (.ref a))] where
  goes := fun i H hi h => by
    obtain ⟨p, vs, e, hp, d⟩ := h.lst
    cases e
    have hv : i < vs.length := by rw [d.length]; exact hi
    exact ⟨vs, vs[i], .inl (.inl hp), List.getElem?_eq_getElem hv⟩
  stops := fun H h => by
    obtain ⟨p, vs, e, hp, d⟩ := h.lst
    cases e
    exact ⟨vs, .inl (.inl hp), by rw [d.length]; exact Nat.le_refl _⟩
  yields := fun i H x H' hi h y => by
    obtain ⟨p, vs, e, hp, d⟩ := h.lst
    cases e
    obtain ⟨rfl, y2⟩ := y
    obtain ⟨z, h1, h2⟩ := d.get' (y2 vs (.inl (.inl hp)))
    exact ⟨fun _ _ q => q, z, h1, h2⟩
theorem wd_tup {K : PySem.W.Frag} {a : Addr} {xs : List Da} {us : List V} {H0 : Hp} (h0 : SqT K H0 a us) : WD K (Itt K a) xs [(.dat (.tuple xs), some (.ref a))] where
  goes := fun i H hi h => by
    obtain ⟨v, e, r⟩ := h.dat
    cases e
    cases r with
    | tup hp d =>
      rename_i vs
      have hv : i < vs.length := by rw [d.length]; exact hi
      exact ⟨vs, vs[i], hp, List.getElem?_eq_getElem hv⟩
  stops := fun H h => by
    obtain ⟨v, e, r⟩ := h.dat
    cases e
    cases r with
    | tup hp d => exact ⟨_, hp, by rw [d.length]; exact Nat.le_refl _⟩
  yields := fun i H x H' hi h y => by
    obtain ⟨v, e, r⟩ := h.dat
    cases e
    obtain ⟨rfl, y2⟩ := y
    cases r with
    | tup hp d =>
      obtain ⟨z, h1, h2⟩ := d.get' (y2 _ hp)
      exact ⟨fun _ _ q => q, z, h1, h2⟩
section
variable {ι : Type} {E : Ev ι} {e e2 tg : Expr} {es : List Expr} {mp mp2 : MP} {ml : ML} {p pos tpos : Pos} {kk : Nat}
theorem ji_seq (h : JP E e mp) : JI E tg e (mI gSeq (mlC mp mlN)) := by
  obtain ⟨te, a1, a2⟩ := h
  refine ⟨fun σ H R => iList E.K te σ H R ∨ iTup E.K te σ H R, fun i => ?_, fun Δ Γ σ H R items ops cs Γ' q hs k => ?_⟩
  · have z := PIor (pi_list (tg := tg) (a1 i)) (pi_tup (tg := tg) (a1 i))
    rw [E.hK] at z
    exact z
  · obtain ⟨Γ1, e1, e2, e3⟩ := mI_of q
    have sa := sa_cons a2 (sa_nil (K := E.K))
    match cs, e3 with
    | [.lst xs], e3 =>
      cases e3
      refine .inl (show tCons te tNil σ H (fun vs H1 => match vs with | [x] => ∃ a, x = .ref a ∧ (∃ xs, SqL E.K H1 a xs) ∧ R (Itl E.K a) H1 | _ => False) from sa Δ Γ σ H _ ops Γ1 e1 hs fun vs H' h1 s1 => ?_)
      obtain ⟨h2, l2⟩ := takeO_ok s1 h1 e2
      match vs, l2, s1, h2 with
      | [v], l2, s1, h2 =>
        have h3 : HP E.K H' ((.lst _, some v) :: (Δ ++ Γ'.zip σ)) := h2.2
        obtain ⟨a, us, ev, hp, d⟩ := h3.lst
        cases ev
        exact ⟨a, rfl, ⟨us, .inl (.inl hp)⟩, k _ H' [.ref a] wd_list h2 s1 rfl⟩
    | [.dat (.tuple xs)], e3 =>
      cases e3
      refine .inr (show tCons te tNil σ H (fun vs H1 => match vs with | [x] => ∃ a, x = .ref a ∧ (∃ xs, SqT E.K H1 a xs) ∧ R (Itt E.K a) H1 | _ => False) from sa Δ Γ σ H _ ops Γ1 e1 hs fun vs H' h1 s1 => ?_)
      obtain ⟨h2, l2⟩ := takeO_ok s1 h1 e2
      match vs, l2, s1, h2 with
      | [v], l2, s1, h2 =>
        have h3 : HP E.K H' ((.dat (.tuple _), some v) :: (Δ ++ Γ'.zip σ)) := h2.2
        obtain ⟨v', ev, r⟩ := h3.dat
        cases ev
        cases r with
        | tup hp d => exact ⟨_, rfl, ⟨_, hp⟩, k _ H' [_] (wd_tup hp) h2 s1 rfl⟩
/-- range(n), range(a, b) -/
def rgD (lo : Int) (n : Nat) : List Da := (List.range n).map fun k => .int (lo + (k : Nat))
def gRng1 : List CD → Option (List Da)
  | [.dat (.int j)] => if j.natAbs < 4611686018427387904 then some (rgD 0 j.toNat) else none
  | _ => none
def gRng2 : List CD → Option (List Da)
  | [.dat (.int i), .dat (.int j)] => if i.natAbs < 4611686018427387904 ∧ j.natAbs < 4611686018427387904 then some (rgD i (j - i).toNat) else none
  | _ => none
theorem wd_rng {K : PySem.W.Frag} {lo : Int} {n : Nat} {hold : List (CD × Option V)} : WD K (Itr lo n) (rgD lo n) hold where
  goes := fun i H hi _ => by
    unfold rgD at hi
    rw [List.length_map, List.length_range] at hi
    exact hi
  stops := fun H _ => by
    show n ≤ (rgD lo n).length
    unfold rgD
    rw [List.length_map, List.length_range]
    exact Nat.le_refl _
  yields := fun i H x H' hi _ y => by
    obtain ⟨rfl, rfl⟩ := y
    have hi' : i < n := by
      unfold rgD at hi
      rw [List.length_map, List.length_range] at hi
      exact hi
    refine ⟨fun _ _ q => q, .int (lo + i), ?_, .int _⟩
    unfold rgD
    rw [List.getElem?_map, List.getElem?_range hi']
    rfl
theorem ji_range1 (h : JA E [e] ml) (hm : E.mg "range" = none) (hg : ∀ j, Gl (E.X j) "range" := by exact fun _ => rfl) (hs : ∀ env, starEach [e] env = [(false, eval e env)] := by intro _; rfl) : JI E tg (.Call (.Name "range" p) [e] [] pos) (mI gRng1 ml) := by
  obtain ⟨ta, a1, a2⟩ := h
  refine ⟨iRng1 ta, fun i => pi_range1 (hg i) (by rw [E.hm]; exact hm) (a1 i) (hs _), fun Δ Γ σ H R items ops cs Γ' q hs k => ?_⟩
  obtain ⟨Γ1, e1, e2, e3⟩ := mI_of q
  refine a2 Δ Γ σ H _ ops Γ1 e1 hs fun vs H' h1 s1 => ?_
  obtain ⟨h2, l2⟩ := takeO_ok s1 h1 e2
  match cs, e3 with
  | [.dat (.int j)], e3 =>
    unfold gRng1 at e3
    dsimp only at e3
    obtain ⟨hb, rfl⟩ := ite_none e3
    have h3 := h2.2
    rw [List.append_assoc] at h3
    obtain ⟨v, F, rfl, r⟩ := hp_1 l2 h3
    cases r.int
    exact ⟨j, rfl, by omega, by omega, k _ H' _ wd_rng h2 s1 l2⟩
theorem ji_range2 (h : JA E [e, e2] ml) (hm : E.mg "range" = none) (hg : ∀ j, Gl (E.X j) "range" := by exact fun _ => rfl) (hs : ∀ env, starEach [e, e2] env = [(false, eval e env), (false, eval e2 env)] := by intro _; rfl) (hs2 : ∀ env, starEach [e2] env = [(false, eval e2 env)] := by intro _; rfl) : JI E tg (.Call (.Name "range" p) [e, e2] [] pos) (mI gRng2 ml) := by
  obtain ⟨ta, a1, a2⟩ := h
  refine ⟨iRng2 ta, fun i => pi_range2 (hg i) (by rw [E.hm]; exact hm) (a1 i) (hs _) (hs2 _), fun Δ Γ σ H R items ops cs Γ' q hs k => ?_⟩
  obtain ⟨Γ1, e1, e2, e3⟩ := mI_of q
  refine a2 Δ Γ σ H _ ops Γ1 e1 hs fun vs H' h1 s1 => ?_
  obtain ⟨h2, l2⟩ := takeO_ok s1 h1 e2
  match cs, e3 with
  | [.dat (.int i), .dat (.int j)], e3 =>
    unfold gRng2 at e3
    dsimp only at e3
    obtain ⟨hb, rfl⟩ := ite_none e3
    have h3 := h2.2
    rw [List.append_assoc] at h3
    obtain ⟨v, w, F, G, rfl, r1, r2⟩ := hp_2 l2 h3
    cases r1.int
    cases r2.int
    exact ⟨i, j, rfl, ⟨by omega, by omega, by omega, by omega⟩, k _ H' _ wd_rng h2 s1 l2⟩
/-- zip of two lists, of two tuples -/
def zipD : List Da → List Da → List Da
  | x :: xs, y :: ys => .tuple [x, y] :: zipD xs ys
  | _, _ => []
theorem zipD_len : ∀ (xs ys : List Da), (zipD xs ys).length = min xs.length ys.length
  | [], _ => by simp [zipD]
  | _ :: _, [] => by simp [zipD]
  | x :: xs, y :: ys => by rw [zipD, List.length_cons, zipD_len, List.length_cons, List.length_cons]; omega
theorem zipD_get : ∀ {xs ys : List Da} {i : Nat} {x y : Da}, xs[i]? = some x → ys[i]? = some y → (zipD xs ys)[i]? = some (.tuple [x, y])
  | [], _, _, _, _, e, _ => by simp at e
  | _ :: _, [], _, _, _, _, e => by simp at e
  | a :: xs, b :: ys, 0, x, y, e, e2 => by simp at e e2; subst e; subst e2; rfl
  | a :: xs, b :: ys, i + 1, x, y, e, e2 => by
    rw [zipD, List.getElem?_cons_succ]
    exact zipD_get (by simpa using e) (by simpa using e2)
def gZip : List CD → Option (List Da)
  | [.lst xs, .lst ys] => some (zipD xs ys)
  | [.dat (.tuple xs), .dat (.tuple ys)] => some (zipD xs ys)
  | _ => none
theorem pair_new {K : PySem.W.Frag} {H : Hp} {T : Addr} {x y : V} {d e : Da} (hT : H T = none) (r : Dat K H x d) (r2 : Dat K H y e) : Dat K (upd H T (.tup [x, y])) (.ref T) (.tuple [d, e]) :=
  .tup (.inl (.inl upd_same)) (.cons (r.mono (tx_new hT)) (.cons (r2.mono (tx_new hT)) .nil))
theorem hold2 {K : PySem.W.Frag} {H : Hp} {p q : CD × Option V} (h : HP K H [p, q]) : HP K H [p] ∧ HP K H [q] := ⟨(h.perm (.swap _ _ _)).drop, h.drop⟩
theorem wd_zip {K : PySem.W.Frag} {a b : Addr} {xs ys : List Da} : WD K (Itz K a b) (zipD xs ys) [(.lst xs, some (.ref a)), (.lst ys, some (.ref b))] where
  goes := fun i H hi h => by
    rw [zipD_len] at hi
    obtain ⟨h1, h2⟩ := hold2 h
    obtain ⟨p, vs, e, hp, d⟩ := h1.lst
    cases e
    obtain ⟨p', ws, e, hp', d'⟩ := h2.lst
    cases e
    exact ⟨vs, ws, vs[i]'(by rw [d.length]; omega), ws[i]'(by rw [d'.length]; omega), .inl (.inl hp), .inl (.inl hp'), List.getElem?_eq_getElem _, List.getElem?_eq_getElem _⟩
  stops := fun H h => by
    obtain ⟨h1, h2⟩ := hold2 h
    obtain ⟨p, vs, e, hp, d⟩ := h1.lst
    cases e
    obtain ⟨p', ws, e, hp', d'⟩ := h2.lst
    cases e
    exact ⟨vs, ws, .inl (.inl hp), .inl (.inl hp'), by rw [zipD_len, d.length, d'.length]; omega⟩
  yields := fun i H x H' hi h y => by
    obtain ⟨h1, h2⟩ := hold2 h
    obtain ⟨p, vs, e, hp, d⟩ := h1.lst
    cases e
    obtain ⟨p', ws, e, hp', d'⟩ := h2.lst
    cases e
    obtain ⟨T, x1, y1, rfl, hT, rfl, q1, q2⟩ := y
    obtain ⟨z1, e1, r1⟩ := d.get' (q1 vs (.inl (.inl hp)))
    obtain ⟨z2, e2, r2⟩ := d'.get' (q2 ws (.inl (.inl hp')))
    exact ⟨upd_new hT, _, zipD_get e1 e2, pair_new hT r1 r2⟩
theorem wd_zipT {K : PySem.W.Frag} {a b : Addr} {xs ys : List Da} : WD K (ItzT K a b) (zipD xs ys) [(.dat (.tuple xs), some (.ref a)), (.dat (.tuple ys), some (.ref b))] where
  goes := fun i H hi h => by
    rw [zipD_len] at hi
    obtain ⟨h1, h2⟩ := hold2 h
    obtain ⟨v, e, r⟩ := h1.dat
    cases e
    obtain ⟨w, e, r'⟩ := h2.dat
    cases e
    cases r with
    | tup hp d =>
      cases r' with
      | tup hp' d' => exact ⟨_, _, _, _, hp, hp', List.getElem?_eq_getElem (by rw [d.length]; omega), List.getElem?_eq_getElem (by rw [d'.length]; omega)⟩
  stops := fun H h => by
    obtain ⟨h1, h2⟩ := hold2 h
    obtain ⟨v, e, r⟩ := h1.dat
    cases e
    obtain ⟨w, e, r'⟩ := h2.dat
    cases e
    cases r with
    | tup hp d =>
      cases r' with
      | tup hp' d' => exact ⟨_, _, hp, hp', by rw [zipD_len, d.length, d'.length]; omega⟩
  yields := fun i H x H' hi h y => by
    obtain ⟨h1, h2⟩ := hold2 h
    obtain ⟨v, e, r⟩ := h1.dat
    cases e
    obtain ⟨w, e, r'⟩ := h2.dat
    cases e
    cases r with
    | tup hp d =>
      cases r' with
      | tup hp' d' =>
        obtain ⟨T, x1, y1, rfl, hT, rfl, q1, q2⟩ := y
        obtain ⟨z1, e1, r1⟩ := d.get' (q1 _ hp)
        obtain ⟨z2, e2, r2⟩ := d'.get' (q2 _ hp')
        exact ⟨upd_new hT, _, zipD_get e1 e2, pair_new hT r1 r2⟩
theorem ji_zip {elts : List Expr} (h : JA E [e, e2] ml) (hm : E.mg "zip" = none) (hg : ∀ j, Gl (E.X j) "zip" := by exact fun _ => rfl) (hs : ∀ env, starEach [e, e2] env = (false, eval e env) :: starEach [e2] env := by intro _; rfl) (hpl : ∀ env, (backTo pos (starEach [e2] env)).any (·.1) = false := by intro _; rfl) :
    JI E (.Tuple elts kk tpos) (.Call (.Name "zip" p) [e, e2] [] pos) (mI gZip ml) := by
  obtain ⟨ta, a1, a2⟩ := h
  refine ⟨iZipA E.K ta, fun i => ?_, fun Δ Γ σ H R items ops cs Γ' q hs k => ?_⟩
  · have z := pi_zipA (p := p) (pos := pos) (tpos := tpos) (elts := elts) (kk := kk) (hg i) (by rw [E.hm]; exact hm) (a1 i) (hs _) (hpl _)
    rw [E.hK] at z
    exact z
  · obtain ⟨Γ1, e1, e2, e3⟩ := mI_of q
    refine a2 Δ Γ σ H _ ops Γ1 e1 hs fun vs H' h1 s1 => ?_
    obtain ⟨h2, l2⟩ := takeO_ok s1 h1 e2
    have h3 := h2.2
    rw [List.append_assoc] at h3
    match cs, e3 with
    | [.lst xs, .lst ys], e3 =>
      cases e3
      obtain ⟨v, w, F, G, rfl, r1, r2⟩ := hp_2 l2 h3
      obtain ⟨a, us, rfl, q1, _⟩ := r1.lstv
      obtain ⟨b, ws, rfl, q2, _⟩ := r2.lstv
      exact ⟨a, b, us, ws, rfl, .inl ⟨.inl (.inl q1), .inl (.inl q2), k _ H' [.ref a, .ref b] wd_zip h2 s1 l2⟩⟩
    | [.dat (.tuple xs), .dat (.tuple ys)], e3 =>
      cases e3
      obtain ⟨v, w, F, G, rfl, r1, r2⟩ := hp_2 l2 h3
      obtain ⟨a, us, rfl, q1, _⟩ := r1.tup
      obtain ⟨b, ws, rfl, q2, _⟩ := r2.tup
      exact ⟨a, b, us, ws, rfl, .inr ⟨q1, q2, k _ H' [.ref a, .ref b] wd_zipT h2 s1 l2⟩⟩
/-- reversed(list) -/
def gRev : List CD → Option (List Da)
  | [.lst xs] => some xs.reverse
  | _ => none
end

/-! ### for -/
@[simp] def okW (W : List Nat) : List Op → List CD → Bool
  | .inr i :: r, c :: cs => (isC c || !W.contains i) && okW W r cs
  | .inl _ :: r, _ :: cs => okW W r cs
  | _, _ => true
/-- the operands are given back behind the loop -/
theorem giveW_ok {K : PySem.W.Frag} {H : Hp} {W : List Nat} {σ σ' : St} (kk : Keep W σ σ') : ∀ {ops : List Op} {vs : List V} {Δ : List (CD × Option V)} {Γ : List CD} {cs : List CD}, okW W ops cs = true → slotsOk σ ops vs → cs.length = vs.length → Hs K H (cs.zip (vs.map some) ++ Δ) Γ σ' → Hs K H Δ (giveO ops cs Γ) σ'
  | [], [], Δ, Γ, [], _, _, _, h => h
  | .inl c :: r, v :: vs, Δ, Γ, c' :: cs, w, s, l, h => giveW_ok kk (ops := r) (show okW W r cs = true from w) (show slotsOk σ r vs from s) (by simpa using l) (show Hs K H (cs.zip (vs.map some) ++ Δ) Γ σ' from Hs.dropTop (c := c') (o := some v) h)
  | .inr i :: r, v :: vs, Δ, Γ, c' :: cs, w, s, l, h => by
    have w' : (isC c' || !W.contains i) = true ∧ okW W r cs = true := by
      have q : ((isC c' || !W.contains i) && okW W r cs) = true := w
      simpa using q
    show Hs K H Δ (giveO r cs (if isC c' then Γ else Γ.set i c')) σ'
    refine giveW_ok kk (ops := r) w'.2 (show slotsOk σ r vs from s.2) (by simpa using l) ?_
    have h1 : Hs K H ((c', some v) :: (cs.zip (vs.map some) ++ Δ)) Γ σ' := h
    by_cases hc : isC c' = true
    · rw [if_pos hc]; exact h1.dropTop
    · rw [if_neg hc]
      have hc' : isC c' = false := by simpa using hc
      have q : (!W.contains i) = true := by
        have q := w'.1
        rw [hc', Bool.false_or] at q
        exact q
      have hi : i ∉ W := by
        intro m
        have : W.contains i = true := by simpa using m
        rw [this] at q
        cases q
      exact h1.back ((kk.2 i hi).trans s.1)
  | [], [], _, _, _ :: _, _, _, l, _ => by cases l
  | [], _ :: _, _, _, _, _, s, _, _ => s.elim
  | .inl _ :: _, [], _, _, _, _, s, _, _ => s.elim
  | .inr _ :: _, [], _, _, _, _, s, _, _ => s.elim
  | .inl _ :: _, _ :: _, _, _, [], _, _, l, _ => by cases l
  | .inr _ :: _, _ :: _, _, _, [], _, _, l, _ => by cases l
def loopM (mg : MG) (mb : MS) : List Da → MS
  | [], Γ => some (.nx Γ)
  | d :: ds, Γ => match mg d Γ with
    | some Γ1 => (match mb Γ1 with
      | some (.nx Γ2) => loopM mg mb ds Γ2
      | some (.ct Γ2) => loopM mg mb ds Γ2
      | some (.bk Γ2) => some (.nx Γ2)
      | some (.rt c Γ2) => some (.rt c Γ2)
      | some (.ex x d Γ2) => some (.ex x d Γ2)
      | none => none)
    | none => none
@[simp] def mapOut (f : List CD → List CD) : Out → Out
  | .nx Γ => .nx (f Γ)
  | .rt c Γ => .rt c (f Γ)
  | .bk Γ => .bk (f Γ)
  | .ct Γ => .ct (f Γ)
  | .ex x d Γ => .ex x d (f Γ)
def mFor (mi : MI) (W : List Nat) (mg : MG) (mb : MS) : MS := fun Γ => match mi Γ with
  | some (items, ops, cs, Γ1) => if okW W ops cs = true then (match loopM mg mb items Γ1 with
      | some o => some (mapOut (giveO ops cs) o)
      | none => none)
    else none
  | none => none
theorem mFor_of {mi : MI} {W : List Nat} {mg : MG} {mb : MS} {Γ : List CD} {o : Out} (e : mFor mi W mg mb Γ = some o) : ∃ items ops cs Γ1 o1, mi Γ = some (items, ops, cs, Γ1) ∧ okW W ops cs = true ∧ loopM mg mb items Γ1 = some o1 ∧ o = mapOut (giveO ops cs) o1 := by
  unfold mFor at e
  match h : mi Γ, e with
  | some (items, ops, cs, Γ1), e =>
    dsimp only at e
    by_cases hw : okW W ops cs = true
    · rw [if_pos hw] at e
      cases h2 : loopM mg mb items Γ1 with
      | none => rw [h2] at e; cases e
      | some o1 => rw [h2] at e; cases e; exact ⟨items, ops, cs, Γ1, o1, rfl, hw, h2, rfl⟩
    · rw [if_neg hw] at e; cases e
theorem Hs.outHold {K : PySem.W.Frag} {H : Hp} {c : CD} {o : Option V} {hold Δ : List (CD × Option V)} {Γ : List CD} {σ : St} (h : Hs K H ((c, o) :: (hold ++ Δ)) Γ σ) : Hs K H (hold ++ ((c, o) :: Δ)) Γ σ := h.permD List.perm_middle.symm
section
variable {ι : Type} {E : Es ι} {tg iter c : Expr} {body : List Stmt} {mi : MI} {mg : MG} {mb : MS} {mt : MT} {Wg Wb : List Nat} {pos : Pos}
theorem js_for (hi : JI E.toEv tg iter mi) (hg : JG E.toEv tg mg Wg) (hb : JB E body mb Wb) (hp : ∀ i, PassesOwn (model (E.X i).prog (E.X i).w) (E.X i).A (E.X i).env (E.X i).xe := by exact fun _ => PassesOwn.never)
    (hs : ∀ env x, foldedSetIterable iter env x = pure x := by intro _ _; rfl) : JS E (.For tg iter body [] pos) (mFor mi (Wg ++ Wb) mg mb) (Wg ++ Wb) := by
  obtain ⟨wi, i1, i2⟩ := hi
  obtain ⟨g, g1, g2⟩ := hg
  obtain ⟨tb, b1, b2⟩ := hb
  refine ⟨tFor wi g tb, fun i => ps_for (hp i) (E.calm i) (i1 i) (g1 i) (b1 i) (hs _), fun Δ Γ σ H D o q hs k => ?_⟩
  obtain ⟨items, ops, cs, Γ1, o1, e1, hw, e2, rfl⟩ := mFor_of q
  refine i2 Δ Γ σ H _ items ops cs Γ1 e1 hs fun J H1 vs wd h1 s1 l1 => ?_
  refine ⟨fun i m σ' H' => m = items.length - i ∧ i ≤ items.length ∧ ∃ Γ', Hs E.K H' (cs.zip (vs.map some) ++ Δ) Γ' σ' ∧ Keep (Wg ++ Wb) σ σ' ∧ loopM mg mb (items.drop i) Γ' = some o1,
    ⟨items.length, by simp, Nat.zero_le _, Γ1, h1, .rfl', by rw [List.drop_zero]; exact e2⟩, ?_⟩
  rintro i m σ2 H2 ⟨rfl, hi, Γ2, h2, k2, e3⟩
  have hold := h2.2
  rw [List.append_assoc] at hold
  have hold := hold.app
  by_cases hlt : i < items.length
  · obtain ⟨d, hd⟩ : ∃ d, items[i]? = some d := ⟨_, List.getElem?_eq_getElem hlt⟩
    rw [List.drop_eq_getElem_cons hlt] at e3
    have hd' : items[i] = d := by rw [List.getElem?_eq_getElem hlt] at hd; exact Option.some.inj hd
    rw [hd'] at e3
    unfold loopM at e3
    refine .inr ⟨wd.goes i H2 hlt hold, fun σ3 H3 => ∃ Γ3, Hs E.K H3 (cs.zip (vs.map some) ++ Δ) Γ3 σ3 ∧ Keep (Wg ++ Wb) σ σ3 ∧ loopM mg mb (items.drop (i + 1)) Γ3 = some o1,
      fun σ3 H3 ⟨Γ3, a, b, c⟩ => ⟨items.length - (i + 1), by omega, rfl, hlt, Γ3, a, b, c⟩, fun x H3 y => ?_⟩
    obtain ⟨ext, d2, hd2, r⟩ := wd.yields i H2 x H3 hlt hold y
    rw [hd] at hd2
    cases hd2
    cases e4 : mg d Γ2 with
    | none => rw [e4] at e3; cases e3
    | some Γ4 =>
      rw [e4] at e3
      dsimp only at e3
      refine g2 _ Γ2 σ2 H3 _ x d Γ4 e4 r (h2.ext ext) fun σ4 h4 k4 => ?_
      have k5 : Keep (Wg ++ Wb) σ σ4 := ⟨k4.1.trans k2.1, fun j hj => (k4.2 j fun m => hj (List.mem_append_left _ m)).trans (k2.2 j hj)⟩
      have k6 : ∀ σ5, Keep Wb σ4 σ5 → Keep (Wg ++ Wb) σ σ5 := fun σ5 kk => ⟨kk.1.trans k5.1, fun j hj => (kk.2 j fun m => hj (List.mem_append_right _ m)).trans (k5.2 j hj)⟩
      cases e5 : mb Γ4 with
      | none => rw [e5] at e3; cases e3
      | some o2 =>
        rw [e5] at e3
        refine b2 _ Γ4 σ4 H3 _ o2 e5 h4 ?_
        cases o2 with
        | nx Γ5 => exact fun σ5 H5 h5 k7 => ⟨Γ5, h5, k6 σ5 k7, e3⟩
        | ct Γ5 => exact fun σ5 H5 h5 k7 => ⟨Γ5, h5, k6 σ5 k7, e3⟩
        | bk Γ5 =>
          cases e3
          exact fun σ5 H5 h5 k7 => k σ5 H5 (giveW_ok (k6 σ5 k7) hw s1 l1 h5) (k6 σ5 k7)
        | rt c Γ5 =>
          cases e3
          exact fun v σ5 H5 h5 k7 => k v σ5 H5 (giveW_ok (k6 σ5 k7) hw s1 l1 h5.outHold) (k6 σ5 k7)
        | ex x d Γ5 =>
          cases e3
          exact fun cls dx σ5 H5 z h5 k7 => k cls dx σ5 H5 z (giveW_ok (k6 σ5 k7) hw s1 l1 h5) (k6 σ5 k7)
  · have e : i = items.length := by omega
    subst e
    rw [List.drop_length] at e3
    cases e3
    exact .inl ⟨wd.stops H2 hold, k σ2 H2 (giveW_ok k2 hw s1 l1 h2) k2⟩

/-! ### while -/
def whM (mt : MT) (mb : MS) : Nat → MS
  | 0, _ => none
  | n + 1, Γ => match mt Γ with
    | some (true, Γ1) => (match mb Γ1 with
      | some (.nx Γ2) => whM mt mb n Γ2
      | some (.ct Γ2) => whM mt mb n Γ2
      | some (.bk Γ2) => some (.nx Γ2)
      | some (.rt c Γ2) => some (.rt c Γ2)
      | some (.ex x d Γ2) => some (.ex x d Γ2)
      | none => none)
    | some (false, Γ1) => some (.nx Γ1)
    | none => none
/-- as many turns as are ever wanted -/
def FU : Nat := 1000000
def mWh (mt : MT) (mb : MS) : MS := whM mt mb FU
theorem js_while (hc : JT E.toEv c mt) (hb : JB E body mb Wb) (hp : ∀ i, PassesOwn (model (E.X i).prog (E.X i).w) (E.X i).A (E.X i).env (E.X i).xe := by exact fun _ => PassesOwn.never) : JS E (.While c body [] pos) (mWh mt mb) Wb := by
  obtain ⟨tt, c1, c2⟩ := hc
  obtain ⟨tb, b1, b2⟩ := hb
  refine ⟨tWhile tt tb, fun i => ps_while (hp i) (c1 i) (b1 i), fun Δ Γ σ H D o q hs k => ?_⟩
  refine ⟨fun n σ' H' => ∃ Γ', Hs E.K H' Δ Γ' σ' ∧ Keep Wb σ σ' ∧ whM mt mb n Γ' = some o, ⟨FU, Γ, hs, .rfl', q⟩, ?_⟩
  rintro n σ2 H2 ⟨Γ2, h2, k2, e⟩
  cases n with
  | zero => cases e
  | succ n =>
    unfold whM at e
    cases e1 : mt Γ2 with
    | none => rw [e1] at e; cases e
    | some p =>
      obtain ⟨b, Γ3⟩ := p
      rw [e1] at e
      refine c2 Δ Γ2 σ2 H2 _ b Γ3 e1 h2 fun H3 h3 => ?_
      cases b with
      | false =>
        cases e
        exact k σ2 H3 h3 k2
      | true =>
        dsimp only at e
        refine ⟨fun σ4 H4 => ∃ Γ4, Hs E.K H4 Δ Γ4 σ4 ∧ Keep Wb σ σ4 ∧ whM mt mb n Γ4 = some o, fun σ4 H4 z => ⟨n, Nat.lt_succ_self n, z⟩, ?_⟩
        have k6 : ∀ σ5, Keep Wb σ2 σ5 → Keep Wb σ σ5 := fun σ5 kk => ⟨kk.1.trans k2.1, fun j hj => (kk.2 j hj).trans (k2.2 j hj)⟩
        cases e5 : mb Γ3 with
        | none => rw [e5] at e; cases e
        | some o2 =>
          rw [e5] at e
          refine b2 _ Γ3 σ2 H3 _ o2 e5 h3 ?_
          cases o2 with
          | nx Γ5 => exact fun σ5 H5 h5 k7 => ⟨Γ5, h5, k6 σ5 k7, e⟩
          | ct Γ5 => exact fun σ5 H5 h5 k7 => ⟨Γ5, h5, k6 σ5 k7, e⟩
          | bk Γ5 => cases e; exact fun σ5 H5 h5 k7 => k σ5 H5 h5 (k6 σ5 k7)
          | rt c Γ5 => cases e; exact fun v σ5 H5 h5 k7 => k v σ5 H5 h5 (k6 σ5 k7)
          | ex x d Γ5 => cases e; exact fun cls dx σ5 H5 z h5 k7 => k cls dx σ5 H5 z h5 (k6 σ5 k7)
end

/-! ### list comprehensions -/
/-- the blocks of a comprehension -/
def Ev.blk {ι : Type} (E : Ev ι) (scope : Scope) : Ev (ι × Shared × Hp × Addr × List (Str × Addr) × List Addr) where
  X := fun j => (E.X j.1).blk j.2.1 j.2.2.1 scope (compEnvC scope j.2.2.2.2.1 j.2.2.2.1 (E.X j.1).env) j.2.2.2.2.2
  P := E.P
  w := E.w
  K := E.K
  mg := E.mg
  base := E.base
  N := E.N
  k := E.k
  hP := fun j => E.hP j.1
  hw := fun j => E.hw j.1
  hK := fun j => E.hK j.1
  hm := fun j => E.hm j.1
  hb := fun j => E.hb j.1
  hN := fun j => E.hN j.1
  nd := E.nd
  room := fun j => E.room j.1
  calm := fun j => E.calm j.1
  gds := fun j => E.gds j.1
@[simp] def wipeC (Γ : List CD) : List Nat → List CD
  | [] => Γ
  | v :: vs => (wipeC Γ vs).set v .any
theorem Hs.toAny {K : PySem.W.Frag} {H : Hp} {Δ : List (CD × Option V)} {Γ : List CD} {σ : St} {i : Nat} (o : Option V) (h : Hs K H Δ Γ σ) : Hs K H Δ (Γ.set i .any) (σ.set i o) :=
  Hs.store (c := .any) (o := o) ⟨h.1, h.2.push rfl⟩
theorem Hs.wipe {K : PySem.W.Frag} {H : Hp} {Δ : List (CD × Option V)} {Γ : List CD} {σ : St} (h : Hs K H Δ Γ σ) : ∀ vs : List Nat, Hs K H Δ (wipeC Γ vs) (L2.wipe σ vs)
  | [] => h
  | v :: vs => (Hs.wipe h vs).toAny none
/-- back to the slots as they were: what was wiped is not told -/
theorem Hs.unwipe {K : PySem.W.Frag} {H : Hp} {Δ : List (CD × Option V)} {Γ : List CD} {σ σ' : St} : ∀ {vs : List Nat}, Hs K H Δ Γ σ' → σ'.length = σ.length → (∀ j, j ∉ vs → σ'[j]? = σ[j]?) → Hs K H Δ (wipeC Γ vs) σ := by
  intro vs h hl hk
  -- every wiped slot may hold what it held
  have key : ∀ (ws : List Nat), ∃ σ2 : St, Hs K H Δ (wipeC Γ ws) σ2 ∧ σ2.length = σ.length ∧ ∀ j, (j ∈ ws ∨ j ∉ vs) → σ2[j]? = σ[j]? := by
    intro ws
    induction ws with
    | nil => exact ⟨σ', h, hl, fun j hj => hk j (hj.elim (fun z => by cases z) id)⟩
    | cons w ws ih =>
      obtain ⟨σ2, h2, l2, k2⟩ := ih
      by_cases hw : w < σ.length
      · refine ⟨σ2.set w σ[w], h2.toAny _, by rw [List.length_set]; exact l2, fun j hj => ?_⟩
        by_cases e : w = j
        · subst e
          rw [List.getElem?_set_self (by omega), List.getElem?_eq_getElem hw]
        · rw [List.getElem?_set_ne e]
          refine k2 j (hj.elim (fun m => ?_) .inr)
          rcases List.mem_cons.mp m with z | z
          · exact absurd z.symm e
          · exact .inl z
      · refine ⟨σ2.set w none, h2.toAny _, by rw [List.length_set]; exact l2, fun j hj => ?_⟩
        by_cases e : w = j
        · subst e
          rw [List.getElem?_eq_none (by rw [List.length_set]; omega), List.getElem?_eq_none (by omega)]
        · rw [List.getElem?_set_ne e]
          refine k2 j (hj.elim (fun m => ?_) .inr)
          rcases List.mem_cons.mp m with z | z
          · exact absurd z.symm e
          · exact .inl z
  obtain ⟨σ2, h2, l2, k2⟩ := key vs
  have e : σ2 = σ := List.ext_getElem? fun j => k2 j (by by_cases m : j ∈ vs; exact .inl m; exact .inr m)
  rw [← e]
  exact h2
theorem wipe_keep (σ : St) : ∀ (vs : List Nat), (L2.wipe σ vs).length = σ.length ∧ ∀ j, j ∉ vs → (L2.wipe σ vs)[j]? = σ[j]?
  | [] => ⟨rfl, fun _ _ => rfl⟩
  | v :: vs => by
    obtain ⟨h1, h2⟩ := wipe_keep σ vs
    refine ⟨by unfold L2.wipe; rw [List.length_set]; exact h1, fun j hj => ?_⟩
    unfold L2.wipe
    rw [List.getElem?_set_ne (fun z => hj (by simp [z]))]
    exact h2 j fun m => hj (List.mem_cons_of_mem _ m)
theorem wipe_at (σ : St) : ∀ (vs : List Nat) (j : Nat), j ∈ vs → j < σ.length → (L2.wipe σ vs)[j]? = some none
  | v :: vs, j, m, hj => by
    unfold L2.wipe
    by_cases e : v = j
    · subst e
      rw [List.getElem?_set_self (by rw [(wipe_keep σ vs).1]; exact hj)]
    · rw [List.getElem?_set_ne e]
      exact wipe_at σ vs j ((List.mem_cons.mp m).resolve_left fun z => e z.symm) hj
theorem wipe_eq {σ σ' : St} {vs : List Nat} (hl : σ'.length = σ.length) (hk : ∀ j, j ∉ vs → σ'[j]? = σ[j]?) : L2.wipe σ' vs = L2.wipe σ vs := by
  refine List.ext_getElem? fun j => ?_
  by_cases m : j ∈ vs
  · by_cases hj : j < σ.length
    · rw [wipe_at σ vs j m hj, wipe_at σ' vs j m (by omega)]
    · rw [List.getElem?_eq_none (by rw [(wipe_keep σ' vs).1]; omega), List.getElem?_eq_none (by rw [(wipe_keep σ vs).1]; omega)]
  · rw [(wipe_keep σ' vs).2 j m, (wipe_keep σ vs).2 j m, hk j m]
def lcM (own : List Nat) (mg : MG) (mt : MT) (me : ME) : List Da → List Da → List CD → Option (List Da × List CD)
  | [], acc, Γ => some (acc, Γ)
  | d :: ds, acc, Γ => match mg d Γ with
    | some Γ1 => (match mt Γ1 with
      | some (true, Γ2) => (match me Γ2 with
        | some (.dat y, Γ3) => if acc.length < sizeLine then lcM own mg mt me ds (acc ++ [y]) (wipeC Γ3 own) else none
        | _ => none)
      | some (false, Γ2) => lcM own mg mt me ds acc (wipeC Γ2 own)
      | none => none)
    | none => none
def mLc (own : List Nat) (mi : MI) (mg : MG) (mt : MT) (me : ME) : ME := fun Γ => match mi Γ with
  | some (items, ops, cs, Γ1) => (match lcM own mg mt me items [] (wipeC Γ1 own) with
    | some (acc, Γ2) => some (.lst acc, giveO ops cs (wipeC Γ2 own))
    | none => none)
  | none => none
theorem mLc_of {own : List Nat} {mi : MI} {mg : MG} {mt : MT} {me : ME} {Γ : List CD} {c : CD} {Γ' : List CD} (e : mLc own mi mg mt me Γ = some (c, Γ')) : ∃ items ops cs Γ1 acc Γ2, mi Γ = some (items, ops, cs, Γ1) ∧ lcM own mg mt me items [] (wipeC Γ1 own) = some (acc, Γ2) ∧ c = .lst acc ∧ Γ' = giveO ops cs (wipeC Γ2 own) := by
  unfold mLc at e
  match h : mi Γ, e with
  | some (items, ops, cs, Γ1), e =>
    dsimp only at e
    cases h2 : lcM own mg mt me items [] (wipeC Γ1 own) with
    | none => rw [h2] at e; cases e
    | some p => rw [h2] at e; cases e; exact ⟨items, ops, cs, Γ1, _, _, rfl, h2, rfl, rfl⟩
def mYes : MT := fun Γ => some (true, Γ)
theorem st_yes {K : PySem.W.Frag} : ST K tYes mYes := fun Δ Γ σ H Q b Γ' e hs k => by cases e; exact k H hs
theorem lc_ok {K : PySem.W.Frag} {wi : TI} {g : TG} {tt : TT} {te : TE} {own : List Nat} {mi : MI} {mg : MG} {mt : MT} {me : ME} {Wg : List Nat} (hi : SI K wi mi) (hg : SG K g mg Wg) (ht : ST K tt mt) (he : SE K te me) (hw : ∀ j ∈ Wg, j ∈ own) : SE K (tLc wi g tt te own) (mLc own mi mg mt me) := by
  intro Δ Γ σ H Q c Γ' q hs k
  obtain ⟨items, ops, cs, Γ1, acc, Γ2, e1, e2, rfl, rfl⟩ := mLc_of q
  refine hi Δ Γ σ H _ items ops cs Γ1 e1 hs fun J H1 vs wd h1 s1 l1 D hD => ?_
  have hnew : Hs K (upd H1 D (.lst [])) ((.lst [], some (.ref D)) :: (cs.zip (vs.map some) ++ Δ)) Γ1 σ := ⟨h1.1, h1.2.newL hD .nil⟩
  refine ⟨fun i m H' => m = items.length - i ∧ i ≤ items.length ∧ ∃ ac Γ3, Hs K H' ((.lst ac, some (.ref D)) :: (cs.zip (vs.map some) ++ Δ)) Γ3 (L2.wipe σ own) ∧ lcM own mg mt me (items.drop i) ac Γ3 = some (acc, Γ2),
    ⟨items.length, by simp, Nat.zero_le _, [], wipeC Γ1 own, hnew.wipe own, by rw [List.drop_zero]; exact e2⟩, ?_⟩
  rintro i m H2 ⟨rfl, hi2, ac, Γ3, h2, e3⟩
  have hold : HP K H2 (cs.zip (vs.map some)) := by
    have z := h2.2
    have z' : HP K H2 ((.lst ac, some (.ref D)) :: (cs.zip (vs.map some) ++ (Δ ++ Γ3.zip (L2.wipe σ own)))) := by
      rw [← List.append_assoc]; exact z
    exact z'.drop.app
  by_cases hlt : i < items.length
  · obtain ⟨d, hd⟩ : ∃ d, items[i]? = some d := ⟨_, List.getElem?_eq_getElem hlt⟩
    rw [List.drop_eq_getElem_cons hlt] at e3
    have hd' : items[i] = d := by rw [List.getElem?_eq_getElem hlt] at hd; exact Option.some.inj hd
    rw [hd'] at e3
    unfold lcM at e3
    refine .inr ⟨wd.goes i H2 hlt hold, fun H3 => ∃ ac Γ3, Hs K H3 ((.lst ac, some (.ref D)) :: (cs.zip (vs.map some) ++ Δ)) Γ3 (L2.wipe σ own) ∧ lcM own mg mt me (items.drop (i + 1)) ac Γ3 = some (acc, Γ2),
      fun H3 ⟨a, b, c1, c2⟩ => ⟨items.length - (i + 1), by omega, rfl, hlt, a, b, c1, c2⟩, fun x H3 y => ?_⟩
    obtain ⟨ext, d2, hd2, r⟩ := wd.yields i H2 x H3 hlt hold y
    rw [hd] at hd2
    cases hd2
    cases e4 : mg d Γ3 with
    | none => rw [e4] at e3; cases e3
    | some Γ4 =>
      rw [e4] at e3
      dsimp only at e3
      refine hg _ Γ3 _ H3 _ x d Γ4 e4 r (h2.ext ext) fun σ4 h4 k4 => ?_
      have kw : L2.wipe σ4 own = L2.wipe σ own := by
        have w1 := wipe_keep σ own
        exact wipe_eq (by rw [k4.1, w1.1]) fun j hj => (k4.2 j fun m => hj (hw j m)).trans (w1.2 j hj)
      refine ⟨kw, ?_⟩
      cases e5 : mt Γ4 with
      | none => rw [e5] at e3; cases e3
      | some p =>
        obtain ⟨b, Γ5⟩ := p
        rw [e5] at e3
        refine ht _ Γ4 σ4 H3 _ b Γ5 e5 h4 fun H5 h5 => ?_
        cases b with
        | false =>
          have z := h5.wipe own
          rw [kw] at z
          exact ⟨ac, _, z, e3⟩
        | true =>
          dsimp only at e3
          match e6 : me Γ5, e3 with
          | some (.dat y2, Γ6), e3 =>
            dsimp only at e3
            by_cases hz : ac.length < sizeLine
            · rw [if_pos hz] at e3
              refine he _ Γ5 σ4 H5 _ (.dat y2) Γ6 e6 h5 fun v H6 h6 => ?_
              obtain ⟨v', ev, rv⟩ := h6.2.dat
              cases ev
              have h7 := h6.dropTop
              obtain ⟨p, us, ep, hp, dz⟩ := h7.2.lst
              cases ep
              refine ⟨us, hp, by rw [dz.length]; exact hz, ac ++ [y2], wipeC Γ6 own, ?_, e3⟩
              have h8 : Hs K (upd H6 D (.lst (us ++ [v]))) ((.lst (ac ++ [y2]), some (.ref D)) :: (cs.zip (vs.map some) ++ Δ)) Γ6 σ4 := ⟨h7.1, HP.updL h7.2 hp (dz.append (.cons rv .nil))⟩
              have z := h8.wipe own
              rw [kw] at z
              exact z
            · rw [if_neg hz] at e3; cases e3
  · have e : i = items.length := by omega
    subst e
    rw [List.drop_length] at e3
    cases e3
    refine .inl ⟨wd.stops H2 hold, k _ H2 ?_⟩
    have w1 := wipe_keep σ own
    have h9 := Hs.unwipe (σ := σ) h2 w1.1 w1.2
    exact giveO_ok s1 l1 h9.outHold
section
variable {ι : Type} {E : Ev ι} {S : Es ι} {elt tg iter : Expr} {ifs : List Expr} {scope : Scope} {own : List (Str × Nat)} {pos spos py : Pos} {mi : MI} {mg : MG} {mt : MT} {me : ME} {Wg : List Nat} {y : Str}
/-- the tests of a comprehension -/
def JTs {ι : Type} (E : Ev ι) (es : List Expr) (m : MT) : Prop := ∃ te, (∀ i, PTs (E.X i) es te) ∧ ST E.K te m
theorem jts_nil : JTs E [] mYes := ⟨tYes, fun _ => pts_nil, st_yes⟩
theorem jts_one {c : Expr} (h : JT E c mt) : JTs E [c] mt := let ⟨t, h1, h2⟩ := h; ⟨t, fun i => pts_one (h1 i), h2⟩
theorem je_lc (hi : JI E tg iter mi) (ok : ∀ i, BlkOk E.N (E.X i).env.scope scope own) (hg : JG (E.blk scope) tg mg Wg) (ht : JTs (E.blk scope) ifs mt) (he : JE (E.blk scope) elt me) (hw : ∀ j ∈ Wg, j ∈ own.map (·.2))
    (hs : ∀ env x, foldedSetIterable iter env x = pure x := by intro _ _; rfl) : JE E (.ListComp elt [⟨tg, iter, ifs, 0⟩] scope pos) (mLc (own.map (·.2)) mi mg mt me) := by
  obtain ⟨wi, i1, i2⟩ := hi
  obtain ⟨g, g1, g2⟩ := hg
  obtain ⟨tt, t1, t2⟩ := ht
  obtain ⟨te, a1, a2⟩ := he
  refine ⟨tLc wi g tt te (own.map (·.2)), fun i => ?_, lc_ok i2 g2 t2 a2 hw⟩
  exact pe_lc (E.calm i) (by rw [E.hN]; exact E.nd) (i1 i) (by rw [E.hN]; exact ok i) (fun s H C cl fp => g1 (i, s, H, C, cl, fp)) (fun s H C cl fp => t1 (i, s, H, C, cl, fp)) (fun s H C cl fp => a1 (i, s, H, C, cl, fp)) (hs _)
/-- name = [..], the name a plain local -/
theorem js_setLc (i : Nat) (hi : JI S.toEv tg iter mi) (ok : ∀ i, BlkOk S.N (S.X i).env.scope scope own) (hg : JG (S.toEv.blk scope) tg mg Wg) (ht : JTs (S.toEv.blk scope) ifs mt) (he : JE (S.toEv.blk scope) elt me) (hw : ∀ j ∈ Wg, j ∈ own.map (·.2))
    (hN : S.N[i]? = some y := by rfl) (hyl : ∀ j, (S.X j).env.scope.names.lookup y = some .local := by intro _; rfl) (hk : ∀ j, (S.X j).env.scope.kind = .function := by intro _; rfl) (hl : (py.line == pos.line) = true := by rfl)
    (ha : (scope.names.any fun (n, k) => n == y && (k == .local || k == .cell)) = false := by decide +kernel)
    (hs : ∀ env x, foldedSetIterable iter env x = pure x := by intro _ _; rfl) : JS S (.Assign [.Name y py] (.ListComp elt [⟨tg, iter, ifs, 0⟩] scope pos) spos) (mAsg i (mLc (own.map (·.2)) mi mg mt me)) [i] := by
  obtain ⟨wi, i1, i2⟩ := hi
  obtain ⟨g, g1, g2⟩ := hg
  obtain ⟨tt, t1, t2⟩ := ht
  obtain ⟨te, a1, a2⟩ := he
  refine ⟨tAsg (tLc wi g tt te (own.map (·.2))) (gName i), fun j => ?_, fun Δ Γ σ H D o q hs k => ?_⟩
  · exact ps_setLc (S.calm j) (by rw [S.hN]; exact S.nd) (by rw [S.hN]; exact hN) (hyl j) (sw_true (hk j) (hyl j) hl ha) (i1 j) (by rw [S.hN]; exact ok j) (fun s H C cl fp => g1 (j, s, H, C, cl, fp)) (fun s H C cl fp => t1 (j, s, H, C, cl, fp)) (fun s H C cl fp => a1 (j, s, H, C, cl, fp)) (hs _)
  · unfold mAsg at q
    cases e1 : mLc (own.map (·.2)) mi mg mt me Γ with
    | none => rw [e1] at q; cases q
    | some p =>
      obtain ⟨c, Γ'⟩ := p
      rw [e1] at q
      cases q
      exact lc_ok i2 g2 t2 a2 hw Δ Γ σ H _ c Γ' e1 hs fun v H' h' => k _ H' h'.store (Keep.set (W := []) .rfl')
end
end JJ
/-! J6: defs by their mirrors. -/
namespace JJ
open PySem L2
open PyProof.Rows (envOfC)

/-- a def's promise where no repr is under way -/
structure FnG (P : Program) (w : World) (K : PySem.W.Frag) (mg : Str → Option Value) (base : Heap) (k : Nat) (f : Addr) (fd : FuncData) (ps : List Str) (sp : Sp) : Prop where
  len : ∀ vs H Q E, sp vs H Q E → vs.length = ps.length
  run : ∀ (A : Around) (outer : List Env) (s : Shared) (H : Hp) (args : Args) (us : List Value) (vs : List V) (Q : VK) (E : XK), A.guards = some [] → Room k A → Env0 P w K mg base A outer s H → BindsTo s fd args (ps.zip us) → Vals vs us → sp vs H Q E →
    codeAny (model P w) A (.call (.ref f) args) (L2.CR (L2.CX P w) outer P w H s Q E) s
theorem FnG.mono {P : Program} {w : World} {K : PySem.W.Frag} {mg : Str → Option Value} {base : Heap} {j k : Nat} {f : Addr} {fd : FuncData} {ps : List Str} {sp : Sp} (F : FnG P w K mg base j f fd ps sp) (h : j ≤ k) : FnG P w K mg base k f fd ps sp :=
  ⟨F.len, fun A outer s H args us vs Q E g hr => F.run A outer s H args us vs Q E g (hr.mono h)⟩
theorem FnG.imp {P : Program} {w : World} {K : PySem.W.Frag} {mg : Str → Option Value} {base : Heap} {k : Nat} {f : Addr} {fd : FuncData} {ps : List Str} {sp sp' : Sp} (F : FnG P w K mg base k f fd ps sp) (h : ∀ vs H Q E, sp' vs H Q E → sp vs H Q E) : FnG P w K mg base k f fd ps sp' :=
  ⟨fun vs H Q E q => F.len vs H Q E (h _ _ _ _ q), fun A outer s H args us vs Q E g hr he hb hv q => F.run A outer s H args us vs Q E g hr he hb hv (h _ _ _ _ q)⟩
/-- a def by its body -/
theorem fnG_of {P : Program} {w : World} {K : PySem.W.Frag} {mg : Str → Option Value} {base : Heap} {k : Nat} {f : Addr} {x qual : Str} {st : Stmt} {fd : FuncData} {N ps : List Str} {sp : Sp} (F : Fun K x qual st f fd) (S : FnScope N ps (defScope st)) (len : ∀ vs H Q E, sp vs H Q E → vs.length = ps.length)
    (body : ∀ (cdv : Value) (A : Around) (outer : List Env) (s : Shared) (H : Hp) (vs : List V) (Q : VK) (E : XK), A.guards = some [] → Room k (A.deeper (envOfC qual (defScope st) s.heap.objs.size f cdv)) → sp vs H Q E →
      ∃ t, PSs (cxOf (L2.CX P w) P w K mg base N qual (defScope st) f cdv A outer s H E) (defBody st) t ∧ t { nx := fun _ H' => Q .non H', rt := Q } (L2.start N vs) H) : FnG P w K mg base (k + 1) f fd ps sp := by
  obtain ⟨oc, od, kV, doc, pm, an, cdv, ct, osl, rfl, lk, hcd⟩ := F.ex
  refine ⟨len, fun A outer s H args us vs Q E hg hr e0 hb r hsp => ?_⟩
  -- the same promise, but of this one way to be called: the layer's own rule over a promise that tells nothing else
  have KX : K.In s.heap := e0.mod.kin.keeps fun b o e => (e0.bs b o e).1
  have lim : s.heap.NoLimit := e0.mod.nolimit.keeps fun b o e => (e0.bs b o e).1
  have hl := len _ _ _ _ hsp
  have kinds : ∀ y ∈ ps.zip us, (defScope st).names.lookup y.1 = some .local ∨ ((defScope st).names.lookup y.1 = some .cell ∧ ((cellsFrom (s.heap.objs.size + 1) (defScope st).names []).lookup y.1).isSome = true) := by
    rintro ⟨n, v⟩ hy
    have hn : n ∈ ps := (List.of_mem_zip hy).1
    cases S.par n hn with
    | inl q => exact Or.inl q
    | inr q => exact Or.inr ⟨q, PySem.W.cellsFrom_some _ _ _ (Or.inl q)⟩
  apply codeAny_call_function hr.depth (KX _ _ lk) rfl S.co S.gen rfl (PySem.W.codeRec_of KX hcd)
  apply hb
  apply wpAny_newFunctionEnv_cells S.kind kinds
  intro env he s1 x
  subst he
  refine ⟨lim.keeps x.toInCall.keep, codeAny_func ?_⟩
  obtain ⟨t, ht, hq⟩ := body cdv A outer s H vs Q E hg (hr.deeper _) hsp
  have I := inv_start (CX := L2.CX P w) (E := E) (P := P) (w := w) (K := K) (mg := mg) (base := base) (qual := qual) (f := f) (cd := cdv) S hr.hd e0 hl r x
  have fin : ∀ {σ' : St} {H' : Hp} {v : V} {u : Value} {s' : Shared}, Inv (cxOf (L2.CX P w) P w K mg base N qual (defScope st) f cdv A outer s H E) [] σ' H' s' → RelV v u → Q v H' → CE outer P w H s Q u s' := by
    intro σ' H' v u s' J rv q
    exact ⟨v, H', J.os, J.bare, J.base, J.hok, rv, q⟩
  refine wpAny_mono (ht.run [] s1 (L2.start N vs) H _ I hq) (fun fl s' hs => ?_) (fun e s' hs => hs)
  match fl, hs with
  | .ret u, hs =>
    obtain ⟨v, σ', H', J, rv, q⟩ := hs
    exact fin J rv q
  | .next, hs =>
    obtain ⟨σ', H', J, q⟩ := hs
    exact fin (v := V.non) (u := Value.none) J rfl q
  | .brk, hs => exact (let ⟨_, _, _, q⟩ := hs; False.elim q)
  | .cont, hs => exact (let ⟨_, _, _, q⟩ := hs; False.elim q)

/-! ### a def's mirror out of its body's -/
@[simp] def okP (W : List Nat) : Nat → List CD → Bool
  | _, [] => true
  | j, c :: cs => (isC c || !W.contains j) && okP W (j + 1) cs
@[simp] def post : List CD → List CD → List CD
  | c :: cs, g :: Γ => (if isC c then c else g) :: post cs Γ
  | _, _ => []
inductive Res where
  | ok (c : CD)
  | ex (x : Str) (d : Da)
/-- n parameters, N names; W: what the body stores -/
def mFnX (n N : Nat) (W : List Nat) (mb : MS) (cs : List CD) : Option (Res × List CD) :=
  if cs.length = n ∧ okP W 0 cs = true then (match mb (cs ++ List.replicate (N - n) .any) with
    | some (.rt c Γ) => some (.ok c, post cs Γ)
    | some (.nx Γ) => some (.ok (.dat .none), post cs Γ)
    | some (.ex x d Γ) => some (.ex x d, post cs Γ)
    | _ => none)
  else none
def okOnly (f : List CD → Option (Res × List CD)) : MF := fun cs => match f cs with
  | some (.ok c, cs') => some (c, cs')
  | _ => none
def mFn (n N : Nat) (W : List Nat) (mb : MS) : MF := okOnly (mFnX n N W mb)
/-- the promise of a mirror -/
def spX (n : Nat) (K : PySem.W.Frag) (mg : Str → Option Value) (f : List CD → Option (Res × List CD)) : Sp := fun vs H Q E => ∃ (cs : List CD) (r : Res) (cs' : List CD) (ps : List (CD × Option V)),
  f cs = some (r, cs') ∧ cs.length = n ∧ cs.length = vs.length ∧ HP K H (cs.zip (vs.map some) ++ ps) ∧ (match r with
    | .ok c => ∀ v H', HP K H' ((c, some v) :: (cs'.zip (vs.map some) ++ ps)) → cs'.length = vs.length → Q v H'
    | .ex x d => ∀ cls dx H', ExcAt K mg H' x d cls dx → HP K H' (cs'.zip (vs.map some) ++ ps) → cs'.length = vs.length → E cls dx H')
def spM (n : Nat) (K : PySem.W.Frag) (f : MF) : Sp := fun vs H Q _ => ∃ (cs : List CD) (c : CD) (cs' : List CD) (ps : List (CD × Option V)),
  f cs = some (c, cs') ∧ cs.length = n ∧ cs.length = vs.length ∧ HP K H (cs.zip (vs.map some) ++ ps) ∧ ∀ v H', HP K H' ((c, some v) :: (cs'.zip (vs.map some) ++ ps)) → cs'.length = vs.length → Q v H'
theorem spM_spX {n : Nat} {K : PySem.W.Frag} {mg : Str → Option Value} {f : List CD → Option (Res × List CD)} {vs : List V} {H : Hp} {Q : VK} {E : XK} (h : spM n K (okOnly f) vs H Q E) : spX n K mg f vs H Q E := by
  obtain ⟨cs, c, cs', ps, e, h1, h2, h3, h4⟩ := h
  unfold okOnly at e
  match q : f cs, e with
  | some (.ok c, cs'), e => cases e; exact ⟨cs, .ok _, _, ps, q, h1, h2, h3, h4⟩

def copies : List CD → List V → List (CD × Option V)
  | c :: cs, v :: vs => if isC c then (c, some v) :: copies cs vs else copies cs vs
  | _, _ => []
def okS : List CD → List V → St → Prop
  | c :: cs, v :: vs, s :: σ => (isC c = false → s = some v) ∧ okS cs vs σ
  | [], _, _ => True
  | _, _, _ => False
section
variable {K : PySem.W.Frag} {H : Hp}
theorem HP.appR {ps qs : List (CD × Option V)} (h : HP K H (ps ++ qs)) : HP K H qs := by
  induction ps with
  | nil => exact h
  | cons p r ih => exact ih h.drop
theorem copies_ok : ∀ {cs : List CD} {vs : List V} {ps : List (CD × Option V)}, HP K H (cs.zip (vs.map some) ++ ps) → HP K H (copies cs vs ++ (cs.zip (vs.map some) ++ ps))
  | [], _, _, h => h
  | _ :: _, [], _, h => h
  | c :: cs, v :: vs, ps, h => by
    have h0 : HP K H ((c, some v) :: (cs.zip (vs.map some) ++ ps)) := h
    have h1 : HP K H (cs.zip (vs.map some) ++ ((c, some v) :: ps)) := h0.perm List.perm_middle.symm
    have h2 := copies_ok h1
    have p1 : (copies cs vs ++ (cs.zip (vs.map some) ++ ((c, some v) :: ps))).Perm ((c, some v) :: (copies cs vs ++ (cs.zip (vs.map some) ++ ps))) := by
      rw [← List.append_assoc, ← List.append_assoc]; exact List.perm_middle
    have h3 := h2.perm p1
    show HP K H ((if isC c then (c, some v) :: copies cs vs else copies cs vs) ++ ((c, some v) :: (cs.zip (vs.map some) ++ ps)))
    by_cases hc : isC c = true
    · rw [if_pos hc]
      obtain ⟨F, r, _⟩ := h3.top
      have h4 := h3.copyC r hc
      exact h4.perm (.cons _ (List.perm_middle.symm))
    · rw [if_neg hc]
      exact h3.perm List.perm_middle.symm
theorem post_ok : ∀ {cs : List CD} {vs : List V} {Γ : List CD} {σ : St} {ps : List (CD × Option V)}, okS cs vs σ → Γ.length = σ.length → cs.length = vs.length → HP K H (copies cs vs ++ (Γ.zip σ ++ ps)) → HP K H ((post cs Γ).zip (vs.map some) ++ ps) ∧ (post cs Γ).length = vs.length
  | [], [], Γ, σ, ps, _, _, _, h => ⟨(show HP K H (Γ.zip σ ++ ps) from h).appR, rfl⟩
  | c :: cs, v :: vs, g :: Γ, s :: σ, ps, o, l, l2, h => by
    have h0 : HP K H ((if isC c then (c, some v) :: copies cs vs else copies cs vs) ++ ((g, s) :: (Γ.zip σ ++ ps))) := h
    by_cases hc : isC c = true
    · rw [if_pos hc] at h0
      have h1 : HP K H ((c, some v) :: (copies cs vs ++ (Γ.zip σ ++ ps))) := (h0.perm (.cons _ List.perm_middle)).swap.drop
      have h2 : HP K H (copies cs vs ++ (Γ.zip σ ++ ((c, some v) :: ps))) := h1.perm (by
        rw [← List.append_assoc, ← List.append_assoc]; exact List.perm_middle.symm)
      obtain ⟨a, b⟩ := post_ok (cs := cs) o.2 (by simpa using l) (by simpa using l2) h2
      refine ⟨?_, by unfold post; simp [b]⟩
      unfold post
      rw [if_pos hc]
      exact a.perm List.perm_middle
    · have hc' : isC c = false := by simpa using hc
      rw [if_neg hc] at h0
      have e := o.1 hc'
      subst e
      have h2 : HP K H (copies cs vs ++ (Γ.zip σ ++ ((g, some v) :: ps))) := (h0.perm List.perm_middle).perm (by
        rw [← List.append_assoc, ← List.append_assoc]; exact List.perm_middle.symm)
      obtain ⟨a, b⟩ := post_ok (cs := cs) o.2 (by simpa using l) (by simpa using l2) h2
      refine ⟨?_, by unfold post; simp [b]⟩
      unfold post
      rw [if_neg hc]
      exact a.perm List.perm_middle
  | [], _ :: _, _, _, _, _, _, l2, _ => by cases l2
  | _ :: _, [], _, _, _, _, _, l2, _ => by cases l2
  | _ :: _, _ :: _, [], _ :: _, _, _, l, _, _ => by cases l
  | _ :: _, _ :: _, _ :: _, [], _, _, l, _, _ => by cases l
  | _ :: _, _ :: _, [], [], _, o, _, _, _ => o.elim
theorem okS_of {W : List Nat} : ∀ {cs : List CD} {vs : List V} {σ : St} {j : Nat}, okP W j cs = true → cs.length = vs.length → cs.length ≤ σ.length → (∀ i v, i + j ∉ W → vs[i]? = some v → σ[i]? = some (some v)) → okS cs vs σ
  | [], _, _, _, _, _, _, _ => True.intro
  | c :: cs, v :: vs, s :: σ, j, o, l, l2, k => by
    have o' : (isC c || !W.contains j) = true ∧ okP W (j + 1) cs = true := by
      have q : ((isC c || !W.contains j) && okP W (j + 1) cs) = true := o
      simpa using q
    refine ⟨fun hc => ?_, okS_of o'.2 (by simpa using l) (by simpa using l2) fun i v hi e => ?_⟩
    · have q := o'.1
      rw [hc, Bool.false_or] at q
      have hj : 0 + j ∉ W := by
        rw [Nat.zero_add]
        intro m
        have : W.contains j = true := by simpa using m
        rw [this] at q
        cases q
      have z := k 0 v hj rfl
      simpa using z
    · have z := k (i + 1) v (by rw [show i + 1 + j = i + (j + 1) by omega]; exact hi) (by simpa using e)
      simpa using z
  | _ :: _, [], _, _, _, l, _, _ => by cases l
  | _ :: _, _ :: _, [], _, _, _, l2, _ => by simp at l2
theorem any_pairs : ∀ (n : Nat) {ps : List (CD × Option V)}, HP K H ps → HP K H ((List.replicate n CD.any).zip (List.replicate n (none : Option V)) ++ ps)
  | 0, _, h => h
  | n + 1, _, h => (any_pairs n h).push rfl
end
/-- from the mirror of a body to the reading's start -/
theorem start_ok {K : PySem.W.Frag} {H : Hp} {N : List Str} {cs : List CD} {vs : List V} {ps : List (CD × Option V)} (l : cs.length = vs.length) (lN : cs.length ≤ N.length) (h : HP K H (cs.zip (vs.map some) ++ ps)) :
    Hs K H (copies cs vs ++ ps) (cs ++ List.replicate (N.length - cs.length) .any) (L2.start N vs) := by
  unfold L2.start
  refine ⟨by simp [l], ?_⟩
  rw [← l, List.zip_append (by simp [l])]
  have h1 := copies_ok h
  have h2 := any_pairs (N.length - cs.length) h1
  refine h2.perm ?_
  generalize (List.replicate (N.length - cs.length) CD.any).zip (List.replicate (N.length - cs.length) (none : Option V)) = R
  generalize copies cs vs = C
  generalize cs.zip (vs.map some) = Z
  -- R ++ (C ++ (Z ++ ps)) ~ (C ++ ps) ++ (Z ++ R)
  have e1 : (R ++ (C ++ (Z ++ ps))).Perm ((C ++ (Z ++ ps)) ++ R) := List.perm_append_comm
  refine e1.trans ?_
  rw [List.append_assoc, List.append_assoc, List.append_assoc]
  refine List.Perm.append_left C ?_
  rw [← List.append_assoc, ← List.append_assoc]
  exact List.perm_append_comm.append_right R

theorem start_get {N : List Str} {vs : List V} {i : Nat} {v : V} (e : vs[i]? = some v) : (L2.start N vs)[i]? = some (some v) := by
  unfold L2.start
  have hi : i < vs.length := (List.getElem?_eq_some_iff.mp e).1
  rw [List.getElem?_append_left (by simpa using hi), List.getElem?_map, e]
  rfl
/-- THE RULE for a def: its body's mirror -/
theorem fn_mirror {P : Program} {w : World} {K : PySem.W.Frag} {mg : Str → Option Value} {base : Heap} {k : Nat} {f : Addr} {x qual : Str} {st : Stmt} {fd : FuncData} {N ps : List Str} {W : List Nat} {mb : MS} (F : Fun K x qual st f fd) (S : FnScope N ps (defScope st)) (hl : ps.length ≤ N.length)
    (body : ∀ (cdv : Value) (A : Around) (outer : List Env) (s : Shared) (H : Hp) (E : XK), A.guards = some [] → Room k (A.deeper (envOfC qual (defScope st) s.heap.objs.size f cdv)) →
      ∃ ts, PSs (cxOf (L2.CX P w) P w K mg base N qual (defScope st) f cdv A outer s H E) (defBody st) ts ∧ SS ⟨K, mg, fun cls d _ H' => E cls d H'⟩ ts mb W) : FnG P w K mg base (k + 1) f fd ps (spX ps.length K mg (mFnX ps.length N.length W mb)) := by
  refine fnG_of F S (fun vs H Q E h => ?_) fun cdv A outer s H vs Q E hg hr h => ?_
  · obtain ⟨cs, r, cs', qs, _, h1, h2, _⟩ := h
    rw [← h2]; exact h1
  · obtain ⟨cs, r, cs', qs, e, h1, h2, h3, h4⟩ := h
    obtain ⟨ts, t1, t2⟩ := body cdv A outer s H E hg hr
    refine ⟨ts, t1, ?_⟩
    unfold mFnX at e
    by_cases hc : cs.length = ps.length ∧ okP W 0 cs = true
    · rw [if_pos hc] at e
      have hs := start_ok (N := N) h2 (by rw [h1]; exact hl) h3
      rw [h1] at hs
      -- behind the body the arguments' cells are told again
      have back : ∀ {Γ : List CD} {σ : St} {H' : Hp} {Δ : List (CD × Option V)}, Hs K H' (Δ ++ (copies cs vs ++ qs)) Γ σ → Keep W (L2.start N vs) σ → HP K H' (Δ ++ ((post cs Γ).zip (vs.map some) ++ qs)) ∧ (post cs Γ).length = vs.length := by
        intro Γ σ H' Δ hh kk
        have o : okS cs vs σ := okS_of hc.2 h2 (by
            rw [kk.1]; unfold L2.start; simp; omega) fun i v hi ev => (kk.2 i (by simpa using hi)).trans (start_get ev)
        have p1 : ((Δ ++ (copies cs vs ++ qs)) ++ Γ.zip σ).Perm (copies cs vs ++ (Γ.zip σ ++ (Δ ++ qs))) := by
          have a1 : ((Δ ++ (copies cs vs ++ qs)) ++ Γ.zip σ).Perm ((copies cs vs ++ (Δ ++ qs)) ++ Γ.zip σ) := by
            refine List.Perm.append_right _ ?_
            rw [← List.append_assoc, ← List.append_assoc]
            exact List.perm_append_comm.append_right qs
          refine a1.trans ?_
          rw [List.append_assoc]
          exact List.Perm.append_left _ List.perm_append_comm
        obtain ⟨a, b⟩ := post_ok o hh.1 h2 (hh.2.perm p1)
        refine ⟨a.perm ?_, b⟩
        rw [← List.append_assoc, ← List.append_assoc]
        exact List.perm_append_comm.append_right qs
      cases e1 : mb (cs ++ List.replicate (N.length - ps.length) .any) with
      | none => rw [e1] at e; cases e
      | some o =>
        rw [e1] at e
        refine t2 _ _ _ H _ o e1 hs ?_
        cases o with
        | rt c Γ =>
          cases e
          intro v σ H' hh kk
          obtain ⟨a, b⟩ := back (Δ := [(c, some v)]) hh kk
          exact h4 v H' a b
        | nx Γ =>
          cases e
          intro σ H' hh kk
          obtain ⟨a, b⟩ := back (Δ := []) hh kk
          exact h4 .non H' (HP.push a ⟨rfl, _, rfl, .non⟩) b
        | ex x d Γ =>
          cases e
          intro cls dx σ H' z hh kk
          obtain ⟨a, b⟩ := back (Δ := []) hh kk
          exact h4 cls dx H' z a b
        | bk Γ => cases e
        | ct Γ => cases e
    · rw [if_neg hc] at e; cases e

/-! ### calls -/
/-- a def of the module, by its mirror -/
def Cl (P : Program) (w : World) (K : PySem.W.Frag) (mg : Str → Option Value) (base : Heap) (x : Str) (n j : Nat) (f : MF) : Prop :=
  ∃ (a : Addr) (fd : FuncData) (ps : List Str), FnG P w K mg base j a fd ps (spM n K f) ∧ mg x = some (.ref a) ∧ PySem.W.keepIn K (.ref a) = true ∧ Binds K fd ps []
def ClX (P : Program) (w : World) (K : PySem.W.Frag) (mg : Str → Option Value) (base : Heap) (x : Str) (n j : Nat) (f : List CD → Option (Res × List CD)) : Prop :=
  ∃ (a : Addr) (fd : FuncData) (ps : List Str), FnG P w K mg base j a fd ps (spX n K mg f) ∧ mg x = some (.ref a) ∧ PySem.W.keepIn K (.ref a) = true ∧ Binds K fd ps []
theorem ClX.cl {P : Program} {w : World} {K : PySem.W.Frag} {mg : Str → Option Value} {base : Heap} {x : Str} {n j : Nat} {f : List CD → Option (Res × List CD)} (h : ClX P w K mg base x n j f) : Cl P w K mg base x n j (okOnly f) :=
  let ⟨a, fd, ps, F, h1, h2, h3⟩ := h; ⟨a, fd, ps, F.imp fun _ _ _ _ q => spM_spX q, h1, h2, h3⟩
theorem runG {X : Cx} {k : Nat} {f : Addr} {fd : FuncData} {ps : List Str} {sp : Sp} {E : XK} {pins : List (Addr × Obj)} {σ : St} {H : Hp} {s : Shared} {Q : VK} {us : List Value} {vs : List V} (F : FnG X.prog X.w X.K X.mg X.base k f fd ps sp) (hg : X.A.guards = some []) (hr : Room k X.A) (hb : Binds X.K fd ps [])
    (hx : Passes (L2.CX X.prog X.w) X E) (I : Inv X pins σ H s) (r : Vals vs us) (h : sp vs H Q E) : wpAny (model X.prog X.w) X.A (call (.ref f) us) (EP X pins σ Q) X.xe s := by
  have hl : (us ++ []).length = ps.length := by rw [List.append_nil, ← r.length]; exact F.len _ _ _ _ h
  have hb' := hb s us I.kIn hl
  rw [List.append_nil] at hb'
  apply wpAny_call
  refine codeAny_mono (F.run X.A X.stack s H ⟨us, []⟩ us vs Q E hg hr I.env0 hb' r h) fun r s' hq => ?_
  match r, hq with
  | .error e, hq => exact hx pins σ H s e s' I hq
  | .ok (.ret u), hq => exact I.after hq
  | .ok .next, hq => exact False.elim hq
  | .ok .brk, hq => exact False.elim hq
  | .ok .cont, hq => exact False.elim hq
theorem pe_callG {X : Cx} {k : Nat} {f : Addr} {fd : FuncData} {ps : List Str} {sp : Sp} {E : XK} {x : Str} {p pos : Pos} {e : Expr} {es : List Expr} {t : TA} (F : FnG X.prog X.w X.K X.mg X.base k f fd ps sp) (hG : X.A.guards = some []) (hr : Room k X.A) (hg : Gl X x) (hm : X.mg x = some (.ref f)) (hk : PySem.W.keepIn X.K (.ref f) = true) (hb : Binds X.K fd ps [])
    (hx : Passes (L2.CX X.prog X.w) X E) (ha : PA X (e :: es) t) (hdb : (x == ("__debug__" : Str)) = false) (he : starEach (e :: es) X.env = (false, eval e X.env) :: starEach es X.env) (hpl : (backTo pos (starEach es X.env)).any (·.1) = false) :
    PE X (.Call (.Name x p) (e :: es) [] pos) (tCB (fun vs H Q => sp vs H Q E) t) := by
  constructor
  intro pins s σ H Q I h
  apply wpAny_Call_Name_kw
  apply ld_glob I hg hm _ hdb
  refine PySem.W.callWith_K (h₀ := X.base) I.ok.mod.kin hk ?_ he hpl
  refine thn (ha.run pos pins s σ H _ I h) ?_
  rintro us s1 ⟨vs, H1, I1, r, q⟩
  exact ⟨I1.kIn, runG F hG hr hb hx I1 r q⟩
theorem pr_sp {n : Nat} {K : PySem.W.Frag} {f : MF} {E : XK} (hn : ∀ cs r, f cs = some r → cs.length = n) : PR K (fun vs H Q => spM n K f vs H Q E) f := fun vs cs c cs' H ps Q e l hp k => ⟨cs, c, cs', ps, e, hn cs _ e, l, hp, k⟩
/-- a mirror that takes n arguments -/
def Ar (n : Nat) (f : MF) : Prop := ∀ cs r, f cs = some r → cs.length = n
theorem ar_fn {n N : Nat} {W : List Nat} {mb : MS} : Ar n (mFn n N W mb) := by
  intro cs r e
  unfold mFn okOnly at e
  match q : mFnX n N W mb cs, e with
  | some (.ok c, cs'), e =>
    unfold mFnX at q
    by_cases hc : cs.length = n ∧ okP W 0 cs = true
    · exact hc.1
    · rw [if_neg hc] at q; cases q
theorem je_call {ι : Type} {E : Ev ι} {x : Str} {n j : Nat} {f : MF} {e : Expr} {es : List Expr} {ml : ML} {p pos : Pos} (C : Cl E.P E.w E.K E.mg E.base x n j f) (hj : j ≤ E.k) (hn : Ar n f) (ha : JA E (e :: es) ml)
    (hg : ∀ j, Gl (E.X j) x := by exact fun _ => rfl) (hdb : (x == ("__debug__" : Str)) = false := by decide)
    (he : ∀ env, starEach (e :: es) env = (false, eval e env) :: starEach es env := by intro _; rfl) (hpl : ∀ env, (backTo pos (starEach es env)).any (·.1) = false := by intro _; rfl) : JE E (.Call (.Name x p) (e :: es) [] pos) (mApp f ml) := by
  obtain ⟨a, fd, ps, F, h1, h2, h3⟩ := C
  obtain ⟨ta, a1, a2⟩ := ha
  refine ⟨tCB (fun vs H Q => spM n E.K f vs H Q E0) ta, fun i => ?_, app_ok a2 (pr_sp hn)⟩
  exact pe_callG (sp := spM n E.K f) (by rw [E.hP, E.hw, E.hK, E.hm, E.hb]; exact F) (E.gds i) ((E.room i).mono hj) (hg i) (by rw [E.hm]; exact h1) (by rw [E.hK]; exact h2) (by rw [E.hK]; exact h3) passL (a1 i) hdb (he _) (hpl _)
end JJ
/-! J7a: enumerate over tuples and lists. -/
namespace PySem
namespace JX
open AutoSeq1 (wpAny_loadPart')
theorem enum_newT (t : Addr) (us : Array Value) (n : Nat) (dct : Option Addr) (sl : Array (Option Value)) :
    Meets (Builtin.«enumerate.__new__» ⟨[.type "enumerate", .ref t], []⟩) (fun _ R s => s.heap.get? t = some { cls := .type "tuple", dict := dct, data := .seq us n, slots := sl } ∧
      R (.ok (.ret (.ref (s.heap.push { cls := .type "tuple_iterator", data := .fields #[.ref t, .int 0 0] }).objs.size)))
        { s with heap := (s.heap.push { cls := .type "tuple_iterator", data := .fields #[.ref t, .int 0 0] }).push { cls := .type "enumerate", data := .fields #[.none, .bool false, .ref s.heap.objs.size, rawInt 0, .none, .none] } }) := by
  refine .of_wp fun prog w A R s h => ?_
  obtain ⟨hp, g, d, tk, os⟩ := s
  obtain ⟨hl, h⟩ := h
  have q0 := sub_enumerate
  have hT : Heap.IsTuple (Shared.heap ⟨hp, g, d, tk, os⟩) t us := ⟨_, hl, rfl, n, rfl⟩
  wp_walk using wpAny_loadPart' hl
  refine wpAny_stack_any fun st => wpAny_pure ?_
  split
  · rename_i c _ _ _ _ _
    by_cases hc : (c == Value.type "enumerate") = true
    · rw [hc]
      wp_walk using wpAny_loadPart' hl, wpAny_pyIter_tuple hT
      exact ⟨_, rfl, h⟩
    · have hc' : (c == Value.type "enumerate") = false := by simpa using hc
      rw [hc']
      wp_walk using wpAny_loadPart' hl, wpAny_pyIter_tuple hT
      exact ⟨_, rfl, h⟩
  · wp_walk using wpAny_loadPart' hl, wpAny_pyIter_tuple hT
    exact ⟨_, rfl, h⟩
section
variable {prog : Program} {w : World} {A : Around} {E : Value → Shared → Prop} {s : Shared}
theorem call_enumT {t : Addr} {us : Array Value} {Q : Value → Shared → Prop} (hT : s.heap.IsTuple t us)
    (h : ∀ h', IsEnum h' (s.heap.objs.size + 1) s.heap.objs.size 0 .none → h'.IsTupleIter s.heap.objs.size t 0 →
      (∀ b o, s.heap.get? b = some o → h'.get? b = some o) → Q (.ref (s.heap.objs.size + 1)) { s with heap := h' }) :
    wpAny (model prog w) A (call (.type "enumerate") [.ref t]) Q E s := by
  obtain ⟨⟨c, dct, dt, sl⟩, hl, hc, n, hd⟩ := hT
  have hc' : c = .type "tuple" := hc
  have hd' : dt = .seq us n := hd
  subst hc' hd'
  refine callType_new F.called_enumerate (by decide) (F.typeCall_enumerate_1 _) (F.newCall_enumerate_1 _) (fun obj => F.args_object_init_2 obj _) F.entry_enumerate_new (enum_newT t us n dct sl) ⟨hl, ?_⟩
  generalize hg : s.heap.push { cls := .type "tuple_iterator", data := .fields #[.ref t, .int 0 0] } = h1
  have hz : h1.objs.size = s.heap.objs.size + 1 := by rw [← hg]; exact Heap.size_push ..
  have he : IsEnum (h1.push { cls := .type "enumerate", data := .fields #[.none, .bool false, .ref s.heap.objs.size, rawInt 0, .none, .none] }) (s.heap.objs.size + 1) s.heap.objs.size 0 .none := by
    have q := Heap.get?_push_size h1 (o := { cls := .type "enumerate", data := .fields #[.none, .bool false, .ref s.heap.objs.size, rawInt 0, .none, .none] }) rfl
    rw [hz] at q
    exact q
  show _ ∧ _
  rw [hz]
  have hi : h1.get? s.heap.objs.size = some { cls := .type "tuple_iterator", data := .fields #[.ref t, .int 0 0] } := by rw [← hg]; exact Heap.get?_push_size _ rfl
  refine ⟨⟨_, he, rfl⟩, h _ he ⟨_, Heap.get?_push_of_some _ hi, rfl, rfl⟩ fun b o x => Heap.get?_push_of_some _ ?_⟩
  rw [← hg]
  exact Heap.get?_push_of_some _ x
end
end JX
end PySem
namespace JJ
open PySem L2
/-- enumerate of the tuple at a -/
def IteT (K : PySem.W.Frag) (a : Addr) : It :=
  ⟨fun i H => ∃ (xs : List V) (x : V), SqT K H a xs ∧ xs[i]? = some x, fun i H v H' => ∃ T x, v = .ref T ∧ H T = none ∧ H' = upd H T (.tup [.int (i : Nat), x]) ∧ ∀ xs, SqT K H a xs → xs[i]? = some x, fun i H => ∃ xs : List V, SqT K H a xs ∧ xs.length ≤ i⟩
theorem wpAny_pyNext_enum_endT {prog : Program} {w : World} {A : Around} {E : Value → Shared → Prop} {s : Shared} {e it t : Addr} {i : Nat} {us : Array Value} {j : Int} {old : Value} {Q : Option Value → Shared → Prop} (hh : A.handled = none) (he : IsEnum s.heap e it j old) (hit : s.heap.IsTupleIter it t i) (p : s.heap.IsTuple t us) (hne : t ≠ it) (hx : us[i]? = none)
    (hQ : ∀ h', Heap.ExtBut it s.heap h' → Q none { s with heap := h' }) : wpAny (model prog w) A (pyNext (.ref e)) Q E s := by
  have D : Draws prog w A.in1 it [it, t] i (fun _ _ => True) (fun k h => k = i ∧ h.IsTupleIter it t i ∧ h.IsTuple t us) :=
    ⟨fun _ _ st => let ⟨o, ho, _⟩ := st.2.1; ⟨o, ho⟩, fun _ _ _ st hk => ⟨st.1, st.2.1.at fun o e => hk it (by simp) o e, st.2.2.at fun o e => hk t (by simp) o e⟩, fun k s Q E hi st hQ => absurd st.1 (Nat.ne_of_lt hi),
      fun s Q E st hE => wpAny_nextOf_tuple_end hh st.2.1 st.2.2 hx hE⟩
  exact wpAny_pyNext_enum_endD D he ⟨rfl, hit, p⟩ hQ
theorem ne_cls {h : Heap} {a b : Addr} {o u : Obj} (h1 : h.get? a = some o) (h2 : h.get? b = some u) (d : o.cls ≠ u.cls) : a ≠ b := by
  intro e
  subst e
  rw [h1] at h2
  cases h2
  exact d rfl
theorem turn_enumT {P : Program} {w : World} {K : PySem.W.Frag} {elts : List Expr} {kk : Nat} {tpos : Pos} (a e it : Addr) :
    Turn P w K (.Tuple elts kk tpos) (IteT K a) [e, it] e (fun i h => (∃ old, IsEnum h e it ((i : Nat) : Int) old) ∧ h.IsTupleIter it a i ∧ e ≠ it) where
  mem := by simp
  obj := fun i h st b hb => by
    obtain ⟨⟨old, he⟩, ⟨o, ho, hc, hd⟩, _⟩ := st
    rcases List.mem_cons.mp hb with z | z
    · rw [z]; exact ⟨_, he, fun v q => nomatch q⟩
    · rw [List.mem_singleton.mp z]; exact ⟨o, ho, fun v q => by rw [hd] at q; cases q⟩
  keep := fun i h h' st k => let ⟨⟨old, he⟩, hi, hne⟩ := st; ⟨⟨old, k e (by simp) _ he⟩, hi.at fun o q => k it (by simp) o q, hne⟩
  item := by
    intro X hP hw hK hc i pins s σ H E I hf st hg
    subst hP hw hK
    obtain ⟨⟨old, he⟩, hit, hne⟩ := st
    obtain ⟨xs, x, hq, hx⟩ := hg
    obtain ⟨its, rv, p, hz⟩ := I.tuple hq
    obtain ⟨u, hu, ru⟩ := rv.get hx
    obtain ⟨ot, hot, hct, hdt⟩ := id p
    obtain ⟨oi, hoi, hci, hdi⟩ := id hit
    have n1 : a ≠ it := ne_cls hot hoi (by rw [hct, hci]; decide)
    have n2 : e ≠ a := ne_cls he hot (by rw [hct]; exact (by decide : Value.type "enumerate" ≠ Value.type "tuple"))
    have hel : e < s.heap.objs.size := Heap.lt_size he
    have hil : it < s.heap.objs.size := Heap.lt_size hoi
    have hlen : i < its.toArray.size := by
      have := (List.getElem?_eq_some_iff.mp hu).1
      simpa using this
    refine wpAny_pyNext_enum_itemD (Draws.tuple (A := X.A.in1) (I.ok.hd hc) it a n1 its.toArray) he ⟨hit, p⟩ hlen hne (by simp [hne, n2]) fun x' h' tk hP ho hst hT hsz hk => ?_
    have ex : x' = u := by
      have q : its.toArray[i]? = some x' := hP
      have q2 : its.toArray[i]? = some u := by simpa using hu
      rw [q2] at q
      exact (Option.some.inj q).symm
    subst ex
    refine ⟨_, rfl, wpAny_letOwnedTupleGo_enum (s := { s with heap := h', toks := tk + 1 }) ho fun h'' he' sb => ?_⟩
    have hT2 : h''.get? s.heap.objs.size = some { cls := .type "tuple", data := .seq #[.int i tk, x'] } := (sb.2 _ (Nat.ne_of_gt hel)).trans hT
    have new : ObjOk X.prog X.w (upd H s.heap.objs.size (.tup [.int (i : Nat), x])) h'' s.heap.objs.size (.tup [.int (i : Nat), x]) :=
      ⟨by show 2 ≤ sizeLine; decide, [.int i tk, x'], .cons ⟨_, rfl⟩ (.cons ru .nil), ⟨_, hT2, rfl, _, rfl⟩⟩
    have I1 : Inv X pins σ (upd H s.heap.objs.size (.tup [.int (i : Nat), x])) { s with heap := h'', toks := tk + 1 } :=
      I.turnedNew (ch := [e, it]) (fun b ob hb q => (sb.2 b (fun z => hb (by simp [z]))).trans (hk b ob (fun z => hb (by simp [z])) (fun z => hb (by simp [z])) q)) hf (Nat.le_refl _) new
    refine ⟨.ref s.heap.objs.size, _, I1, rfl, ⟨_, x, rfl, I.hok.fresh (Nat.le_refl _), rfl, fun ys hy => by rw [I.tuple_inj hy hq]; exact hx⟩, ⟨⟨x', ?_⟩, hst.1.at fun o q => (sb.2 it (Ne.symm hne)).trans q, hne⟩, fun b hb => ?_⟩
    · rw [show ((i + 1 : Nat) : Int) = (i : Int) + 1 by omega]; exact he'
    · have hb' : b < s.heap.objs.size := by
        rcases List.mem_cons.mp hb with z | z
        · rw [z]; exact hel
        · rw [List.mem_singleton.mp z]; exact hil
      rw [upd_ne (Nat.ne_of_lt hb')]
      exact (hf b hb).1
  done := by
    intro X hP hw hK hc i pins s σ H E I hf st hg
    subst hP hw hK
    obtain ⟨⟨old, he⟩, hit, hne⟩ := st
    obtain ⟨xs, hq, hx⟩ := hg
    obtain ⟨its, rv, p, hz⟩ := I.tuple hq
    obtain ⟨f0, f1, f2, f3, f4, f5⟩ := hf it (by simp)
    have hl := rv.length
    obtain ⟨ot, hot, hct, hdt⟩ := id p
    obtain ⟨oi, hoi, hci, hdi⟩ := id hit
    have n1 : a ≠ it := ne_cls hot hoi (by rw [hct, hci]; decide)
    refine wpAny_pyNext_enum_endT (I.ok.hd hc) he hit p n1 (by simp; omega) fun h' eb => ⟨rfl, I.turned (t' := s.toks) (fun b o hb q => eb b o hb q) f0 f1 f3 f4 f5⟩
  self := fun A i s Q E st h => let ⟨⟨_, he⟩, _⟩ := st; wpAny_pyIter_enum he h
/-- enumerate of a tuple or of a list -/
def iEnT (K : PySem.W.Frag) (ta : TA) : TI := fun σ H R => ta σ H fun vs H1 => ∃ a xs, vs = [.ref a] ∧ SqT K H1 a xs ∧ R (IteT K a) H1
theorem pi_enT {X : Cx} {e : Expr} {ta : TA} {p pos tpos : Pos} {elts : List Expr} {kk : Nat} (hg : Gl X "enumerate") (hm : X.mg "enumerate" = none) (ha : PA X [e] ta) (hs : starEach [e] X.env = [(false, eval e X.env)]) :
    PI X (.Tuple elts kk tpos) (.Call (.Name "enumerate" p) [e] [] pos) (iEnT X.K ta) := by
  constructor
  intro pins s σ H R I h
  refine PyProof.Rows.Call_ ?_
  apply ld_blt I hg hm PyProof.Rows.boot_enumerate
  refine PyProof.Rows.callWith_type1 (thn (ha.run pos pins s σ H _ I h) ?_) hs rfl
  rintro us s1 ⟨vs, H1, I1, r1, a, xs, rfl, hq, q⟩
  obtain ⟨u, rfl, r⟩ := r1.one
  cases r
  obtain ⟨its, rv, p', hz⟩ := I1.tuple hq
  refine JX.call_enumT p' fun h' he hit hk => wpAny_pyIter_enum he ?_
  have I2 : Inv X pins σ H1 { s1 with heap := h' } := I1.kept (t' := s1.toks) hk
  refine ⟨s1.heap.objs.size + 1, [s1.heap.objs.size + 1, s1.heap.objs.size], _, _, H1, rfl, I2, turn_enumT a (s1.heap.objs.size + 1) s1.heap.objs.size, ⟨⟨.none, he⟩, hit, Nat.succ_ne_self _⟩, fun b hb => ?_, q⟩
  have hle : s1.heap.objs.size ≤ b := by
    rcases List.mem_cons.mp hb with z | z
    · rw [z]; exact Nat.le_succ _
    · rw [List.mem_singleton.mp z]; exact Nat.le_refl _
  exact I1.fpOk hle (I1.hok.fresh hle)
def enD : Nat → List Da → List Da
  | _, [] => []
  | k, x :: xs => .tuple [.int (k : Nat), x] :: enD (k + 1) xs
theorem enD_len : ∀ (k : Nat) (xs : List Da), (enD k xs).length = xs.length
  | _, [] => rfl
  | k, x :: xs => by rw [enD, List.length_cons, enD_len, List.length_cons]
theorem enD_get : ∀ {xs : List Da} {k i : Nat} {x : Da}, xs[i]? = some x → (enD k xs)[i]? = some (.tuple [.int ((k + i : Nat) : Int), x])
  | [], _, _, _, e => by simp at e
  | a :: xs, k, 0, x, e => by simp at e; subst e; rfl
  | a :: xs, k, i + 1, x, e => by
    rw [enD, List.getElem?_cons_succ, enD_get (xs := xs) (k := k + 1) (by simpa using e)]
    rw [show k + 1 + i = k + (i + 1) by omega]
def gEn : List CD → Option (List Da)
  | [.lst xs] => some (enD 0 xs)
  | [.dat (.tuple xs)] => some (enD 0 xs)
  | _ => none
theorem wd_en {K : PySem.W.Frag} {a : Addr} {xs : List Da} : WD K (Ite K a) (enD 0 xs) [(.lst xs, some (.ref a))] where
  goes := fun i H hi h => by
    rw [enD_len] at hi
    obtain ⟨p, vs, e, hp, d⟩ := h.lst
    cases e
    exact ⟨vs, vs[i]'(by rw [d.length]; exact hi), .inl (.inl hp), List.getElem?_eq_getElem _⟩
  stops := fun H h => by
    obtain ⟨p, vs, e, hp, d⟩ := h.lst
    cases e
    exact ⟨vs, .inl (.inl hp), by rw [enD_len, d.length]; exact Nat.le_refl _⟩
  yields := fun i H x H' hi h y => by
    obtain ⟨p, vs, e, hp, d⟩ := h.lst
    cases e
    obtain ⟨T, x1, rfl, hT, rfl, q1⟩ := y
    obtain ⟨z1, e1, r1⟩ := d.get' (q1 vs (.inl (.inl hp)))
    have e2 := enD_get (k := 0) e1
    rw [Nat.zero_add] at e2
    exact ⟨upd_new hT, _, e2, pair_new hT (.int _) r1⟩
theorem wd_enT {K : PySem.W.Frag} {a : Addr} {xs : List Da} : WD K (IteT K a) (enD 0 xs) [(.dat (.tuple xs), some (.ref a))] where
  goes := fun i H hi h => by
    rw [enD_len] at hi
    obtain ⟨v, e, r⟩ := h.dat
    cases e
    cases r with
    | tup hp d => exact ⟨_, _, hp, List.getElem?_eq_getElem (by rw [d.length]; exact hi)⟩
  stops := fun H h => by
    obtain ⟨v, e, r⟩ := h.dat
    cases e
    cases r with
    | tup hp d => exact ⟨_, hp, by rw [enD_len, d.length]; exact Nat.le_refl _⟩
  yields := fun i H x H' hi h y => by
    obtain ⟨v, e, r⟩ := h.dat
    cases e
    cases r with
    | tup hp d =>
      obtain ⟨T, x1, rfl, hT, rfl, q1⟩ := y
      obtain ⟨z1, e1, r1⟩ := d.get' (q1 _ hp)
      have e2 := enD_get (k := 0) e1
      rw [Nat.zero_add] at e2
      exact ⟨upd_new hT, _, e2, pair_new hT (.int _) r1⟩
theorem ji_en {ι : Type} {E : Ev ι} {e : Expr} {ml : ML} {p pos tpos : Pos} {elts : List Expr} {kk : Nat} (h : JA E [e] ml) (hm : E.mg "enumerate" = none) (hg : ∀ j, Gl (E.X j) "enumerate" := by exact fun _ => rfl) (hs : ∀ env, starEach [e] env = [(false, eval e env)] := by intro _; rfl) :
    JI E (.Tuple elts kk tpos) (.Call (.Name "enumerate" p) [e] [] pos) (mI gEn ml) := by
  obtain ⟨ta, a1, a2⟩ := h
  refine ⟨fun σ H R => iEnum E.K ta σ H R ∨ iEnT E.K ta σ H R, fun i => ?_, fun Δ Γ σ H R items ops cs Γ' q hs k => ?_⟩
  · have z := PIor (pi_enum (p := p) (pos := pos) (tpos := tpos) (elts := elts) (kk := kk) (hg i) (by rw [E.hm]; exact hm) (a1 i) (hs _)) (pi_enT (p := p) (pos := pos) (tpos := tpos) (elts := elts) (kk := kk) (hg i) (by rw [E.hm]; exact hm) (a1 i) (hs _))
    rw [E.hK] at z
    exact z
  · obtain ⟨Γ1, e1, e2, e3⟩ := mI_of q
    match cs, e3 with
    | [.lst xs], e3 =>
      cases e3
      refine .inl (a2 Δ Γ σ H _ ops Γ1 e1 hs fun vs H' h1 s1 => ?_)
      obtain ⟨h2, l2⟩ := takeO_ok s1 h1 e2
      have h3 := h2.2
      rw [List.append_assoc] at h3
      obtain ⟨v, F, rfl, r1⟩ := hp_1 l2 h3
      obtain ⟨a, us, rfl, q1, _⟩ := r1.lstv
      exact ⟨a, us, rfl, .inl (.inl q1), k _ H' [.ref a] wd_en h2 s1 l2⟩
    | [.dat (.tuple xs)], e3 =>
      cases e3
      refine .inr (a2 Δ Γ σ H _ ops Γ1 e1 hs fun vs H' h1 s1 => ?_)
      obtain ⟨h2, l2⟩ := takeO_ok s1 h1 e2
      have h3 := h2.2
      rw [List.append_assoc] at h3
      obtain ⟨v, F, rfl, r1⟩ := hp_1 l2 h3
      obtain ⟨a, us, rfl, q1, _⟩ := r1.tup
      exact ⟨a, us, rfl, q1, k _ H' [.ref a] wd_enT h2 s1 l2⟩
end JJ
/-! J7b: a tuple from behind, list(range(..)), list(reversed(..)). -/
namespace PySem
namespace JX
open PyProof.Rows
section
variable {prog : Program} {w : World} {A : Around} {E : Value → Shared → Prop} {s : Shared}
/-- t[:0:-1] -/
theorem applied_back {sl : Addr} {n : Nat} {t u : Tok} {Q : Int × Int × Nat → Shared → Prop} (hs : s.heap.IsSliceOf sl .none (.int 0 t) (.int (-1) u))
    (h : Q ((n : Int) - 1, -1, n - 1) s) : wpAny (model prog w) A (Builtin.Slice.sliceApplied (.ref sl) (pure (n : Int))) Q E s := by
  obtain ⟨os, hos, hcs, hds⟩ := id hs
  have adj : Builtin.Slice.sliceAdjust none (some 0) (-1) (n : Int) = ((n : Int) - 1, if n = 0 then -1 else 0) := by
    unfold Builtin.Slice.sliceAdjust
    refine Prod.ext ?_ ?_
    · simp
    · by_cases hn : n = 0
      · subst hn; rfl
      · simp only [if_neg hn]
        have h1 : ((-1 : Int) < 0) := by decide
        simp only [h1, if_true]
        split <;> omega
  have places : Builtin.Slice.slicePlaces ((n : Int) - 1) (if n = 0 then -1 else 0) (-1) = n - 1 := by
    unfold Builtin.Slice.slicePlaces
    have h1 : ¬ ((-1 : Int) > 0) := by decide
    simp only [h1, if_false]
    by_cases hn : n = 0
    · subst hn; rfl
    · simp only [if_neg hn, show -(-1 : Int) = 1 from rfl, Int.ediv_one]
      split <;> omega
  unfold Builtin.Slice.sliceApplied Builtin.Slice.sliceFields
  refine wpAny_bind (wpAny_bind (wpAny_field hos hds (x := .none) rfl (wpAny_bind (wpAny_field hos hds (x := .int 0 t) rfl (wpAny_bind (wpAny_field hos hds (x := .int (-1) u) rfl (wpAny_pure ?_)))))))
  refine wpAny_bind (slicePart_int ?_)
  show wpAny _ _ (if ((-1 : Int) == 0) = true then _ else _) _ _ s
  rw [if_neg (by decide)]
  refine wpAny_bind (slicePart_none (wpAny_bind (slicePart_int (wpAny_bind (wpAny_pure ?_)))))
  show wpAny _ _ (match Builtin.Slice.sliceAdjust none (some 0) (-1) (n : Int) with | (lo, hi) => pure (lo, (-1 : Int), Builtin.Slice.slicePlaces lo hi (-1))) _ _ s
  rw [adj]
  show wpAny _ _ (pure ((n : Int) - 1, (-1 : Int), Builtin.Slice.slicePlaces ((n : Int) - 1) (if n = 0 then -1 else 0) (-1))) _ _ s
  rw [places]
  exact wpAny_pure h
theorem fm_map {α β : Type} {f : α → Option β} {g : α → β} : ∀ (l : List α) (_ : True := True.intro), (∀ m ∈ l, f m = some (g m)) → l.filterMap f = l.map g
  | [], _, _ => rfl
  | a :: l, _, h => by
    rw [List.filterMap_cons, h a List.mem_cons_self, List.map_cons]
    show g a :: l.filterMap f = _
    rw [fm_map l True.intro fun m hm => h m (List.mem_cons_of_mem _ hm)]
theorem pick_back (xs : Array Value) : ((List.range (xs.size - 1)).filterMap fun (m : Nat) => xs[((xs.size : Int) - 1 + (m : Int) * (-1)).toNat]?) = (xs.toList.drop 1).reverse := by
  apply List.ext_getElem?
  intro i
  have hfm : ((List.range (xs.size - 1)).filterMap fun (m : Nat) => xs[((xs.size : Int) - 1 + (m : Int) * (-1)).toNat]?) = (List.range (xs.size - 1)).map fun m => xs.getD (xs.size - 1 - m) .none := by
    refine fm_map _ True.intro fun m hm => ?_
    have hm' : m < xs.size - 1 := List.mem_range.mp hm
    have e : ((xs.size : Int) - 1 + (m : Int) * (-1)).toNat = xs.size - 1 - m := by omega
    rw [e]
    have hlt : xs.size - 1 - m < xs.size := by omega
    simp [hlt]
  rw [hfm, List.getElem?_map]
  by_cases hi : i < xs.size - 1
  · rw [List.getElem?_range hi]
    have hl : i < (xs.toList.drop 1).length := by rw [List.length_drop, Array.length_toList]; exact hi
    rw [List.getElem?_reverse hl, List.getElem?_drop, List.length_drop, Array.length_toList]
    have e : 1 + (xs.size - 1 - 1 - i) = xs.size - 1 - i := by omega
    rw [e]
    have hlt : xs.size - 1 - i < xs.size := by omega
    simp [hlt]
  · rw [List.getElem?_eq_none (by rw [List.length_range]; omega), List.getElem?_eq_none (by rw [List.length_reverse, List.length_drop, Array.length_toList]; omega)]
    rfl
theorem getItem_back {t sl : Addr} {items : Array Value} {tk u : Tok} {Q : Value → Shared → Prop} (ht : IsTup s.heap t items) (hs : s.heap.IsSliceOf sl .none (.int 0 tk) (.int (-1) u))
    (h : Q (.ref s.heap.objs.size) { s with heap := s.heap.push { cls := .type "tuple", data := .seq ((items.toList.drop 1).reverse).toArray } })
    (hsz : items.size ≤ sizeLine) : wpAny (model prog w) A (getItem (.ref t) (.ref sl)) Q E s := by
  have fit : sizeOk (.seq ((items.toList.drop 1).reverse).toArray) := by
    show ((items.toList.drop 1).reverse).toArray.size ≤ sizeLine
    rw [List.size_toArray, List.length_reverse, List.length_drop, Array.length_toList]
    omega
  obtain ⟨os, hos, hcs, hds⟩ := id hs
  have hTs : s.TypeIs (.ref sl) "slice" := ⟨os, hos, hcs⟩
  unfold getItem
  try with_reducible refine wpAny_holding ?_
  first | refine wpAny_bind (wpAny_pure ?_) | skip
  refine wpAny_bind (wpAny_sequenceKey ht.typeIs (by decide) ?_)
  refine wpAny_bind (wpAny_callSpecial?_slot (name := Str.ofString "__getitem__") ht.typeIs PyProof.Rows.slot_tuple_getitem
    (wpAny_call_entry PyProof.Rows.slot_tuple_getitem ht.typeIs entry_tuple_getitem ?_ (args_tuple_getitem _ _)))
  show wpAny _ _ (Builtin.Tuple.tupleItemsOf (.ref t) >>= _) _ _ s
  refine wpAny_bind (tupleItemsOf_ ht ?_)
  refine wpAny_bind (wpAny_typeOf hTs ?_)
  rw [if_pos (by decide)]
  refine wpAny_bind (applied_back hs ?_)
  have hno : ¬ ((((items.size : Int) - 1) == 0 && (-1 : Int) == 1 && (items.size - 1) == items.size) = true) := by
    intro q
    rw [Bool.and_eq_true, Bool.and_eq_true] at q
    exact absurd q.1.2 (by decide)
  show wpAny _ _ (if (((items.size : Int) - 1) == 0 && (-1 : Int) == 1 && (items.size - 1) == items.size) = true then _ else _) _ _ s
  rw [if_neg hno, pick_back]
  first
    | exact wpAny_bind (m := Builtin.Tuple.tupleExact _) (wpAny_newObj_type (wpAny_pure ⟨_, rfl, wpAny_pure h⟩) fit)
    | exact wpAny_bind (m := Builtin.Tuple.tupleExact _) (wpAny_newObj_type (wpAny_bind (wpAny_pure (wpAny_pure ⟨_, rfl, wpAny_pure h⟩))) fit)
    | exact wpAny_bind (wpAny_bind (m := Builtin.Tuple.tupleExact _) (wpAny_newObj_type (wpAny_pure (wpAny_pure ⟨_, rfl, wpAny_pure h⟩)) fit))
    | exact wpAny_bind (wpAny_bind (m := Builtin.Tuple.tupleExact _) (wpAny_newObj_type (wpAny_pure ⟨_, rfl, wpAny_pure h⟩) fit))
end
end JX
end PySem
namespace JJ
open PySem PySem.Spec L2
open PyProof.Rows (Subscript_ callWith_type1 args_cons args_nil subscriptTail tail_any)
def rBackT (K : PySem.W.Frag) : V → Hp → VK → Prop := fun x H1 Q => ∃ a xs, x = .ref a ∧ SqT K H1 a xs ∧ ∀ p, H1 p = none → Q (.ref p) (upd H1 p (.tup (xs.drop 1).reverse))
theorem pe_back {X : Cx} {e : Expr} {te : TE} {k k0 : Nat} {p0 p1 p2 p3 pos : Pos} (he : PE X e te) : PE X (.Subscript e (.Slice none (some (.Constant (.int 0) k0 p0)) (some (.UnaryOp .USub (.Constant (.int 1) k p1) p2)) p3) pos) (tUn (rBackT X.K) te) := by
  constructor
  intro pins s σ H Q I h
  refine Subscript_ (thn (he.run pins s σ H _ I h) ?_)
  rintro v s1 ⟨x, H1, I1, r1, a, xs, rfl, hx, q⟩
  cases r1
  have down : PO X (some (.UnaryOp .USub (.Constant (.int 1) k p1) p2)) (tPart (tUn (rU fun i => .int (-i)) (tC (.int 1)))) := po_some (pe_un un_neg pe_int)
  have nought : PO X (some (.Constant (.int 0) k0 p0)) (tPart (tC (.int 0))) := po_some pe_int
  refine wpAny_Slice (thn (po_none.run pins s1 σ H1 (fun o H2 => o = none ∧ H2 = H1) I1 ⟨rfl, rfl⟩) ?_)
  rintro vl s2 ⟨l, H2, I2, pl, rfl, rfl⟩
  refine thn (nought.run pins s2 σ H2 (fun o H3 => o = some 0 ∧ H3 = H2) I2 ⟨0, rfl, rfl, rfl⟩) ?_
  rintro vu s3 ⟨u, H3, I3, pu, rfl, rfl⟩
  refine thn (down.run pins s3 σ H3 (fun o H4 => o = some (-1) ∧ H4 = H3) I3 ⟨1, rfl, -1, rfl, rfl, rfl⟩) ?_
  rintro vs s4 ⟨o, H4, I4, ps, rfl, rfl⟩
  have I5 : Inv X pins σ H4 { s4 with heap := s4.heap.push { cls := .type "slice", data := .fields #[vl, vu, vs] } } := I4.kept (t' := s4.toks) fun b ob q => Heap.get?_push_of_some _ q
  obtain ⟨its, r, ht, hz⟩ := I5.tuple hx
  cases pl
  cases pu
  cases ps
  have hlen := r.length
  rename_i t1 t2
  show wpAny (model X.prog X.w) X.A (subscriptTail e (.Slice none (some (.Constant (.int 0) k0 p0)) (some (.UnaryOp .USub (.Constant (.int 1) k p1) p2)) p3) (.ref a) (.ref s4.heap.objs.size)) (EP X pins σ Q) X.xe { s4 with heap := s4.heap.push { cls := .type "slice", data := .fields #[.none, .int 0 t1, .int (-1) t2] } }
  refine tail_any (ops := [.ref a, .ref s4.heap.objs.size]) ht.typeIs (PyProof.Rows.slot_tuple_getitem.lookup) ?_ (by with_unfolding_all rfl)
  refine JX.getItem_back ht (Heap.IsSliceOf.new _ .none (.int 0 t1) (.int (-1) t2)) ?_ (by rw [List.size_toArray]; omega)
  refine ⟨.ref _, _, I5.laid (t' := s4.toks) (o := .tup (xs.drop 1).reverse) (fun b ob q => Heap.get?_push_of_some _ q) (Nat.le_refl _) ?_, rfl, q _ (I5.hok.fresh (Nat.le_refl _))⟩
  exact ⟨by rw [List.length_reverse, List.length_drop]; omega, _, (r.drop 1).reverse, PyProof.Rows.IsTup.new _ _⟩
def gBack : List CD → Option Da
  | [.dat (.tuple xs)] => some (.tuple (xs.drop 1).reverse)
  | _ => none
def fBack : MF := mR gBack
theorem pr_back {K : PySem.W.Frag} : PR K (r1L (rBackT K)) fBack := pr_r fun vs cs d H ps Q e l hp k => by
  match cs, e with
  | [.dat (.tuple xs)], e =>
    cases e
    obtain ⟨v, F, rfl, r⟩ := hp_1 l hp
    obtain ⟨a, us, rfl, h1, d1⟩ := r.tup
    exact ⟨a, us, rfl, h1, fun p hp' => k _ _ (upd_new hp') (.tup (.inl (.inl upd_same)) ((d1.drop 1).reverse.mono (tx_new hp')))⟩
section
variable {ι : Type} {E : Ev ι} {e : Expr} {mp : MP} {ml : ML} {p pos : Pos}
theorem je_back {k k0 : Nat} {p0 p1 p2 p3 : Pos} (h : JP E e mp) : JE E (.Subscript e (.Slice none (some (.Constant (.int 0) k0 p0)) (some (.UnaryOp .USub (.Constant (.int 1) k p1) p2)) p3) pos) (mApp fBack (mlC mp mlN)) := by
  obtain ⟨te, a1, a2⟩ := h
  refine ⟨tUn (rBackT E.K) te, fun i => ?_, app_ok (sa_cons a2 sa_nil) pr_back⟩
  have z := pe_back (k := k) (k0 := k0) (p0 := p0) (p1 := p1) (p2 := p2) (p3 := p3) (pos := pos) (a1 i)
  rw [E.hK] at z
  exact z
/-- list(range(n)) -/
def fLRg : MF := fun cs => match cs with
  | [.dat (.int n)] => if n.natAbs ≤ 16777216 then some (.lst (rgD 0 n.toNat), cs) else none
  | _ => none
theorem rgV_d {K : PySem.W.Frag} {H : Hp} (n : Int) : DatL K H (rgV 0 n) (rgD 0 n.toNat) := by
  have e : ∀ l : List Nat, DatL K H (l.map fun i : Nat => V.int (0 + (i : Int))) (l.map fun k : Nat => PyData.int (0 + (k : Int))) := by
    intro l
    induction l with
    | nil => exact .nil
    | cons a r ih => exact .cons (.int _) ih
  unfold rgV rgD
  rw [Int.sub_zero]
  exact e _
def rLRg : V → Hp → VK → Prop := fun x H Q => ∃ n, x = .int n ∧ RgOk 0 n ∧ ∀ q, H q = none → Q (.ref q) (upd H q (.lst (rgV 0 n)))
theorem pr_lrg {K : PySem.W.Frag} : PR K (r1L rLRg) fLRg := by
  intro vs cs c cs' H ps Q e l hp k
  unfold fLRg at e
  match cs, e with
  | [.dat (.int n)], e =>
    dsimp only at e
    obtain ⟨hb, e2⟩ := ite_none e
    cases e2
    obtain ⟨v, F, rfl, r⟩ := hp_1 l hp
    cases r.int
    exact ⟨n, rfl, ⟨by decide, by decide, by omega, by omega, by rw [Int.sub_zero]; have : (2 : Nat) ^ 24 = 16777216 := (by decide); omega⟩, fun p hp' => k _ _ (hp.newL hp' (rgV_d n)) l⟩
theorem je_lrange {p2 q : Pos} (h : JP E e mp) (hm : E.mg "list" = none) (hm2 : E.mg "range" = none) (hg : ∀ j, Gl (E.X j) "list" := by exact fun _ => rfl) (hg2 : ∀ j, Gl (E.X j) "range" := by exact fun _ => rfl)
    (na : ∀ env, starEach [.Call (.Name "range" p2) [e] [] q] env = (false, eval (.Call (.Name "range" p2) [e] [] q) env) :: starEach [] env := by intro _; rfl)
    (nb : ∀ env, starEach [e] env = (false, eval e env) :: starEach [] env := by intro _; rfl) : JE E (.Call (.Name "list" p) [.Call (.Name "range" p2) [e] [] q] [] pos) (mApp fLRg (mlC mp mlN)) := by
  obtain ⟨te, a1, a2⟩ := h
  exact ⟨tUn rLRg te, fun i => pe_listRg (E.calm i) (hg i) (by rw [E.hm]; exact hm) (prg_1 (hg2 i) (by rw [E.hm]; exact hm2) (a1 i) (nb _)) (na _), app_ok (sa_cons a2 sa_nil) pr_lrg⟩
end
end JJ
/-! J7c: list(reversed(a list)). -/
namespace PySem
namespace JX
open RT
section
variable {prog : Program} {w : World} {A : Around} {E : Value → Shared → Prop} {s : Shared}
theorem extend_back {R : Result → Shared → Prop} {it l S : Addr} {items : Array Value} {res : Value} {c₀ : Nat} (hh : A.handled = none) (hit : s.heap.IsRevIter it l ((items.size : Int) - 1)) (hl : s.heap.IsList l items) (hne : l ≠ it) (hn : items.size ≤ sizeLine)
    (hS : s.heap.get? S = some { cls := .type "list", data := .seq #[] c₀ }) (hSi : S ≠ it) (hSl : S ≠ l)
    (hR : ∀ h' tk acc c', (∀ b o, b ≠ S → b ≠ it → s.heap.get? b = some o → h'.get? b = some o) → h'.get? S = some { cls := .type "list", dict := none, data := .seq acc c', slots := #[] } →
      ItemsOf (fun i v => items[items.size - 1 - i]? = some v) acc items.size → R (.ok (.ret res)) { s with heap := h', toks := tk }) :
    wpAny (model prog w) A.in1 (Builtin.List.listExtendWith (.ref S) (.ref it) res)
      (fun fin s' => match fin with | .done f => R (.ok f) s' | .again c' => c'.quiet = true ∧ codeAny (model prog w) A c' R s') (fun e s' => R (.error e) s') s := by
  have W := (Walks.listRev (prog := prog) (w := w) (A := A.in1) hh it l hne items).toS
  have hSf : S ∉ [it, l] := by
    simp only [List.mem_cons, List.not_mem_nil, or_false, not_or]
    exact ⟨hSi, hSl⟩
  have hT : s.TypeIs (.ref it) "list_reverseiterator" := hit.typeIs
  have far : Builtin.List.listSameRef (.ref S) (.ref it) = false := by simp [Builtin.List.listSameRef, hSi]
  unfold Builtin.List.listExtendWith
  refine wpAny_bind (wpAny_typeOf hT ?_)
  rw [if_neg (by rw [far]; decide)]
  refine wpAny_bind (wpAny_pyIter_revIter hit ?_)
  refine wpAny_bind (wpAny_holding ?_)
  unfold Builtin.List.listLengthHint
  refine wpAny_bind (wpAny_specialOf hT nolen_lri ?_)
  show wpAny _ A.in1 (specialOf (Value.ref it) (Str.ofString "__length_hint__") >>= _) _ _ _
  refine wpAny_bind (wpAny_specialOf hT hint_lri ?_)
  generalize hid : ("list_reverseiterator.__length_hint__" : String) = id0
  wp_delta
  rw [show splitId id0 = some ("list_reverseiterator", "__length_hint__") from by subst hid; decide +kernel]
  subst hid
  refine wpAny_bind (wpAny_isInstance (b := true) hT (by rw [isSubtype_type]; kernel_rfl) ?_)
  refine wpAny_pure ?_
  rw [if_neg (by decide)]
  have e0 : ((items.size : Nat) : Int) - 1 - ((0 : Nat) : Int) = (items.size : Int) - 1 := by omega
  refine wpAny_pure ⟨plainId_quiet F.plain_extend_loop _, codeAny_extend_loopS W hn S hSf res items.size 0 _ #[] c₀ rfl (Nat.zero_le _) ⟨Nat.zero_le _, by rw [e0]; exact hit, hl⟩ hS (ItemsOf.nil _) fun s' acc' c' hm hS' hacc => ?_⟩
  rw [Moved.eq_with hm]
  refine hR s'.heap s'.toks acc' c' (fun b o hb hb2 e => hm.heap b o (fun hmem => ?_) e) hS' hacc
  rcases List.mem_cons.mp hmem with e' | hmem
  · exact hb e'
  · exact hb2 (List.mem_singleton.mp hmem)
theorem call_listBack {it l : Addr} {items : Array Value} {Q : Value → Shared → Prop} (hh : A.handled = none) (hit : s.heap.IsRevIter it l ((items.size : Int) - 1)) (hl : s.heap.IsList l items) (hne : l ≠ it) (hn : items.size ≤ sizeLine)
    (hQ : ∀ h' tk acc c', (∀ b o, b ≠ it → s.heap.get? b = some o → h'.get? b = some o) → h'.get? s.heap.objs.size = some { cls := .type "list", dict := none, data := .seq acc c', slots := #[] } →
      ItemsOf (fun i v => items[items.size - 1 - i]? = some v) acc items.size → Q (.ref s.heap.objs.size) { s with heap := h', toks := tk }) :
    wpAny (model prog w) A (call (.type "list") [.ref it]) Q E s := by
  obtain ⟨oi, hoi, _⟩ := id hit
  obtain ⟨ol, hol, _⟩ := id hl
  refine callType_codes (Q₁ := fun obj s₁ => obj = .ref s.heap.objs.size ∧ s₁ = { s with heap := s.heap.push { cls := .type "list", data := .seq #[] } }) F.called_list (F.typeCall_list_1 _) F.entry_list_init
    (code_list_new _ ⟨rfl, rfl⟩) fun obj s₁ h₁ => ?_
  obtain ⟨rfl, rfl⟩ := h₁
  generalize hSz : s.heap.objs.size = S at *
  have hS : (s.heap.push { cls := .type "list", data := .seq #[] }).get? S = some { cls := .type "list", data := .seq #[] } := by rw [← hSz]; exact Heap.get?_push_size _ rfl
  have hSi : S ≠ it := by rw [← hSz]; exact Nat.ne_of_gt (Heap.lt_size hoi)
  have hSl : S ≠ l := by rw [← hSz]; exact Nat.ne_of_gt (Heap.lt_size hol)
  refine ⟨⟨_, hS, rfl⟩, F.args_list_init_2 _ _, ?_⟩
  show wpAny _ _ (do let old ← Builtin.List.listItems (.ref S); Builtin.List.listUpdate (.ref S) (fun _ => #[]); letGo old.toList.reverse; Builtin.List.listExtendWith (.ref S) (.ref it) .none) _ _ _
  refine wpAny_bind ?_
  unfold Builtin.List.listItems
  refine wpAny_bind (wpAny_seqItems hS rfl (wpAny_pure ?_))
  show wpAny _ _ (updateSeq S (fun _ => #[]) >>= fun _ => letGo (#[] : Array Value).toList.reverse >>= fun _ => Builtin.List.listExtendWith (.ref S) (.ref it) .none) _ _ _
  refine wpAny_bind (wpAny_updateSeq hS rfl ?_)
  have hS2 := Heap.get?_update_self (Obj.mapSeq (fun _ => (#[] : Array Value))) hS rfl
  have old : ∀ b o, b ≠ S → s.heap.get? b = some o → ((s.heap.push { cls := .type "list", data := .seq #[] }).update S (Obj.mapSeq (fun _ => (#[] : Array Value)))).get? b = some o :=
    fun b o hb e => (Heap.get?_update_other _ _ (Ne.symm hb)).trans (Heap.get?_push_of_some _ e)
  refine wpAny_bind (wpAny_letGo ?_)
  refine extend_back (A := A.in1) hh (hit.at fun o e => old it o (Ne.symm hSi) e) (hl.at fun o e => old l o (Ne.symm hSl) e) hne hn hS2 hSi hSl fun h' tk acc c' hk hS' hacc => ?_
  exact ⟨rfl, hQ h' tk acc c' (fun b o hb e => hk b o (by rw [← hSz]; exact Nat.ne_of_lt (Heap.lt_size e)) hb (old b o (by rw [← hSz]; exact Nat.ne_of_lt (Heap.lt_size e)) e)) hS' hacc⟩
end
end JX
end PySem
namespace JJ
open PySem PySem.Spec L2
open PyProof.Rows (Call_ callWith_type1 args_cons args_nil)
def rLBack (K : PySem.W.Frag) : V → Hp → VK → Prop := fun x H Q => ∃ a xs, x = .ref a ∧ SqL K H a xs ∧ ∀ q, H q = none → Q (.ref q) (upd H q (.lst xs.reverse))
theorem pe_lback {X : Cx} {e : Expr} {te : TE} {p p2 q pos : Pos} (hc : X.calm = true) (hg : Gl X "list") (hm : X.mg "list" = none) (hg2 : Gl X "reversed") (hm2 : X.mg "reversed" = none) (he : PE X e te)
    (na : starEach [.Call (.Name "reversed" p2) [e] [] q] X.env = (false, eval (.Call (.Name "reversed" p2) [e] [] q) X.env) :: starEach [] X.env) (nb : starEach [e] X.env = (false, eval e X.env) :: starEach [] X.env) :
    PE X (.Call (.Name "list" p) [.Call (.Name "reversed" p2) [e] [] q] [] pos) (tUn (rLBack X.K) te) := by
  constructor
  intro pins s σ H Q I h
  refine Call_ (ld_blt I hg hm (by decide +kernel : bootBuiltins "list" = some (.type "list")) ?_)
  refine callWith_type1 (args_cons ?_ na) na rfl
  refine Call_ (ld_blt I hg2 hm2 (by decide +kernel : bootBuiltins "reversed" = some (.type "reversed")) ?_)
  refine callWith_type1 (args_cons (thn (he.run pins s σ H _ I h) ?_) nb) nb rfl
  rintro v s1 ⟨x, H1, I1, r1, a, xs, rfl, hx, qq⟩
  cases r1
  refine args_nil ?_
  obtain ⟨its, rv, pl, hz⟩ := I1.list hx
  refine call_reversed_list pl.isList (args_nil ?_)
  have k0 : ∀ b o, s1.heap.get? b = some o → (s1.heap.push (revObj a ((its.toArray.size : Int) - 1))).get? b = some o := fun b o e => Heap.get?_push_of_some _ e
  have I2 : Inv X pins σ H1 { s1 with heap := s1.heap.push (revObj a ((its.toArray.size : Int) - 1)) } := I1.kept (t' := s1.toks) k0
  have fp := I1.fpOk (H' := H1) (b := s1.heap.objs.size) (Nat.le_refl _) (I1.hok.fresh (Nat.le_refl _))
  have hl := pl.isList
  obtain ⟨ol, hol, _⟩ := id hl
  have hne : a ≠ s1.heap.objs.size := Nat.ne_of_lt (Heap.lt_size hol)
  have hn : its.toArray.size ≤ sizeLine := by rw [List.size_toArray, ← rv.length]; exact hz
  refine JX.call_listBack (s := { s1 with heap := s1.heap.push (revObj a ((its.toArray.size : Int) - 1)) }) (I1.ok.hd hc) ⟨_, Heap.get?_push_size _ rfl, rfl, rfl⟩ (hl.push _) hne hn fun h' tk acc c' hk hS hi => ?_
  have new : ObjOk X.prog X.w (upd H1 (s1.heap.push (revObj a ((its.toArray.size : Int) - 1))).objs.size (.lst xs.reverse)) h' (s1.heap.push (revObj a ((its.toArray.size : Int) - 1))).objs.size (.lst xs.reverse) :=
    ⟨by rw [List.length_reverse]; exact hz, acc.toList, c', RT.vals_rev rv hi, by rw [Array.toArray_toList]; exact hS⟩
  have I3 := I2.turnedNew (h' := h') (t' := tk) (ch := [s1.heap.objs.size]) (fun b o hb e => hk b o (fun z => hb (by simp [z])) e) (fun b hb => by rw [List.mem_singleton.mp hb]; exact fp) (Nat.le_refl _) new
  exact ⟨.ref _, _, I3, rfl, qq _ (I2.hok.fresh (Nat.le_refl _))⟩
def fLBack : MF := fun cs => match cs with
  | [.lst xs] => some (.lst xs.reverse, cs)
  | _ => none
theorem pr_lback {K : PySem.W.Frag} : PR K (r1L (rLBack K)) fLBack := by
  intro vs cs c cs' H ps Q e l hp k
  unfold fLBack at e
  match cs, e with
  | [.lst xs], e =>
    cases e
    obtain ⟨v, F, rfl, r⟩ := hp_1 l hp
    obtain ⟨a, us, rfl, h1, d1⟩ := r.lstv
    exact ⟨a, us, rfl, .inl (.inl h1), fun p hp' => k _ _ (hp.newL hp' d1.reverse) l⟩
theorem je_lback {ι : Type} {E : Ev ι} {e : Expr} {mp : MP} {p p2 q pos : Pos} (h : JP E e mp) (hm : E.mg "list" = none) (hm2 : E.mg "reversed" = none) (hg : ∀ j, Gl (E.X j) "list" := by exact fun _ => rfl) (hg2 : ∀ j, Gl (E.X j) "reversed" := by exact fun _ => rfl)
    (na : ∀ env, starEach [.Call (.Name "reversed" p2) [e] [] q] env = (false, eval (.Call (.Name "reversed" p2) [e] [] q) env) :: starEach [] env := by intro _; rfl)
    (nb : ∀ env, starEach [e] env = (false, eval e env) :: starEach [] env := by intro _; rfl) : JE E (.Call (.Name "list" p) [.Call (.Name "reversed" p2) [e] [] q] [] pos) (mApp fLBack (mlC mp mlN)) := by
  obtain ⟨te, a1, a2⟩ := h
  refine ⟨tUn (rLBack E.K) te, fun i => ?_, app_ok (sa_cons a2 sa_nil) pr_lback⟩
  have z := pe_lback (p := p) (p2 := p2) (q := q) (pos := pos) (E.calm i) (hg i) (by rw [E.hm]; exact hm) (hg2 i) (by rw [E.hm]; exact hm2) (a1 i) (na _) (nb _)
  rw [E.hK] at z
  exact z
end JJ
set_option maxHeartbeats 3200000
/-! J7d: sorted(set(a list of whole numbers)). -/
namespace PySem
namespace JX
open L2 PyProof.Rows
abbrev emp (w : World) : Obj := { cls := .type "set", dict := none, data := .set #[] 0 (.fresh 0 0 (!w.params.followText "set-order")) }
abbrev lit (l : Addr) : Obj := { cls := .type "list_iterator", data := .fields #[.ref l, .int 0 0] }
section
variable {P : Program} {w : World} {A : Around} {E : Value → Shared → Prop} {s : Shared}
theorem set_of_list {l : Addr} {its : Array Value} (ns : List Int) {Q : Value → Shared → Prop} (hd : A.handled = none) (hl : s.heap.IsList l its) (hi : IntsAre its.toList ns) (room : ns.length + 1 < scanBound)
    (k : ∀ (h' : Heap) (tk c : Nat), SetR w h' s.heap.objs.size (fun j => decide (j ∈ ns)) c → c ≤ ns.length → (∀ b o, s.heap.get? b = some o → h'.get? b = some o) → Q (.ref s.heap.objs.size) { s with heap := h', toks := tk }) :
    wpAny (model P w) A (call (.type "set") [.ref l]) Q E s := by
  have sz : its.size = ns.length := by
    have q := IntsAre.length hi
    rwa [Array.length_toList] at q
  obtain ⟨c, tl, hmro⟩ := F.called_set.mro
  have m1 := F.called_set.made
  have m2 := F.called_set.sub
  refine wpAny_call (codeAny_of_tree ?_)
  show wpAny _ _ (callAny (.type "set") ⟨[.ref l], []⟩) _ _ _
  refine wpAny_pure ⟨Code.quiet_builtin _ (by decide +kernel), codeAny_builtin F.entry_type_call ?_⟩
  rw [Around.under_plain (weight_type_call_type "set" [.ref l] []) rfl]
  have m3 := F.called_set.notType
  have m4 := F.called_set.canCreate
  have m5 := F.typeCall_set_1 (.ref l)
  repeat (any_goals (first | assumption | wp_step))
  refine codeAny_mono (code_set_led1 (.ref l) (E := E) (Q₁ := fun obj s1 => obj = .ref s.heap.objs.size ∧ s1 = { s with heap := s.heap.push (emp w) }) ⟨rfl, rfl⟩) fun r s1 hr => ?_
  cases r with
  | error e => exact hr
  | ok fl =>
    cases fl with
    | next => exact hr.elim
    | brk => exact hr.elim
    | cont => exact hr.elim
    | ret obj =>
      obtain ⟨rfl, rfl⟩ := hr
      have at0 : (s.heap.push (emp w)).get? s.heap.objs.size = some (emp w) := Heap.get?_push_size _ rfl
      have ty0 : Shared.TypeIs { s with heap := s.heap.push (emp w) } (.ref s.heap.objs.size) "set" := ⟨_, at0, rfl⟩
      have i1 := F.called_set.init.lookup
      have i2 := F.called_set.init.bind (.ref s.heap.objs.size)
      repeat (any_goals (first | assumption | wp_step))
      refine codeAny_mono (codeAny_call_builtin (R := wants (fun r s2 => r = .none ∧ ∃ h' tk c, s2 = { s with heap := h', toks := tk } ∧ SetR w h' s.heap.objs.size (fun j => decide (j ∈ ns)) c ∧ c ≤ ns.length ∧
          (∀ b o, s.heap.get? b = some o → h'.get? b = some o)) E) F.called_set.init.plain F.entry_set_init (check_set_init_1 ty0 ?_)) fun r2 s2 hr2 => ?_
      · obtain ⟨ol, ho, hc, n, hdt⟩ := hl
        obtain ⟨oc, od, odt, osl⟩ := ol
        dsimp only at hc hdt
        subst hc hdt
        have ho1 : (s.heap.push (emp w)).get? l = some { cls := .type "list", dict := od, data := .seq its n, slots := osl } := Heap.get?_push_of_some _ ho
        have b1 := F.sub_list_set
        have b2 := F.sub_list_frozenset
        have b3 : (Value.type "list" == Value.type "dict") = false := by decide
        have hl1 : (s.heap.push (emp w)).IsList l its := ⟨_, ho1, rfl, n, rfl⟩
        unfold Builtin.«set.__init__» noKeywords Builtin.Frozenset.updateFrom
        generalize hPI : pyIter = PI
        wp_walk
        subst hPI
        refine wpAny_pyIter_list hl1 (wpAny_bind (wpAny_runValue ?_))
        have lt0 : l < s.heap.objs.size := Heap.lt_size ho
        have hd3 : A.in1.in1.in1.handled = none := by simp [hd]
        have z1 : (s.heap.push (emp w)).objs.size = s.heap.objs.size + 1 := Heap.size_push ..
        have ne1 : l ≠ (s.heap.push (emp w)).objs.size := by rw [z1]; exact Nat.ne_of_lt (Nat.lt_succ_of_lt lt0)
        have nin : s.heap.objs.size ∉ [(s.heap.push (emp w)).objs.size, l] := by
          rw [z1]
          intro h
          rcases List.mem_cons.mp h with h | h
          · exact absurd h (Nat.ne_of_lt (Nat.lt_succ_self _))
          · exact absurd (List.mem_singleton.mp h) (Nat.ne_of_gt lt0)
        have hv : ∀ (i : Nat) (v : Value), its[i]? = some v → ∃ k t, ns[i]? = some k ∧ v = .int k t := fun i v e => by
          have hi' : i < ns.length := by rw [← sz]; exact (Array.getElem?_eq_some_iff.mp e).1
          obtain ⟨t, e2⟩ := IntsAre.int_at hi i v (by rw [Array.getElem?_toList]; exact e)
          refine ⟨ns[i], t, List.getElem?_eq_getElem hi', ?_⟩
          rw [e2, List.getD_eq_getElem?_getD, List.getElem?_eq_getElem hi'] <;> rfl
        refine set_update_ints ((Walks.list hd3 _ l ne1 its).toS) s.heap.objs.size nin ns sz room hv (its.size - 0) 0 _ (by omega) (Nat.zero_le _) ⟨⟨_, Heap.get?_push_size _ rfl, rfl, rfl⟩, hl1.push _⟩ ?st ?en
        case st => exact ⟨0, Nat.le_refl 0, setR_new_at (Heap.get?_push_of_some _ at0)⟩
        case en =>
          intro s' c' mv le1 R1
          obtain ⟨h', g2, d', tk', os'⟩ := s'
          have eg : g2 = s.gens := mv.gens
          have ed : d' = s.drawn := mv.drawn
          have eo : os' = s.os := mv.os
          subst eg ed eo
          refine wpAny_pure ?_
          show wpAny _ _ (ret Value.none) _ _ _
          rw [sz] at le1
          refine wpAny_pure ⟨rfl, h', tk', c', rfl, R1, le1, fun b o e => ?_⟩
          have lb : b < s.heap.objs.size := Heap.lt_size e
          refine mv.heap b o (fun m => ?_) (Heap.get?_push_of_some _ (Heap.get?_push_of_some _ e))
          rcases List.mem_cons.mp m with m | m
          · exact absurd m (Nat.ne_of_lt lb)
          · have m2 := List.mem_singleton.mp m
            exact absurd lb (by rw [m2, z1]; exact Nat.not_lt.mpr (Nat.le_succ _))
      · cases r2 with
        | error e => exact hr2
        | ok fl2 =>
          cases fl2 with
          | ret r =>
            obtain ⟨rfl, h', tk, c, rfl, R1, le1, kk⟩ := hr2
            repeat (any_goals (first | assumption | wp_step))
            exact k _ _ _ R1 le1 kk
          | _ => exact hr2.elim
end
end JX
end PySem
namespace JJ
open PySem L2
/-- set(a list of whole numbers) -/
def rSetLI (K : PySem.W.Frag) (w : World) : List V → Hp → VK → Prop := fun xs H Q => ∃ (p : Addr) (ns : List Int), xs = [.ref p] ∧ SqL K H p (ns.map V.int) ∧ ns.length ≤ 1000 ∧ ∀ q c, H q = none → c ≤ ns.length → Q (.ref q) (upd H q (SetO w q (fun j => decide (j ∈ ns)) c))
theorem cr_setLI {X : Cx} (hc : X.calm = true) : CallR X (.type "set") (rSetLI X.K X.w) := by
  intro pins s σ H xs us Q I r h
  obtain ⟨p, ns, rfl, hs, hz, q⟩ := h
  rw [Vals.ref1 r]
  obtain ⟨its, rv, pl, hz'⟩ := I.list hs
  have hi : PyProof.Rows.IntsAre its ns := ints_of_vals rv
  refine JX.set_of_list (its := its.toArray) ns (I.ok.hd hc) (let ⟨o, n, h1, h2, _, h3⟩ := pl; ⟨o, h1, h2, n, h3⟩) (by simpa using hi) (by unfold scanBound; omega) fun h' tk c R le k => ?_
  exact ⟨.ref _, _, I.laid (t' := tk) k (Nat.le_refl _) (setO_new R), rfl, q _ c (I.hok.fresh (Nat.le_refl _)) le⟩
end JJ
/-! J7e: builtins by name; sorted(set(..)); repr; dicts; keywords; the bag. -/
namespace JJ
open PySem L2
open PyProof.Rows (envOfC)

section
variable {ι : Type} {E : Ev ι} {e e2 : Expr} {es : List Expr} {ml : ML} {pos p : Pos}
theorem je_len (h : JA E [e] ml) (hm : E.mg "len" = none) (hg : ∀ j, Gl (E.X j) "len" := by exact fun _ => rfl) (he : ∀ env, starEach [e] env = (false, eval e env) :: starEach [] env := by intro _; rfl) : JE E (.Call (.Name "len" p) [e] [] pos) (mApp fLen ml) :=
  je_blt (id := "len") (fun i => by have z := call_len_seq (X := E.X i); rw [E.hK] at z; exact z) pr_len hm (by decide +kernel) h hg (by decide) (by decide) he (fun _ => rfl)
theorem je_intc (h : JA E [e] ml) (hm : E.mg "int" = none) (hg : ∀ j, Gl (E.X j) "int" := by exact fun _ => rfl) (he : ∀ env, starEach [e] env = (false, eval e env) :: starEach [] env := by intro _; rfl) : JE E (.Call (.Name "int" p) [e] [] pos) (mApp fInt ml) :=
  je_bty (T := "int") (fun i => call_int1) pr_int hm (by decide +kernel) h hg (by decide) (by decide) he (fun _ => rfl)
theorem je_abs (h : JA E [e] ml) (hm : E.mg "abs" = none) (hg : ∀ j, Gl (E.X j) "abs" := by exact fun _ => rfl) (he : ∀ env, starEach [e] env = (false, eval e env) :: starEach [] env := by intro _; rfl) : JE E (.Call (.Name "abs" p) [e] [] pos) (mApp fAbs ml) :=
  je_blt (id := "abs") (fun i => call_abs) pr_abs hm (by decide +kernel) h hg (by decide) (by decide) he (fun _ => rfl)
theorem je_max2 (h : JA E [e, e2] ml) (hm : E.mg "max" = none) (hg : ∀ j, Gl (E.X j) "max" := by exact fun _ => rfl) (he : ∀ env, starEach [e, e2] env = (false, eval e env) :: starEach [e2] env := by intro _; rfl) (hpl : ∀ env, (backTo pos (starEach [e2] env)).any (·.1) = false := by intro _; rfl) : JE E (.Call (.Name "max" p) [e, e2] [] pos) (mApp fMax2 ml) :=
  je_blt (id := "max") (fun i => call_max2 (E.calm i)) pr_max2 hm (by decide +kernel) h hg (by decide) (by decide) he hpl
theorem je_min2 (h : JA E [e, e2] ml) (hm : E.mg "min" = none) (hg : ∀ j, Gl (E.X j) "min" := by exact fun _ => rfl) (he : ∀ env, starEach [e, e2] env = (false, eval e env) :: starEach [e2] env := by intro _; rfl) (hpl : ∀ env, (backTo pos (starEach [e2] env)).any (·.1) = false := by intro _; rfl) : JE E (.Call (.Name "min" p) [e, e2] [] pos) (mApp fMin2 ml) :=
  je_blt (id := "min") (fun i => call_min2 (E.calm i)) pr_min2 hm (by decide +kernel) h hg (by decide) (by decide) he hpl
theorem je_list (h : JA E [e] ml) (hm : E.mg "list" = none) (hg : ∀ j, Gl (E.X j) "list" := by exact fun _ => rfl) (he : ∀ env, starEach [e] env = (false, eval e env) :: starEach [] env := by intro _; rfl) : JE E (.Call (.Name "list" p) [e] [] pos) (mApp fList ml) :=
  je_bty (T := "list") (fun i => by have z := call_list_of (X := E.X i); rw [E.hK] at z; exact z) pr_list hm (by decide +kernel) h hg (by decide) (by decide) he (fun _ => rfl)
theorem je_tuple (h : JA E [e] ml) (hm : E.mg "tuple" = none) (hg : ∀ j, Gl (E.X j) "tuple" := by exact fun _ => rfl) (he : ∀ env, starEach [e] env = (false, eval e env) :: starEach [] env := by intro _; rfl) : JE E (.Call (.Name "tuple" p) [e] [] pos) (mApp fTuple ml) :=
  je_bty (T := "tuple") (fun i => by have z := call_tuple_of (X := E.X i); rw [E.hK] at z; exact z) pr_tuple hm (by decide +kernel) h hg (by decide) (by decide) he (fun _ => rfl)
theorem je_sum (h : JA E [e] ml) (hm : E.mg "sum" = none) (hg : ∀ j, Gl (E.X j) "sum" := by exact fun _ => rfl) (he : ∀ env, starEach [e] env = (false, eval e env) :: starEach [] env := by intro _; rfl) : JE E (.Call (.Name "sum" p) [e] [] pos) (mApp fSum ml) :=
  je_blt (id := "sum") (fun i => by have z := cr_sum (E.calm i); rw [E.hK] at z; exact z) pr_sum hm (by decide +kernel) h hg (by decide) (by decide) he (fun _ => rfl)
theorem je_all (h : JA E [e] ml) (hm : E.mg "all" = none) (hg : ∀ j, Gl (E.X j) "all" := by exact fun _ => rfl) (he : ∀ env, starEach [e] env = (false, eval e env) :: starEach [] env := by intro _; rfl) : JE E (.Call (.Name "all" p) [e] [] pos) (mApp fAll ml) :=
  je_blt (id := "all") (fun i => by have z := cr_all (E.calm i); rw [E.hK] at z; exact z) pr_all hm (by decide +kernel) h hg (by decide) (by decide) he (fun _ => rfl)
theorem je_any (h : JA E [e] ml) (hm : E.mg "any" = none) (hg : ∀ j, Gl (E.X j) "any" := by exact fun _ => rfl) (he : ∀ env, starEach [e] env = (false, eval e env) :: starEach [] env := by intro _; rfl) : JE E (.Call (.Name "any" p) [e] [] pos) (mApp fAny ml) :=
  je_blt (id := "any") (fun i => by have z := cr_any (E.calm i); rw [E.hK] at z; exact z) pr_any hm (by decide +kernel) h hg (by decide) (by decide) he (fun _ => rfl)
end

/-! ### sorted(set(e)) -/
def insU (k : Int) : List Int → List Int
  | [] => [k]
  | a :: r => if k < a then k :: a :: r else if k = a then a :: r else a :: insU k r
def sortU : List Int → List Int
  | [] => []
  | a :: r => insU a (sortU r)
theorem mem_insU {k j : Int} : ∀ {l : List Int}, j ∈ insU k l ↔ j = k ∨ j ∈ l
  | [] => by simp [insU]
  | a :: r => by
    unfold insU
    by_cases h : k < a
    · rw [if_pos h]; simp
    · rw [if_neg h]
      by_cases h2 : k = a
      · rw [if_pos h2, h2]; simp
      · rw [if_neg h2, List.mem_cons, mem_insU, List.mem_cons]
        constructor
        · rintro (h | h | h)
          · exact .inr (.inl h)
          · exact .inl h
          · exact .inr (.inr h)
        · rintro (h | h | h)
          · exact .inr (.inl h)
          · exact .inl h
          · exact .inr (.inr h)
theorem mem_sortU {j : Int} : ∀ {l : List Int}, j ∈ sortU l ↔ j ∈ l
  | [] => by simp [sortU]
  | a :: r => by unfold sortU; rw [mem_insU, mem_sortU, List.mem_cons]
theorem asc_insU {k : Int} : ∀ {l : List Int}, l.Pairwise (· < ·) → (insU k l).Pairwise (· < ·)
  | [], _ => by simp [insU]
  | a :: r, h => by
    obtain ⟨h1, h2⟩ := List.pairwise_cons.mp h
    unfold insU
    by_cases c : k < a
    · rw [if_pos c]
      refine List.pairwise_cons.mpr ⟨fun j hj => ?_, h⟩
      rcases List.mem_cons.mp hj with rfl | hj
      · exact c
      · exact Int.lt_trans c (h1 j hj)
    · rw [if_neg c]
      by_cases c2 : k = a
      · rw [if_pos c2]; exact h
      · rw [if_neg c2]
        refine List.pairwise_cons.mpr ⟨fun j hj => ?_, asc_insU h2⟩
        rcases mem_insU.mp hj with rfl | hj
        · omega
        · exact h1 j hj
theorem asc_sortU : ∀ (l : List Int), (sortU l).Pairwise (· < ·)
  | [] => .nil
  | a :: r => asc_insU (asc_sortU r)
theorem asc_uniq : ∀ {l m : List Int}, l.Pairwise (· < ·) → m.Pairwise (· < ·) → (∀ k, k ∈ l ↔ k ∈ m) → l = m
  | [], [], _, _, _ => rfl
  | [], b :: m, _, _, h => by have := (h b).mpr (by simp); simp at this
  | a :: l, [], _, _, h => by have := (h a).mp (by simp); simp at this
  | a :: l, b :: m, hl, hm, h => by
    obtain ⟨l1, l2⟩ := List.pairwise_cons.mp hl
    obtain ⟨m1, m2⟩ := List.pairwise_cons.mp hm
    have e : a = b := by
      rcases List.mem_cons.mp ((h a).mp (by simp)) with e | q
      · exact e
      · rcases List.mem_cons.mp ((h b).mpr (by simp)) with e | q2
        · exact e.symm
        · have := m1 a q
          have := l1 b q2
          omega
    subst e
    congr 1
    refine asc_uniq l2 m2 fun k => ⟨fun q => ?_, fun q => ?_⟩
    · rcases List.mem_cons.mp ((h k).mp (by simp [q])) with e | z
      · have := l1 k q; omega
      · exact z
    · rcases List.mem_cons.mp ((h k).mpr (by simp [q])) with e | z
      · have := m1 k q; omega
      · exact z
def mSSet (m : ME) : ME := fun Γ => match m Γ with
  | some (.lst xs, Γ') => (match intsOf xs with
    | some ns => if ns.length < 64 then some (.lst ((sortU ns).map .int), Γ') else none
    | none => none)
  | _ => none
theorem mSSet_of {m : ME} {Γ Γ' : List CD} {c : CD} (e : mSSet m Γ = some (c, Γ')) : ∃ xs ns, m Γ = some (.lst xs, Γ') ∧ intsOf xs = some ns ∧ ns.length < 64 ∧ c = .lst ((sortU ns).map .int) := by
  unfold mSSet at e
  match h : m Γ, e with
  | some (.lst xs, G), e =>
    dsimp only at e
    cases e1 : intsOf xs with
    | none => rw [e1] at e; cases e
    | some ns =>
      rw [e1] at e
      obtain ⟨h1, h2⟩ := ite_none e
      cases h2
      exact ⟨xs, ns, rfl, e1, h1, rfl⟩
theorem Hs.newL {K : PySem.W.Frag} {H H' : Hp} {Δ : List (CD × Option V)} {Γ : List CD} {σ : St} {c : CD} {o : Option V} (h : Hs K H Δ Γ σ) (k : ∀ a u, H a = some u → H' a = some u) {F2 : List Addr} (r : CR K H' c o F2) (n : F2.Nodup) (f : ∀ a ∈ F2, H a = none) : Hs K H' ((c, o) :: Δ) Γ σ := ⟨h.1, h.2.new k r n f⟩
section
variable {ι : Type} {E : Ev ι} {e : Expr} {m : ME} {pos p p2 q : Pos}
theorem je_sset (h : JE E e m) (hm : E.mg "sorted" = none) (hm2 : E.mg "set" = none) (hg : ∀ j, Gl (E.X j) "sorted" := by exact fun _ => rfl) (hg2 : ∀ j, Gl (E.X j) "set" := by exact fun _ => rfl)
    (na : ∀ env, starEach [.Call (.Name "set" p2) [e] [] q] env = (false, eval (.Call (.Name "set" p2) [e] [] q) env) :: starEach [] env := by intro _; rfl)
    (nb : ∀ env, starEach [e] env = (false, eval e env) :: starEach [] env := by intro _; rfl) : JE E (.Call (.Name "sorted" p) [.Call (.Name "set" p2) [e] [] q] [] pos) (mSSet m) := by
  obtain ⟨te, a1, a2⟩ := h
  refine ⟨tCB (rSortedSet E.w) (tCons (tCB (rSetLI E.K E.w) (tCons te tNil)) tNil), fun i => ?_, fun Δ Γ σ H Q c Γ' qq hs k => ?_⟩
  · have z1 := cr_setLI (X := E.X i) (E.calm i)
    have z2 := cr_sortedSet (X := E.X i) (E.calm i)
    rw [E.hK, E.hw] at z1
    rw [E.hw] at z2
    have y1 := pe_callTy (pos := q) (p := p2) z1 (hg2 i) (by rw [E.hm]; exact hm2) (by decide +kernel) (pa_cons (a1 i) pa_nil (nb _)) (by decide) (by decide) (nb _) rfl
    exact pe_callB (pos := pos) (p := p) z2 (hg i) (by rw [E.hm]; exact hm) (by decide +kernel) (pa_cons y1 pa_nil (na _)) (by decide) (by decide) (na _) rfl
  · obtain ⟨xs, ns, e1, e2, h64, rfl⟩ := mSSet_of qq
    refine a2 Δ Γ σ H _ _ _ e1 hs fun v H1 h1 => ?_
    obtain ⟨pp, vs, ev, hp, dl⟩ := h1.2.lst
    cases ev
    rw [intsOf_ok e2] at dl
    have ei := dl.ints
    subst ei
    refine ⟨pp, ns, rfl, .inl (.inl hp), by omega, fun qa c hq hc => ?_⟩
    refine ⟨qa, _, c, rfl, upd_same, by omega, fun ms r as hmem hl hr => ?_⟩
    have em : ms = sortU ns := asc_uniq as (asc_sortU ns) fun j => by
      rw [hmem j, mem_sortU]; simp
    subst em
    have hr0 : H1 r = none := by
      cases hz : H1 r with
      | none => rfl
      | some u => rw [upd_new hq r u hz] at hr; cases hr
    refine k _ _ (h1.dropTop.newL (fun a u hu => upd_new hr a u (upd_new hq a u hu)) (F2 := [r]) ⟨r, _, rfl, rfl, upd_same, DatL.ofInts _⟩ (by simp) (by simpa using hr0))
end

/-! ### repr of a list of data -/
def gRepr : List CD → Option Da
  | [c] => match pyOf c with
    | some d => (match d with
      | .list xs => if d.showable = true ∧ d.hasDict = false ∧ d.depth ≤ 60 ∧ d.shown.length ≤ sizeLine then some (.str d.shown) else none
      | .tuple xs => if d.showable = true ∧ d.hasDict = false ∧ d.depth ≤ 60 ∧ d.shown.length ≤ sizeLine then some (.str d.shown) else none
      | _ => none)
    | none => none
  | _ => none
def fRepr : MF := mR gRepr
theorem gRepr_of {cs : List CD} {d : Da} (e : gRepr cs = some d) : ∃ c x, cs = [c] ∧ pyOf c = some x ∧ (∃ xs, x = .list xs ∨ x = .tuple xs) ∧ x.showable = true ∧ x.hasDict = false ∧ x.depth ≤ 60 ∧ x.shown.length ≤ sizeLine ∧ d = .str x.shown := by
  match cs, e with
  | [c], e =>
    unfold gRepr at e
    dsimp only at e
    cases e1 : pyOf c with
    | none => rw [e1] at e; cases e
    | some x =>
      rw [e1] at e
      dsimp only at e
      cases x with
      | list xs =>
        obtain ⟨⟨h1, h2, h3, h4⟩, rfl⟩ := ite_none e
        exact ⟨c, _, rfl, e1, ⟨xs, .inl rfl⟩, h1, h2, h3, h4, rfl⟩
      | tuple xs =>
        obtain ⟨⟨h1, h2, h3, h4⟩, rfl⟩ := ite_none e
        exact ⟨c, _, rfl, e1, ⟨xs, .inr rfl⟩, h1, h2, h3, h4, rfl⟩
      | none => cases e
      | bool _ => cases e
      | int _ => cases e
      | str _ => cases e
      | dict _ => cases e
def rReprD (K : PySem.W.Frag) : List V → Hp → VK → Prop := fun xs H Q => ∃ (x : V) (d : Da), xs = [x] ∧ (∃ a, x = .ref a) ∧ Dp K H x d ∧ d.showable = true ∧ d.hasDict = false ∧ d.depth ≤ 60 ∧ d.shown.length ≤ sizeLine ∧ Q (.str d.shown) H
theorem cr_repr {X : Cx} {k : Nat} (hr : Room k X.A) (hg : X.A.guards = some []) : CallR X (.builtin "repr") (rReprD X.K) := by
  intro pins s σ H xs us Q I r h
  obtain ⟨x, d, rfl, ⟨a, rfl⟩, hd, h1, h2, h3, h4, q⟩ := h
  rw [Vals.ref1 r]
  obtain ⟨as, rd⟩ := Dp.reads I d (.ref a) (.ref a) hd rfl
  have hu := roomUnits hr
  refine repr_of_reads' rd h1 (PyData.noDict_hsm h2) hg (by omega) (fun _ _ e => e) (fun h' u tk kk => ?_) h4
  exact ⟨.str d.shown, H, I.kept kk, ⟨_, rfl⟩, q⟩
theorem pr_repr {K : PySem.W.Frag} : PR K (rReprD K) fRepr := pr_r fun vs cs d H ps Q e l hp k => by
  obtain ⟨c, x, rfl, e1, ⟨xs, hx⟩, h1, h2, h3, h4, rfl⟩ := gRepr_of e
  obtain ⟨v, F, rfl, r⟩ := hp_1 l hp
  have rd := r.dp e1
  refine ⟨v, x, rfl, ?_, rd, h1, h2, h3, h4, k _ H (fun _ _ x => x) (.str _)⟩
  rcases hx with rfl | rfl
  · cases rd with
    | lst _ _ => exact ⟨_, rfl⟩
  · cases rd with
    | tup _ _ => exact ⟨_, rfl⟩
theorem je_repr {ι : Type} {E : Ev ι} {e : Expr} {ml : ML} {pos p : Pos} (h : JA E [e] ml) (hm : E.mg "repr" = none) (hg : ∀ j, Gl (E.X j) "repr" := by exact fun _ => rfl) (he : ∀ env, starEach [e] env = (false, eval e env) :: starEach [] env := by intro _; rfl) : JE E (.Call (.Name "repr" p) [e] [] pos) (mApp fRepr ml) :=
  je_blt (id := "repr") (fun i => by have z := cr_repr (E.room i) (E.gds i); rw [E.hK] at z; exact z) pr_repr hm (by decide +kernel) h hg (by decide) (by decide) he (fun _ => rfl)
end JJ
/-! J7f: dicts of data; the bag of draws; calls by keywords. -/
namespace JJ
open PySem L2
open PyProof.Rows (envOfC)

/-! ### dicts -/
def keyOfD : Da → Option Key
  | .int i => some (.inl i)
  | .str s => some (.inr s)
  | _ => none
theorem keyOfD_ok {K : PySem.W.Frag} {H : Hp} {d : Da} {k : Key} {v : V} (e : keyOfD d = some k) (r : Dat K H v d) : v = kV k := by
  cases d with
  | int i => cases e; cases r; rfl
  | str s => cases e; cases r; rfl
  | none => cases e
  | bool _ => cases e
  | list _ => cases e
  | tuple _ => cases e
  | dict _ => cases e
def getD (kvs : List (Key × Da)) (k : Key) : Option Da := match kvs with
  | [] => none
  | (j, d) :: r => if j = k then some d else getD r k
def repD (kvs : List (Key × Da)) (k : Key) (d : Da) : List (Key × Da) := kvs.map fun kv => if kv.1 = k then (kv.1, d) else kv
def putD (kvs : List (Key × Da)) (k : Key) (d : Da) : List (Key × Da) := if (getD kvs k).isSome = true then repD kvs k d else kvs ++ [(k, d)]
section
variable {K : PySem.W.Frag} {H : Hp}
theorem DatK.len : ∀ {a : List (Key × V)} {b : List (Key × Da)}, DatK K H a b → a.length = b.length
  | [], [], _ => rfl
  | _ :: _, _ :: _, ⟨_, _, h⟩ => by rw [List.length_cons, List.length_cons, DatK.len h]
  | [], _ :: _, h => h.elim
  | _ :: _, [], h => h.elim
theorem DatK.get : ∀ {a : List (Key × V)} {b : List (Key × Da)} {k : Key} {d : Da}, DatK K H a b → getD b k = some d → ∃ v, valV a k = some v ∧ Dat K H v d
  | [], [], _, _, _, e => by cases e
  | p :: a, (j, x) :: b, k, d, ⟨h1, h2, h3⟩, e => by
    unfold getD at e
    by_cases c : j = k
    · rw [if_pos c] at e
      cases e
      exact ⟨p.2, valV_pos (h1.trans c), h2⟩
    · rw [if_neg c] at e
      obtain ⟨v, h4, h5⟩ := DatK.get h3 e
      exact ⟨v, by rw [valV_neg (fun z => c (h1.symm.trans z))]; exact h4, h5⟩
  | [], _ :: _, _, _, h, _ => h.elim
  | _ :: _, [], _, _, h, _ => h.elim
theorem DatK.some : ∀ {a : List (Key × V)} {b : List (Key × Da)} (k : Key), DatK K H a b → (valV a k).isSome = (getD b k).isSome
  | [], [], _, _ => rfl
  | p :: a, (j, x) :: b, k, ⟨h1, h2, h3⟩ => by
    unfold getD
    by_cases c : j = k
    · rw [if_pos c, valV_pos (h1.trans c)]; rfl
    · rw [if_neg c, valV_neg (fun z => c (h1.symm.trans z))]; exact DatK.some k h3
  | [], _ :: _, _, h => h.elim
  | _ :: _, [], _, h => h.elim
theorem DatK.rep {k : Key} {v : V} {d : Da} (r : Dat K H v d) : ∀ {a : List (Key × V)} {b : List (Key × Da)}, DatK K H a b → DatK K H (a.map fun kv => if kv.1 = k then (kv.1, v) else kv) (repD b k d)
  | [], [], _ => True.intro
  | p :: a, q :: b, ⟨h1, h2, h3⟩ => by
    unfold repD
    rw [List.map_cons, List.map_cons]
    refine ⟨?_, ?_, DatK.rep r h3⟩
    · by_cases c : p.1 = k
      · rw [if_pos c, if_pos (h1.symm.trans c)]; exact h1
      · rw [if_neg c, if_neg (fun z => c (h1.trans z))]; exact h1
    · by_cases c : p.1 = k
      · rw [if_pos c, if_pos (h1.symm.trans c)]; exact r
      · rw [if_neg c, if_neg (fun z => c (h1.trans z))]; exact h2
  | [], _ :: _, h => h.elim
  | _ :: _, [], h => h.elim
theorem DatK.app {k : Key} {v : V} {d : Da} (r : Dat K H v d) : ∀ {a : List (Key × V)} {b : List (Key × Da)}, DatK K H a b → DatK K H (a ++ [(k, v)]) (b ++ [(k, d)])
  | [], [], _ => ⟨rfl, r, True.intro⟩
  | _ :: _, _ :: _, ⟨h1, h2, h3⟩ => ⟨h1, h2, DatK.app r h3⟩
  | [], _ :: _, h => h.elim
  | _ :: _, [], h => h.elim
theorem DatK.put {a : List (Key × V)} {b : List (Key × Da)} {k : Key} {v : V} {d : Da} (h : DatK K H a b) (r : Dat K H v d) : DatK K H (putK a k v) (putD b k d) := by
  unfold putK putD
  rw [valV_any, h.some k]
  by_cases c : (getD b k).isSome = true
  · rw [if_pos c, if_pos c]; exact h.rep r
  · rw [if_neg c, if_neg c]; exact h.app r
end
def mDNew : ME := fun Γ => some (.dic [], Γ)
/-- names[key], names the dict in the k-th slot -/
def mIxD (k : Nat) (mi : ME) : ME := fun Γ => match Γ[k]? with
  | some (.dic _) => (match mi Γ with
    | some (.dat d, Γ') => (match Γ'[k]?, keyOfD d with
      | some (.dic kvs), some y => (match getD kvs y with
        | some x => some (.dat x, Γ')
        | none => none)
      | _, _ => none)
    | _ => none)
  | _ => none
theorem mIxD_of {k : Nat} {mi : ME} {Γ Γ' : List CD} {c : CD} (e : mIxD k mi Γ = some (c, Γ')) : ∃ ks d kvs y x, Γ[k]? = some (.dic ks) ∧ mi Γ = some (.dat d, Γ') ∧ Γ'[k]? = some (.dic kvs) ∧ keyOfD d = some y ∧ getD kvs y = some x ∧ c = .dat x := by
  unfold mIxD at e
  match h0 : Γ[k]?, e with
  | some (.dic ks), e =>
    dsimp only at e
    match h : mi Γ, e with
    | some (.dat d, G), e =>
      dsimp only at e
      match h2 : G[k]?, h3 : keyOfD d, e with
      | some (.dic kvs), some y, e =>
        dsimp only at e
        cases h4 : getD kvs y with
        | none => rw [h4] at e; cases e
        | some x => rw [h4] at e; cases e; exact ⟨ks, d, kvs, y, x, rfl, rfl, h2, h3, h4, rfl⟩
def mSetD (m : ME) (k : Nat) (mi : ME) : MS := fun Γ => match m Γ with
  | some (.dat d, Γ1) => (match Γ1[k]? with
    | some (.dic _) => (match mi Γ1 with
      | some (.dat j, Γ2) => (match Γ2[k]?, keyOfD j with
        | some (.dic kvs), some y => if kvs.length < sizeLine then some (.nx (Γ2.set k (.dic (putD kvs y d)))) else none
        | _, _ => none)
      | _ => none)
    | _ => none)
  | _ => none
theorem mSetD_of {m mi : ME} {k : Nat} {Γ : List CD} {o : Out} (e : mSetD m k mi Γ = some o) : ∃ d Γ1 ys j Γ2 kvs y, m Γ = some (.dat d, Γ1) ∧ Γ1[k]? = some (.dic ys) ∧ mi Γ1 = some (.dat j, Γ2) ∧ Γ2[k]? = some (.dic kvs) ∧ keyOfD j = some y ∧ kvs.length < sizeLine ∧ o = .nx (Γ2.set k (.dic (putD kvs y d))) := by
  unfold mSetD at e
  match h : m Γ, e with
  | some (.dat d, Γ1), e =>
    dsimp only at e
    match h5 : Γ1[k]?, e with
    | some (.dic ys), e =>
      dsimp only at e
      match h2 : mi Γ1, e with
      | some (.dat j, Γ2), e =>
        dsimp only at e
        match h3 : Γ2[k]?, h4 : keyOfD j, e with
        | some (.dic kvs), some y, e =>
          dsimp only at e
          obtain ⟨h6, rfl⟩ := ite_none e
          exact ⟨d, Γ1, ys, j, Γ2, kvs, y, rfl, h5, h2, h3, h4, h6, rfl⟩
theorem CR.dicv {K : PySem.W.Frag} {H : Hp} {v : V} {F : List Addr} {ds : List (Key × Da)} (r : CR K H (.dic ds) (some v) F) : ∃ a xs, v = .ref a ∧ F = [a] ∧ H a = some (.dK xs) ∧ DatK K H xs ds := by
  obtain ⟨p, xs, q, e, h1, h2⟩ := r
  cases q
  exact ⟨p, xs, rfl, e, h1, h2⟩
section
variable {ι : Type} {E : Ev ι} {e idx : Expr} {mi me : ME} {pos pos' p2 : Pos} {x : Str}
theorem je_dnew : JE E (.Dict [] [] pos) mDNew := ⟨tDNewK, fun _ => pe_dnewK, fun Δ Γ σ H Q c Γ' e hs k => by
  cases e
  intro p hp
  exact k (.ref p) _ (hs.newL (upd_new hp) (F2 := [p]) ⟨p, [], rfl, rfl, upd_same, True.intro⟩ (by simp) (by simpa using hp))⟩
theorem unitsOk {ι : Type} (E : Ev ι) (i : ι) : (E.X i).A.units + 1 < cLine := by have := roomUnits (E.room i); omega
theorem je_ixD (k : Nat) (hi : JE E idx mi) (hN : E.N[k]? = some x := by rfl) (hv : ∀ j, Vis (E.X j).env.scope x := by first | exact fun _ => Or.inl rfl | exact fun _ => Or.inr (Or.inl rfl) | exact fun _ => Or.inr (Or.inr rfl))
    (hd : (x == ("__debug__" : Str)) = false := by decide) (hcd : (x == ("__classdict__" : Str)) = false := by decide) (hs : NoSl idx := by exact fun _ _ => rfl) : JE E (.Subscript (.Name x pos') idx pos) (mIxD k mi) := by
  obtain ⟨ti, b1, b2⟩ := hi
  refine ⟨tDGet (tVar k) ti, fun j => pe_dget (unitsOk E j) (pe_var (pos := pos') (by rw [E.hN]; exact hN) (hv j) hd hcd) (b1 j) hs, fun Δ Γ σ H Q c Γ' q hs' kk => ?_⟩
  obtain ⟨ks, d, kvs, y, w, e0, e1, e2, e3, e4, rfl⟩ := mIxD_of q
  obtain ⟨o1, F1, hσ, r1⟩ := hs'.at e0
  obtain ⟨p, us, rfl, _⟩ := r1
  refine ⟨.ref p, hσ, b2 Δ Γ σ H _ _ _ e1 hs' fun u H2 h2 => ?_⟩
  obtain ⟨u', eu, ru⟩ := h2.2.dat
  cases eu
  have h3 := h2.dropTop
  obtain ⟨o, F, h4, r⟩ := h3.at e2
  rw [hσ] at h4
  cases h4
  obtain ⟨a, xs, ea, _, h5, h6⟩ := r.dicv
  cases ea
  obtain ⟨w', h7, h8⟩ := h6.get e4
  rw [keyOfD_ok e3 ru]
  refine ⟨p, w', rfl, ?_, kk w' H2 ⟨h3.1, h3.2.push ⟨rfl, _, rfl, h8⟩⟩⟩
  rw [← h7]
  exact DGet.k h5
end
section
variable {ι : Type} {E : Es ι} {e idx : Expr} {mi me : ME} {pos pos' p2 : Pos} {x : Str}
theorem js_setD (k : Nat) (h : JE E.toEv e me) (hi : JE E.toEv idx mi) (hN : E.N[k]? = some x := by rfl) (hv : ∀ j, Vis (E.X j).env.scope x := by first | exact fun _ => Or.inl rfl | exact fun _ => Or.inr (Or.inl rfl) | exact fun _ => Or.inr (Or.inr rfl))
    (hd : (x == ("__debug__" : Str)) = false := by decide) (hcd : (x == ("__classdict__" : Str)) = false := by decide)
    (hs : ∀ j, swapsWith e (some (.Subscript (.Name x pos') idx p2)) pos.line (E.X j).env = pure false := by intro _; rfl) : JS E (.Assign [.Subscript (.Name x pos') idx p2] e pos) (mSetD me k mi) [] := by
  obtain ⟨te, a1, a2⟩ := h
  obtain ⟨ti, b1, b2⟩ := hi
  refine ⟨sDPut (tVar k) ti te, fun j => ps_dput (unitsOk E.toEv j) (pe_var (by rw [E.hN]; exact hN) (hv j) hd hcd) (b1 j) (a1 j) (hs j), fun Δ Γ σ H D o q hs k2 => ?_⟩
  obtain ⟨d, Γ1, ys, j, Γ2, kvs, y, e1, e5, e2, e3, e4, e6, rfl⟩ := mSetD_of q
  refine a2 Δ Γ σ H _ _ _ e1 hs fun v H1 h1 => ?_
  obtain ⟨o1, F, hσ, r1⟩ := h1.at e5
  obtain ⟨p, us, rfl, _⟩ := r1
  refine ⟨.ref p, hσ, b2 _ Γ1 σ H1 _ _ _ e2 h1 fun w H2 h2 => ?_⟩
  obtain ⟨w', ew, rw'⟩ := h2.2.dat
  cases ew
  have h3 := h2.dropTop
  obtain ⟨o2, hσ2, h4⟩ := h3.take e3
  rw [hσ] at hσ2
  cases hσ2
  have h5 : HP E.K H2 ((.dat d, some v) :: (.dic kvs, some (.ref p)) :: (Δ ++ (Γ2.set k .any).zip σ)) := h4.2.swap
  obtain ⟨v', ev, rv⟩ := h5.dat
  cases ev
  have h6 := h5.drop
  obtain ⟨F6, r6, _⟩ := h6.top
  obtain ⟨a, zs, ea, _, hp, dz⟩ := r6.dicv
  cases ea
  rw [keyOfD_ok e4 rw']
  refine ⟨p, _, rfl, DPut.k hp (by rw [dz.len]; exact e6), k2 σ _ ?_ .rfl'⟩
  have h7 : HP E.K (upd H2 p (.dK (putK zs y v))) ((.dic (putD kvs y d), some (.ref p)) :: (Δ ++ (Γ2.set k .any).zip σ)) := h6.step fun F1 r _ => by
    obtain ⟨q, us, e1, rfl, _, _⟩ := r
    cases e1
    exact ⟨[p], ⟨p, _, rfl, rfl, upd_same, DatK.mono (tx_upd hp True.intro) (dz.put rv)⟩, by simp, fun a u m e => by rw [upd_ne (fun z => m (by simp [z]))]; exact e, fun a ha => .inl ha⟩
  have h8 : Hs E.K (upd H2 p (.dK (putK zs y v))) ((.dic (putD kvs y d), some (.ref p)) :: Δ) (Γ2.set k .any) σ := ⟨h4.1, h7⟩
  have h9 := h8.back hσ
  rw [List.set_set] at h9
  exact h9
end

/-! ### the bag of draws: [cells, digits, mixed] -/
section
variable {K : PySem.W.Frag} {H : Hp}
theorem CR.bagv {v : V} {F : List Addr} {cs : List Int} {dg mx : Int} (r : CR K H (.bag cs dg mx) (some v) F) : ∃ p c, v = .ref p ∧ F = [p, c] ∧ H p = some (.lst [.ref c, .int dg, .int mx]) ∧ H c = some (.lst (cs.map V.int)) := by
  obtain ⟨p, c, q, e, h1, h2⟩ := r
  cases q
  exact ⟨p, c, rfl, e, h1, h2⟩
end
def fBag : MF
  | [.lst xs, .dat (.int a), .dat (.int b)] => match intsOf xs with
    | some ns => some (.bag ns a b, [.any, .dat (.int a), .dat (.int b)])
    | none => none
  | _ => none
theorem fBag_of {cs cs' : List CD} {c : CD} (e : fBag cs = some (c, cs')) : ∃ xs a b ns, cs = [.lst xs, .dat (.int a), .dat (.int b)] ∧ intsOf xs = some ns ∧ c = .bag ns a b ∧ cs' = [.any, .dat (.int a), .dat (.int b)] := by
  match cs, e with
  | [.lst xs, .dat (.int a), .dat (.int b)], e =>
    unfold fBag at e
    dsimp only at e
    cases e1 : intsOf xs with
    | none => rw [e1] at e; cases e
    | some ns => rw [e1] at e; cases e; exact ⟨xs, a, b, ns, rfl, e1, rfl, rfl⟩
/-- bag[1], bag[2] -/
def mBagI (n k : Nat) : ME := fun Γ => match Γ[k]? with
  | some (.bag _ dg mx) => some (.dat (.int (if n = 1 then dg else mx)), Γ)
  | _ => none
/-- bag[0] != [] -/
def mBagNe (k : Nat) : MT := fun Γ => match Γ[k]? with
  | some (.bag cs _ _) => if SeqAt.shaped (.list (cs.map .int)) = true then some (!cs.isEmpty, Γ) else none
  | _ => none
/-- bag[0].pop() -/
def mBagPop (k : Nat) : ME := fun Γ => match Γ[k]? with
  | some (.bag cs dg mx) => (match cs.getLast? with
    | some z => some (.dat (.int z), Γ.set k (.bag cs.dropLast dg mx))
    | none => none)
  | _ => none
/-- bag[1] = e, bag[2] = e -/
def mBagSet (n : Nat) (m : ME) (k : Nat) : MS := fun Γ => match m Γ with
  | some (.dat (.int i), Γ1) => (match Γ1[k]? with
    | some (.bag cs dg mx) => some (.nx (Γ1.set k (if n = 1 then .bag cs i mx else .bag cs dg i)))
    | _ => none)
  | _ => none
theorem mBagSet_of {n k : Nat} {m : ME} {Γ : List CD} {o : Out} (e : mBagSet n m k Γ = some o) : ∃ i Γ1 cs dg mx, m Γ = some (.dat (.int i), Γ1) ∧ Γ1[k]? = some (.bag cs dg mx) ∧ o = .nx (Γ1.set k (if n = 1 then .bag cs i mx else .bag cs dg i)) := by
  unfold mBagSet at e
  match h : m Γ, e with
  | some (.dat (.int i), Γ1), e =>
    dsimp only at e
    match h2 : Γ1[k]?, e with
    | some (.bag cs dg mx), e => cases e; exact ⟨i, Γ1, cs, dg, mx, rfl, h2, rfl⟩
theorem mBagI_of {n k : Nat} {Γ Γ' : List CD} {c : CD} (e : mBagI n k Γ = some (c, Γ')) : ∃ cs dg mx, Γ[k]? = some (.bag cs dg mx) ∧ c = .dat (.int (if n = 1 then dg else mx)) ∧ Γ' = Γ := by
  unfold mBagI at e
  match h : Γ[k]?, e with
  | some (.bag cs dg mx), e => cases e; exact ⟨cs, dg, mx, rfl, rfl, rfl⟩
theorem mBagPop_of {k : Nat} {Γ Γ' : List CD} {c : CD} (e : mBagPop k Γ = some (c, Γ')) : ∃ cs dg mx z, Γ[k]? = some (.bag cs dg mx) ∧ cs.getLast? = some z ∧ c = .dat (.int z) ∧ Γ' = Γ.set k (.bag cs.dropLast dg mx) := by
  unfold mBagPop at e
  match h : Γ[k]?, e with
  | some (.bag cs dg mx), e =>
    dsimp only at e
    cases h2 : cs.getLast? with
    | none => rw [h2] at e; cases e
    | some z => rw [h2] at e; cases e; exact ⟨cs, dg, mx, z, rfl, h2, rfl, rfl⟩
theorem mBagNe_of {k : Nat} {Γ Γ' : List CD} {b : Bool} (e : mBagNe k Γ = some (b, Γ')) : ∃ cs dg mx, Γ[k]? = some (.bag cs dg mx) ∧ SeqAt.shaped (.list (cs.map .int)) = true ∧ b = !cs.isEmpty ∧ Γ' = Γ := by
  unfold mBagNe at e
  match h : Γ[k]?, e with
  | some (.bag cs dg mx), e =>
    dsimp only at e
    obtain ⟨h1, h2⟩ := ite_none e
    cases h2
    exact ⟨cs, dg, mx, rfl, h1, rfl, rfl⟩
theorem ints_dp {K : PySem.W.Frag} {H : Hp} : ∀ (ns : List Int), DpAll K H (ns.map V.int) (ns.map PyData.int)
  | [] => .nil
  | n :: ns => .cons (.int n) (ints_dp ns)
theorem atI_last {α : Type} {xs : List α} {z : α} (h : xs.getLast? = some z) : xs[xs.length - 1]? = some z := by
  rw [List.getLast?_eq_getElem?] at h; exact h
section
variable {ι : Type} {E : Ev ι} {e : Expr} {es : List Expr} {ml : ML} {pos pos' p2 p3 apos cpos : Pos} {x : Str} {kk : Nat}
theorem je_bagnew (h : JA E es ml) : JE E (.List es pos) (mApp fBag ml) := by
  obtain ⟨ta, a1, a2⟩ := h
  refine ⟨tLst ta, fun i => pe_lst (a1 i), app_ok a2 ?_⟩
  intro vs cs c cs' H ps Q e l hp k
  obtain ⟨xs, a, b, ns, rfl, e1, rfl, rfl⟩ := fBag_of e
  match vs, l with
  | [v1, v2, v3], l =>
    have hp' : HP E.K H ((.lst xs, some v1) :: (.dat (.int a), some v2) :: (.dat (.int b), some v3) :: ps) := hp
    obtain ⟨pp, us, ev, h1, d1⟩ := hp'.lst
    cases ev
    obtain ⟨w2, e2, r2⟩ := hp'.drop.dat
    obtain ⟨w3, e3, r3⟩ := hp'.drop.drop.dat
    cases e2
    cases e3
    cases r2
    cases r3
    rw [intsOf_ok e1] at d1
    have ei := d1.ints
    subst ei
    refine ⟨by show 3 ≤ sizeLine; rw [sizeLine_eq]; decide, fun p hpn => k (.ref p) _ ?_ rfl⟩
    have hn : p ≠ pp := fun z => by rw [z, h1] at hpn; cases hpn
    have h4 : HP E.K (upd H p (.lst [.ref pp, .int a, .int b])) ((.bag ns a b, some (.ref p)) :: (.dat (.int a), some (.int a)) :: (.dat (.int b), some (.int b)) :: ps) := hp'.step fun F1 r n1 => by
      obtain ⟨q, zs, e1, rfl, h5, _⟩ := r
      cases e1
      refine ⟨[p, pp], ⟨p, pp, rfl, rfl, upd_same, by rw [upd_ne (Ne.symm hn)]; exact h1⟩, by simp [hn], fun y u m hy => upd_new hpn y u hy, fun y hy => ?_⟩
      rcases List.mem_cons.mp hy with rfl | hy
      · exact .inr hpn
      · exact .inl hy
    exact ((h4.swap.push (c := .any) (o := some (.ref pp)) rfl).perm (by
      show ((CD.any, some (V.ref pp)) :: (.dat (.int a), some (.int a)) :: (.bag ns a b, some (.ref p)) :: (.dat (.int b), some (.int b)) :: ps).Perm ((.bag ns a b, some (.ref p)) :: (.any, some (.ref pp)) :: (.dat (.int a), some (.int a)) :: (.dat (.int b), some (.int b)) :: ps)
      exact ((List.Perm.cons _ (List.Perm.swap _ _ _)).trans (List.Perm.swap _ _ _))))
theorem je_bagI (n k : Nat) (hn : n = 1 ∨ n = 2 := by first | exact .inl rfl | exact .inr rfl) (hN : E.N[k]? = some x := by rfl) (hv : ∀ j, Vis (E.X j).env.scope x := by first | exact fun _ => Or.inl rfl | exact fun _ => Or.inr (Or.inl rfl) | exact fun _ => Or.inr (Or.inr rfl))
    (hd : (x == ("__debug__" : Str)) = false := by decide) (hcd : (x == ("__classdict__" : Str)) = false := by decide) : JE E (.Subscript (.Name x pos') (.Constant (.int (n : Nat)) kk p2) pos) (mBagI n k) := by
  refine ⟨tOp (rIx E.K) (tVar k) (tC (.int (n : Nat))), fun i => ?_, fun Δ Γ σ H Q c Γ' q hs' kq => ?_⟩
  · have q := pe_ix (pos := pos) (ix_seq (X := E.X i)) (pe_var (pos := pos') (by rw [E.hN]; exact hN) (hv i) hd hcd) (pe_int (i := (n : Nat)) (j := kk) (pos := p2)) (fun _ _ => rfl)
    rw [E.hK] at q
    exact q
  · obtain ⟨cs, dg, mx, e0, rfl, rfl⟩ := mBagI_of q
    obtain ⟨o, F, hσ, r⟩ := hs'.at e0
    obtain ⟨v, rfl⟩ := r.val (by intro z; cases z)
    obtain ⟨p, c, rfl, _, h1, h2⟩ := r.bagv
    refine ⟨.ref p, hσ, .inl ⟨p, _, _, .int (if n = 1 then dg else mx), rfl, rfl, .inl (.inl h1), ?_, kq _ H ⟨hs'.1, hs'.2.push ⟨rfl, _, rfl, .int _⟩⟩⟩⟩
    rcases hn with rfl | rfl <;> rfl
theorem jt_bagne {q0 q1 : Nat} {p4 : Pos} (k : Nat) (hN : E.N[k]? = some x := by rfl) (hv : ∀ j, Vis (E.X j).env.scope x := by first | exact fun _ => Or.inl rfl | exact fun _ => Or.inr (Or.inl rfl) | exact fun _ => Or.inr (Or.inr rfl))
    (hd : (x == ("__debug__" : Str)) = false := by decide) (hcd : (x == ("__classdict__" : Str)) = false := by decide) : JT E (.Compare (.Subscript (.Name x pos') (.Constant (.int 0) kk p2) p3) [.NotEq] [.List [] p4] pos) (mBagNe k) := by
  refine ⟨tTest (tOp (rNeD E.K) (tOp (rIx E.K) (tVar k) (tC (.int 0))) (tLst tNil)), fun i => ?_, fun Δ Γ σ H Q b Γ' q hs' kq => ?_⟩
  · have q := pe_ix (pos := p3) (ix_seq (X := E.X i)) (pe_var (pos := pos') (by rw [E.hN]; exact hN) (hv i) hd hcd) (pe_int (i := 0) (j := kk) (pos := p2)) (fun _ _ => rfl)
    rw [E.hK] at q
    exact pt_cmpR (o_ne i) q (pe_lst pa_nil) (by first | rfl | exact nomark _)
  · obtain ⟨cs, dg, mx, e0, e1, rfl, rfl⟩ := mBagNe_of q
    obtain ⟨o, F, hσ, r⟩ := hs'.at e0
    obtain ⟨v, rfl⟩ := r.val (by intro z; cases z)
    obtain ⟨p, c, rfl, _, h1, h2⟩ := r.bagv
    refine ⟨.ref p, hσ, .inl ⟨p, _, _, .ref c, rfl, rfl, .inl (.inl h1), rfl, by rw [sizeLine_eq]; decide, fun t ht => ?_⟩⟩
    refine ⟨.list (cs.map .int), .list [], .lst (.inl (.inl (upd_new ht c _ h2))) (ints_dp cs), .lst (.inl (.inl upd_same)) .nil, e1, by decide +kernel, _, rfl, ?_⟩
    have e2 : (!PyData.eqv (.list (cs.map .int)) (.list [])) = !cs.isEmpty := by
      cases cs with
      | nil => rfl
      | cons a r => rfl
    rw [e2]
    exact kq _ ⟨hs'.1, (hs'.2.new (c := .any) (o := none) (F2 := []) (upd_new ht) rfl .nil (by simp)).drop⟩
theorem je_bagpop {p3 : Pos} (k : Nat) (hN : E.N[k]? = some x := by rfl) (hv : ∀ j, Vis (E.X j).env.scope x := by first | exact fun _ => Or.inl rfl | exact fun _ => Or.inr (Or.inl rfl) | exact fun _ => Or.inr (Or.inr rfl))
    (hd : (x == ("__debug__" : Str)) = false := by decide) (hcd : (x == ("__classdict__" : Str)) = false := by decide)
    (hbase : ∀ env, attributeBase (.Subscript (.Name x pos') (.Constant (.int 0) kk p2) p3) "pop" env (eval (.Subscript (.Name x pos') (.Constant (.int 0) kk p2) p3) env) = eval (.Subscript (.Name x pos') (.Constant (.int 0) kk p2) p3) env := by intro _; rfl) (hline : (apos.endLine == cpos.line) = true := by rfl) :
    JE E (.Call (.Attribute (.Subscript (.Name x pos') (.Constant (.int 0) kk p2) p3) "pop" apos) [] [] cpos) (mBagPop k) := by
  refine ⟨tBM0 E.K "list" rPop (tOp (rIx E.K) (tVar k) (tC (.int 0))), fun i => ?_, fun Δ Γ σ H Q c Γ' q hs' kq => ?_⟩
  · have q := pe_ix (pos := p3) (ix_seq (X := E.X i)) (pe_var (pos := pos') (by rw [E.hN]; exact hN) (hv i) hd hcd) (pe_int (i := 0) (j := kk) (pos := p2)) (fun _ _ => rfl)
    have z := pe_bm0 (cpos := cpos) (apos := apos) PySem.F.plainAttrs_list PySem.F.slot_list_pop PySem.F.type_list_pop (mt_pop (X := E.X i)) q (hbase _) hline
    rw [E.hK] at z
    exact z
  · obtain ⟨cs, dg, mx, z, e0, e1, rfl, rfl⟩ := mBagPop_of q
    obtain ⟨o, hσ, h3⟩ := hs'.take e0
    obtain ⟨F, r, _⟩ := h3.2.top
    obtain ⟨v, rfl⟩ := r.val (by intro z; cases z)
    obtain ⟨p, c, rfl, _, h1, h2⟩ := r.bagv
    refine ⟨.ref p, hσ, .inl ⟨p, _, _, .ref c, rfl, rfl, .inl (.inl h1), rfl, .inl ⟨rfl, _, .inl (.inl h2)⟩, c, _, .int z, rfl, rfl, h2, ?_, ?_⟩⟩
    · rw [List.length_map, List.getElem?_map, atI_last e1]; rfl
    · have h4 : Hs E.K (upd H c (.lst (cs.map V.int).dropLast)) ((.bag cs.dropLast dg mx, some (.ref p)) :: Δ) (Γ.set k .any) σ := ⟨h3.1, h3.2.step fun F1 r n1 => by
        obtain ⟨q, c2, e1, rfl, h5, h6⟩ := r
        cases e1
        rw [h1] at h5
        cases h5
        have hne : p ≠ c := fun z => by
          have := (List.nodup_cons.mp n1).1
          exact this (by rw [z]; simp)
        refine ⟨[p, c], ⟨p, c, rfl, rfl, by rw [upd_ne hne]; exact h1, by rw [upd_same, List.map_dropLast]⟩, n1, fun y u m hy => by rw [upd_ne (fun z => m (by simp [z]))]; exact hy, fun y hy => .inl hy⟩⟩
      have h5 := h4.back hσ
      rw [List.set_set] at h5
      exact kq _ _ ⟨h5.1, h5.2.push ⟨rfl, _, rfl, .int z⟩⟩
end
section
variable {ι : Type} {E : Es ι} {e : Expr} {me : ME} {pos pos' p2 : Pos} {x : Str} {kk : Nat}
theorem js_bagset (n k : Nat) (h : JE E.toEv e me) (hn : n = 1 ∨ n = 2 := by first | exact .inl rfl | exact .inr rfl) (hN : E.N[k]? = some x := by rfl) (hv : ∀ j, Vis (E.X j).env.scope x := by first | exact fun _ => Or.inl rfl | exact fun _ => Or.inr (Or.inl rfl) | exact fun _ => Or.inr (Or.inr rfl))
    (hd : (x == ("__debug__" : Str)) = false := by decide) (hcd : (x == ("__classdict__" : Str)) = false := by decide)
    {q2 : Pos} (hs : ∀ j, swapsWithSole [.Subscript (.Name x pos') (.Constant (.int (n : Nat)) kk q2) pos] e p2.line (E.X j).env = pure false := by intro _; rfl) (hw : ∀ j, swappedStores [.Subscript (.Name x pos') (.Constant (.int (n : Nat)) kk q2) pos] e (E.X j).env = pure none := by intro _; rfl)
    (h1 : ∀ env, (assignEach [.Subscript (.Name x pos') (.Constant (.int (n : Nat)) kk q2) pos] env).map (·.2) = [assign (.Subscript (.Name x pos') (.Constant (.int (n : Nat)) kk q2) pos) env] := by intro _; rfl)
    (ha : ∀ env v, assign (.Subscript (.Name x pos') (.Constant (.int (n : Nat)) kk q2) pos) env v = (do
      let ov ← holding [v] (eval (.Name x pos') env)
      let iv ← holding [v, ov] (eval (.Constant (.int (n : Nat)) kk q2) env)
      standAt pos
      holding [v, ov, iv] (setItem ov iv v)
      release [v, ov, iv] []) := by intro _ _; rfl) : JS E (.Assign [.Subscript (.Name x pos') (.Constant (.int (n : Nat)) kk q2) pos] e p2) (mBagSet n me k) [] := by
  obtain ⟨te, a1, a2⟩ := h
  refine ⟨tAsg te (gSub (tVar k) (tC (.int (n : Nat))) rSetL), fun j => ps_asg (a1 j) (pg_sub (pe_var (by rw [E.hN]; exact hN) (hv j) hd hcd) (pe_int (i := (n : Nat)) (j := kk) (pos := q2)) set_list (ha _)) (hs j) (hw j) (h1 _), fun Δ Γ σ H D o q hs k2 => ?_⟩
  obtain ⟨i, Γ1, cs, dg, mx, e1, e2, rfl⟩ := mBagSet_of q
  refine a2 Δ Γ σ H _ _ _ e1 hs fun v H1 h1 => ?_
  obtain ⟨v', ev, rv⟩ := h1.2.dat
  cases ev
  cases rv
  have h2 := h1.dropTop
  obtain ⟨o, hσ, h3⟩ := h2.take e2
  obtain ⟨F, r, _⟩ := h3.2.top
  obtain ⟨v, rfl⟩ := r.val (by intro z; cases z)
  obtain ⟨p, c, rfl, _, h4, h5⟩ := r.bagv
  have key : ∀ (ys : List V) (dg' mx' : Int), ys = [.ref c, .int dg', .int mx'] → Hs E.K (upd H1 p (.lst ys)) Δ (Γ1.set k (.bag cs dg' mx')) σ := fun ys dg' mx' ey => by
    subst ey
    have h6 : Hs E.K (upd H1 p (.lst [.ref c, .int dg', .int mx'])) ((.bag cs dg' mx', some (.ref p)) :: Δ) (Γ1.set k .any) σ := ⟨h3.1, h3.2.step fun F1 r n1 => by
      obtain ⟨q, c2, e1, rfl, h7, h8⟩ := r
      cases e1
      rw [h4] at h7
      cases h7
      have hne : c ≠ p := fun z => by
        have := (List.nodup_cons.mp n1).1
        exact this (by rw [z]; simp)
      exact ⟨[p, c], ⟨p, c, rfl, rfl, upd_same, by rw [upd_ne hne]; exact h8⟩, n1, fun y u m hy => by rw [upd_ne (fun z => m (by simp [z]))]; exact hy, fun y hy => .inl hy⟩⟩
    have h7 := h6.back hσ
    rw [List.set_set] at h7
    exact h7
  rcases hn with rfl | rfl
  · exact ⟨.ref p, hσ, p, _, _, 1, rfl, rfl, h4, rfl, k2 σ _ (key _ i mx rfl) .rfl'⟩
  · exact ⟨.ref p, hσ, p, _, _, 2, rfl, rfl, h4, rfl, k2 σ _ (key _ dg i rfl) .rfl'⟩
end
end JJ
/-! J8: an own exception over ValueError, own classes between, whose __init__ says super().__init__(limit), then keeps limit. -/
namespace PySem
namespace JX
open PySem.W PySem.Calls PyProof.Rows PySem.HandSPX
def xA (p1 p2 : Pos) : Arguments := { posonlyargs := [], args := [{ arg := "self", annotation := none, pos := p1 }, { arg := "limit", annotation := none, pos := p2 }], vararg := none, kwonlyargs := [], kw_defaults := [], kwarg := none, defaults := [] }
def xB (q1 q2 q3 q4 q5 q6 q7 q8 q9 q10 : Pos) : List Stmt :=
  [.Expr (.Call (.Attribute (.Call (.Name "super" q1) [] [] q2) "__init__" q3) [.Name "limit" q4] [] q5) q6, .Assign [.Attribute (.Name "self" q7) "limit" q8] (.Name "limit" q9) q10]
def xS : Scope := { kind := .function, names := [(PySem.Str.ofString "self", .local), (PySem.Str.ofString "limit", .local), (PySem.Str.ofString "__class__", .free), (PySem.Str.ofString "super", .globalImplicit)], isGenerator := false, isCoroutine := false, more := [] }
/-- what the written part says of the class x, at C, and of its __init__, at fI -/
structure ExTxt (prog : Program) (K : Frag) (mg : Str → Option Value) (x : Str) (C fI : Addr) : Prop where
  gC : mg x = some (.ref C)
  cls : ∃ nm q N bs bm sn sub ab col dd k0 k1 k2 k3 k5, K.lookup C = some (excClassObj nm q C N bs bm true sn sub ab col dd k0 k1 k2 k3 k5 "ValueError.__new__") ∧ refsVE bm = true
  sa : findIn K (.ref C) "__setattr__" = some (some (.builtin "object.__setattr__"))
  noN : findIn K (.ref C) "limit" = some none
  iC : findIn K (.ref C) "__init__" = some (some (.ref fI))
  tC : typeIn K (.ref fI) = some (.type "function")
  kC : keepIn K (.ref C) = true
  exC : subIn K (.ref C) (.type "BaseException") = some true
  tyC : typeIn K (.ref C) = some (.type "type")
  veC : subIn K (.ref C) (.type "ValueError") = some true
  own : mroIn K C (.ref C) = some true
  su : ks_superIn K C C "__init__" = some (some (.builtin "ValueError.__init__"))
  opq : nsIn K cStatics "thirdparty.any" = some none
  noS : mg "super" = none
  top : (prog.main.scope.names.lookup ("super" : Str)).isSome = false
  fn : ∃ (oc : Value) (od : Option Addr) (qual : Str) (doc pm : Value) (an : Option Addr) (cda cc : Addr) (ct : Value) (osl : Array (Option Value)) (p1 p2 q1 q2 q3 q4 q5 q6 q7 q8 q9 q10 : Pos) (vs : Array Value) (file : Str) (tf : Tok) (ccl cl : Value) (cdd cld : Option Addr) (ccs csl : Array (Option Value)),
    K.lookup fI = some ⟨oc, od, .func (ksFn "__init__" qual (xA p1 p2) (xB q1 q2 q3 q4 q5 q6 q7 q8 q9 q10) xS .none .none doc pm an (.ref cda) ct cc), osl⟩ ∧ codeIn K (.ref cda) qual = true ∧
      K.lookup cda = some ⟨ccl, cdd, .fields vs, ccs⟩ ∧ vs[2]? = some (.str file tf) ∧ ((prog.main.file : Str) == file) = true ∧ (q3.endLine == q5.line) = true ∧ K.lookup cc = some ⟨cl, cld, .cell (some (.ref C)), csl⟩
/-- what __init__ leaves of a fresh exception at e -/
structure Left (h h' : Heap) (e C dx t1 : Addr) (v : Value) : Prop where
  keep : ∀ b o, b ≠ e → h.get? b = some o → h'.get? b = some o
  obj : h'.get? e = some { cls := .ref C, dict := some dx, data := .fields #[.ref t1, .none, .none, .none, .bool false, .none] }
  dbig : h.objs.size ≤ dx
  dne : dx ≠ e
  ns : h'.Ns1 dx (fun y => if y = "limit" then some v else none)
section
variable {prog : Program} {w : World} {A : Around} {E : Value → Shared → Prop} {R : Result → Shared → Prop} {s : Shared} {K : Frag} {mg : Str → Option Value} {base : Heap} {x : Str} {C fI : Addr}
theorem in_but {h h' : Heap} {e : Addr} (X : K.In h) (he : K.lookup e = none) (k : ∀ b o, b ≠ e → h.get? b = some o → h'.get? b = some o) : K.In h' := fun a o q =>
  k a o (fun z => by rw [z, he] at q; cases q) (X a o q)
/-- the built-in __init__ that is bound to an exception, called -/
theorem call_mw {h : Heap} {g : Array GenState} {d : Drawn} {t : Nat} {os : OsState} {u e t0 : Addr} {args : List Value} {Q : Value → Shared → Prop} {nm q : Str} {N : Addr} {bs bm : List Value} {sn : List Str} {sub : List Value} {ab : Bool} {col : Option Bool} {dd : Option Addr} {k0 k1 k2 k3 k5 : Option Value} {hd : Bool}
    (hC : h.get? C = some (excClassObj nm q C N bs bm hd sn sub ab col dd k0 k1 k2 k3 k5 "ValueError.__new__")) (he : h.get? e = some (excO C t0)) (hu : h.get? u = some (kxs_mw "ValueError.__init__" e)) (hz : args.length ≤ sizeLine)
    (hq : ∀ h' t1, (∀ b o, b ≠ e → h.get? b = some o → h'.get? b = some o) → h'.get? e = some (excO C t1) → Q .none ⟨h', g, d, t, os⟩) : wpAny (model prog w) A (call (.ref u) args) Q E ⟨h, g, d, t, os⟩ := by
  have b1 : (Value.type "method-wrapper" == Value.type "method" || Value.type "method-wrapper" == Value.type "builtin_function_or_method" || Value.type "method-wrapper" == Value.type "method-wrapper") = true := by decide
  refine wpAny_call (codeAny_of_tree ?_)
  show wpAny _ _ (callAny (.ref u) ⟨args, []⟩) _ _ _
  unfold callAny
  refine wpAny_bind (wpAny_load hu ?_)
  simp only [kxs_mw, b1, if_true]
  refine KFB.if_so (by decide) (wpAny_bind (check_bound_init F.excBase_ValueError.toExcCallFacts hC he rfl (wpAny_bind (wpAny_pure (wpAny_pure ⟨plainId_quiet F.excBase_ValueError.init.plain _, codeAny_builtin F.excBase_ValueError.initEntry ?_⟩)))))
  exact exc_init_tree (cls := .ref C) (t0 := t0) (dv := none) (c2 := .none) (c3 := .none) (b4 := .bool false) he hz fun h' kk he' _ => hq h' _ kk he'
theorem own_init (T : ExTxt prog K mg x C fI) (D : L2.Mod K mg base) {e t0 : Addr} {v : Value} (kb : ∀ b o, base.get? b = some o → s.heap.get? b = some o) (he : s.heap.get? e = some (excO C t0)) (hne : base.get? e = none) (room : A.depth < recursionLimit)
    (hq : ∀ h' tk dx t1, Left s.heap h' e C dx t1 v → R (.ok (.ret .none)) { s with heap := h', toks := tk }) :
    codeAny (model prog w) A (.call (.ref fI) ⟨[.ref e, v], []⟩) R s := by
  obtain ⟨oc, od, qual, doc, pm, an, cda, cc, ct, osl, p1, p2, q1, q2, q3, q4, q5, q6, q7, q8, q9, q10, vs, file, tf, ccl, cl, cdd, cld, ccs, csl, ho, hcd, hcda, hvs, hfile, hln, hcc⟩ := T.fn
  obtain ⟨nm, q, N, bs, bm, sn, sub, ab, col, dd, k0, k1, k2, k3, k5, hC, hbm⟩ := T.cls
  have hcl : clsIn K C = some { name := nm, bases := bs, mro := .ref C :: bm, ns := N, qualname := q, hasDict := true, slotNames := sn, subclasses := sub, abstract := ab, collection := col, hasDel := false } := by unfold clsIn; rw [hC] <;> rfl
  have X : K.In s.heap := D.kin.keeps kb
  have lne : K.lookup e = none := by
    cases z : K.lookup e with
    | none => rfl
    | some o => rw [D.kin _ _ z] at hne; cases hne
  refine ks_codeAny_call_defAt (fd := ksFn "__init__" qual (xA p1 p2) (xB q1 q2 q3 q4 q5 q6 q7 q8 q9 q10) xS .none .none doc pm an (.ref cda) ct cc) (body := xB q1 q2 q3 q4 q5 q6 q7 q8 q9 q10) (binds := [("self", .ref e), ("limit", v)]) room (X _ _ ho) rfl (D.nolimit.keeps kb) (codeRec_of X hcd) rfl
    (BindsTo.of_eq (by first | rfl | with_unfolding_all rfl)) (by show ∀ x ∈ xS.names, x.2 ≠ .cell; decide) (fun y hy => by
      rcases List.mem_cons.mp hy with rfl | hy
      · exact (by decide : xS.names.lookup ("self" : Str) = some .local)
      · rw [List.mem_singleton.mp hy]; exact (by decide : xS.names.lookup ("limit" : Str) = some .local)) (fun h1 hns k1 => ?_) rfl rfl rfl
  have X1 : K.In h1 := X.keeps k1
  have kb1 : ∀ b o, base.get? b = some o → h1.get? b = some o := fun b o z => k1 b o (kb b o z)
  have he1 := k1 _ _ he
  have hlt : e < s.heap.objs.size := Heap.lt_size he
  obtain ⟨mb, hb1, hb2⟩ := D.blt
  have hself : (fun x => ([("self", Value.ref e), ("limit", v)] : List (Str × Value)).reverse.lookup x) "self" = some (Value.ref e) := by first | rfl | with_unfolding_all rfl
  have hlim : (fun x => ([("self", Value.ref e), ("limit", v)] : List (Str × Value)).reverse.lookup x) "limit" = some v := by first | rfl | with_unfolding_all rfl
  have inst : InstAt h1 e (excO C t0) C none := ⟨he1, rfl, rfl, trivial⟩
  have hD : ∃ oD, h1.get? C = some oD ∧ oD.data = .cls { name := nm, bases := bs, mro := .ref C :: bm, ns := N, qualname := q, hasDict := true, slotNames := sn, subclasses := sub, abstract := ab, collection := col, hasDel := false } := ⟨_, X1 _ _ hC, rfl⟩
  obtain ⟨oD, hD1, hD2⟩ := hD
  show _root_.PySem.wpAt (model prog w) (A.deeper (ksEnv qual xS s.heap.objs.size fI (.ref cda) cc)) (.func (xB q1 q2 q3 q4 q5 q6 q7 q8 q9 q10) (ksEnv qual xS s.heap.objs.size fI (.ref cda) cc)) (execs (_ :: _) (ksEnv qual xS s.heap.objs.size fI (.ref cda) cc)) _ _ _
  refine ks_wpAt_execs_cons (ks_wpAt_Expr_any (ks_wpAt_MethodCall (pl := do return (← importBound (.Call (.Name "super" q1) [] [] q2) (ksEnv qual xS s.heap.objs.size fI (.ref cda) cc)).getD true) ?_ ?he))
  case he =>
    show (do let ov ← _; _; methodCall _ _ _ _ _ ov _ _ _) = _
    have e1 : ∀ few o env, methodCallPos few o env q3 q5 = pure q5 := fun few o env => by
      unfold methodCallPos
      rw [hln, Bool.or_true]
      rfl
    unfold methodCall
    simp only [e1, pure_bind]
    rfl
  refine ks_wpAt_super_base (env := ksEnv qual xS s.heap.objs.size fI (.ref cda) cc) rfl rfl (by decide) rfl (X1 _ _ ho) rfl rfl rfl (X1 _ _ hcda) rfl hvs hfile T.top ?_
  refine ks_loadName_global rfl rfl (loadGlobal_builtin (env := ksEnv qual xS s.heap.objs.size fI (.ref cda) cc) (D.glob.keeps kb1) T.noS (hb1.keeps kb1) ((hb2 _ (by decide)).trans (by decide +kernel)) ⟨rfl, ?_⟩)
  refine wpAny_loadName_free rfl rfl rfl ⟨_, X1 _ _ hcc, rfl⟩ ?_
  refine wpAny_loadName_local rfl rfl hns hself ?_
  refine ks_wpAny_isType_cls hD1 hD2 ⟨rfl, ?_⟩
  refine ks_wpAny_call_super hD1 hD2 he1 rfl (fun c z => by cases z) (looks_mroIn X1 T.own) (fun h2 so2 k2 => ?_)
  have X2 : K.In h2 := X1.keeps k2
  have he2 := k2 _ _ he1
  have inst2 : InstAt h2 e (excO C t0) C none := ⟨he2, rfl, rfl, trivial⟩
  have su := T.su
  unfold ks_superIn at su
  rw [hcl] at su
  refine kxs_getMethod kxs_ValueError so2 (looks_opaque X2 T.opq) (l₀ := .ref C :: bm) (fun A Q E s k q => wpAny_bind ((looks_clsIn X2 hcl) A _ E s k (wpAny_pure q))) rfl X2 su (inst2.type.andThen (looks_subIn X2 T.veC)) (ks_ne X2 inst2 hcl) (by decide) ?_
  have lt2 : ∀ {b : Addr} {o : Obj}, h2.get? b = some o → b ≠ h2.objs.size := fun z => Nat.ne_of_lt (Heap.lt_size z)
  have k3 : ∀ b o, h2.get? b = some o → (h2.push (kxs_mw "ValueError.__init__" e)).get? b = some o := fun b o z => Heap.get?_push_of_some _ z
  have mw3 : (h2.push (kxs_mw "ValueError.__init__" e)).get? h2.objs.size = some (kxs_mw "ValueError.__init__" e) := Heap.get?_push_at rfl rfl
  have X3 : K.In (h2.push (kxs_mw "ValueError.__init__" e)) := X2.keeps k3
  have k13 : ∀ b o, h1.get? b = some o → (h2.push (kxs_mw "ValueError.__init__" e)).get? b = some o := fun b o z => k3 b o (k2 b o z)
  -- the arguments, then the built-in __init__
  refine kxs_callWith (i := "ValueError.__init__") (x := e) (by rfl) ?_
  refine evalArgs_plain (spliced_more (wpAny_Name (wpAny_loadName_local rfl rfl (hns.keeps k13) hlim (spliced_none ?_)) (by decide)))
  have he3 := k13 _ _ he1
  refine ⟨mw3, ?_⟩
  show wpAny _ _ (call (.ref h2.objs.size) [v]) _ _ _
  refine call_mw (nm := nm) (q := q) (N := N) (bs := bs) (bm := bm) (hd := true) (X3 _ _ hC) he3 mw3 (by show 1 ≤ sizeLine; rw [sizeLine_eq]; decide) fun h4 t1 k4 he4 => ?_
  have lne' : ∀ {b : Addr} {o : Obj}, K.lookup b = some o → b ≠ e := fun z1 z2 => by rw [z2, lne] at z1; cases z1
  have X4 : K.In h4 := in_but X3 lne k4
  have hLe : s.heap.objs.size ≠ e := Nat.ne_of_gt hlt
  have hns4 : h4.Ns s.heap.objs.size (fun x => ([("self", Value.ref e), ("limit", v)] : List (Str × Value)).reverse.lookup x) := (hns.keeps k13).at' fun o z => k4 _ o hLe z
  -- self.limit = limit
  refine ks_wpAt_execs_cons (wpAt_of_wpAny (plainObj_wpAny_Assign_Attribute ?_))
  refine wpAny_Name (wpAny_loadName_local rfl rfl hns4 hlim (wpAny_Name (wpAny_loadName_local rfl rfl hns4 hself ?_) (by decide))) (by decide)
  refine set_plain X4 (ox := excO C t1) (od := none) ⟨he4, rfl, rfl, trivial⟩ T.sa ?_
  refine exc_osa X4 he4 hcl (show refsVE (.ref C :: bm) = true from hbm) rfl T.noN (fun h5 tk5 dx k5 dn dne he5 hn5 => ?_)
  show _root_.PySem.wpAt _ _ _ (execs [] _) _ _ _
  exact wpAt_of_wpAny (wpAny_execs_nil (hq h5 tk5 dx t1 ⟨fun b o hb z => k5 b o hb (k4 b o hb (k13 b o (k1 b o z))), he5, Nat.le_of_lt (Nat.lt_of_lt_of_le hns4.lt dn), dne, hn5⟩))
/-- a made exception -/
structure Made (h h' : Heap) (e C d : Addr) (v : Value) : Prop where
  keep : ∀ b o, h.get? b = some o → h'.get? b = some o
  new : h.objs.size ≤ e
  obj : ∃ oe vs, h'.get? e = some oe ∧ oe.cls = .ref C ∧ oe.dict = some d ∧ oe.data = .fields vs ∧ vs[1]? = some .none
  dbig : h.objs.size ≤ d
  dne : d ≠ e
  ns : h'.Ns1 d (fun y => if y = "limit" then some v else none)
theorem own_made (T : ExTxt prog K mg x C fI) (D : L2.Mod K mg base) {v : Value} (kb : ∀ b o, base.get? b = some o → s.heap.get? b = some o) (hbs : ∀ b, s.heap.objs.size ≤ b → base.get? b = none) (room : A.depth + 1 < recursionLimit)
    (hq : ∀ h' tk e d, Made s.heap h' e C d v → R (.ok (.ret (.ref e))) { s with heap := h', toks := tk }) : codeAny (model prog w) A (.call (.ref C) ⟨[v], []⟩) R s := by
  obtain ⟨nm, q, N, bs, bm, sn, sub, ab, col, dd, k0, k1, k2, k3, k5, hC, hbm⟩ := T.cls
  have X : K.In s.heap := D.kin.keeps kb
  obtain ⟨hp, g, dr, tk, os⟩ := s
  have k : ∀ b o, hp.get? b = some o → ((hp.push (kdv_tup [v])).push (excO C hp.objs.size)).get? b = some o := fun b o z => Heap.get?_push_of_some _ (Heap.get?_push_of_some _ z)
  have hget : ((hp.push (kdv_tup [v])).push (excO C hp.objs.size)).get? (hp.objs.size + 1) = some (excO C hp.objs.size) := by heap_get
  refine call_own F.excBase_ValueError (fun Y => refsVE_contains Y bm hbm) (X _ _ hC) (looks_findIn X T.iC) (fun self => bind_fn X self T.tC) (by show 1 ≤ sizeLine; rw [sizeLine_eq]; decide) ?_
  refine own_init (s := ⟨(hp.push (kdv_tup [v])).push (excO C hp.objs.size), g, dr, tk, os⟩) T D (fun b o z => k b o (kb b o z)) hget (hbs _ (Nat.le_succ _)) room fun h' tk' dx t1 L => ?_
  have old : ∀ b o, hp.get? b = some o → h'.get? b = some o := fun b o z => L.keep b o (Nat.ne_of_lt (Nat.lt_succ_of_lt (Heap.lt_size z))) (k b o z)
  have z : hp.objs.size + 1 + 1 ≤ dx := by
    have q := L.dbig
    rw [Heap.size_push, Heap.size_push] at q
    exact q
  exact ⟨rfl, hq h' tk' (hp.objs.size + 1) dx ⟨old, Nat.le_succ _, ⟨_, _, L.obj, rfl, rfl, rfl, rfl⟩, (by show hp.objs.size ≤ dx; omega), L.dne, L.ns⟩⟩
end
end JX
end PySem
namespace JJ
open PySem L2
theorem relO_lim {v : V} {v' : Value} (r : RelV v v') (f : Str) : RelO (List.lookup f [(("limit" : Str), v)]) (if f = "limit" then some v' else none) := by
  by_cases h : f = "limit"
  · subst h
    rw [if_pos rfl, show List.lookup ("limit" : Str) [(("limit" : Str), v)] = some v by simp [List.lookup]]
    exact r
  · have h1 : (f == ("limit" : Str)) = false := by simpa using h
    rw [if_neg h, show List.lookup f [(("limit" : Str), v)] = none by simp [List.lookup, h1]]
    trivial
section
variable {X : Cx} {C fI : Addr} {x : Str}
/-- x(a), x an own exception -/
def tMkX (C : Addr) (te : TE) : St → Hp → XK → Prop := fun σ H Q => te σ H fun v H1 => ∃ w, [v] = [w] ∧ ∀ d, H1 d = none → Q (.ref C) (some d) (upd H1 d (.xd [(("limit" : Str), w)]))
theorem pmk_own {a : Expr} {te : TE} {p pos : Pos} {k : Nat} (T : PySem.JX.ExTxt X.prog X.K X.mg x C fI) (hr : Room k X.A) (hk : 1 ≤ k) (ha : PE X a te) (hg : Gl X x) (hdb : (x == ("__debug__" : Str)) = false)
    (he : starEach (a :: []) X.env = (false, eval a X.env) :: starEach [] X.env := by rfl) : PMk X (.Call (.Name x p) [a] [] pos) (tMkX C te) := by
  intro pins s σ H Q I h
  have hpa := pa_cons ha (pa_nil (X := X)) he
  refine wpAny_Call_Name_kw (ld_glob I hg T.gC ?_ hdb)
  refine PySem.W.callWith_K (h₀ := X.base) I.ok.mod.kin T.kC (thn (hpa.run pos pins s σ H (fun vs H1 => ∃ v, vs = [v] ∧ ∀ d, H1 d = none → Q (.ref C) (some d) (upd H1 d (.xd [(("limit" : Str), v)]))) I ?_) fun us s1 hh => ?_) he rfl
  · exact h
  obtain ⟨vs, H1, I1, r1, v, ev, q1⟩ := hh
  subst ev
  refine ⟨I1.kIn, ?_⟩
  cases r1 with
  | cons rv rn =>
    rename_i v' us'
    cases rn
    show wpAny _ _ (call (.ref C) [v']) _ _ _
    have hbk := I1.bk
    obtain ⟨hp, g, dr, tk, os⟩ := s1
    refine wpAny_call (PySem.JX.own_made T I1.ok.mod hbk (fun b lb => ?_) (by have := hr.dp; omega) fun h' tk' e d M => ?_)
    · cases z : X.base.get? b with
      | none => rfl
      | some o => exact absurd (Heap.lt_size (hbk b o z)) (Nat.not_lt.mpr lb)
    · obtain ⟨oe, fv, hoe, hc, hd, hdat, hf1⟩ := M.obj
      have hns := M.ns
      obtain ⟨G, r1, r2⟩ := restrict h' fun b => decide (b ≠ e)
      have ne1 : ∀ b, b ≠ e → G.get? b = h'.get? b := fun b hb => r1 b (decide_eq_true hb)
      have at1 : G.get? e = none := r2 e (by simp)
      have kG : ∀ b o, hp.get? b = some o → G.get? b = some o := fun b o z => (ne1 b (Nat.ne_of_lt (Nat.lt_of_lt_of_le (Heap.lt_size z) M.new))).trans (M.keep b o z)
      have new : ObjOk X.prog X.w (upd H1 d (.xd [(("limit" : Str), v)])) G d (.xd [(("limit" : Str), v)]) := ⟨_, hns.at (fun o z => (ne1 d M.dne).trans z), fun f => relO_lim rv f⟩
      have J : Inv X pins σ (upd H1 d (.xd [(("limit" : Str), v)])) ⟨G, g, dr, tk', os⟩ := I1.laid (t' := tk') kG M.dbig new
      refine ⟨e, oe, fv, ⟨G, g, dr, tk', os⟩, _, .ref C, some d, rfl, J, fun b o z => ?_, at1, hoe, ⟨hc, hd⟩, hdat, hf1, ?_, rfl, I1.bare, raises_own T.exC T.tyC, q1 d (I1.hok.fresh M.dbig)⟩
      · by_cases hb : b = e
        · have z' : G.get? b = some o := z
          rw [hb, at1] at z'
          cases z'
        · exact (ne1 b hb).symm.trans z
      · rw [upd_ne (Ne.symm M.dne)]
        exact I1.hok.fresh M.new
end
section
variable {ι : Type} {E : Es ι} {a : Expr} {m : ME} {p pos pos2 : Pos} {x : Str} {C fI : Addr}
def mRaise (x : Str) (m : ME) : MS := fun Γ => match m Γ with
  | some (.dat d, Γ') => some (.ex x d Γ')
  | _ => none
theorem mRaise_of {Γ : List CD} {o : Out} (e : mRaise x m Γ = some o) : ∃ d Γ', m Γ = some (.dat d, Γ') ∧ o = .ex x d Γ' := by
  unfold mRaise at e
  match h : m Γ, e with
  | some (.dat d, G), e => cases e; exact ⟨d, G, rfl, rfl⟩
/-- raise x(a) -/
theorem js_raise (T : PySem.JX.ExTxt E.P E.K E.mg x C fI) (tk : ∀ i, Takes (E.X i) E.W) (hk : 1 ≤ E.k) (ha : JE E.toEv a m) (hfl : fldOf x = "limit" := by decide) (hg : ∀ i, Gl (E.X i) x := by exact fun _ => rfl) (hdb : (x == ("__debug__" : Str)) = false := by decide)
    (he : ∀ env, starEach (a :: []) env = (false, eval a env) :: starEach [] env := by intro _; rfl) : JS E (.Raise (some (.Call (.Name x p) [a] [] pos)) none pos2) (mRaise x m) [] := by
  obtain ⟨te, a1, a2⟩ := ha
  refine ⟨fun _ σ H => tMkX C te σ H fun cls d H' => E.W cls d σ H', fun i => ps_raise (E.calm i) (tk i) (pmk_own (k := E.k) (by rw [E.hP, E.hK, E.hm]; exact T) (E.room i) hk (a1 i) (hg i) hdb (he _)), fun Δ Γ σ H D o q hs k => ?_⟩
  obtain ⟨d, Γ', e1, rfl⟩ := mRaise_of q
  refine a2 Δ Γ σ H _ _ _ e1 hs fun v H1 h1 => ⟨v, rfl, fun dd hd => ?_⟩
  obtain ⟨v', ev, rv⟩ := h1.2.dat
  cases ev
  refine k (.ref C) (some dd) σ _ ⟨C, dd, v, T.gC, rfl, rfl, by rw [hfl]; exact upd_same, rv.mono (tx_new hd)⟩ ?_ .rfl'
  exact ⟨h1.1, (h1.2.drop.new (c := .any) (o := none) (F2 := []) (upd_new hd) rfl .nil (by simp)).drop⟩
end
end JJ
set_option maxHeartbeats 4000000
/-! J8b: isinstance of a caught error of an own class, its dict there. -/
namespace PySem
namespace JX
open PySem.W PySem.Calls PyProof.Rows
section
variable {prog : Program} {w : World} {A : Around} {E : Value → Shared → Prop} {s : Shared} {K : Frag} {x D : Addr} {ox : Obj} {od : Option Obj}
theorem fo_data {C : Addr} {name : Str} {a g : Value} (hc : (clsIn K C).isSome = true) (ha : findIn K (.ref C) name = some (some a)) (hg : specialIn K a "__get__" = some (some g)) (ht : takesIn K a = some true) : findObj K C od name = some (.bind g a) := by
  cases od with
  | none => exact findObj_dataN hc ha hg ht
  | some o => exact findObj_data hc ha hg ht
theorem class_of_exc {Q : Option Value → Shared → Prop} (T : L2.ExcC K D) (X : K.In s.heap) (I : InstAt s.heap x ox D od) (k : Q (some (.ref D)) { s with toks := s.toks + 1 }) : wpAny (model prog w) A (getAttr? (.ref x) "__class__") Q E s := by
  have found : findObj K D od "__class__" = some (.bind (.builtin "getset_descriptor.__get__") (.builtin "object.__class__")) := fo_data (by obtain ⟨cd, hc, _⟩ := any_some T.hd; rw [hc]; rfl) T.ha T.hn T.ht
  obtain ⟨hp, g, d, t, os⟩ := s
  have J0 := I.type (M := model prog w)
  have J1 := looks_findIn (M := model prog w) X T.hg
  have J2 := looks_findIn (M := model prog w) X T.hk
  have J3 := looks_find (M := model prog w) X I found
  have isE : Looks (model prog w) hp (isInstance (.ref x) (.type "BaseException")) true := J0.andThen (looks_subIn X T.hs)
  have c0 : (false && onTheHeap (Value.builtin "BaseException.__getattribute__")) = false := rfl
  have c2 : (Value.builtin "BaseException.__getattribute__" == Value.builtin "object.__getattribute__") = false := by decide +kernel
  have c1 : (onTheHeap (Value.ref D) && Value.builtin "BaseException.__getattribute__" == Value.builtin "object.__getattribute__") = false := by rw [c2]; rfl
  unfold getAttr? getAttrBy? getAttrBy
  refine wpAny_bind (wpAny_mkText (wpAny_bind (wpAny_attempt (wpAny_holding (wpAny_bind (J0.at (wpAny_bind (J1.at ?_))))))))
  show wpAny _ _ (if (onTheHeap (Value.ref D) && Value.builtin "BaseException.__getattribute__" == Value.builtin "object.__getattribute__") = true then _ else _) _ _ _
  rw [c1, if_neg Bool.false_ne_true]
  unfold getAttrByItsOwn hookBefore
  refine wpAny_bind ?_
  rw [if_pos (show onTheHeap (Value.ref D) = true from rfl)]
  refine J2.at (wpAny_bind (wpAny_attempt (wpAny_holding ?_)))
  unfold callGetattribute
  rw [c0, if_neg Bool.false_ne_true]
  unfold boundAndCalled
  rw [PySem.F.excAttr_ValueError.ga.bind (.ref x)]
  refine wpAny_bind (wpAny_pure ?_)
  show wpAny _ _ (call (.builtin "BaseException.__getattribute__") [.ref x, .str "__class__" t]) _ _ _
  refine wpAny_call (codeAny_call_builtin PySem.F.excAttr_ValueError.ga.plain PySem.F.entry_bexc_ga ?_)
  refine @check_slot (model prog w) _ _ ⟨hp, g, d, t + 1, os⟩ "BaseException.__getattribute__" "BaseException" "__getattribute__" (.ref x) [.str "__class__" t] [] _ (by decide +kernel) (by decide +kernel) isE (PySem.F.args_bexc_ga (.ref x) (.str "__class__" t)) ?_
  unfold Builtin.«object.__getattribute__»
  refine wpAny_bind (wpAny_of_eq (a := ((Value.ref x : Value), [Value.str "__class__" t])) (by first | rfl | (simp only [slotArgs]; rfl)) ?_)
  refine wpAny_bind (wpAny_pure (wpAny_bind (J0.at (wpAny_bind (J3.at ?_)))))
  show wpAny _ _ (holding [Value.builtin "object.__class__"] (call (.builtin "getset_descriptor.__get__") [.builtin "object.__class__", .ref x, .ref D]) >>= ret) _ _ _
  refine wpAny_bind (wpAny_holding (wpAny_call (class_get (s := ⟨hp, g, d, t + 1, os⟩) (ox := ox) (od := od) X I T.hm (wpAny_pure ?_))))
  show wpAny _ _ (handedOut (.ref D)) _ _ _
  rw [handedOut_of (v := .ref D) rfl]
  first
    | exact wpAny_pure (wpAny_pure k)
    | exact wpAny_pure k
    | exact wpAny_pure (wpAny_bind (wpAny_pure (wpAny_pure k)))
theorem kitx_own (T : L2.ExcC K D) : KitX K (.ref x) (.ref D) (fun h => InstAt h x ox D od) where
  ty := fun _ _ _ I => I.type
  it := fun _ _ X _ => by
    obtain ⟨cd, hc, _⟩ := any_some T.hd
    unfold clsIn at hc
    split at hc
    · rename_i c' d' cd' sl' ho
      intro A' Q' E' s' k q
      unfold isType loadHead
      exact wpAny_bind (wpAny_loadPart (k _ _ (X _ _ ho)) (wpAny_pure q))
    · cases hc
  ne := fun h tp dd its n sl X htp => by
    obtain ⟨cd, hc, _⟩ := any_some T.hd
    refine Bool.eq_false_iff.mpr fun q => ?_
    have e : D = tp := Value.ref.inj (beq_iff_eq.mp q)
    subst e
    unfold clsIn at hc
    split at hc
    · rename_i c' d' cd' sl' ho
      have z := (X _ _ ho).symm.trans htp
      cases z
    · cases hc
  ca := fun X I k => class_of_exc T X I k
end
end JX
end PySem
namespace JJ
open PySem L2
/-- isinstance(e, c), e the exception that the suite holds, its dict there -/
def rIsO (K : PySem.W.Frag) (D a dd : Addr) : List V → Hp → VK → Prop := fun xs H Q => ∃ (c : V) (cv : Value) (b : Bool) (fs : List (Str × V)), xs = [.ref a, c] ∧ H dd = some (.xd fs) ∧ (∀ u, RelV c u → u = cv) ∧ PySem.W.kitOne K (.ref D) cv = some b ∧ Q (.bl b) H
theorem call_isO {X : Cx} {a D dd : Addr} {oe : Obj} {pn : List (Addr × Obj)} (C : ExcC X.K D) (hz : Zc (.ref D) (some dd) oe) (hf : ∃ vs, oe.data = .fields vs) : CallR (X.suite a ((a, oe) :: pn)) (.builtin "isinstance") (rIsO X.K D a dd) := by
  intro pins s σ H xs us Q I r h
  obtain ⟨c, cv, b, fs, rfl, hx, hcv, e, q⟩ := h
  cases r with
  | cons rx rr =>
    cases rr with
    | cons rt rr =>
      cases rr
      cases rx
      have ec := hcv _ rt
      subst ec
      obtain ⟨hget, _⟩ := I.pin (a, oe) (List.mem_append.mpr (.inl List.mem_cons_self))
      obtain ⟨vs, hv⟩ := hf
      have hx' : ObjOk X.prog X.w H s.heap dd (.xd fs) := I.hok dd _ hx
      obtain ⟨mA, hns, hr⟩ := hx'
      obtain ⟨oD, ho, _⟩ := lookIn_ns hns
      have J : PySem.W.InstAt s.heap a oe D (some oD) := ⟨hget, hz.1, by unfold PySem.W.notCls; rw [hv] <;> rfl, by rw [hz.2]; exact ho⟩
      exact PySem.W.kia_one (PySem.JX.kitx_own C) I.kIn J e (fun z => nomatch z) fun tk => ⟨.bl b, H, I.kept (t' := tk) fun _ _ z => z, rfl, q⟩
end JJ
set_option maxHeartbeats 3200000
/-! J8c: expressions that may raise; try. -/
namespace JJ
open PySem L2
open PyProof.Rows (envOfC)

abbrev MX := List CD → Option (Res × List CD)
def SXX (w : Wi) (te : TE) (m : MX) : Prop := ∀ (Δ : List (CD × Option V)) (Γ : List CD) (σ : St) (H : Hp) (Q : VK) (r : Res) (Γ' : List CD), m Γ = some (r, Γ') → Hs w.K H Δ Γ σ →
  (match r with
    | .ok c => ∀ v H', Hs w.K H' ((c, some v) :: Δ) Γ' σ → Q v H'
    | .ex x d => ∀ cls dx H', ExcAt w.K w.mg H' x d cls dx → Hs w.K H' Δ Γ' σ → w.W cls dx σ H') → te σ H Q
def JX {ι : Type} (E : Es ι) (e : Expr) (m : MX) : Prop := ∃ te, (∀ i, PE (E.X i) e te) ∧ SXX E.wi te m

/-- a function that may raise, on operands -/
def mAppX (f : List CD → Option (Res × List CD)) (ml : ML) : MX := fun Γ => match ml Γ with
  | some (ops, Γ1) => (match takeO ops Γ1 with
    | some (cs, Γ2) => (match f cs with
      | some (r, cs') => some (r, giveO ops cs' Γ2)
      | none => none)
    | none => none)
  | none => none
theorem mAppX_of {f : List CD → Option (Res × List CD)} {ml : ML} {Γ Γ' : List CD} {r : Res} (e : mAppX f ml Γ = some (r, Γ')) : ∃ ops Γ1 cs Γ2 cs', ml Γ = some (ops, Γ1) ∧ takeO ops Γ1 = some (cs, Γ2) ∧ f cs = some (r, cs') ∧ Γ' = giveO ops cs' Γ2 := by
  unfold mAppX at e
  cases e1 : ml Γ with
  | none => rw [e1] at e; cases e
  | some p =>
    obtain ⟨ops, Γ1⟩ := p
    rw [e1] at e
    dsimp only at e
    cases e2 : takeO ops Γ1 with
    | none => rw [e2] at e; cases e
    | some p2 =>
      obtain ⟨cs, Γ2⟩ := p2
      rw [e2] at e
      dsimp only at e
      cases e3 : f cs with
      | none => rw [e3] at e; cases e
      | some p3 =>
        obtain ⟨r3, cs'⟩ := p3
        rw [e3] at e
        cases e
        exact ⟨ops, Γ1, cs, Γ2, cs', rfl, e2, e3, rfl⟩
theorem appX_of {w : Wi} {n : Nat} {ta : TA} {ml : ML} {f : List CD → Option (Res × List CD)} {R : Sp} (hR : ∀ vs H Q E, spX n w.K w.mg f vs H Q E → R vs H Q E) (ha : SA w.K ta ml) (hn : ∀ cs r, f cs = some r → cs.length = n) : SXX w (fun σ H Q => ta σ H fun vs H1 => R vs H1 Q (WE w.W σ)) (mAppX f ml) := by
  intro Δ Γ σ H Q r Γ' e h k
  obtain ⟨ops, Γ1, cs, Γ2, cs', e1, e2, e3, rfl⟩ := mAppX_of e
  refine ha Δ Γ σ H _ ops Γ1 e1 h fun vs H1 h1 s => ?_
  obtain ⟨h2, l2⟩ := takeO_ok s h1 e2
  have h3 : HP w.K H1 (cs.zip (vs.map some) ++ (Δ ++ Γ2.zip σ)) := by
    rw [← List.append_assoc]; exact h2.2
  refine hR _ _ _ _ ⟨cs, r, cs', _, e3, hn _ _ e3, l2, h3, ?_⟩
  cases r with
  | ok c =>
    intro v H' h4 l4
    refine k v H' ?_
    have h5 : Hs w.K H' (cs'.zip (vs.map some) ++ ((c, some v) :: Δ)) Γ2 σ := ⟨h2.1, by
      refine h4.perm ?_
      rw [← List.append_assoc]
      show ((c, some v) :: (cs'.zip (vs.map some) ++ Δ ++ Γ2.zip σ)).Perm _
      exact (List.Perm.append_right _ List.perm_middle.symm)⟩
    exact giveO_ok s l4 h5
  | ex x d =>
    intro cls dx H' hx h4 l4
    exact k cls dx H' hx (giveO_ok s l4 ⟨h2.1, by rw [List.append_assoc]; exact h4⟩)
theorem appX_ok {w : Wi} {n : Nat} {ta : TA} {ml : ML} {f : List CD → Option (Res × List CD)} (ha : SA w.K ta ml) (hn : ∀ cs r, f cs = some r → cs.length = n) : SXX w (fun σ H Q => ta σ H fun vs H1 => spX n w.K w.mg f vs H1 Q (WE w.W σ)) (mAppX f ml) :=
  appX_of (fun _ _ _ _ h => h) ha hn

section
variable {X : Cx} {k : Nat} {f : Addr} {fd : FuncData} {ps : List Str} {sp : Sp} {E : St → XK} {x : Str} {p pos : Pos} {e : Expr} {es : List Expr} {t : TA} {kws : List Keyword} {ks : List Str}
theorem runGS {pins : List (Addr × Obj)} {σ : St} {H : Hp} {s : Shared} {Q : VK} {args : Args} {us : List Value} {vs : List V} (F : FnG X.prog X.w X.K X.mg X.base k f fd ps sp) (hg : X.A.guards = some []) (hr : Room k X.A) (hb : us.length = ps.length → BindsTo s fd args (ps.zip us)) (hx : PassesAt (L2.CX X.prog X.w) X σ (E σ))
    (I : Inv X pins σ H s) (r : Vals vs us) (h : sp vs H Q (E σ)) : codeAny (model X.prog X.w) X.A (.call (.ref f) args) (wants (EP X pins σ Q) X.xe) s := by
  have hl : us.length = ps.length := by rw [← r.length]; exact F.len _ _ _ _ h
  refine codeAny_mono (F.run X.A X.stack s H args us vs Q (E σ) hg hr I.env0 (hb hl) r h) fun r s' hq => ?_
  match r, hq with
  | .error e, hq => exact hx pins H s e s' I hq
  | .ok (.ret u), hq => exact I.after hq
  | .ok .next, hq => exact False.elim hq
  | .ok .brk, hq => exact False.elim hq
  | .ok .cont, hq => exact False.elim hq
theorem pe_callGS (F : FnG X.prog X.w X.K X.mg X.base k f fd ps sp) (hG : X.A.guards = some []) (hr : Room k X.A) (hg : Gl X x) (hm : X.mg x = some (.ref f)) (hk : PySem.W.keepIn X.K (.ref f) = true) (hb : Binds X.K fd ps []) (hx : ∀ σ, PassesAt (L2.CX X.prog X.w) X σ (E σ))
    (ha : PA X (e :: es) t) (hdb : (x == ("__debug__" : Str)) = false) (he : starEach (e :: es) X.env = (false, eval e X.env) :: starEach es X.env) (hpl : (backTo pos (starEach es X.env)).any (·.1) = false) :
    PE X (.Call (.Name x p) (e :: es) [] pos) (fun σ H Q => t σ H fun vs H1 => sp vs H1 Q (E σ)) := by
  refine ⟨fun pins s σ H Q I h => ?_⟩
  refine wpAny_Call_Name_kw (ld_glob I hg hm (PySem.W.callWith_K (h₀ := X.base) I.ok.mod.kin hk (thn (ha.run pos pins s σ H _ I h) ?_) he hpl) hdb)
  rintro us s1 ⟨vs, H1, I1, r, q⟩
  refine ⟨I1.kIn, wpAny_call (runGS F hG hr (fun hl => ?_) (hx σ) I1 r q)⟩
  have z := hb s1 us I1.kIn (by rw [List.append_nil]; exact hl)
  rw [List.append_nil] at z
  exact z
/-- f(a = e, b = e', ..), in the order ks, nothing by position -/
theorem pe_callKS (F : FnG X.prog X.w X.K X.mg X.base k f fd ps sp) (hG : X.A.guards = some []) (hr : Room k X.A) (hg : Gl X x) (hm : X.mg x = some (.ref f)) (hk : PySem.W.keepIn X.K (.ref f) = true) {pm : List Value → List Value} {pmV : List V → List V}
    (hb : ∀ s (ws : List Value), X.K.In s.heap → (pm ws).length = ps.length → BindsTo s fd ⟨[], ks.zip ws⟩ (ps.zip (pm ws))) (hpm : ∀ vs us, Vals vs us → Vals (pmV vs) (pm us)) (hx : ∀ σ, PassesAt (L2.CX X.prog X.w) X σ (E σ))
    (ha : PK X kws t) (hdb : (x == ("__debug__" : Str)) = false) (hall : (backToKw pos (keywordEach kws X.env)).all (·.1.isSome) = true) (hks : (backToKw pos (keywordEach kws X.env)).filterMap (·.1) = ks)
    (hpl : ((backTo pos (starEach [] X.env)).any (·.1) || (backToKw pos (keywordEach kws X.env)).any (·.1.isNone)) = false) :
    PE X (.Call (.Name x p) [] kws pos) (fun σ H Q => t σ H fun vs H1 => sp (pmV vs) H1 Q (E σ)) := by
  refine ⟨fun pins s σ H Q I h => ?_⟩
  refine wpAny_Call_Name_kw (ld_glob I hg hm (PySem.W.callWith_KW0 (h₀ := X.base) I.ok.mod.kin hk hall (thn (ha.run pos pins s σ H _ I h) ?_) hpl) hdb)
  rintro us s1 ⟨vs, H1, I1, r, q⟩
  rw [hks]
  exact ⟨I1.kIn, wpAny_call (runGS F hG hr (fun hl => hb s1 us I1.kIn hl) (hx σ) I1 (hpm _ _ r) q)⟩
end

/-- a mirror that takes n arguments -/
theorem arX_fn {n N : Nat} {W : List Nat} {mb : MS} : ∀ cs r, mFnX n N W mb cs = some r → cs.length = n := by
  intro cs r q
  unfold mFnX at q
  by_cases hc : cs.length = n ∧ okP W 0 cs = true
  · exact hc.1
  · rw [if_neg hc] at q; cases q
section
variable {ι : Type} {E : Es ι} {x : Str} {n j : Nat} {f : List CD → Option (Res × List CD)} {e : Expr} {es : List Expr} {ml : ML} {p pos : Pos} {m m2 : MX}
theorem jx_call (C : ClX E.P E.w E.K E.mg E.base x n j f) (hj : j ≤ E.k) (hn : ∀ cs r, f cs = some r → cs.length = n) (tk : ∀ i, Takes (E.X i) E.W) (ha : JA E.toEv (e :: es) ml)
    (hg : ∀ j, Gl (E.X j) x := by exact fun _ => rfl) (hdb : (x == ("__debug__" : Str)) = false := by decide)
    (he : ∀ env, starEach (e :: es) env = (false, eval e env) :: starEach es env := by intro _; rfl) (hpl : ∀ env, (backTo pos (starEach es env)).any (·.1) = false := by intro _; rfl) : JX E (.Call (.Name x p) (e :: es) [] pos) (mAppX f ml) := by
  obtain ⟨a, fd, ps, F, h1, h2, h3⟩ := C
  obtain ⟨ta, a1, a2⟩ := ha
  refine ⟨_, fun i => ?_, appX_ok (w := E.wi) (n := n) a2 hn⟩
  exact pe_callGS (k := j) (f := a) (fd := fd) (ps := ps) (sp := spX n E.K E.mg f) (E := WE E.W) (by rw [E.hP, E.hw, E.hK, E.hm, E.hb]; exact F) (E.gds i) ((E.room i).mono hj) (hg i) (by rw [E.hm]; exact h1) (by rw [E.hK]; exact h2) (by rw [E.hK]; exact h3) (fun σ => passAt (tk i) σ) (a1 i) hdb (he _) (hpl _)
def JK (E : Ev ι) (kws : List Keyword) (m : ML) : Prop := ∃ te, (∀ i, PK (E.X i) kws te) ∧ SA E.K te m
theorem jk_nil {E : Ev ι} : JK E [] mlN := ⟨tNil, fun _ => pk_nil, sa_nil⟩
theorem jk_cons {E : Ev ι} {kws : List Keyword} {nm : Option Str} {kpos : Pos} {mp : MP} (h : JP E e mp) (hr : JK E kws ml) : JK E (⟨nm, e, kpos⟩ :: kws) (mlC mp ml) :=
  let ⟨te, h1, h2⟩ := h; let ⟨ta, t1, t2⟩ := hr; ⟨tCons te ta, fun i => pk_cons (h1 i) (t1 i), sa_cons h2 t2⟩
/-- how a def of three parameters binds three keywords, told from the last to the first -/
def BindK3 (K : PySem.W.Frag) (fd : FuncData) (ps : List Str) (k1 k2 k3 : Str) : Prop := ∀ (s : Shared) (a b c : Value), K.In s.heap → BindsTo s fd ⟨[], [(k1, a), (k2, b), (k3, c)]⟩ (ps.zip [c, b, a])
def ClK3 (P : Program) (w : World) (K : PySem.W.Frag) (mg : Str → Option Value) (base : Heap) (x : Str) (j : Nat) (k1 k2 k3 : Str) (f : List CD → Option (Res × List CD)) : Prop :=
  ∃ (a : Addr) (fd : FuncData) (ps : List Str), FnG P w K mg base j a fd ps (spX 3 K mg f) ∧ mg x = some (.ref a) ∧ PySem.W.keepIn K (.ref a) = true ∧ ps.length = 3 ∧ BindK3 K fd ps k1 k2 k3
/-- the function behind the keywords, last first -/
def rev3 (f : List CD → Option (Res × List CD)) : List CD → Option (Res × List CD) := fun cs => match f cs.reverse with
  | some (r, cs') => some (r, cs'.reverse)
  | none => none
theorem zip_rev {α β : Type} : ∀ {l : List α} {m : List β}, l.length = m.length → l.reverse.zip m.reverse = (l.zip m).reverse
  | [], [], _ => rfl
  | a :: l, b :: m, h => by
    have h' : l.length = m.length := by simpa using h
    rw [List.reverse_cons, List.reverse_cons, List.zip_append (by simp [h']), zip_rev h']
    simp
  | [], _ :: _, h => by cases h
  | _ :: _, [], h => by cases h
theorem vals_rev : ∀ {vs : List V} {us : List Value}, Vals vs us → Vals vs.reverse us.reverse
  | _, _, .nil => .nil
  | _, _, .cons h t => by
    rw [List.reverse_cons, List.reverse_cons]
    exact Paired.snoc (vals_rev t) h
theorem spX_rev {n : Nat} {K : PySem.W.Frag} {mg : Str → Option Value} {f : List CD → Option (Res × List CD)} (vs : List V) (H : Hp) (Q : VK) (E : XK) (h : spX n K mg (rev3 f) vs H Q E) : spX n K mg f vs.reverse H Q E := by
  obtain ⟨cs, r, cs', ps, e, h1, h2, h3, h4⟩ := h
  unfold rev3 at e
  cases e1 : f cs.reverse with
  | none => rw [e1] at e; cases e
  | some p =>
    obtain ⟨r', ds⟩ := p
    rw [e1] at e
    cases e
    have pr : ∀ {as : List CD}, as.length = vs.length → (as.reverse.zip (vs.reverse.map some)).Perm (as.zip (vs.map some)) := fun {as} l => by
      rw [List.map_reverse, zip_rev (by simpa using l)]
      exact List.reverse_perm _
    have bk : ds.length = vs.reverse.length → ds.reverse.length = vs.length := fun l => by simpa using l
    have pb : ds.length = vs.reverse.length → (ds.zip (vs.reverse.map some)).Perm (ds.reverse.zip (vs.map some)) := fun l => by
      have := pr (as := ds.reverse) (bk l)
      rwa [List.reverse_reverse] at this
    refine ⟨cs.reverse, r, ds, ps, e1, by simpa using h1, by simpa using h2, h3.perm ((pr h2).symm.append_right ps), ?_⟩
    cases r with
    | ok c => exact fun v H' h5 l5 => h4 v H' (h5.perm (.cons _ ((pb l5).append_right ps))) (bk l5)
    | ex x d => exact fun cls dx H' hx h5 l5 => h4 cls dx H' hx (h5.perm ((pb l5).append_right ps)) (bk l5)
theorem jx_callK {k1 k2 k3 : Str} {e1 e2 e3 : Expr} {q1 q2 q3 : Pos} (C : ClK3 E.P E.w E.K E.mg E.base x j k1 k2 k3 f) (hj : j ≤ E.k) (hn : ∀ cs r, f cs = some r → cs.length = 3) (tk : ∀ i, Takes (E.X i) E.W) (ha : JK E.toEv [⟨some k1, e1, q1⟩, ⟨some k2, e2, q2⟩, ⟨some k3, e3, q3⟩] ml)
    (hg : ∀ j, Gl (E.X j) x := by exact fun _ => rfl) (hdb : (x == ("__debug__" : Str)) = false := by decide) : JX E (.Call (.Name x p) [] [⟨some k1, e1, q1⟩, ⟨some k2, e2, q2⟩, ⟨some k3, e3, q3⟩] pos) (mAppX (rev3 f) ml) := by
  obtain ⟨a, fd, ps, F, h1, h2, h4, h3⟩ := C
  obtain ⟨ta, a1, a2⟩ := ha
  have hn3 : ∀ cs r, rev3 f cs = some r → cs.length = 3 := fun cs r q => by
    unfold rev3 at q
    cases e : f cs.reverse with
    | none => rw [e] at q; cases q
    | some p => have := hn _ _ e; simpa using this
  have key := appX_of (w := E.wi) (n := 3) (R := fun vs H Q Ek => spX 3 E.K E.mg f vs.reverse H Q Ek) spX_rev a2 hn3
  refine ⟨_, fun i => ?_, key⟩
  have G : FnG (E.X i).prog (E.X i).w (E.X i).K (E.X i).mg (E.X i).base j a fd ps (fun vs H Q Ek => spX 3 E.K E.mg f vs H Q Ek) := by rw [E.hP, E.hw, E.hK, E.hm, E.hb]; exact F
  exact pe_callKS (k := j) (f := a) (fd := fd) (ps := ps) (ks := [k1, k2, k3]) (E := WE E.W) (pm := List.reverse) (pmV := List.reverse) (p := p) (pos := pos) G (E.gds i) ((E.room i).mono hj) (hg i) (by rw [E.hm]; exact h1) (by rw [E.hK]; exact h2) (fun s ws X hl => by
    rw [List.length_reverse, h4] at hl
    match ws, hl with
    | [a, b, c], _ => exact h3 s a b c (by rw [← E.hK i]; exact X)) (fun vs us r => vals_rev r) (fun σ => passAt (tk i) σ) (a1 i) hdb rfl rfl rfl
def mIfX (t : MT) (m n : MX) : MX := fun Γ => match t Γ with
  | some (true, Γ') => m Γ'
  | some (false, Γ') => n Γ'
  | none => none
theorem jx_ifE {c a b : Expr} {mt : MT} (hc : JT E.toEv c mt) (h : JX E a m) (h2 : JX E b m2) : JX E (.IfExp c a b pos) (mIfX mt m m2) := by
  obtain ⟨tt, c1, c2⟩ := hc
  obtain ⟨ta, a1, a2⟩ := h
  obtain ⟨tb, b1, b2⟩ := h2
  refine ⟨tIf tt ta tb, fun i => pe_ifExp (c1 i) (a1 i) (b1 i), fun Δ Γ σ H Q r Γ' q hs k => ?_⟩
  unfold mIfX at q
  cases e1 : mt Γ with
  | none => rw [e1] at q; cases q
  | some pp =>
    obtain ⟨v, G⟩ := pp
    rw [e1] at q
    refine c2 Δ Γ σ H _ v G e1 hs fun H' h' => ?_
    cases v with
    | true => exact a2 Δ G σ H' Q r Γ' q h' k
    | false => exact b2 Δ G σ H' Q r Γ' q h' k
def mRetX (m : MX) : MS := fun Γ => match m Γ with
  | some (.ok c, Γ') => some (.rt c Γ')
  | some (.ex x d, Γ') => some (.ex x d Γ')
  | none => none
theorem js_retX (h : JX E e m) : JS E (.Return (some e) pos) (mRetX m) [] := by
  obtain ⟨te, a1, a2⟩ := h
  refine ⟨tRet te, fun i => ps_ret (a1 i), fun Δ Γ σ H D o q hs k => ?_⟩
  unfold mRetX at q
  cases e1 : m Γ with
  | none => rw [e1] at q; cases q
  | some pp =>
    obtain ⟨r, G⟩ := pp
    rw [e1] at q
    refine a2 Δ Γ σ H _ r G e1 hs ?_
    cases r with
    | ok c => cases q; exact fun v H' h' => k v σ H' h' .rfl'
    | ex x d => cases q; exact fun cls dx H' hx h' => k cls dx σ H' hx h' .rfl'
end

/-! ### try: .. except x as n: .. -/
section
variable {ι : Type}
/-- the contexts of a try's body -/
abbrev TrI (E : Es ι) (W : WX) : Type := (i : ι) × { q : List (Addr × Obj) × (Value → Shared → Prop) // Takes ((E.X i).tr q.1 q.2) W ∧ PassesOwn (model (E.X i).prog (E.X i).w) (E.X i).A (E.X i).env q.2 }
def Es.tr (E : Es ι) (W : WX) : Es (TrI E W) where
  X := fun j => (E.X j.1).tr j.2.1.1 j.2.1.2
  P := E.P
  w := E.w
  K := E.K
  mg := E.mg
  base := E.base
  N := E.N
  k := E.k
  hP := fun j => E.hP j.1
  hw := fun j => E.hw j.1
  hK := fun j => E.hK j.1
  hm := fun j => E.hm j.1
  hb := fun j => E.hb j.1
  hN := fun j => E.hN j.1
  nd := E.nd
  room := fun j => E.room j.1
  calm := fun j => E.calm j.1
  gds := fun j => E.gds j.1
  W := W
/-- a suite that returns: the caught error of the class x, its datum d; its name in slot i -/
def JSU (E : Es ι) (i : Nat) (x : Str) (suite : List Stmt) (ms : Da → ME) : Prop := ∃ ts : Addr → Value → Option Addr → TS,
  (∀ j a oe cls d pn, Zc cls d oe → (∃ vs, oe.data = .fields vs) → PSs ((E.X j).suite a ((a, oe) :: pn)) suite (ts a cls d)) ∧
  ∀ (Δ : List (CD × Option V)) (Γ : List CD) (σ : St) (H : Hp) (D : Ends) (d : Da) (c : CD) (Γ' : List CD) (a : Addr) (cls : Value) (dx : Option Addr), ms d Γ = some (c, Γ') → ExcAt E.K E.mg H x d cls dx → Hs E.K H Δ Γ σ → σ[i]? = some (some (.ref a)) →
    (∀ v H', Hs E.K H' ((c, some v) :: Δ) Γ' σ → D.rt v H') → ts a cls dx D σ H
def mTry (i : Nat) (x : Str) (mb : MS) (ms : Da → ME) : MS := fun Γ => match mb Γ with
  | some (.ex y d Γ') => if y = x ∧ i < Γ'.length then (match ms d (Γ'.set i .any) with
    | some (c, Γ2) => some (.rt c Γ2)
    | none => none) else none
  | o => o
variable {E : Es ι} {body : List Stmt} {b0 : Stmt} {suite : List Stmt} {mb : MS} {ms : Da → ME} {Wb : List Nat} {x n : Str} {np pos pos' : Pos} {C : Addr}
theorem js_try (i : Nat) (hC : E.mg x = some (.ref C)) (te : PySem.W.exmOne E.K (.ref C) (.ref C) = some true) (tk : ∀ j, Takes (E.X j) E.W) (hb : ∀ W, JB (E.tr W) body mb Wb) (hsu : JSU E i x (b0 :: suite) ms)
    (hs : ∀ j, (E.X j).stack = (E.X j).env :: (E.X j).outer := by intro _; rfl) (hf : ∀ j, (E.X j).env.frame = some (E.X j).env.locals := by intro _; rfl)
    (hN : E.N[i]? = some n := by rfl) (hln : ∀ j, (E.X j).env.kindOf n = some .local := by intro _; rfl) (hg : ∀ j, Gl (E.X j) x := by exact fun _ => rfl) (hdb : (x == ("__debug__" : Str)) = false := by decide) :
    JS E (.Try body [.ExceptHandler (some (.Name x np)) (some n) (b0 :: suite) pos'] [] [] pos) (mTry i x mb ms) (Wb ++ [i]) := by
  obtain ⟨ts, s1, s2⟩ := hsu
  have h1 : ∀ W, ∀ j, PSs ((E.tr W).X j) body (hb W).choose := fun W => (hb W).choose_spec.1
  have h2 : ∀ W, SS ⟨E.K, E.mg, W⟩ (hb W).choose mb Wb := fun W => (hb W).choose_spec.2
  refine ⟨fun D σ H => (hb (wAs E.K (.ref C) i ts E.W D)).choose D σ H, fun j => ?_, fun Δ Γ σ H D o q hs' k => ?_⟩
  · have z := ps_try_as (X := E.X j) (x := x) (n := n) (c := .ref C) (i := i) (np := np) (pos := pos) (pos' := pos') (tb := fun W => (hb W).choose) (ts := ts) (Wout := E.W) (hs j) (hf j) (by rw [E.hN]; exact E.nd) (by rw [E.hN]; exact hN) (hln j) ⟨hg j, hdb, .inl (by rw [E.hm]; exact hC)⟩ (tk j)
      (fun W pn xe t pw => h1 W ⟨j, ⟨(pn, xe), t, pw⟩⟩) (fun a oe cls d pn hz hv => s1 j a oe cls d pn hz hv)
    rw [E.hK] at z
    exact z
  · have wk : ∀ σ', Keep Wb σ σ' → Keep (Wb ++ [i]) σ σ' := fun σ' q => q.mono fun j m => List.mem_append_left _ m
    unfold mTry at q
    cases e1 : mb Γ with
    | none => rw [e1] at q; cases q
    | some o1 =>
      rw [e1] at q
      refine h2 _ Δ Γ σ H D o1 e1 hs' ?_
      cases o1 with
      | nx G => cases q; exact fun σ' H' a b => k σ' H' a (wk _ b)
      | rt c G => cases q; exact fun v σ' H' a b => k v σ' H' a (wk _ b)
      | bk G => cases q; exact fun σ' H' a b => k σ' H' a (wk _ b)
      | ct G => cases q; exact fun σ' H' a b => k σ' H' a (wk _ b)
      | ex y d G =>
        dsimp only at q
        by_cases hy : y = x ∧ i < G.length
        · rw [if_pos hy] at q
          obtain ⟨hy, hiG⟩ := hy
          subst hy
          cases e2 : ms d (G.set i .any) with
          | none => rw [e2] at q; cases q
          | some p =>
            obtain ⟨c, G2⟩ := p
            rw [e2] at q
            cases q
            intro cls dx σ1 H1 hx h3 k3
            have hx' := hx
            obtain ⟨C', dd, v, m1, ec, _⟩ := hx'
            have m1' : E.mg y = some (.ref C') := m1
            rw [hC] at m1'
            cases m1'
            subst ec
            refine ⟨true, te, fun _ a ha => ?_, fun z => Bool.noConfusion z⟩
            have hi : i < σ1.length := by rw [← h3.1]; exact hiG
            refine s2 Δ (G.set i .any) (σ1.set i (some (.ref a))) H1 _ d c G2 a (.ref C) dx e2 hx ?_ (List.getElem?_set_self hi) fun v H' h4 => k v _ H' h4 ?_
            · exact Hs.put (c := .any) (o := some (.ref a)) (Δ := Δ) ⟨h3.1, (h3.2.push (c := .any) (o := some (.ref a)) rfl)⟩ hi
            · exact ⟨by rw [List.length_set]; exact k3.1, fun j hj => by
                rw [List.getElem?_set_ne (fun z => hj (by simp [z]))]
                exact k3.2 j fun m => hj (List.mem_append_left _ m)⟩
        · rw [if_neg hy] at q; cases q
end

/-! ### the suite that tells what an error keeps -/
def rIsQ (K : PySem.W.Frag) (D a : Addr) (cls : Value) (d : Option Addr) : List V → Hp → VK → Prop := fun xs H Q => cls = .ref D ∧ ∃ dd, d = some dd ∧ rIsO K D a dd xs H Q
theorem call_isQ {X : Cx} {a D : Addr} {cls : Value} {d : Option Addr} {oe : Obj} {pn : List (Addr × Obj)} (C : ExcC X.K D) (hz : Zc cls d oe) (hf : ∃ vs, oe.data = .fields vs) : CallR (X.suite a ((a, oe) :: pn)) (.builtin "isinstance") (rIsQ X.K D a cls d) := by
  intro pins s σ H xs us Q I r h
  obtain ⟨rfl, dd, rfl, q⟩ := h
  exact call_isO C hz hf pins s σ H xs us Q I r q
section
variable {ι : Type} {E : Es ι} {n c1 c2 c3 x : Str} {C C1 C2 C3 : Addr} {i : Nat} {p0 p1 p2 p3 p4 p5 p6 p7 p8 p9 q1 q2 q3 q4 q5 q6 q7 q8 q9 r1 r2 r3 r4 r5 : Pos} {z : Str} {kk : Nat}
theorem jsu_told (hC : E.mg x = some (.ref C)) (eC : ExcC E.K C) (xC : XfC E.K C) (hno : PySem.W.findIn E.K (.ref C) "limit" = some none) (hfl : fldOf x = "limit")
    (h1 : E.mg c1 = some (.ref C1)) (h2 : E.mg c2 = some (.ref C2)) (h3 : E.mg c3 = some (.ref C3)) (k1 : PySem.W.kitOne E.K (.ref C) (.ref C1) = some true) (k2 : PySem.W.kitOne E.K (.ref C) (.ref C2) = some false) (k3 : PySem.W.kitOne E.K (.ref C) (.ref C3) = some false)
    (hm : E.mg "isinstance" = none) (hN : E.N[i]? = some n := by rfl) (hv : ∀ j, Vis (E.X j).env.scope n := by first | exact fun _ => Or.inl rfl | exact fun _ => Or.inr (Or.inl rfl) | exact fun _ => Or.inr (Or.inr rfl))
    (hd : (n == ("__debug__" : Str)) = false := by decide) (hcd : (n == ("__classdict__" : Str)) = false := by decide) (g0 : ∀ j, Gl (E.X j) "isinstance" := by exact fun _ => rfl) (g1 : ∀ j, Gl (E.X j) c1 := by exact fun _ => rfl) (g2 : ∀ j, Gl (E.X j) c2 := by exact fun _ => rfl) (g3 : ∀ j, Gl (E.X j) c3 := by exact fun _ => rfl)
    (d1 : (c1 == ("__debug__" : Str)) = false := by decide) (d2 : (c2 == ("__debug__" : Str)) = false := by decide) (d3 : (c3 == ("__debug__" : Str)) = false := by decide) :
    JSU E i x [.If (.BoolOp .Or [.UnaryOp .Not (.Call (.Name "isinstance" p0) [.Name n p1, .Name c1 p2] [] p3) p4, .Call (.Name "isinstance" p5) [.Name n p6, .Name c2 p7] [] p8, .Call (.Name "isinstance" p9) [.Name n q1, .Name c3 q2] [] q3] q4) [.Return (some (.List [.Constant (.str z) kk q5] q6)) q7] [] q8,
      .Return (some (.List [.Attribute (.Name n r1) "limit" r2] r3)) r4] (fun d Γ => some (.lst [d], Γ)) := by
  refine ⟨fun a cls d => tSeq (tIfS (tOr (tNot (tTest (tCB (rIsQ E.K C a cls d) (tCons (tVar i) (tCons (tC (.ref C1)) tNil))))) (tOr (tTest (tCB (rIsQ E.K C a cls d) (tCons (tVar i) (tCons (tC (.ref C2)) tNil)))) (tTest (tCB (rIsQ E.K C a cls d) (tCons (tVar i) (tCons (tC (.ref C3)) tNil))))))
    (tRet (tLst (tCons (tC (.str z)) tNil))) tNext) (tRet (tLst (tCons (tXf a cls d C "limit" (tVar i)) tNil))), fun j a oe cls d pn hz hf => ?_, fun Δ Γ σ H D d c Γ' a cls dx e hx hs hi k => ?_⟩
  · have hK := E.hK j
    have vr : ∀ {p : Pos}, PE ((E.X j).suite a ((a, oe) :: pn)) (.Name n p) (tVar i) := pe_var (by show (E.X j).N[i]? = _; rw [E.hN]; exact hN) (hv j) hd hcd
    have cl : ∀ {cn : Str} {Cn : Addr} {p : Pos}, Gl (E.X j) cn → E.mg cn = some (.ref Cn) → (cn == ("__debug__" : Str)) = false → PE ((E.X j).suite a ((a, oe) :: pn)) (.Name cn p) (tC (.ref Cn)) := fun g m dbg =>
      pe_glob g (by show (E.X j).mg _ = _; rw [E.hm]; exact m) rfl dbg
    have call : ∀ {cn : Str} {Cn : Addr} {pa pb pc pd : Pos}, Gl (E.X j) cn → E.mg cn = some (.ref Cn) → (cn == ("__debug__" : Str)) = false →
        PE ((E.X j).suite a ((a, oe) :: pn)) (.Call (.Name "isinstance" pa) [.Name n pb, .Name cn pc] [] pd) (tCB (rIsQ E.K C a cls d) (tCons (tVar i) (tCons (tC (.ref Cn)) tNil))) := fun g m dbg => by
      have cr := call_isQ (X := E.X j) (a := a) (D := C) (cls := cls) (d := d) (oe := oe) (pn := pn) (by rw [E.hK]; exact eC) hz hf
      rw [E.hK] at cr
      exact pe_callB cr (g0 j) (by show (E.X j).mg _ = _; rw [E.hm]; exact hm) (by decide +kernel) (pa_cons vr (pa_cons (cl g m dbg) pa_nil rfl) rfl) (by decide) (by decide) rfl rfl
    have fld := pe_xf (X := E.X j) (a := a) (C := C) (oe := oe) (cls := cls) (d := d) (pn := pn) (e := .Name n r1) (te := tVar i) (pos := r2) (n := "limit") (by rw [E.hK]; exact xC) (by rw [E.hK]; exact hno) hz hf vr rfl
    exact pss_cons (ps_if (pw_or (pt_not (pt_val (call (g1 j) h1 d1) (fun _ => rfl))) (pw_or (pt_val (call (g2 j) h2 d2) (fun _ => rfl)) (pw_or1 (pt_val (call (g3 j) h3 d3) (fun _ => rfl))))).pt (pss_one (ps_ret (pe_lst (pa_cons pe_str pa_nil rfl)))) pss_nil) (pss_one (ps_ret (pe_lst (pa_cons fld pa_nil rfl))))
  · cases e
    obtain ⟨C', dd, v, m1, rfl, rfl, hdd, rv⟩ := hx
    have m1' : E.mg x = some (.ref C') := m1
    rw [hC] at m1'
    cases m1'
    have ask : ∀ (cn : Addr) (b : Bool) (Q : VK), PySem.W.kitOne E.K (.ref C) (.ref cn) = some b → Q (.bl b) H → tCB (rIsQ E.K C a (.ref C) (some dd)) (tCons (tVar i) (tCons (tC (.ref cn)) tNil)) σ H Q := fun cn b Q kk q =>
      ⟨.ref a, hi, rfl, dd, rfl, .ref cn, .ref cn, b, _, rfl, hdd, fun u hu => hu, kk, q⟩
    refine ask C1 true _ k1 ⟨true, rfl, ?_⟩
    refine ask C2 false _ k2 ⟨false, rfl, ?_⟩
    refine ask C3 false _ k3 ⟨false, rfl, ?_⟩
    rw [hfl] at hdd
    refine ⟨.ref a, hi, rfl, rfl, dd, _, v, rfl, hdd, by simp [List.lookup], (by show 1 ≤ sizeLine; rw [sizeLine_eq]; decide), fun p hp => ?_⟩
    exact k _ _ (hs.newL (upd_new hp) (F2 := [p]) ⟨p, _, rfl, rfl, upd_same, .cons (rv.mono (tx_new hp)) .nil⟩ (by simp) (by simpa using hp))
end
end JJ
/-! J9: a def's contexts; names as values; the law's own call. -/
namespace JJ
open PySem L2
open PyProof.Rows (envOfC)

/-- a name's value: data are copied, owned things are moved -/
def mTk (i : Nat) : ME := fun Γ => match Γ[i]? with
  | some .any => none
  | some c => some (c, if isC c then Γ else Γ.set i .any)
  | none => none
theorem se_tk {K : PySem.W.Frag} {i : Nat} : SE K (tVar i) (mTk i) := by
  intro Δ Γ σ H Q c Γ' e hs k
  unfold mTk at e
  cases e1 : Γ[i]? with
  | none => rw [e1] at e; cases e
  | some c1 =>
    rw [e1] at e
    have hc : c1 ≠ .any := by rintro rfl; cases e
    have e' : c = c1 ∧ Γ' = if isC c1 then Γ else Γ.set i .any := by
      cases c1 <;> first | (cases e; done) | (cases e; exact ⟨rfl, rfl⟩)
    obtain ⟨rfl, rfl⟩ := e'
    obtain ⟨o, F, h1, r⟩ := hs.at e1
    obtain ⟨v, rfl⟩ := r.val hc
    exact ⟨v, h1, k v H (hs.slot e1 h1)⟩
section
variable {ι : Type} {E : Ev ι} {pos : Pos} {x : Str}
theorem je_tk (i : Nat) (hN : E.N[i]? = some x := by rfl) (hv : ∀ j, Vis (E.X j).env.scope x := by first | exact fun _ => Or.inl rfl | exact fun _ => Or.inr (Or.inl rfl) | exact fun _ => Or.inr (Or.inr rfl))
    (hd : (x == ("__debug__" : Str)) = false := by decide) (hcd : (x == ("__classdict__" : Str)) = false := by decide) : JE E (.Name x pos) (mTk i) :=
  ⟨tVar i, fun j => pe_var (by rw [E.hN]; exact hN) (hv j) hd hcd, se_tk⟩
end

/-- the one context of a def's body -/
def Es.fn (P : Program) (w : World) (K : PySem.W.Frag) (mg : Str → Option Value) (base : Heap) (N : List Str) (qual : Str) (sc : Scope) (f : Addr) (k : Nat) (nd : N.Nodup) (cdv : Value) (A : Around) (outer : List Env) (s : Shared) (H : Hp) (E : XK) (hg : A.guards = some []) (hr : Room k (A.deeper (envOfC qual sc s.heap.objs.size f cdv))) : Es Unit where
  X := fun _ => cxOf (L2.CX P w) P w K mg base N qual sc f cdv A outer s H E
  P := P
  w := w
  K := K
  mg := mg
  base := base
  N := N
  k := k
  hP := fun _ => rfl
  hw := fun _ => rfl
  hK := fun _ => rfl
  hm := fun _ => rfl
  hb := fun _ => rfl
  hN := fun _ => rfl
  nd := nd
  room := fun _ => hr
  calm := fun _ => rfl
  gds := fun _ => hg
  W := fun cls d _ H' => E cls d H'
theorem tk_fn {P : Program} {w : World} {K : PySem.W.Frag} {mg : Str → Option Value} {base : Heap} {N : List Str} {qual : Str} {sc : Scope} {f : Addr} {k : Nat} {nd : N.Nodup} {cdv : Value} {A : Around} {outer : List Env} {s : Shared} {H : Hp} {E : XK} {hg : A.guards = some []} {hr : Room k (A.deeper (envOfC qual sc s.heap.objs.size f cdv))} :
    ∀ i, Takes ((Es.fn P w K mg base N qual sc f k nd cdv A outer s H E hg hr).X i) (Es.fn P w K mg base N qual sc f k nd cdv A outer s H E hg hr).W := fun _ => takes_of rfl rfl rfl rfl
theorem pw_fn {P : Program} {w : World} {K : PySem.W.Frag} {mg : Str → Option Value} {base : Heap} {N : List Str} {qual : Str} {sc : Scope} {f : Addr} {k : Nat} {nd : N.Nodup} {cdv : Value} {A : Around} {outer : List Env} {s : Shared} {H : Hp} {E : XK} {hg : A.guards = some []} {hr : Room k (A.deeper (envOfC qual sc s.heap.objs.size f cdv))} :
    ∀ i, PassesOwn (model ((Es.fn P w K mg base N qual sc f k nd cdv A outer s H E hg hr).X i).prog ((Es.fn P w K mg base N qual sc f k nd cdv A outer s H E hg hr).X i).w) ((Es.fn P w K mg base N qual sc f k nd cdv A outer s H E hg hr).X i).A ((Es.fn P w K mg base N qual sc f k nd cdv A outer s H E hg hr).X i).env ((Es.fn P w K mg base N qual sc f k nd cdv A outer s H E hg hr).X i).xe := fun _ => passes_of rfl
/-- what a def's walk shows -/
def Wk (P : Program) (w : World) (K : PySem.W.Frag) (mg : Str → Option Value) (base : Heap) (N : List Str) (qual : Str) (st : Stmt) (k : Nat) (mb : MS) (W : List Nat) : Prop :=
  ∀ (f : Addr) (nd : N.Nodup) (cdv : Value) (A : Around) (outer : List Env) (s : Shared) (H : Hp) (E : XK) (hg : A.guards = some []) (hr : Room k (A.deeper (envOfC qual (defScope st) s.heap.objs.size f cdv))), JB (Es.fn P w K mg base N qual (defScope st) f k nd cdv A outer s H E hg hr) (defBody st) mb W
theorem Wk.fn {P : Program} {w : World} {K : PySem.W.Frag} {mg : Str → Option Value} {base : Heap} {k : Nat} {f : Addr} {x qual : Str} {st : Stmt} {fd : FuncData} {N ps : List Str} {W : List Nat} {mb : MS} (h : Wk P w K mg base N qual st k mb W) (F : Fun K x qual st f fd) (S : FnScope N ps (defScope st)) (hl : ps.length ≤ N.length) :
    FnG P w K mg base (k + 1) f fd ps (spX ps.length K mg (mFnX ps.length N.length W mb)) :=
  fn_mirror F S hl fun cdv A outer s H E hg hr => let ⟨ts, h1, h2⟩ := h f S.nd cdv A outer s H E hg hr; ⟨ts, h1 (), h2⟩
theorem Wk.cl {P : Program} {w : World} {K : PySem.W.Frag} {mg : Str → Option Value} {base : Heap} {k n m : Nat} {f : Addr} {x y qual : Str} {st : Stmt} {fd : FuncData} {N ps : List Str} {W : List Nat} {mb : MS} (h : Wk P w K mg base N qual st k mb W) (F : Fun K x qual st f fd) (S : FnScope N ps (defScope st)) (hl : ps.length ≤ N.length) (hn : ps.length = n) (hN : N.length = m)
    (hm : mg y = some (.ref f)) (hk : PySem.W.keepIn K (.ref f) = true) (hb : Binds K fd ps []) : ClX P w K mg base y n (k + 1) (mFnX n m W mb) := by
  subst hn hN
  exact ⟨f, fd, ps, h.fn F S hl, hm, hk, hb⟩
theorem ClX.mono {P : Program} {w : World} {K : PySem.W.Frag} {mg : Str → Option Value} {base : Heap} {x : Str} {n i j : Nat} {f : List CD → Option (Res × List CD)} (h : ClX P w K mg base x n i f) (l : i ≤ j) : ClX P w K mg base x n j f :=
  let ⟨a, fd, ps, F, h1, h2, h3⟩ := h; ⟨a, fd, ps, F.mono l, h1, h2, h3⟩

/-! ### the law's call -/
section
open PyProof.Rows
theorem law_callG {P : Program} {w : World} {K : PySem.W.Frag} {mg mb : Str → Option Value} {k : Nat} {fa a : Addr} {fd : FuncData} {x : Str} {sp : Sp} {s : Shared} {vs : List Value} {ns : List Int}
    (KX : K.In s.heap) (hns : s.heap.Ns mainGlobals mg) (hb : s.heap.Ns builtinsNs mb) (hbb : ∀ x : Str, x ≠ "__name__" → mb x = bootBuiltins x) (lim : s.heap.NoLimit) (gens : s.gens = #[])
    (ha : s.heap.get? a = some { cls := .type "list", data := .seq vs.toArray }) (hi : IntsAre vs ns) (hl : ns.length ≤ sizeLine) (hr : Room k callerA)
    (F : ∀ base : Heap, K.In base → base.Ns mainGlobals mg → FnG P w K mg base k fa fd [x] sp) (bind : ∀ (s : Shared) (u : Value), BindsTo s fd ⟨[u], []⟩ [(x, u)])
    (hsp : ∀ H : Hp, Only H → SqL K H a (ns.map V.int) → sp [.ref a] H (fun v _ => v = .bl true) fun _ _ _ => False) :
    codeAny (model P w) callerA (.call (.ref fa) ⟨[.ref a], []⟩) (fun r s' => r = .ok (.ret (.bool true)) ∧ OldK s.heap s'.heap ∧ s'.os = s.os ∧ AllBare s'.gens) s := by
  have rv := vals_ints hi
  have len := hi.length
  have main : ∀ H : Hp, Only H → SqL K H a (ns.map V.int) → HOk P w H s.heap → (∀ b, H b ≠ none → b = a) → (H a ≠ none → K.lookup a = none) →
      codeAny (model P w) callerA (.call (.ref fa) ⟨[.ref a], []⟩) (fun r s' => r = .ok (.ret (.bool true)) ∧ OldK s.heap s'.heap ∧ s'.os = s.os ∧ AllBare s'.gens) s := by
    intro H hO hS ok only noK
    have low : ∀ {b : Addr} {o : Obj}, s.heap.get? b = some o → H b = none → (hidT s.heap H).get? b = some o := fun e n => hidT_get e n
    have isA : ∀ {b : Addr} {u : HO}, H b = some u → b = a := fun {b u} q => only b (by rw [q]; simp)
    have dicts : ∀ {b : Addr} {o : Obj} {es : Array DictEntry} {ep : Nat}, s.heap.get? b = some o → o.data = .dict es ep → H b = none := fun {b o es ep} e d => by
      cases q : H b with
      | none => rfl
      | some u =>
        have eb := isA q
        subst eb
        rw [ha] at e
        cases e
        have d' : Data.seq vs.toArray _ = Data.dict es ep := d
        cases d'
    have spaces : ∀ {b : Addr} {m : Str → Option Value}, s.heap.Ns b m → (hidT s.heap H).Ns b m := fun {b m} ⟨o, es, ep, e, d, r⟩ => ⟨o, es, ep, low e (dicts e d), d, r⟩
    have kin : K.In (hidT s.heap H) := fun b o e => low (KX b o e) (by
      cases q : H b with
      | none => rfl
      | some u =>
        have eb := isA q
        subst eb
        rw [noK (by rw [q]; simp)] at e
        cases e)
    have md : Mod K mg (hidT s.heap H) := ⟨kin, spaces hns, ⟨mb, spaces hb, hbb⟩, let ⟨mc, h1, h2⟩ := lim; ⟨mc, spaces h1, h2⟩⟩
    have e0 : Env0 P w K mg (hidT s.heap H) callerA [] s H := ⟨rfl, md, fun b o e => of_hidT e, Nat.le_of_eq (hidT_size _ _), trivial, fun b hb => absurd (show b ∈ ([] : List Addr) from hb) (by simp), ok, .of_eq gens⟩
    refine codeAny_mono ((F _ kin (spaces hns)).run callerA [] s H ⟨[.ref a], []⟩ [.ref a] [.ref a] _ _ rfl hr e0 (bind s (.ref a)) (.cons rfl .nil) (hsp H hO hS)) fun r s' h => ?_
    match r, h with
    | .error e, h =>
      obtain ⟨_, _, _, _, _, _, _, _, _, _, _, _, z⟩ := h
      exact z.elim
    | .ok .next, h => exact False.elim h
    | .ok .brk, h => exact False.elim h
    | .ok .cont, h => exact False.elim h
    | .ok (.ret u), h =>
      obtain ⟨v, H', os, bare, un, ok', rel, q⟩ := h
      have q' : v = .bl true := q
      subst q'
      obtain rfl : u = Value.bool true := rel
      refine ⟨rfl, OldK.of_keep fun b o e => ?_, os, bare⟩
      cases q : H b with
      | none => exact un.keep b o e q (by intro z; exact absurd (show b ∈ ([] : List Addr) from z) (by simp)) (by simp)
      | some u =>
        rcases hO b with z | ⟨ob, xs, z⟩
        · rw [q] at z
          cases z
        · have z2 := un.frzs b ob _ z
          obtain ⟨e1, _⟩ := ok b _ z
          obtain ⟨e2, _⟩ := ok' b _ z2
          rw [e] at e1
          cases e1
          exact e2
  cases hk : K.lookup a with
  | some o =>
    have e := KX a o hk
    rw [ha] at e
    cases e
    exact main (fun _ => none) (fun _ => .inl rfl) (.inr ⟨_, vs.toArray, _, hk, rfl, rfl, rfl, by rw [List.size_toArray, len]; exact hl, by simpa using rv⟩) (fun b u z => by have z' : (none : Option HO) = some u := z; cases z') (fun b z => absurd rfl z) fun z => absurd rfl z
  | none =>
    refine main (fun b => if b = a then some (.frz { cls := .type "list", data := .seq vs.toArray } (.lst (ns.map V.int))) else none) (fun b => ?_) (.inl (.inr ⟨{ cls := .type "list", data := .seq vs.toArray }, if_pos rfl⟩)) (fun b u z => ?_) (fun b z => ?_) fun _ => hk
    · by_cases hb : b = a
      · exact .inr ⟨_, _, if_pos hb⟩
      · exact .inl (if_neg hb)
    · by_cases hb : b = a
      · have z' := (if_pos hb).symm.trans z
        cases z'
        subst hb
        exact ⟨ha, by rw [List.length_map]; exact hl, vs, _, rv, ha⟩
      · have z' := (if_neg hb).symm.trans z
        cases z'
    · by_cases hb : b = a
      · exact hb
      · exact absurd (if_neg hb) z
/-- what k_head leaves, from the law's mirror -/
theorem walk_ofG {l : PySem.W.OpenLaw} {n k : Nat} {q : Program} {loose : List Str} {XP : (Str → Option Value) → Heap → Prop} {YP : World → Heap → Prop} {d : DefRec} {K : Params → PySem.W.Frag} {x : Str} {f : List CD → Option (Res × List CD)}
    (hn : l.most = some n) (hn2 : n ≤ sizeLine) (hdf : d.params.defaults = []) (hr : Room k callerA) (hY : ∀ (w : World) (h : Heap), YP w h → (K w.params).In h)
    (F : ∀ (w : World) (mg : Str → Option Value) (fa : Addr) (h : Heap), (K w.params).In h → h.Ns mainGlobals mg → mg d.name = some (.ref fa) →
      ∃ fd : FuncData, (∀ (s : Shared) (u : Value), BindsTo s fd ⟨[u], []⟩ [(x, u)]) ∧ ∀ base : Heap, (K w.params).In base → base.Ns mainGlobals mg → FnG l.prog w (K w.params) mg base k fa fd [x] (spX 1 (K w.params) mg f))
    (law : ∀ ns : List Int, ns.length ≤ n → ∃ cs', f [.scr ns] = some (.ok (.dat (.bool true)), cs')) :
    PySem.W.WalkO q loose XP YP l.row.toRowW d [] (fun f vs => PySem.call f vs) := by
  refine Att.attach_call hn hdf fun w s₀ s₁ mg mb fa o pm cd doc a vs ns G Y ho hd hcd hmg hobj hints hlen hg => ?_
  have KX := hY w _ Y
  obtain ⟨fd, hb, hF⟩ := F w mg fa _ KX G.T.g hmg
  refine law_callG KX G.T.g G.T.b G.T.builtins G.T.nolimit hg hobj hints (Nat.le_trans hlen hn2) hr hF hb fun H hO hS => ?_
  obtain ⟨cs', e⟩ := law ns hlen
  have sc : ScrAt (K w.params) H a (ns.map V.int) := by
    rcases hS with (h | ⟨ob, h⟩) | h
    · rcases hO a with z | ⟨ob, xs, z⟩
      · rw [h] at z; cases z
      · rw [h] at z; cases z
    · exact .inl ⟨ob, h⟩
    · exact .inr h
  refine ⟨[.scr ns], .ok (.dat (.bool true)), cs', [], e, rfl, rfl, HP.push (ps := []) ⟨[], rfl, .nil⟩ ⟨rfl, a, rfl, sc⟩, fun v H' h' _ => ?_⟩
  obtain ⟨v', ev, r⟩ := h'.dat
  cases ev
  cases r
  rfl
end
end JJ
/-! J10: for x in (a, b), a and b lists that are owned; what is told of an own error's class. -/
namespace JJ
open PySem L2
def mFor2 (i a b : Nat) (mb : MS) : MS := fun Γ => match Γ[a]?, Γ[b]? with
  | some (.lst xs), some (.lst ys) => if a ≠ b ∧ i ≠ b ∧ i < Γ.length then (match mb (((Γ.set a .any).set b .any).set i (.lst xs)) with
    | some (.nx Γ1) => (match mb (Γ1.set i (.lst ys)) with
      | some (.nx Γ2) => some (.nx Γ2)
      | some (.rt c Γ2) => some (.rt c Γ2)
      | _ => none)
    | some (.rt c Γ1) => some (.rt c Γ1)
    | _ => none) else none
  | _, _ => none
theorem mFor2_of {i a b : Nat} {mb : MS} {Γ : List CD} {o : Out} (e : mFor2 i a b mb Γ = some o) : ∃ xs ys, Γ[a]? = some (.lst xs) ∧ Γ[b]? = some (.lst ys) ∧ (a ≠ b ∧ i ≠ b ∧ i < Γ.length) ∧
    ((∃ c Γ1, mb (((Γ.set a .any).set b .any).set i (.lst xs)) = some (.rt c Γ1) ∧ o = .rt c Γ1) ∨ ∃ Γ1, mb (((Γ.set a .any).set b .any).set i (.lst xs)) = some (.nx Γ1) ∧
      ((∃ Γ2, mb (Γ1.set i (.lst ys)) = some (.nx Γ2) ∧ o = .nx Γ2) ∨ ∃ c Γ2, mb (Γ1.set i (.lst ys)) = some (.rt c Γ2) ∧ o = .rt c Γ2)) := by
  unfold mFor2 at e
  match h1 : Γ[a]?, h2 : Γ[b]?, e with
  | some (.lst xs), some (.lst ys), e =>
    dsimp only at e
    by_cases hc : a ≠ b ∧ i ≠ b ∧ i < Γ.length
    · rw [if_pos hc] at e
      refine ⟨xs, ys, rfl, rfl, hc, ?_⟩
      match h3 : mb (((Γ.set a .any).set b .any).set i (.lst xs)), e with
      | some (.rt c Γ1), e => cases e; exact .inl ⟨c, Γ1, rfl, rfl⟩
      | some (.nx Γ1), e =>
        dsimp only at e
        refine .inr ⟨Γ1, rfl, ?_⟩
        match h4 : mb (Γ1.set i (.lst ys)), e with
        | some (.nx Γ2), e => cases e; exact .inl ⟨Γ2, rfl, rfl⟩
        | some (.rt c Γ2), e => cases e; exact .inr ⟨c, Γ2, rfl, rfl⟩
    · rw [if_neg hc] at e; cases e
section
variable {ι : Type} {E : Es ι} {x y z : Str} {p1 p2 p3 p4 pos : Pos} {kk : Nat} {body : List Stmt} {mb : MS} {Wb : List Nat}
theorem js_for2 (i a b : Nat) (hb : JB E body mb Wb) (hp : ∀ i, PassesOwn (model (E.X i).prog (E.X i).w) (E.X i).A (E.X i).env (E.X i).xe)
    (hx : E.N[i]? = some x := by rfl) (hy : E.N[a]? = some y := by rfl) (hz : E.N[b]? = some z := by rfl)
    (vx : ∀ j, Loc (E.X j).env.scope x := by first | exact fun _ => Or.inl rfl | exact fun _ => Or.inr rfl) (fx : ∀ j, (E.X j).fn x = true ∨ (E.X j).env.scope.names.lookup x = some .local := by first | exact fun _ => .inl rfl | exact fun _ => .inr rfl)
    (vy : ∀ j, Vis (E.X j).env.scope y := by first | exact fun _ => Or.inl rfl | exact fun _ => Or.inr (Or.inl rfl) | exact fun _ => Or.inr (Or.inr rfl)) (vz : ∀ j, Vis (E.X j).env.scope z := by first | exact fun _ => Or.inl rfl | exact fun _ => Or.inr (Or.inl rfl) | exact fun _ => Or.inr (Or.inr rfl))
    (dy : (y == ("__debug__" : Str)) = false := by decide) (cy : (y == ("__classdict__" : Str)) = false := by decide) (dz : (z == ("__debug__" : Str)) = false := by decide) (cz : (z == ("__classdict__" : Str)) = false := by decide)
    (hs : ∀ env v, foldedSetIterable (.Tuple [.Name y p2, .Name z p3] kk p4) env v = pure v := by intro _ _; rfl)
    (he : ∀ env, starEach [.Name y p2, .Name z p3] env = (false, eval (.Name y p2) env) :: starEach [.Name z p3] env := by intro _; rfl) (he2 : ∀ env, starEach [.Name z p3] env = (false, eval (.Name z p3) env) :: starEach [] env := by intro _; rfl) :
    JS E (.For (.Name x p1) (.Tuple [.Name y p2, .Name z p3] kk p4) body [] pos) (mFor2 i a b mb) ([i] ++ Wb) := by
  obtain ⟨tb, b1, b2⟩ := hb
  refine ⟨tFor (iTup E.K (tTup (tCons (tVar a) (tCons (tVar b) tNil)))) (gName i) tb, fun j => ?_, fun Δ Γ σ H D o q h k => ?_⟩
  · have q1 := pe_var (X := E.X j) (pos := p2) (by rw [E.hN]; exact hy) (vy j) dy cy
    have q2 := pe_var (X := E.X j) (pos := p3) (by rw [E.hN]; exact hz) (vz j) dz cz
    have q3 := pi_tup (X := E.X j) (tg := .Name x p1) (pe_tup (x1 := kk) (pos := p4) (pa_cons q1 (pa_cons q2 pa_nil (he2 _)) (he _)))
    rw [E.hK] at q3
    exact ps_for (hp j) (E.calm j) q3 (pg_name (by rw [E.hN]; exact E.nd) (by rw [E.hN]; exact hx) (vx j) (fx j)) (b1 j) (hs _)
  · obtain ⟨xs, ys, ea, eb, ⟨hab, hib, hi⟩, main⟩ := mFor2_of q
    obtain ⟨oa, sa, h1⟩ := h.take ea
    have eb' : (Γ.set a .any)[b]? = some (.lst ys) := by rw [List.getElem?_set_ne hab]; exact eb
    obtain ⟨ob, sb, h2⟩ := h1.take eb'
    obtain ⟨pa, us, rfl, _⟩ := h1.2.lst
    obtain ⟨pb, ws, rfl, _⟩ := h2.2.lst
    have hiσ : i < σ.length := by rw [← h.1]; exact hi
    refine ⟨.ref pa, sa, .ref pb, sb, by show 2 ≤ sizeLine; rw [sizeLine_eq]; decide, fun t ht => ⟨t, rfl, ⟨_, .inl (.inl upd_same)⟩, ?_⟩⟩
    -- the tuple stands through the turns
    have h3 : Hs E.K (upd H t (.tup [.ref pa, .ref pb])) ((.shp [.ref pa, .ref pb], some (.ref t)) :: (.lst ys, some (.ref pb)) :: (.lst xs, some (.ref pa)) :: Δ) ((Γ.set a .any).set b .any) σ :=
      h2.newL (upd_new ht) (F2 := []) ⟨rfl, t, rfl, .inl (.inl upd_same)⟩ .nil (by simp)
    have tup : ∀ {H' : Hp} {Δ' : List (CD × Option V)} {Γ' : List CD} {σ' : St}, Hs E.K H' ((.shp [.ref pa, .ref pb], some (.ref t)) :: Δ') Γ' σ' → SqT E.K H' t [.ref pa, .ref pb] := fun hh => by
      obtain ⟨F, ⟨_, p, ep, st⟩, _⟩ := hh.2.top
      cases ep
      exact st
    let S : (CD × Option V) := (.shp [.ref pa, .ref pb], some (.ref t))
    refine ⟨fun n m σ' H' => m = 2 - n ∧ ((n = 0 ∧ σ' = σ ∧ H' = upd H t (.tup [.ref pa, .ref pb])) ∨ (n = 1 ∧ ∃ Γ1, mb (((Γ.set a .any).set b .any).set i (.lst xs)) = some (.nx Γ1) ∧ Hs E.K H' (S :: (.lst ys, some (.ref pb)) :: Δ) Γ1 σ' ∧ Keep ([i] ++ Wb) σ σ') ∨
      (n = 2 ∧ ∃ Γ1 Γ2, mb (((Γ.set a .any).set b .any).set i (.lst xs)) = some (.nx Γ1) ∧ mb (Γ1.set i (.lst ys)) = some (.nx Γ2) ∧ Hs E.K H' (S :: Δ) Γ2 σ' ∧ Keep ([i] ++ Wb) σ σ')), ⟨2, rfl, .inl ⟨rfl, rfl, rfl⟩⟩, ?_⟩
    have kset : ∀ {σ' : St} {v : V}, Keep ([i] ++ Wb) σ σ' → Keep ([i] ++ Wb) σ (σ'.set i (some v)) := fun {σ' v} kp => (kp.set (i := i) (o := some v)).mono fun j hj => by
      rcases List.mem_append.mp hj with z | z
      · exact z
      · rw [List.mem_singleton.mp z]; simp
    have kbody : ∀ {σ1 σ2 : St}, Keep ([i] ++ Wb) σ σ1 → Keep Wb σ1 σ2 → Keep ([i] ++ Wb) σ σ2 := fun k1 k2 => (k1.trans k2).mono fun j hj => by
      rcases List.mem_append.mp hj with z | z
      · exact z
      · exact List.mem_append_right _ z
    rintro n m σ' H' ⟨rfl, st⟩
    rcases st with ⟨rfl, rfl, rfl⟩ | ⟨rfl, Γ1, e1, hh, kp⟩ | ⟨rfl, Γ1, Γ2, e1, e2, hh, kp⟩
    · refine .inr ⟨⟨_, _, tup h3, rfl⟩, fun σ2 H2 => ∃ Γ1, mb (((Γ.set a .any).set b .any).set i (.lst xs)) = some (.nx Γ1) ∧ Hs E.K H2 (S :: (.lst ys, some (.ref pb)) :: Δ) Γ1 σ2 ∧ Keep ([i] ++ Wb) σ' σ2,
        fun σ2 H2 w => ⟨1, by decide, rfl, .inr (.inl ⟨rfl, w⟩)⟩, fun v H2 y => ?_⟩
      obtain ⟨rfl, y⟩ := y
      have ev : V.ref pa = v := by have := y _ (tup h3); simpa using this
      subst ev
      have h4 : Hs E.K (upd H t (.tup [.ref pa, .ref pb])) (S :: (.lst ys, some (.ref pb)) :: Δ) (((Γ.set a .any).set b .any).set i (.lst xs)) (σ'.set i (some (.ref pa))) :=
        Hs.store (c := .lst xs) (o := some (.ref pa)) (h3.permD (by
          show (S :: (.lst ys, some (.ref pb)) :: (.lst xs, some (.ref pa)) :: Δ).Perm ((.lst xs, some (.ref pa)) :: S :: (.lst ys, some (.ref pb)) :: Δ)
          exact (List.Perm.cons _ (List.Perm.swap _ _ _)).trans (List.Perm.swap _ _ _)))
      rcases main with ⟨c, Γ1, e1, rfl⟩ | ⟨Γ1, e1, _⟩
      · refine b2 _ _ _ _ _ (.rt c Γ1) e1 h4 fun v σ2 H2 h5 k5 => k v σ2 H2 ?_ (kbody (kset .rfl') k5)
        exact ⟨h5.1, HP.drop (HP.swap (HP.drop (HP.swap h5.2)))⟩
      · exact b2 _ _ _ _ _ (.nx Γ1) e1 h4 fun σ2 H2 h5 k5 => ⟨Γ1, e1, h5, kbody (kset .rfl') k5⟩
    · have sq := tup hh
      refine .inr ⟨⟨_, _, sq, rfl⟩, fun σ2 H2 => ∃ Γ1 Γ2, mb (((Γ.set a .any).set b .any).set i (.lst xs)) = some (.nx Γ1) ∧ mb (Γ1.set i (.lst ys)) = some (.nx Γ2) ∧ Hs E.K H2 (S :: Δ) Γ2 σ2 ∧ Keep ([i] ++ Wb) σ σ2,
        fun σ2 H2 w => ⟨0, by decide, rfl, .inr (.inr ⟨rfl, w⟩)⟩, fun v H2 y => ?_⟩
      obtain ⟨rfl, y⟩ := y
      have ev : V.ref pb = v := by have := y _ sq; simpa using this
      subst ev
      have h4 : Hs E.K H2 (S :: Δ) (Γ1.set i (.lst ys)) (σ'.set i (some (.ref pb))) := Hs.store (c := .lst ys) (o := some (.ref pb)) hh.swapTop
      rcases main with ⟨c, Γ1', e1', _⟩ | ⟨Γ1', e1', rest⟩
      · rw [e1] at e1'; cases e1'
      · rw [e1] at e1'
        cases e1'
        rcases rest with ⟨Γ2, e2, _⟩ | ⟨c, Γ2, e2, rfl⟩
        · exact b2 _ _ _ _ _ (.nx Γ2) e2 h4 fun σ2 H2 h5 k5 => ⟨Γ1, Γ2, e1, e2, h5, kbody (kset kp) k5⟩
        · exact b2 _ _ _ _ _ (.rt c Γ2) e2 h4 fun v σ2 H2 h5 k5 => k v σ2 H2 ⟨h5.1, HP.drop (HP.swap h5.2)⟩ (kbody (kset kp) k5)
    · refine .inl ⟨⟨_, tup hh, Nat.le_refl 2⟩, ?_⟩
      rcases main with ⟨c, Γ1', e1', _⟩ | ⟨Γ1', e1', rest⟩
      · rw [e1] at e1'; cases e1'
      · rw [e1] at e1'
        cases e1'
        rcases rest with ⟨Γ2', e2', rfl⟩ | ⟨c, Γ2', e2', _⟩
        · rw [e2] at e2'
          cases e2'
          exact k σ' H' hh.dropTop kp
        · rw [e2] at e2'; cases e2'
end

/-! ### what is told of the class of an own error -/
structure Told (K : PySem.W.Frag) (mg : Str → Option Value) (x : Str) (C : Addr) : Prop where
  eC : ExcC K C
  xC : XfC K C
  no : PySem.W.findIn K (.ref C) "limit" = some none
  fl : fldOf x = "limit"
  other : ∃ C1 C2 C3 : Addr, mg "TermError" = some (.ref C1) ∧ mg "Unfit" = some (.ref C2) ∧ mg "BadTerm" = some (.ref C3) ∧ PySem.W.kitOne K (.ref C) (.ref C1) = some true ∧ PySem.W.kitOne K (.ref C) (.ref C2) = some false ∧ PySem.W.kitOne K (.ref C) (.ref C3) = some false
section
variable {ι : Type} {E : Es ι} {n x : Str} {C : Addr} {i : Nat} {p0 p1 p2 p3 p4 p5 p6 p7 p8 p9 q1 q2 q3 q4 q5 q6 q7 q8 q9 r1 r2 r3 r4 r5 : Pos} {z : Str} {kk : Nat}
theorem Told.su (T : Told E.K E.mg x C) (hC : E.mg x = some (.ref C)) (hm : E.mg "isinstance" = none) (hN : E.N[i]? = some n := by rfl) (hv : ∀ j, Vis (E.X j).env.scope n := by first | exact fun _ => Or.inl rfl | exact fun _ => Or.inr (Or.inl rfl) | exact fun _ => Or.inr (Or.inr rfl))
    (hd : (n == ("__debug__" : Str)) = false := by decide) (hcd : (n == ("__classdict__" : Str)) = false := by decide) (g0 : ∀ j, Gl (E.X j) "isinstance" := by exact fun _ => rfl) (g1 : ∀ j, Gl (E.X j) "TermError" := by exact fun _ => rfl) (g2 : ∀ j, Gl (E.X j) "Unfit" := by exact fun _ => rfl) (g3 : ∀ j, Gl (E.X j) "BadTerm" := by exact fun _ => rfl) :
    JSU E i x [.If (.BoolOp .Or [.UnaryOp .Not (.Call (.Name "isinstance" p0) [.Name n p1, .Name "TermError" p2] [] p3) p4, .Call (.Name "isinstance" p5) [.Name n p6, .Name "Unfit" p7] [] p8, .Call (.Name "isinstance" p9) [.Name n q1, .Name "BadTerm" q2] [] q3] q4) [.Return (some (.List [.Constant (.str z) kk q5] q6)) q7] [] q8,
      .Return (some (.List [.Attribute (.Name n r1) "limit" r2] r3)) r4] (fun d Γ => some (.lst [d], Γ)) := by
  obtain ⟨C1, C2, C3, h1, h2, h3, k1, k2, k3⟩ := T.other
  exact jsu_told hC T.eC T.xC T.no T.fl h1 h2 h3 k1 k2 k3 hm hN hv hd hcd g0 g1 g2 g3
end
end JJ
/-! J11: a, b = a list. -/
namespace JJ
open PySem L2
def mAsgL (m : ME) (k : Nat) (n : MGs) : MS := fun Γ => match m Γ with
  | some (.lst ds, Γ1) => if ds.length = k then (match n ds Γ1 with
    | some Γ2 => some (.nx Γ2)
    | none => none) else none
  | _ => none
theorem mAsgL_of {m : ME} {k : Nat} {n : MGs} {Γ : List CD} {o : Out} (e : mAsgL m k n Γ = some o) : ∃ ds Γ1 Γ2, m Γ = some (.lst ds, Γ1) ∧ ds.length = k ∧ n ds Γ1 = some Γ2 ∧ o = .nx Γ2 := by
  unfold mAsgL at e
  match h : m Γ, e with
  | some (.lst ds, Γ1), e =>
    dsimp only at e
    by_cases hl : ds.length = k
    · rw [if_pos hl] at e
      cases e2 : n ds Γ1 with
      | none => rw [e2] at e; cases e
      | some Γ2 => rw [e2] at e; cases e; exact ⟨ds, Γ1, Γ2, rfl, hl, e2, rfl⟩
    · rw [if_neg hl] at e; cases e
section
variable {ι : Type} {E : Es ι} {e : Expr} {es : List Expr} {me : ME} {n : MGs} {W : List Nat} {pos tpos : Pos} {kk k : Nat}
theorem js_asgL (h : JE E.toEv e me) (hg : JGs E.toEv es n W) (hn : ∀ env, (assignEach es env).length = k := by intro _; rfl) (hst : ∀ env, (assignEach es env).findIdx? (·.1) = none := by intro _; rfl)
    (hs : ∀ j, swapsWithSole [.Tuple es kk tpos] e pos.line (E.X j).env = pure false := by intro _; rfl) (hw : ∀ j, swappedStores [.Tuple es kk tpos] e (E.X j).env = pure none := by intro _; rfl)
    (h1 : ∀ env, (assignEach [.Tuple es kk tpos] env).map (·.2) = [assign (.Tuple es kk tpos) env] := by intro _; rfl) : JS E (.Assign [.Tuple es kk tpos] e pos) (mAsgL me k n) W := by
  obtain ⟨te, a1, a2⟩ := h
  obtain ⟨g, g1, g2⟩ := hg
  refine ⟨tAsg te (gLst E.K k g), fun j => ?_, fun Δ Γ σ H D o q hs k2 => ?_⟩
  · have z := pg_lst (k := kk) (pos := tpos) (E.calm j) (g1 j) (hn _) (hst _)
    rw [E.hK] at z
    exact ps_asg (a1 j) z (hs j) (hw j) (h1 _)
  · obtain ⟨ds, Γ1, Γ2, e1, hl, e2, rfl⟩ := mAsgL_of q
    refine a2 Δ Γ σ H _ _ _ e1 hs fun v H' h' => ?_
    obtain ⟨p, vs, ev, hp, dl⟩ := h'.2.lst
    cases ev
    exact ⟨p, vs, rfl, .inl (.inl hp), by rw [dl.length]; exact hl, g2 Δ Γ1 σ H' _ vs ds Γ2 e2 dl h'.dropTop fun σ' hh kk => k2 σ' H' hh kk⟩
end
end JJ
/-! M1: mirrors, evaluated. -/
namespace JJ
open PySem L2
section
variable {Γ : List CD} {m n m2 : MS} {me me2 : ME} {mt mt2 : MT} {mp : MP} {ml : ML} {f : MF} {i k : Nat} {mg : MG}
@[simp] theorem v_seq : mSeq m n Γ = (match m Γ with
  | some (.nx Γ1) => n Γ1
  | o => o) := id rfl
@[simp] theorem v_skip : mSkip Γ = some (.nx Γ) := id rfl
@[simp] theorem v_asg : mAsg i me Γ = (match me Γ with
  | some (c, Γ') => some (.nx (Γ'.set i c))
  | none => none) := id rfl
@[simp] theorem v_par {is : List Nat} : mPar is ml Γ = (match ml Γ with
  | some (ops, Γ1) => (match takeO ops Γ1 with
    | some (cs, Γ2) => if cs.length = is.length then some (.nx (setAll is cs Γ2)) else none
    | none => none)
  | none => none) := id rfl
@[simp] theorem v_ret : mRet me Γ = (match me Γ with
  | some (c, Γ') => some (.rt c Γ')
  | none => none) := id rfl
@[simp] theorem v_retN : mRetN Γ = some (.rt (.dat .none) Γ) := id rfl
@[simp] theorem v_expr : mExpr me Γ = (match me Γ with
  | some (_, Γ') => some (.nx Γ')
  | none => none) := id rfl
@[simp] theorem v_if : mIf mt m n Γ = (match mt Γ with
  | some (true, Γ') => m Γ'
  | some (false, Γ') => n Γ'
  | none => none) := id rfl
@[simp] theorem v_asgG : mAsgG me mg Γ = (match me Γ with
  | some (.dat d, Γ1) => (match mg d Γ1 with
    | some Γ2 => some (.nx Γ2)
    | none => none)
  | _ => none) := id rfl
@[simp] theorem v_gN {d : Da} : mgN i d Γ = some (Γ.set i (.dat d)) := id rfl
@[simp] theorem v_gT {n : MGs} {ds : List Da} : mgT k n (.tuple ds) Γ = if ds.length = k then n ds Γ else none := id rfl
@[simp] theorem v_gsN : mgsN [] Γ = some Γ := id rfl
@[simp] theorem v_gsC {n : MGs} {d : Da} {r : List Da} : mgsC mg n (d :: r) Γ = (match mg d Γ with
    | some Γ' => n r Γ'
    | none => none) := id rfl
@[simp] theorem v_tst : mTst me Γ = (match me Γ with
  | some (.dat (.bool b), Γ') => some (b, Γ')
  | _ => none) := id rfl
@[simp] theorem v_not : mNot mt Γ = (match mt Γ with
  | some (b, Γ') => some (!b, Γ')
  | none => none) := id rfl
@[simp] theorem v_and : mAnd mt mt2 Γ = (match mt Γ with
  | some (true, Γ') => mt2 Γ'
  | some (false, Γ') => some (false, Γ')
  | none => none) := id rfl
@[simp] theorem v_or : mOr mt mt2 Γ = (match mt Γ with
  | some (true, Γ') => some (true, Γ')
  | some (false, Γ') => mt2 Γ'
  | none => none) := id rfl
@[simp] theorem v_andV : mAndV me me2 Γ = (match me Γ with
  | some (.dat (.bool true), Γ') => me2 Γ'
  | some (.dat (.bool false), Γ') => some (.dat (.bool false), Γ')
  | _ => none) := id rfl
@[simp] theorem v_orV : mOrV me me2 Γ = (match me Γ with
  | some (.dat (.bool true), Γ') => some (.dat (.bool true), Γ')
  | some (.dat (.bool false), Γ') => me2 Γ'
  | _ => none) := id rfl
@[simp] theorem v_notV : mNotV me Γ = (match me Γ with
  | some (.dat (.bool b), Γ') => some (.dat (.bool !b), Γ')
  | _ => none) := id rfl
@[simp] theorem v_ifE : mIfE mt me me2 Γ = (match mt Γ with
  | some (true, Γ') => me Γ'
  | some (false, Γ') => me2 Γ'
  | none => none) := id rfl
@[simp] theorem v_app : mApp f ml Γ = (match ml Γ with
  | some (ops, Γ1) => (match takeO ops Γ1 with
    | some (cs, Γ2) => (match f cs with
      | some (c, cs') => some (c, giveO ops cs' Γ2)
      | none => none)
    | none => none)
  | none => none) := id rfl
@[simp] theorem v_lN : mlN Γ = some ([], Γ) := id rfl
@[simp] theorem v_lC : mlC mp ml Γ = (match mp Γ with
  | some (op, Γ1) => (match ml Γ1 with
    | some (ops, Γ2) => some (op :: ops, Γ2)
    | none => none)
  | none => none) := id rfl
@[simp] theorem v_pE : mpE me Γ = (match me Γ with
  | some (c, Γ') => some (.inl c, Γ')
  | none => none) := id rfl
@[simp] theorem v_pV : mpV i Γ = (match Γ[i]? with
  | some .any => none
  | some _ => some (.inr i, Γ)
  | none => none) := id rfl
@[simp] theorem v_c {d : Da} : mC d Γ = some (.dat d, Γ) := id rfl
@[simp] theorem v_tk : mTk i Γ = (match Γ[i]? with
  | some .any => none
  | some c => some (c, if isC c then Γ else Γ.set i .any)
  | none => none) := id rfl
@[simp] theorem v_yes : mYes Γ = some (true, Γ) := id rfl
@[simp] theorem v_bagI {n : Nat} : mBagI n k Γ = (match Γ[k]? with
  | some (.bag _ dg mx) => some (.dat (.int (if n = 1 then dg else mx)), Γ)
  | _ => none) := id rfl
@[simp] theorem v_bagNe : mBagNe k Γ = (match Γ[k]? with
  | some (.bag cs _ _) => if SeqAt.shaped (.list (cs.map .int)) = true then some (!cs.isEmpty, Γ) else none
  | _ => none) := id rfl
@[simp] theorem v_bagPop : mBagPop k Γ = (match Γ[k]? with
  | some (.bag cs dg mx) => (match cs.getLast? with
    | some z => some (.dat (.int z), Γ.set k (.bag cs.dropLast dg mx))
    | none => none)
  | _ => none) := id rfl
@[simp] theorem v_bagSet {n : Nat} : mBagSet n me k Γ = (match me Γ with
  | some (.dat (.int i), Γ1) => (match Γ1[k]? with
    | some (.bag cs dg mx) => some (.nx (Γ1.set k (if n = 1 then .bag cs i mx else .bag cs dg i)))
    | _ => none)
  | _ => none) := id rfl
@[simp] theorem v_mth {ok : CD → Bool} : mMth ok k f ml Γ = (match Γ[k]? with
  | some c => if ok c = true then mApp f (mlC (mpV k) ml) Γ else none
  | none => none) := id rfl
@[simp] theorem v_mI {g : List CD → Option (List Da)} : mI g ml Γ = (match ml Γ with
  | some (ops, Γ1) => (match takeO ops Γ1 with
    | some (cs, Γ2) => (match g cs with
      | some items => some (items, ops, cs, Γ2)
      | none => none)
    | none => none)
  | none => none) := id rfl
@[simp] theorem v_for {mi : MI} {W : List Nat} : mFor mi W mg m Γ = (match mi Γ with
  | some (items, ops, cs, Γ1) => if okW W ops cs = true then (match loopM mg m items Γ1 with
      | some o => some (mapOut (giveO ops cs) o)
      | none => none)
    else none
  | none => none) := id rfl
@[simp] theorem v_lc {own : List Nat} {mi : MI} : mLc own mi mg mt me Γ = (match mi Γ with
  | some (items, ops, cs, Γ1) => (match lcM own mg mt me items [] (wipeC Γ1 own) with
    | some (acc, Γ2) => some (.lst acc, giveO ops cs (wipeC Γ2 own))
    | none => none)
  | none => none) := id rfl
end
-- operations on known cells
@[simp] theorem c_dat {d : Da} : isC (.dat d) = true := rfl
@[simp] theorem c_scr {d : List Int} : isC (.scr d) = true := rfl
@[simp] theorem c_any : isC .any = false := rfl
@[simp] theorem c_lst {d : List Da} : isC (.lst d) = false := rfl
@[simp] theorem c_bag {d : List Int} {a b : Int} : isC (.bag d a b) = false := rfl
@[simp] theorem c_dic {d : List (Key × Da)} : isC (.dic d) = false := rfl
@[simp] theorem l_lst {d : List Da} : isL (.lst d) = true := rfl
@[simp] theorem v_add {i j : Int} : fAdd [.dat (.int i), .dat (.int j)] = some (.dat (.int (i + j)), [.dat (.int i), .dat (.int j)]) := id rfl
@[simp] theorem v_sub {i j : Int} : fSub [.dat (.int i), .dat (.int j)] = some (.dat (.int (i - j)), [.dat (.int i), .dat (.int j)]) := id rfl
theorem v_mul {i j : Int} (h : i.natAbs.log2 + j.natAbs.log2 < 1000000) : fMul [.dat (.int i), .dat (.int j)] = some (.dat (.int (i * j)), [.dat (.int i), .dat (.int j)]) := by
  show (mR (g2I fun i j => if i.natAbs.log2 + j.natAbs.log2 < 1000000 then some (.int (i * j)) else none)) _ = _
  simp [mR, g2I, h]
theorem v_div {i j : Int} (h : 0 < j) (h2 : j.natAbs.log2 < 9000) : fDiv [.dat (.int i), .dat (.int j)] = some (.dat (.int (i / j)), [.dat (.int i), .dat (.int j)]) := by
  simp [fDiv, mR, g2I, h, h2]
theorem v_mod {i j : Int} (h : 0 < j) : fMod [.dat (.int i), .dat (.int j)] = some (.dat (.int (i % j)), [.dat (.int i), .dat (.int j)]) := by
  simp [fMod, mR, g2I, h]
@[simp] theorem v_lt {i j : Int} : fLt [.dat (.int i), .dat (.int j)] = some (.dat (.bool (decide (i < j))), [.dat (.int i), .dat (.int j)]) := id rfl
@[simp] theorem v_le {i j : Int} : fLe [.dat (.int i), .dat (.int j)] = some (.dat (.bool (decide (i ≤ j))), [.dat (.int i), .dat (.int j)]) := id rfl
@[simp] theorem v_gt {i j : Int} : fGt [.dat (.int i), .dat (.int j)] = some (.dat (.bool (decide (j < i))), [.dat (.int i), .dat (.int j)]) := id rfl
@[simp] theorem v_ge {i j : Int} : fGe [.dat (.int i), .dat (.int j)] = some (.dat (.bool (decide (j ≤ i))), [.dat (.int i), .dat (.int j)]) := id rfl
theorem shaped_int (i : Int) : SeqAt.shaped (.int i) = true := by simp [SeqAt.shaped, PyData.canLay0, PyData.depth]
@[simp] theorem v_eqI {i j : Int} : fEq [.dat (.int i), .dat (.int j)] = some (.dat (.bool (i == j)), [.dat (.int i), .dat (.int j)]) := by
  simp [fEq, mR, gEq, pyOf, shaped_int, PyData.eqv]
@[simp] theorem v_neI {i j : Int} : fNe [.dat (.int i), .dat (.int j)] = some (.dat (.bool (!(i == j))), [.dat (.int i), .dat (.int j)]) := by
  simp [fNe, mR, gEq, pyOf, shaped_int, PyData.eqv]
@[simp] theorem v_intI {i : Int} : fInt [.dat (.int i)] = some (.dat (.int i), [.dat (.int i)]) := id rfl
@[simp] theorem v_absI {i : Int} : fAbs [.dat (.int i)] = some (.dat (.int (if i < 0 then -i else i)), [.dat (.int i)]) := id rfl
@[simp] theorem v_max {i j : Int} : fMax2 [.dat (.int i), .dat (.int j)] = some (.dat (.int (if j > i then j else i)), [.dat (.int i), .dat (.int j)]) := id rfl
@[simp] theorem v_min {i j : Int} : fMin2 [.dat (.int i), .dat (.int j)] = some (.dat (.int (if j < i then j else i)), [.dat (.int i), .dat (.int j)]) := id rfl
@[simp] theorem v_lenT {xs : List Da} : fLen [.dat (.tuple xs)] = some (.dat (.int xs.length), [.dat (.tuple xs)]) := id rfl
@[simp] theorem v_lenL {xs : List Da} : fLen [.lst xs] = some (.dat (.int xs.length), [.lst xs]) := id rfl
@[simp] theorem v_tupL {xs : List Da} : fTuple [.lst xs] = some (.dat (.tuple xs), [.lst xs]) := id rfl
@[simp] theorem v_tupT {xs : List Da} : fTuple [.dat (.tuple xs)] = some (.dat (.tuple xs), [.dat (.tuple xs)]) := id rfl
theorem v_ixT {xs : List Da} {i : Nat} {d : Da} (h : xs[i]? = some d) : fIx [.dat (.tuple xs), .dat (.int (i : Nat))] = some (.dat d, [.dat (.tuple xs), .dat (.int (i : Nat))]) := by
  have hi : i < xs.length := (List.getElem?_eq_some_iff.mp h).1
  have e : atI xs (i : Int) = some d := by
    unfold atI ixN
    simp [hi, (List.getElem?_eq_some_iff.mp h).2]
  simp [fIx, mR, gIx, e]
theorem v_ixL {xs : List Da} {i : Nat} {d : Da} (h : xs[i]? = some d) : fIx [.lst xs, .dat (.int (i : Nat))] = some (.dat d, [.lst xs, .dat (.int (i : Nat))]) := by
  have hi : i < xs.length := (List.getElem?_eq_some_iff.mp h).1
  have e : atI xs (i : Int) = some d := by
    unfold atI ixN
    simp [hi, (List.getElem?_eq_some_iff.mp h).2]
  simp [fIx, mR, gIx, e]
theorem v_app1 {xs : List Da} {d : Da} (h : xs.length < sizeLine) : fAppend [.lst xs, .dat d] = some (.dat .none, [.lst (xs ++ [d]), .dat d]) := by simp [fAppend, h]

/-! loops -/
theorem loop_inv {mg : MG} {mb : MS} (I : Nat → List CD → Prop) : ∀ {items : List Da} {j : Nat} {Γ : List CD}, (∀ i d Γ, items[i]? = some d → I (j + i) Γ → ∃ Γ1 Γ2, mg d Γ = some Γ1 ∧ mb Γ1 = some (.nx Γ2) ∧ I (j + i + 1) Γ2) → I j Γ →
    ∃ Γ', loopM mg mb items Γ = some (.nx Γ') ∧ I (j + items.length) Γ'
  | [], j, Γ, _, h0 => ⟨Γ, rfl, h0⟩
  | d :: ds, j, Γ, h, h0 => by
    obtain ⟨Γ1, Γ2, e1, e2, h2⟩ := h 0 d Γ rfl h0
    obtain ⟨Γ', e3, h3⟩ := loop_inv I (items := ds) (j := j + 1) (Γ := Γ2) (fun i x G hi hI => by
      have := h (i + 1) x G (by simpa using hi) (by rw [show j + (i + 1) = j + 1 + i by omega]; exact hI)
      rw [show j + (i + 1) = j + 1 + i by omega] at this
      exact this) h2
    refine ⟨Γ', ?_, by rw [List.length_cons, show j + (ds.length + 1) = j + 1 + ds.length by omega]; exact h3⟩
    unfold loopM
    rw [e1]
    dsimp only
    rw [e2]
    exact e3
theorem lc_inv {own : List Nat} {mg : MG} {mt : MT} {me : ME} (I : Nat → List Da → List CD → Prop) : ∀ {items : List Da} {j : Nat} {acc : List Da} {Γ : List CD},
    (∀ i d acc Γ, items[i]? = some d → I (j + i) acc Γ → (∃ Γ1 Γ2 y Γ3, mg d Γ = some Γ1 ∧ mt Γ1 = some (true, Γ2) ∧ me Γ2 = some (.dat y, Γ3) ∧ acc.length < sizeLine ∧ I (j + i + 1) (acc ++ [y]) (wipeC Γ3 own)) ∨
      ∃ Γ1 Γ2, mg d Γ = some Γ1 ∧ mt Γ1 = some (false, Γ2) ∧ I (j + i + 1) acc (wipeC Γ2 own)) → I j acc Γ → ∃ acc' Γ', lcM own mg mt me items acc Γ = some (acc', Γ') ∧ I (j + items.length) acc' Γ'
  | [], j, acc, Γ, _, h0 => ⟨acc, Γ, rfl, h0⟩
  | d :: ds, j, acc, Γ, h, h0 => by
    have hs : ∀ {acc2 : List Da} {Γ2 : List CD}, I (j + 1) acc2 Γ2 → ∃ acc' Γ', lcM own mg mt me ds acc2 Γ2 = some (acc', Γ') ∧ I (j + (d :: ds).length) acc' Γ' := fun {acc2 Γ2} h2 => by
      obtain ⟨acc', Γ', e3, h3⟩ := lc_inv I (items := ds) (j := j + 1) (acc := acc2) (Γ := Γ2) (fun i x ac G hi hI => by
        have := h (i + 1) x ac G (by simpa using hi) (by rw [show j + (i + 1) = j + 1 + i by omega]; exact hI)
        rw [show j + (i + 1) = j + 1 + i by omega] at this
        exact this) h2
      exact ⟨acc', Γ', e3, by rw [List.length_cons, show j + (ds.length + 1) = j + 1 + ds.length by omega]; exact h3⟩
    rcases h 0 d acc Γ rfl h0 with ⟨Γ1, Γ2, y, Γ3, e1, e2, e3, hz, h2⟩ | ⟨Γ1, Γ2, e1, e2, h2⟩
    · obtain ⟨acc', Γ', e4, h4⟩ := hs h2
      refine ⟨acc', Γ', ?_, h4⟩
      unfold lcM
      rw [e1]
      dsimp only
      rw [e2]
      dsimp only
      rw [e3]
      dsimp only
      rw [if_pos hz]
      exact e4
    · obtain ⟨acc', Γ', e4, h4⟩ := hs h2
      refine ⟨acc', Γ', ?_, h4⟩
      unfold lcM
      rw [e1]
      dsimp only
      rw [e2]
      exact e4
/-- a comprehension without a test that changes nothing -/
theorem lc_map {own : List Nat} {mg : MG} {me : ME} {items : List Da} {Γ : List CD} (f : Da → Da) (h : ∀ d ∈ items, ∃ Γ1 Γ3, mg d Γ = some Γ1 ∧ me Γ1 = some (.dat (f d), Γ3) ∧ wipeC Γ3 own = Γ) (hz : items.length ≤ sizeLine) : lcM own mg mYes me items [] Γ = some (items.map f, Γ) := by
  obtain ⟨acc, Γ', e, e1, e2⟩ := lc_inv (own := own) (mg := mg) (mt := mYes) (me := me) (fun i acc G => acc = (items.take i).map f ∧ G = Γ) (items := items) (j := 0) (acc := []) (Γ := Γ) (fun i d acc G hi hI => by
    obtain ⟨rfl, rfl⟩ := hI
    obtain ⟨Γ1, Γ3, h1, h2, h3⟩ := h d (List.mem_of_getElem? hi)
    have hlt : i < items.length := (List.getElem?_eq_some_iff.mp hi).1
    refine .inl ⟨Γ1, Γ1, f d, Γ3, h1, rfl, h2, by rw [List.length_map, List.length_take]; omega, ?_, h3⟩
    simp only [Nat.zero_add]
    rw [List.take_add_one, hi]
    simp) ⟨rfl, rfl⟩
  rw [e, e1, e2]
  simp
end JJ
namespace JJ
open PySem L2
theorem v_rng1 {k : Nat} (h : k < 4611686018427387904) : gRng1 [.dat (.int (k : Nat))] = some (rgD 0 k) := by
  simp only [gRng1]
  rw [if_pos (by rw [Int.natAbs_natCast]; exact h), Int.toNat_natCast]
theorem rg_at {lo : Int} {n i : Nat} {d : Da} (h : (rgD lo n)[i]? = some d) : i < n ∧ d = .int (lo + i) := by
  unfold rgD at h
  rw [List.getElem?_map] at h
  cases e : (List.range n)[i]? with
  | none => rw [e] at h; cases h
  | some j =>
    rw [e] at h
    obtain ⟨hi, hj⟩ := List.getElem?_eq_some_iff.mp e
    rw [List.getElem_range] at hj
    subst hj
    cases h
    exact ⟨by simpa using hi, rfl⟩
theorem rg_len {lo : Int} {n : Nat} : (rgD lo n).length = n := by unfold rgD; simp
@[simp] theorem v_seqL {xs : List Da} : gSeq [.lst xs] = some xs := id rfl
@[simp] theorem v_seqT {xs : List Da} : gSeq [.dat (.tuple xs)] = some xs := id rfl
theorem shapedL_ints (ns : List Int) : SeqAt.shaped (.list (ns.map .int)) = true := by
  have h1 : ∀ l : List Int, PyData.canLayAll0 (l.map PyData.int) = true := fun l => by
    induction l with
    | nil => rfl
    | cons a r ih => simp [PyData.canLayAll0, PyData.canLay0, ih]
  have h2 : ∀ l : List Int, PyData.depthAll (l.map PyData.int) = 0 := fun l => by
    induction l with
    | nil => rfl
    | cons a r ih => simp [PyData.depthAll, PyData.depth, ih]
  simp [SeqAt.shaped, PyData.canLay0, PyData.depth, h1, h2]
theorem cut_ints (ns : List Int) (lo hi : Option Int) : ∃ ms : List Int, cutD (ns.map .int) lo hi = ms.map .int ∧ ms.length ≤ ns.length := by
  refine ⟨(ns.drop (HT.sIx (ns.map PyData.int).length 0 lo)).take (HT.sIx (ns.map PyData.int).length (ns.map PyData.int).length hi - HT.sIx (ns.map PyData.int).length 0 lo), ?_, ?_⟩
  · unfold cutD
    rw [← List.map_drop, ← List.map_take]
  · rw [List.length_take, List.length_drop]; omega
/-- small products -/
theorem log_small {i j : Int} (hi : i.natAbs < 2 ^ 64) (hj : j.natAbs < 2 ^ 64) : i.natAbs.log2 + j.natAbs.log2 < 1000000 := by
  have f : ∀ n : Nat, n < 2 ^ 64 → n.log2 ≤ 64 := fun n hn => by
    by_cases h : n = 0
    · subst h; decide
    · exact Nat.le_of_lt ((Nat.log2_lt h).mpr hn)
  have := f _ hi
  have := f _ hj
  omega
theorem small31 {i : Int} (h0 : 0 ≤ i) (h : i < 4294967296) : i.natAbs < 2 ^ 64 := by
  have : (2 : Nat) ^ 64 = 18446744073709551616 := by decide
  omega
theorem v_mul31 {i j : Int} (h0 : 0 ≤ i) (h : i < 4294967296) (h2 : 0 ≤ j) (h3 : j < 4294967296) : fMul [.dat (.int i), .dat (.int j)] = some (.dat (.int (i * j)), [.dat (.int i), .dat (.int j)]) := v_mul (log_small (small31 h0 h) (small31 h2 h3))
end JJ
namespace JJ
open PySem L2
theorem lc_mapA {α : Type} {own : List Nat} {mg : MG} {me : ME} {Γ : List CD} (xs : List α) (g f : α → Da) (h : ∀ x ∈ xs, ∃ Γ1 Γ3, mg (g x) Γ = some Γ1 ∧ me Γ1 = some (.dat (f x), Γ3) ∧ wipeC Γ3 own = Γ) (hz : xs.length ≤ sizeLine) : lcM own mg mYes me (xs.map g) [] Γ = some (xs.map f, Γ) := by
  obtain ⟨acc, Γ', e, e1, e2⟩ := lc_inv (own := own) (mg := mg) (mt := mYes) (me := me) (fun i acc G => acc = (xs.take i).map f ∧ G = Γ) (items := xs.map g) (j := 0) (acc := []) (Γ := Γ) (fun i d acc G hi hI => by
    obtain ⟨rfl, rfl⟩ := hI
    rw [List.getElem?_map] at hi
    obtain ⟨x, hx, rfl⟩ := Option.map_eq_some_iff.mp hi
    obtain ⟨Γ1, Γ3, h1, h2, h3⟩ := h x (List.mem_of_getElem? hx)
    have hlt : i < xs.length := (List.getElem?_eq_some_iff.mp hx).1
    refine .inl ⟨Γ1, Γ1, f x, Γ3, h1, rfl, h2, by rw [List.length_map, List.length_take]; omega, ?_, h3⟩
    simp only [Nat.zero_add]
    rw [List.take_add_one, hx]
    simp) ⟨rfl, rfl⟩
  rw [e, e1, e2]
  simp
theorem loop_invA {α : Type} {mg : MG} {mb : MS} (xs : List α) (g : α → Da) (I : List α → List CD → Prop) {Γ : List CD} (h : ∀ i x Γ, xs[i]? = some x → I (xs.take i) Γ → ∃ Γ1 Γ2, mg (g x) Γ = some Γ1 ∧ mb Γ1 = some (.nx Γ2) ∧ I (xs.take i ++ [x]) Γ2) (h0 : I [] Γ) :
    ∃ Γ', loopM mg mb (xs.map g) Γ = some (.nx Γ') ∧ I xs Γ' := by
  obtain ⟨Γ', e, e1⟩ := loop_inv (mg := mg) (mb := mb) (fun i G => I (xs.take i) G) (items := xs.map g) (j := 0) (Γ := Γ) (fun i d G hi hI => by
    rw [List.getElem?_map] at hi
    obtain ⟨x, hx, rfl⟩ := Option.map_eq_some_iff.mp hi
    simp only [Nat.zero_add] at hI ⊢
    obtain ⟨Γ1, Γ2, h1, h2, h3⟩ := h i x G hx hI
    refine ⟨Γ1, Γ2, h1, h2, ?_⟩
    rw [List.take_add_one, hx]
    exact h3) (by simpa using h0)
  refine ⟨Γ', e, ?_⟩
  simpa using e1
theorem intsOf_map' (ns : List Int) : intsOf (ns.map PyData.int) = some ns := intsOf_map ns
end JJ
namespace JJ
open PySem L2
theorem v_lback {xs : List Da} : fLBack [.lst xs] = some (.lst xs.reverse, [.lst xs]) := rfl
@[simp] theorem v_lbackI {ns : List Int} : fLBack [.lst (ns.map PyData.int)] = some (.lst (ns.reverse.map PyData.int), [.lst (ns.map PyData.int)]) := by rw [v_lback, List.map_reverse]
@[simp] theorem v_bag {ns : List Int} {a b : Int} : fBag [.lst (ns.map .int), .dat (.int a), .dat (.int b)] = some (.bag ns a b, [.any, .dat (.int a), .dat (.int b)]) := by simp [fBag, intsOf_map]
theorem v_lrg {n : Nat} (h : n ≤ 16777216) : fLRg [.dat (.int (n : Nat))] = some (.lst (rgD 0 n), [.dat (.int (n : Nat))]) := by
  simp only [fLRg]
  rw [if_pos (by rw [Int.natAbs_natCast]; exact h), Int.toNat_natCast]
@[simp] theorem v_back {xs : List Da} : fBack [.dat (.tuple xs)] = some (.dat (.tuple (xs.drop 1).reverse), [.dat (.tuple xs)]) := id rfl
theorem v_extL {xs ys : List Da} (h : xs.length + ys.length ≤ 16777216) : fExtend [.lst xs, .lst ys] = some (.dat .none, [.lst (xs ++ ys), .lst ys]) := by simp [fExtend, sizeLine_eq, h]
theorem v_extT {xs ys : List Da} (h : xs.length + ys.length ≤ 16777216) : fExtend [.lst xs, .dat (.tuple ys)] = some (.dat .none, [.lst (xs ++ ys), .dat (.tuple ys)]) := by simp [fExtend, sizeLine_eq, h]
theorem v_appd {xs : List Da} {d : Da} (h : xs.length < 16777216) : fAppend [.lst xs, .dat d] = some (.dat .none, [.lst (xs ++ [d]), .dat d]) := v_app1 (by rw [sizeLine_eq]; exact h)
@[simp] theorem v_pop {xs : List Da} {d : Da} : fPop [.lst (xs ++ [d])] = some (.dat d, [.lst xs]) := by simp [fPop]
@[simp] theorem v_enT {xs : List Da} : gEn [.dat (.tuple xs)] = some (enD 0 xs) := id rfl
@[simp] theorem v_zipL {xs ys : List Da} : gZip [.lst xs, .lst ys] = some (zipD xs ys) := id rfl
@[simp] theorem v_zipT {xs ys : List Da} : gZip [.dat (.tuple xs), .dat (.tuple ys)] = some (zipD xs ys) := id rfl
theorem v_tupN {cs : List CD} {ds : List Da} (h : datsOf cs = some ds) (h2 : ds.length ≤ 16777216) : fTup cs = some (.dat (.tuple ds), cs) := by simp [fTup, h, sizeLine_eq, h2]
theorem v_lstN {cs : List CD} {ds : List Da} (h : datsOf cs = some ds) (h2 : ds.length ≤ 16777216) : fLst cs = some (.lst ds, cs) := by simp [fLst, h, sizeLine_eq, h2]
@[simp] theorem v_tup0 : fTup [] = some (.dat (.tuple []), []) := v_tupN rfl (by decide)
@[simp] theorem v_tup1 {a : Da} : fTup [.dat a] = some (.dat (.tuple [a]), [.dat a]) := v_tupN rfl (by show 1 ≤ 16777216; decide)
@[simp] theorem v_tup2 {a b : Da} : fTup [.dat a, .dat b] = some (.dat (.tuple [a, b]), [.dat a, .dat b]) := v_tupN rfl (by show 2 ≤ 16777216; decide)
@[simp] theorem v_tup3 {a b c : Da} : fTup [.dat a, .dat b, .dat c] = some (.dat (.tuple [a, b, c]), [.dat a, .dat b, .dat c]) := v_tupN rfl (by show 3 ≤ 16777216; decide)
@[simp] theorem v_lst0 : fLst [] = some (.lst [], []) := v_lstN rfl (by decide)
@[simp] theorem v_lst1 {a : Da} : fLst [.dat a] = some (.lst [a], [.dat a]) := v_lstN rfl (by show 1 ≤ 16777216; decide)
@[simp] theorem v_lst2 {a b : Da} : fLst [.dat a, .dat b] = some (.lst [a, b], [.dat a, .dat b]) := v_lstN rfl (by show 2 ≤ 16777216; decide)
@[simp] theorem v_lst3 {a b c : Da} : fLst [.dat a, .dat b, .dat c] = some (.lst [a, b, c], [.dat a, .dat b, .dat c]) := v_lstN rfl (by show 3 ≤ 16777216; decide)
@[simp] theorem v_lst4 {a b c d : Da} : fLst [.dat a, .dat b, .dat c, .dat d] = some (.lst [a, b, c, d], [.dat a, .dat b, .dat c, .dat d]) := v_lstN rfl (by show 4 ≤ 16777216; decide)
theorem v_catT {xs ys : List Da} (h : xs.length + ys.length ≤ 16777216) : fAdd [.dat (.tuple xs), .dat (.tuple ys)] = some (.dat (.tuple (xs ++ ys)), [.dat (.tuple xs), .dat (.tuple ys)]) := by simp [fAdd, mR, gAdd, sizeLine_eq, h]
/-- a while loop that grows smaller -/
theorem wh_inv {mt : MT} {mb : MS} (I : Nat → List CD → Prop) (step : ∀ n Γ, I n Γ → (∃ Γ1, mt Γ = some (false, Γ1) ∧ I 0 Γ1) ∨ (∃ n' Γ1 Γ2, mt Γ = some (true, Γ1) ∧ mb Γ1 = some (.nx Γ2) ∧ n' < n ∧ I n' Γ2)) : ∀ (n k : Nat) (Γ : List CD), n < k → I n Γ → ∃ Γ', whM mt mb k Γ = some (.nx Γ') ∧ I 0 Γ'
  | n, 0, Γ, h, _ => absurd h (Nat.not_lt_zero _)
  | n, k + 1, Γ, h, hI => by
    rcases step n Γ hI with ⟨Γ1, e, h0⟩ | ⟨n', Γ1, Γ2, e1, e2, hn, h2⟩
    · exact ⟨Γ1, by unfold whM; rw [e], h0⟩
    · obtain ⟨Γ', e3, h3⟩ := wh_inv I step n' k Γ2 (by omega) h2
      refine ⟨Γ', ?_, h3⟩
      unfold whM
      rw [e1]
      dsimp only
      rw [e2]
      exact e3
/-- the end of a while loop with what is known there -/
theorem wh_end {mt : MT} {mb : MS} (I : Nat → List CD → Prop) (J : List CD → Prop) (step : ∀ n Γ, I n Γ → (∃ Γ1, mt Γ = some (false, Γ1) ∧ J Γ1) ∨ (∃ n' Γ1 Γ2, mt Γ = some (true, Γ1) ∧ mb Γ1 = some (.nx Γ2) ∧ n' < n ∧ I n' Γ2)) : ∀ (n k : Nat) (Γ : List CD), n < k → I n Γ → ∃ Γ', whM mt mb k Γ = some (.nx Γ') ∧ J Γ'
  | n, 0, Γ, h, _ => absurd h (Nat.not_lt_zero _)
  | n, k + 1, Γ, h, hI => by
    rcases step n Γ hI with ⟨Γ1, e, h0⟩ | ⟨n', Γ1, Γ2, e1, e2, hn, h2⟩
    · exact ⟨Γ1, by unfold whM; rw [e], h0⟩
    · obtain ⟨Γ', e3, h3⟩ := wh_end I J step n' k Γ2 (by omega) h2
      refine ⟨Γ', ?_, h3⟩
      unfold whM
      rw [e1]
      dsimp only
      rw [e2]
      exact e3
theorem v_wh {mt : MT} {mb : MS} {Γ Γ' : List CD} (h : whM mt mb 1000000 Γ = some (.nx Γ')) : mWh mt mb Γ = some (.nx Γ') := h
end JJ
namespace JJ
open PySem L2
@[simp] theorem v_bagR {ns : List Int} {a b : Int} : fBag [.lst (ns.map PyData.int).reverse, .dat (.int a), .dat (.int b)] = some (.bag ns.reverse a b, [.any, .dat (.int a), .dat (.int b)]) := by rw [← List.map_reverse, v_bag]
@[simp] theorem v_pow109 : fPow [.dat (.int 10), .dat (.int 9)] = some (.dat (.int 1000000000), [.dat (.int 10), .dat (.int 9)]) := by
  have h : (0 : Int) ≤ 9 ∧ (9 : Int) ≤ 1000000 ∧ (10 : Int).natAbs < 2 ^ 64 := ⟨by decide, by decide, by decide⟩
  simp only [fPow, mR, g2I]
  rw [if_pos h]
  rfl
end JJ
namespace JJ
open PySem L2
theorem mI_of' {g : List CD → Option (List Da)} {ml : ML} {Γ Γ1 Γ2 : List CD} {ops : List Op} {cs : List CD} {items : List Da} (h1 : ml Γ = some (ops, Γ1)) (h2 : takeO ops Γ1 = some (cs, Γ2)) (h3 : g cs = some items) : mI g ml Γ = some (items, ops, cs, Γ2) := by
  unfold mI
  rw [h1]
  dsimp only
  rw [h2]
  dsimp only
  rw [h3]
end JJ
namespace JJ
open PySem L2
theorem fn_rt {n N : Nat} {W : List Nat} {mb : MS} {cs cs' Γ0 Γ : List CD} {c : CD} (h3 : mb Γ0 = some (.rt c Γ)) (h1 : cs.length = n := by rfl) (h0 : cs ++ List.replicate (N - n) .any = Γ0 := by rfl) (h2 : okP W 0 cs = true := by rfl) (hp : post cs Γ = cs' := by rfl) : mFnX n N W mb cs = some (.ok c, cs') := by
  unfold mFnX
  rw [if_pos ⟨h1, h2⟩, h0, h3, ← hp]
theorem fn_nx {n N : Nat} {W : List Nat} {mb : MS} {cs cs' Γ0 Γ : List CD} (h3 : mb Γ0 = some (.nx Γ)) (h1 : cs.length = n := by rfl) (h0 : cs ++ List.replicate (N - n) .any = Γ0 := by rfl) (h2 : okP W 0 cs = true := by rfl) (hp : post cs Γ = cs' := by rfl) : mFnX n N W mb cs = some (.ok (.dat .none), cs') := by
  unfold mFnX
  rw [if_pos ⟨h1, h2⟩, h0, h3, ← hp]
theorem fn_ex {n N : Nat} {W : List Nat} {mb : MS} {cs cs' Γ0 Γ : List CD} {x : Str} {d : Da} (h3 : mb Γ0 = some (.ex x d Γ)) (h1 : cs.length = n := by rfl) (h0 : cs ++ List.replicate (N - n) .any = Γ0 := by rfl) (h2 : okP W 0 cs = true := by rfl) (hp : post cs Γ = cs' := by rfl) : mFnX n N W mb cs = some (.ex x d, cs') := by
  unfold mFnX
  rw [if_pos ⟨h1, h2⟩, h0, h3, ← hp]
theorem okOnly_of {f : List CD → Option (Res × List CD)} {cs cs' : List CD} {c : CD} (h : f cs = some (.ok c, cs')) : okOnly f cs = some (c, cs') := by
  unfold okOnly
  rw [h]
end JJ
namespace JJ
open PySem L2
@[simp] theorem v_setL {me mi : ME} {k : Nat} {Γ : List CD} : mSetL me k mi Γ = (match me Γ with
  | some (.dat d, Γ1) => (match Γ1[k]? with
    | some (.lst _) => (match mi Γ1 with
      | some (.dat (.int i), Γ2) => (match Γ2[k]? with
        | some (.lst xs) => (match ixN xs.length i with
          | some n => some (.nx (Γ2.set k (.lst (xs.set n d))))
          | none => none)
        | _ => none)
      | _ => none)
    | _ => none)
  | _ => none) := id rfl
theorem ixN_nat {n r : Nat} (h : r < n) : ixN n (r : Nat) = some r := by
  unfold ixN
  simp [h]
end JJ
/-! M1b: mirrors, stepped through goal by goal. -/
namespace JJ
open PySem L2
/-- the mirror of a statement ends, and so -/
def Rn (m : MS) (Γ : List CD) (Q : Out → Prop) : Prop := ∃ o, m Γ = some o ∧ Q o
def Thn (n : MS) (Q : Out → Prop) : Out → Prop
  | .nx Γ => Rn n Γ Q
  | o => Q o
/-- what the turn of a loop leaves -/
def Lp (I : List CD → Prop) (Q : Out → Prop) : Out → Prop
  | .nx Γ => I Γ
  | .ct Γ => I Γ
  | .bk Γ => Q (.nx Γ)
  | .rt c Γ => Q (.rt c Γ)
  | .ex x d Γ => Q (.ex x d Γ)
section
variable {m n mb : MS} {Γ Γ1 : List CD} {Q Q' : Out → Prop} {o : Out} {c : CD}
theorem rn (h : m Γ = some o) (q : Q o) : Rn m Γ Q := ⟨o, h, q⟩
theorem rn_mono (h : Rn m Γ Q) (k : ∀ o, Q o → Q' o) : Rn m Γ Q' := by
  obtain ⟨o, e, q⟩ := h
  exact ⟨o, e, k o q⟩
theorem rn_seq (h : Rn m Γ (Thn n Q)) : Rn (mSeq m n) Γ Q := by
  obtain ⟨o, e, q⟩ := h
  cases o with
  | nx G =>
    obtain ⟨o2, e2, q2⟩ := q
    exact ⟨o2, by rw [v_seq, e]; exact e2, q2⟩
  | rt c G => exact ⟨_, by rw [v_seq, e], q⟩
  | bk G => exact ⟨_, by rw [v_seq, e], q⟩
  | ct G => exact ⟨_, by rw [v_seq, e], q⟩
  | ex x d G => exact ⟨_, by rw [v_seq, e], q⟩
/-- a statement that ends by itself, then the rest -/
theorem rn_nx (h : m Γ = some (.nx Γ1)) (k : Rn n Γ1 Q) : Rn (mSeq m n) Γ Q := rn_seq (rn h k)
theorem rn_rt (h : m Γ = some (.rt c Γ1)) (k : Q (.rt c Γ1)) : Rn (mSeq m n) Γ Q := rn_seq (rn h k)
theorem rn_if {mt : MT} {b : Bool} (h : mt Γ = some (b, Γ1)) (k1 : b = true → Rn m Γ1 Q) (k2 : b = false → Rn n Γ1 Q) : Rn (mIf mt m n) Γ Q := by
  cases b with
  | true =>
    obtain ⟨o, e, q⟩ := k1 rfl
    exact ⟨o, by rw [v_if, h]; exact e, q⟩
  | false =>
    obtain ⟨o, e, q⟩ := k2 rfl
    exact ⟨o, by rw [v_if, h]; exact e, q⟩
theorem rn_loop {α : Type} {mg : MG} (g : α → Da) (I : List α → List CD → Prop) : ∀ (r l : List α) (Γ : List CD), (∀ l' x r' Γ, l ++ r = l' ++ x :: r' → I l' Γ → ∃ Γ1, mg (g x) Γ = some Γ1 ∧ Rn mb Γ1 (Lp (I (l' ++ [x])) Q)) → I l Γ → (∀ Γ', I (l ++ r) Γ' → Q (.nx Γ')) → ∃ o, loopM mg mb (r.map g) Γ = some o ∧ Q o
  | [], l, Γ, _, h0, k => ⟨_, rfl, k Γ (by simpa using h0)⟩
  | x :: r, l, Γ, h, h0, k => by
    obtain ⟨Γ1, e1, o, e2, q⟩ := h l x r Γ rfl h0
    have hs : ∀ Γ2, I (l ++ [x]) Γ2 → ∃ o, loopM mg mb (r.map g) Γ2 = some o ∧ Q o := fun Γ2 h2 =>
      rn_loop g I r (l ++ [x]) Γ2 (fun l' y r' G e hI => h l' y r' G (by rw [← e]; simp) hI) h2 (fun G hG => k G (by simpa using hG))
    rw [List.map_cons]
    unfold loopM
    rw [e1]
    dsimp only
    rw [e2]
    cases o with
    | nx G => exact hs G q
    | ct G => exact hs G q
    | bk G => exact ⟨_, rfl, q⟩
    | rt c G => exact ⟨_, rfl, q⟩
    | ex x d G => exact ⟨_, rfl, q⟩
theorem rn_for {α : Type} {mi : MI} {W : List Nat} {mg : MG} {items : List Da} {ops : List Op} {cs : List CD} (xs : List α) (g : α → Da) (I : List α → List CD → Prop) (hi : mi Γ = some (items, ops, cs, Γ1)) (hx : items = xs.map g) (h0 : I [] Γ1)
    (step : ∀ l x r Γ, xs = l ++ x :: r → I l Γ → ∃ Γ1, mg (g x) Γ = some Γ1 ∧ Rn mb Γ1 (Lp (I (l ++ [x])) (fun o => Q (mapOut (giveO ops cs) o)))) (k : ∀ Γ, I xs Γ → Q (.nx (giveO ops cs Γ))) (hw : okW W ops cs = true := by rfl) : Rn (mFor mi W mg mb) Γ Q := by
  obtain ⟨o, e, q⟩ := rn_loop (mb := mb) (mg := mg) (Q := fun o => Q (mapOut (giveO ops cs) o)) g I xs [] Γ1 (fun l x r G e hI => step l x r G e hI) h0 (fun G hG => k G hG)
  exact ⟨_, by rw [v_for, hi]; dsimp only; rw [if_pos hw, hx, e], q⟩
theorem giveO_inl {c : CD} {Γ : List CD} : giveO [.inl c] [c] Γ = Γ := rfl
theorem giveO_dat {i : Nat} {d : Da} {Γ : List CD} : giveO [.inr i] [.dat d] Γ = Γ := rfl
theorem giveO_lst {i : Nat} {xs : List Da} {Γ : List CD} : giveO [.inr i] [.lst xs] Γ = Γ.set i (.lst xs) := rfl
theorem mapOut_id {f : List CD → List CD} (h : ∀ Γ, f Γ = Γ) : ∀ o, mapOut f o = o
  | .nx Γ => by simp only [mapOut, h]
  | .rt c Γ => by simp only [mapOut, h]
  | .bk Γ => by simp only [mapOut, h]
  | .ct Γ => by simp only [mapOut, h]
  | .ex x d Γ => by simp only [mapOut, h]
/-- for x in an expression's value -/
theorem rn_forE {α : Type} {f : List CD → Option (List Da)} {me : ME} {W : List Nat} {mg : MG} (xs : List α) (g : α → Da) (I : List α → List CD → Prop) (h : me Γ = some (c, Γ1)) (hx : f [c] = some (xs.map g)) (h0 : I [] Γ1)
    (step : ∀ l x r Γ, xs = l ++ x :: r → I l Γ → ∃ Γ1, mg (g x) Γ = some Γ1 ∧ Rn mb Γ1 (Lp (I (l ++ [x])) Q)) (k : ∀ Γ, I xs Γ → Q (.nx Γ)) (hw : okW W [.inl c] [c] = true := by rfl) : Rn (mFor (mI f (mlC (mpE me) mlN)) W mg mb) Γ Q :=
  rn_for (ops := [.inl c]) (cs := [c]) (Γ1 := Γ1) xs g I (by simp only [v_mI, v_lC, v_pE, h, v_lN, takeO, hx]) rfl h0 (fun l x r G e hI => by
    obtain ⟨G1, e1, r1⟩ := step l x r G e hI
    refine ⟨G1, e1, rn_mono r1 fun o q => ?_⟩
    cases o <;> exact q) (fun G hG => k G hG) hw
/-- for x in a slot's value -/
theorem rn_forV {α : Type} {f : List CD → Option (List Da)} {i : Nat} {d : Da} {W : List Nat} {mg : MG} (xs : List α) (g : α → Da) (I : List α → List CD → Prop) (h : Γ[i]? = some (.dat d)) (hx : f [.dat d] = some (xs.map g)) (h0 : I [] Γ)
    (step : ∀ l x r Γ, xs = l ++ x :: r → I l Γ → ∃ Γ1, mg (g x) Γ = some Γ1 ∧ Rn mb Γ1 (Lp (I (l ++ [x])) Q)) (k : ∀ Γ, I xs Γ → Q (.nx Γ)) (hw : okW W [.inr i] [.dat d] = true := by rfl) : Rn (mFor (mI f (mlC (mpV i) mlN)) W mg mb) Γ Q :=
  rn_for (ops := [.inr i]) (cs := [.dat d]) (Γ1 := Γ) xs g I (by simp only [v_mI, v_lC, v_pV, h, v_lN, takeO, hx, c_dat, if_true]) rfl h0 (fun l x r G e hI => by
    obtain ⟨G1, e1, r1⟩ := step l x r G e hI
    refine ⟨G1, e1, rn_mono r1 fun o q => ?_⟩
    cases o <;> exact q) (fun G hG => k G hG) hw
/-- for x in a slot's list: the slot is empty within the loop -/
theorem rn_forL {α : Type} {f : List CD → Option (List Da)} {i : Nat} {ds : List Da} {W : List Nat} {mg : MG} (xs : List α) (g : α → Da) (I : List α → List CD → Prop) (h : Γ[i]? = some (.lst ds)) (hx : f [.lst ds] = some (xs.map g)) (h0 : I [] (Γ.set i .any))
    (step : ∀ l x r Γ, xs = l ++ x :: r → I l Γ → ∃ Γ1, mg (g x) Γ = some Γ1 ∧ Rn mb Γ1 (Lp (I (l ++ [x])) (fun o => Q (mapOut (·.set i (.lst ds)) o)))) (k : ∀ Γ, I xs Γ → Q (.nx (Γ.set i (.lst ds)))) (hw : okW W [.inr i] [.lst ds] = true := by rfl) : Rn (mFor (mI f (mlC (mpV i) mlN)) W mg mb) Γ Q :=
  rn_for (ops := [.inr i]) (cs := [.lst ds]) (Γ1 := Γ.set i .any) xs g I (by simp only [v_mI, v_lC, v_pV, h, v_lN, takeO, hx, c_lst, Bool.false_eq_true, if_false]) rfl h0 step k hw
theorem rn_while {mt : MT} (I : Nat → List CD → Prop) (step : ∀ n Γ, I n Γ → ∃ b Γ1, mt Γ = some (b, Γ1) ∧ (b = false → Q (.nx Γ1)) ∧ (b = true → Rn mb Γ1 (Lp (fun Γ2 => ∃ n', n' < n ∧ I n' Γ2) Q))) : ∀ (n k : Nat) (Γ : List CD), n < k → I n Γ → ∃ o, whM mt mb k Γ = some o ∧ Q o
  | n, 0, Γ, h, _ => absurd h (Nat.not_lt_zero _)
  | n, k + 1, Γ, h, hI => by
    obtain ⟨b, Γ1, e, k1, k2⟩ := step n Γ hI
    unfold whM
    rw [e]
    cases b with
    | false => exact ⟨_, rfl, k1 rfl⟩
    | true =>
      dsimp only
      obtain ⟨o, e2, q⟩ := k2 rfl
      rw [e2]
      cases o with
      | nx G =>
        obtain ⟨n', hn, h2⟩ := q
        exact rn_while I step n' k G (by omega) h2
      | ct G =>
        obtain ⟨n', hn, h2⟩ := q
        exact rn_while I step n' k G (by omega) h2
      | bk G => exact ⟨_, rfl, q⟩
      | rt c G => exact ⟨_, rfl, q⟩
      | ex x d G => exact ⟨_, rfl, q⟩
theorem rn_wh {mt : MT} (I : Nat → List CD → Prop) (N : Nat) (hN : N < 1000000) (h0 : I N Γ) (step : ∀ n Γ, I n Γ → ∃ b Γ1, mt Γ = some (b, Γ1) ∧ (b = false → Q (.nx Γ1)) ∧ (b = true → Rn mb Γ1 (Lp (fun Γ2 => ∃ n', n' < n ∧ I n' Γ2) Q))) : Rn (mWh mt mb) Γ Q :=
  rn_while I step N 1000000 Γ hN h0
/-- a def's value -/
theorem fn_of {n N : Nat} {W : List Nat} {cs cs' Γ0 : List CD} (h3 : Rn mb Γ0 (fun o => ∃ Γ, o = .rt c Γ ∧ post cs Γ = cs')) (h1 : cs.length = n := by rfl) (h0 : cs ++ List.replicate (N - n) .any = Γ0 := by rfl) (h2 : okP W 0 cs = true := by rfl) : mFnX n N W mb cs = some (.ok c, cs') := by
  obtain ⟨o, e, G, rfl, hp⟩ := h3
  exact fn_rt e h1 h0 h2 hp
/-- the same where something is told of it -/
theorem fn_ofR {n N : Nat} {W : List Nat} {cs Γ0 : List CD} {R : CD → List CD → Prop} (h3 : Rn mb Γ0 (fun o => ∃ c Γ, o = .rt c Γ ∧ R c (post cs Γ))) (h1 : cs.length = n := by rfl) (h0 : cs ++ List.replicate (N - n) .any = Γ0 := by rfl) (h2 : okP W 0 cs = true := by rfl) : ∃ c cs', mFnX n N W mb cs = some (.ok c, cs') ∧ R c cs' := by
  obtain ⟨o, e, c, G, rfl, hp⟩ := h3
  exact ⟨c, _, fn_rt e h1 h0 h2 rfl, hp⟩
end
/-- a comprehension with a test -/
theorem lc_filter {α : Type} {own : List Nat} {mg : MG} {mt : MT} {me : ME} {Γ : List CD} (xs : List α) (g f : α → Da) (p : α → Bool) (h : ∀ x ∈ xs, ∃ Γ1 Γ2, mg (g x) Γ = some Γ1 ∧ mt Γ1 = some (p x, Γ2) ∧ (p x = false → wipeC Γ2 own = Γ) ∧ (p x = true → ∃ Γ3, me Γ2 = some (.dat (f x), Γ3) ∧ wipeC Γ3 own = Γ)) (hz : xs.length ≤ sizeLine) : lcM own mg mt me (xs.map g) [] Γ = some ((xs.filter p).map f, Γ) := by
  have key : ∀ (r l : List α), l ++ r = xs → lcM own mg mt me (r.map g) ((l.filter p).map f) Γ = some (((l ++ r).filter p).map f, Γ) := by
    intro r
    induction r with
    | nil => intro l _; simp [lcM]
    | cons x r ih =>
      intro l e
      obtain ⟨Γ1, Γ2, e1, e2, k1, k2⟩ := h x (by rw [← e]; simp)
      have i := ih (l ++ [x]) (by rw [← e]; simp)
      rw [List.map_cons]
      unfold lcM
      rw [e1]
      dsimp only
      rw [e2]
      cases hp : p x with
      | false =>
        dsimp only
        rw [k1 hp]
        have e3 : ((l ++ [x]).filter p).map f = (l.filter p).map f := by simp [List.filter_append, hp]
        rw [e3] at i
        rw [i]; simp
      | true =>
        obtain ⟨Γ3, e4, e5⟩ := k2 hp
        dsimp only
        rw [e4]
        dsimp only
        have hl : ((l.filter p).map f).length < sizeLine := by
          have := List.length_filter_le p l
          have : xs.length = l.length + (r.length + 1) := by rw [← e]; simp
          rw [List.length_map]; omega
        rw [if_pos hl, e5]
        have e3 : ((l ++ [x]).filter p).map f = (l.filter p).map f ++ [f x] := by simp [List.filter_append, hp]
        rw [e3] at i
        rw [i]; simp
  have := key xs [] rfl
  simpa using this
/-- no more than the number of an item -/
theorem gSeq_lst {xs : List Da} : gSeq [.lst xs] = some xs := rfl
theorem gSeq_tup {xs : List Da} : gSeq [.dat (.tuple xs)] = some xs := rfl
/-- a range's items -/
theorem rng_map {k : Nat} : rgD 0 k = (List.range k).map fun i => .int ((i : Nat) : Int) := by
  unfold rgD; simp
theorem gRng1_map {k : Nat} (h : k < 4611686018427387904) : gRng1 [.dat (.int (k : Nat))] = some ((List.range k).map fun i => .int ((i : Nat) : Int)) := by rw [v_rng1 h, rng_map]
theorem en_map {α : Type} (g : α → Da) : ∀ (xs : List α) (k : Nat), enD k (xs.map g) = (xs.zipIdx k).map fun p => .tuple [.int ((p.2 : Nat) : Int), g p.1]
  | [], _ => rfl
  | x :: r, k => by
    have := en_map g r (k + 1)
    simp only [List.map_cons, List.zipIdx_cons] at this ⊢
    rw [← this]
    rfl
end JJ
/-! the mirrors of k73 -/
namespace K73
open PySem L2 JJ
/-! row_of -/
def N_row_of : List Str := ["pattern", "found", "waiting", "thing"]
def b_row_of : MS :=
    (mSeq (mPar [1, 2] (mlC (mpE (mApp fLst mlN)) (mlC (mpE (mApp fLst (mlC (mpV 0) mlN))) mlN)))
    (mSeq (mWh (mTst (mApp fNe (mlC (mpV 2) (mlC (mpE (mApp fLst mlN)) mlN)))) (mSeq (mAsg 3 (mMth isL 2 fPop mlN))
    (mIf (mTst (mIsi "tuple" (mpV 3))) (mSeq (mExpr (mMth isL 1 fAppend (mlC (mpE (mApp fIx (mlC (mpV 3) (mlC (mpE (mC (.int 0))) mlN)))) mlN)))
    (mExpr (mMth isL 2 fExtend (mlC (mpE (mApp fBack (mlC (mpV 3) mlN))) mlN)))) (mExpr (mMth isL 1 fAppend (mlC (mpV 3) mlN))))))
    (mRet (mApp fTuple (mlC (mpV 1) mlN)))))
def x_row_of : List CD → Option (Res × List CD) := mFnX 1 4 ([1, 2] ++ (([3] ++ (([] ++ []) ++ [])) ++ [])) b_row_of
def m_row_of : MF := okOnly x_row_of
theorem ar_row_of : Ar 1 m_row_of := ar_fn (W := ([1, 2] ++ (([3] ++ (([] ++ []) ++ [])) ++ [])))
theorem arX_row_of : ∀ cs r, x_row_of cs = some r → cs.length = 1 := arX_fn
/-! size -/
def N_size : List Str := ["term"]
def b_size : MS :=
    (mRet (mApp fLen (mlC (mpE (mApp m_row_of (mlC (mpV 0) mlN))) mlN)))
def x_size : List CD → Option (Res × List CD) := mFnX 1 1 [] b_size
def m_size : MF := okOnly x_size
theorem ar_size : Ar 1 m_size := ar_fn (W := [])
theorem arX_size : ∀ cs r, x_size cs = some r → cs.length = 1 := arX_fn
/-! spots_of -/
def N_spots_of : List Str := ["pattern", "found", "waiting", "thing"]
def b_spots_of : MS :=
    (mSeq (mPar [1, 2] (mlC (mpE (mApp fLst mlN)) (mlC (mpE (mApp fLst (mlC (mpV 0) mlN))) mlN)))
    (mSeq (mWh (mTst (mApp fNe (mlC (mpV 2) (mlC (mpE (mApp fLst mlN)) mlN)))) (mSeq (mAsg 3 (mMth isL 2 fPop mlN))
    (mIf (mTst (mIsi "tuple" (mpV 3))) (mExpr (mMth isL 2 fExtend (mlC (mpE (mApp fBack (mlC (mpV 3) mlN))) mlN))) (mExpr (mMth isL 1 fAppend (mlC (mpV 3) mlN))))))
    (mRet (mTk 1))))
def x_spots_of : List CD → Option (Res × List CD) := mFnX 1 4 ([1, 2] ++ (([3] ++ ([] ++ [])) ++ [])) b_spots_of
def m_spots_of : MF := okOnly x_spots_of
theorem ar_spots_of : Ar 1 m_spots_of := ar_fn (W := ([1, 2] ++ (([3] ++ ([] ++ [])) ++ [])))
theorem arX_spots_of : ∀ cs r, x_spots_of cs = some r → cs.length = 1 := arX_fn
/-! variables -/
def N_variables : List Str := ["pattern"]
def b_variables : MS :=
    (mRet (mApp fTuple (mlC (mpE (mSSet (mApp m_spots_of (mlC (mpV 0) mlN)))) mlN)))
def x_variables : List CD → Option (Res × List CD) := mFnX 1 1 [] b_variables
def m_variables : MF := okOnly x_variables
theorem ar_variables : Ar 1 m_variables := ar_fn (W := [])
theorem arX_variables : ∀ cs r, x_variables cs = some r → cs.length = 1 := arX_fn
/-! sizes_of -/
def N_sizes_of : List Str := ["rules", "found", "left", "right", "conditions", "one", "other"]
def o0_sizes_of : List (Str × Nat) := [("one", 5), ("other", 6)]
def b_sizes_of : MS :=
    (mSeq (mAsg 1 (mC (.int 0)))
    (mSeq (mFor (mI gSeq (mlC (mpV 0) mlN)) (([2] ++ ([3] ++ ([4] ++ []))) ++ [1]) (mgT 3 (mgsC (mgN 2) (mgsC (mgN 3) (mgsC (mgN 4) mgsN)))) (mAsg 1 (mApp fAdd (mlC (mpE (mApp fAdd (mlC (mpE (mApp fAdd (mlC (mpV 1) (mlC (mpE (mApp m_size (mlC (mpV 2) mlN))) mlN)))) (mlC (mpE (mApp m_size (mlC (mpV 3) mlN))) mlN)))) (mlC (mpE (mApp fSum (mlC (mpE (mLc (o0_sizes_of.map (·.2)) (mI gSeq (mlC (mpV 4) mlN)) (mgT 2 (mgsC (mgN 5) (mgsC (mgN 6) mgsN))) mYes (mApp fAdd (mlC (mpE (mApp m_size (mlC (mpV 5) mlN))) (mlC (mpE (mApp m_size (mlC (mpV 6) mlN))) mlN))))) mlN))) mlN)))))
    (mRet (mTk 1))))
def x_sizes_of : List CD → Option (Res × List CD) := mFnX 1 7 ([1] ++ ((([2] ++ ([3] ++ ([4] ++ []))) ++ [1]) ++ [])) b_sizes_of
def m_sizes_of : MF := okOnly x_sizes_of
theorem ar_sizes_of : Ar 1 m_sizes_of := ar_fn (W := ([1] ++ ((([2] ++ ([3] ++ ([4] ++ []))) ++ [1]) ++ [])))
theorem arX_sizes_of : ∀ cs r, x_sizes_of cs = some r → cs.length = 1 := arX_fn
/-! power -/
def N_power : List Str := ["base", "many", "found", "turn"]
def b_power : MS :=
    (mSeq (mAsg 2 (mC (.int 1)))
    (mSeq (mFor (mI gRng1 (mlC (mpV 1) mlN)) ([3] ++ [2]) (mgN 3) (mAsg 2 (mApp fMul (mlC (mpV 2) (mlC (mpV 0) mlN)))))
    (mRet (mTk 2))))
def x_power : List CD → Option (Res × List CD) := mFnX 2 4 ([2] ++ (([3] ++ [2]) ++ [])) b_power
def m_power : MF := okOnly x_power
theorem ar_power : Ar 2 m_power := ar_fn (W := ([2] ++ (([3] ++ [2]) ++ [])))
theorem arX_power : ∀ cs r, x_power cs = some r → cs.length = 2 := arX_fn
/-! tuples_of -/
def N_tuples_of : List Str := ["items", "many", "found", "turn", "longer", "row", "item"]
def o0_tuples_of : List (Str × Nat) := [("item", 6)]
def b_tuples_of : MS :=
    (mSeq (mAsg 2 (mApp fLst (mlC (mpE (mApp fTup mlN)) mlN)))
    (mSeq (mFor (mI gRng1 (mlC (mpV 1) mlN)) ([3] ++ ([4] ++ (([5] ++ []) ++ [2]))) (mgN 3) (mSeq (mAsg 4 (mApp fLst mlN))
    (mSeq (mFor (mI gSeq (mlC (mpV 2) mlN)) ([5] ++ []) (mgN 5) (mExpr (mMth isL 4 fExtend (mlC (mpE (mLc (o0_tuples_of.map (·.2)) (mI gSeq (mlC (mpV 0) mlN)) (mgN 6) mYes (mApp fAdd (mlC (mpV 5) (mlC (mpE (mApp fTup (mlC (mpV 6) mlN))) mlN))))) mlN))))
    (mAsg 2 (mTk 4)))))
    (mRet (mTk 2))))
def x_tuples_of : List CD → Option (Res × List CD) := mFnX 2 7 ([2] ++ (([3] ++ ([4] ++ (([5] ++ []) ++ [2]))) ++ [])) b_tuples_of
def m_tuples_of : MF := okOnly x_tuples_of
theorem ar_tuples_of : Ar 2 m_tuples_of := ar_fn (W := ([2] ++ (([3] ++ ([4] ++ (([5] ++ []) ++ [2]))) ++ [])))
theorem arX_tuples_of : ∀ cs r, x_tuples_of cs = some r → cs.length = 2 := arX_fn
/-! entries -/
def N_entries : List Str := ["signature", "many", "arity"]
def o0_entries : List (Str × Nat) := [("arity", 2)]
def b_entries : MS :=
    (mRet (mApp fSum (mlC (mpE (mLc (o0_entries.map (·.2)) (mI gSeq (mlC (mpV 0) mlN)) (mgN 2) mYes (mApp m_power (mlC (mpV 1) (mlC (mpV 2) mlN))))) mlN)))
def x_entries : List CD → Option (Res × List CD) := mFnX 2 3 [] b_entries
def m_entries : MF := okOnly x_entries
theorem ar_entries : Ar 2 m_entries := ar_fn (W := [])
theorem arX_entries : ∀ cs r, x_entries cs = some r → cs.length = 2 := arX_fn
/-! place_of -/
def N_place_of : List Str := ["many", "row", "found", "element"]
def b_place_of : MS :=
    (mSeq (mAsg 2 (mC (.int 0)))
    (mSeq (mFor (mI gSeq (mlC (mpV 1) mlN)) ([3] ++ [2]) (mgN 3) (mAsg 2 (mApp fAdd (mlC (mpE (mApp fMul (mlC (mpV 2) (mlC (mpV 0) mlN)))) (mlC (mpV 3) mlN)))))
    (mRet (mTk 2))))
def x_place_of : List CD → Option (Res × List CD) := mFnX 2 4 ([2] ++ (([3] ++ [2]) ++ [])) b_place_of
def m_place_of : MF := okOnly x_place_of
theorem ar_place_of : Ar 2 m_place_of := ar_fn (W := ([2] ++ (([3] ++ [2]) ++ [])))
theorem arX_place_of : ∀ cs r, x_place_of cs = some r → cs.length = 2 := arX_fn
/-! valued -/
def N_valued : List Str := ["algebra", "pattern", "given", "many", "tables", "inner"]
def o0_valued : List (Str × Nat) := [("inner", 5)]
def b_valued (self : MF) : MS :=
    (mSeq (mIf (mNot (mTst (mIsi "tuple" (mpV 1)))) (mRet (mApp fIx (mlC (mpV 2) (mlC (mpV 1) mlN)))) mSkip)
    (mSeq (mAsgG (mTk 0) (mgT 2 (mgsC (mgN 3) (mgsC (mgN 4) mgsN))))
    (mRet (mApp fIx (mlC (mpE (mApp fIx (mlC (mpV 4) (mlC (mpE (mApp fIx (mlC (mpV 1) (mlC (mpE (mC (.int 0))) mlN)))) mlN)))) (mlC (mpE (mApp m_place_of (mlC (mpV 3) (mlC (mpE (mLc (o0_valued.map (·.2)) (mI gSeq (mlC (mpE (mSl (mpV 1) (moS (mC (.int 1))) moN)) mlN)) (mgN 5) mYes (mApp self (mlC (mpV 0) (mlC (mpV 5) (mlC (mpV 2) mlN)))))) mlN)))) mlN))))))
def m_valued : Nat → MF
  | 0 => fun _ => none
  | n + 1 => mFn 3 6 (([] ++ []) ++ (([3] ++ ([4] ++ [])) ++ [])) (b_valued (m_valued n))
theorem ar_valued : ∀ n, Ar 3 (m_valued n)
  | 0 => fun _ _ e => by cases e
  | _ + 1 => ar_fn
/-! value_of -/
def N_value_of : List Str := ["algebra", "term"]
def b_value_of : MS :=
    (mRet (mApp (m_valued 12) (mlC (mpV 0) (mlC (mpV 1) (mlC (mpE (mApp fTup mlN)) mlN)))))
def x_value_of : List CD → Option (Res × List CD) := mFnX 2 2 [] b_value_of
def m_value_of : MF := okOnly x_value_of
theorem ar_value_of : Ar 2 m_value_of := ar_fn (W := [])
theorem arX_value_of : ∀ cs r, x_value_of cs = some r → cs.length = 2 := arX_fn
/-! does_break -/
def N_does_break : List Str := ["algebra", "rule", "given", "left", "right", "conditions", "one", "other"]
def o0_does_break : List (Str × Nat) := [("one", 6), ("other", 7)]
def b_does_break : MS :=
    (mSeq (mAsgG (mTk 1) (mgT 3 (mgsC (mgN 3) (mgsC (mgN 4) (mgsC (mgN 5) mgsN)))))
    (mSeq (mIf (mNot (mTst (mApp fAll (mlC (mpE (mLc (o0_does_break.map (·.2)) (mI gSeq (mlC (mpV 5) mlN)) (mgT 2 (mgsC (mgN 6) (mgsC (mgN 7) mgsN))) mYes (mApp fEq (mlC (mpE (mApp (m_valued 12) (mlC (mpV 0) (mlC (mpV 6) (mlC (mpV 2) mlN))))) (mlC (mpE (mApp (m_valued 12) (mlC (mpV 0) (mlC (mpV 7) (mlC (mpV 2) mlN))))) mlN))))) mlN)))) (mRet (mC (.bool false))) mSkip)
    (mRet (mApp fNe (mlC (mpE (mApp (m_valued 12) (mlC (mpV 0) (mlC (mpV 3) (mlC (mpV 2) mlN))))) (mlC (mpE (mApp (m_valued 12) (mlC (mpV 0) (mlC (mpV 4) (mlC (mpV 2) mlN))))) mlN))))))
def x_does_break : List CD → Option (Res × List CD) := mFnX 3 8 (([3] ++ ([4] ++ ([5] ++ []))) ++ (([] ++ []) ++ [])) b_does_break
def m_does_break : MF := okOnly x_does_break
theorem ar_does_break : Ar 3 m_does_break := ar_fn (W := (([3] ++ ([4] ++ ([5] ++ []))) ++ (([] ++ []) ++ [])))
theorem arX_does_break : ∀ cs r, x_does_break cs = some r → cs.length = 3 := arX_fn
/-! first_break -/
def N_first_break : List Str := ["algebra", "rule", "given"]
def b_first_break : MS :=
    (mSeq (mFor (mI gSeq (mlC (mpE (mApp m_tuples_of (mlC (mpE (mApp fLRg (mlC (mpE (mApp fIx (mlC (mpV 0) (mlC (mpE (mC (.int 0))) mlN)))) mlN))) (mlC (mpE (mApp fLen (mlC (mpE (mApp m_variables (mlC (mpE (mApp fIx (mlC (mpV 1) (mlC (mpE (mC (.int 0))) mlN)))) mlN))) mlN))) mlN)))) mlN)) ([2] ++ ([] ++ [])) (mgN 2) (mIf (mTst (mApp m_does_break (mlC (mpV 0) (mlC (mpV 1) (mlC (mpV 2) mlN))))) (mRet (mTk 2)) mSkip))
    (mRet (mC .none)))
def x_first_break : List CD → Option (Res × List CD) := mFnX 2 3 (([2] ++ ([] ++ [])) ++ []) b_first_break
def m_first_break : MF := okOnly x_first_break
theorem ar_first_break : Ar 2 m_first_break := ar_fn (W := (([2] ++ ([] ++ [])) ++ []))
theorem arX_first_break : ∀ cs r, x_first_break cs = some r → cs.length = 2 := arX_fn
/-! breaks -/
def N_breaks : List Str := ["algebra", "rule"]
def b_breaks : MS :=
    (mSeq (mIf (mTst (mApp fGt (mlC (mpE (mApp fMul (mlC (mpE (mApp m_power (mlC (mpE (mApp fIx (mlC (mpV 0) (mlC (mpE (mC (.int 0))) mlN)))) (mlC (mpE (mApp fLen (mlC (mpE (mApp m_variables (mlC (mpE (mApp fIx (mlC (mpV 1) (mlC (mpE (mC (.int 0))) mlN)))) mlN))) mlN))) mlN)))) (mlC (mpE (mApp m_sizes_of (mlC (mpE (mApp fTup (mlC (mpV 1) mlN))) mlN))) mlN)))) (mlC (mpE (mC (.int 60000))) mlN)))) mStuck mSkip)
    (mRet (mApp m_first_break (mlC (mpV 0) (mlC (mpV 1) mlN)))))
def x_breaks : List CD → Option (Res × List CD) := mFnX 2 2 (([] ++ []) ++ []) b_breaks
def m_breaks : MF := okOnly x_breaks
theorem ar_breaks : Ar 2 m_breaks := ar_fn (W := (([] ++ []) ++ []))
theorem arX_breaks : ∀ cs r, x_breaks cs = some r → cs.length = 2 := arX_fn
/-! product -/
def N_product : List Str := ["signature", "one", "other", "many", "tables", "symbol", "arity", "own", "row", "first", "element", "second"]
def o0_product : List (Str × Nat) := [("element", 10)]
def b_product : MS :=
    (mSeq (mAsg 3 (mApp fIx (mlC (mpV 2) (mlC (mpE (mC (.int 0))) mlN))))
    (mSeq (mIf (mTst (mApp fGt (mlC (mpE (mApp fMul (mlC (mpE (mApp fIx (mlC (mpV 1) (mlC (mpE (mC (.int 0))) mlN)))) (mlC (mpV 3) mlN)))) (mlC (mpE (mC (.int 61))) mlN)))) (mRaise "TooMany" (mC (.int 61))) mSkip)
    (mSeq (mIf (mTst (mApp fGt (mlC (mpE (mApp m_entries (mlC (mpV 0) (mlC (mpE (mApp fMul (mlC (mpE (mApp fIx (mlC (mpV 1) (mlC (mpE (mC (.int 0))) mlN)))) (mlC (mpV 3) mlN)))) mlN)))) (mlC (mpE (mC (.int 2000))) mlN)))) (mRaise "TooMany" (mC (.int 2000))) mSkip)
    (mSeq (mAsg 4 (mApp fLst mlN))
    (mSeq (mFor (mI gEn (mlC (mpV 0) mlN)) (([5] ++ ([6] ++ [])) ++ ([7] ++ (([8] ++ ([9] ++ ([11] ++ []))) ++ []))) (mgT 2 (mgsC (mgN 5) (mgsC (mgN 6) mgsN))) (mSeq (mAsg 7 (mApp fLst mlN))
    (mSeq (mFor (mI gSeq (mlC (mpE (mApp m_tuples_of (mlC (mpE (mApp fLRg (mlC (mpE (mApp fMul (mlC (mpE (mApp fIx (mlC (mpV 1) (mlC (mpE (mC (.int 0))) mlN)))) (mlC (mpV 3) mlN)))) mlN))) (mlC (mpV 6) mlN)))) mlN)) ([8] ++ ([9] ++ ([11] ++ []))) (mgN 8) (mSeq (mAsg 9 (mApp fIx (mlC (mpE (mApp fIx (mlC (mpE (mApp fIx (mlC (mpV 1) (mlC (mpE (mC (.int 1))) mlN)))) (mlC (mpV 5) mlN)))) (mlC (mpE (mApp m_place_of (mlC (mpE (mApp fIx (mlC (mpV 1) (mlC (mpE (mC (.int 0))) mlN)))) (mlC (mpE (mLc (o0_product.map (·.2)) (mI gSeq (mlC (mpV 8) mlN)) (mgN 10) mYes (mApp fDiv (mlC (mpV 10) (mlC (mpV 3) mlN))))) mlN)))) mlN))))
    (mSeq (mAsg 11 (mApp fIx (mlC (mpE (mApp fIx (mlC (mpE (mApp fIx (mlC (mpV 2) (mlC (mpE (mC (.int 1))) mlN)))) (mlC (mpV 5) mlN)))) (mlC (mpE (mApp m_place_of (mlC (mpV 3) (mlC (mpE (mLc (o0_product.map (·.2)) (mI gSeq (mlC (mpV 8) mlN)) (mgN 10) mYes (mApp fMod (mlC (mpV 10) (mlC (mpV 3) mlN))))) mlN)))) mlN))))
    (mExpr (mMth isL 7 fAppend (mlC (mpE (mApp fAdd (mlC (mpE (mApp fMul (mlC (mpV 9) (mlC (mpV 3) mlN)))) (mlC (mpV 11) mlN)))) mlN))))))
    (mExpr (mMth isL 4 fAppend (mlC (mpE (mApp fTuple (mlC (mpV 7) mlN))) mlN))))))
    (mRet (mApp fTup (mlC (mpE (mApp fMul (mlC (mpE (mApp fIx (mlC (mpV 1) (mlC (mpE (mC (.int 0))) mlN)))) (mlC (mpV 3) mlN)))) (mlC (mpE (mApp fTuple (mlC (mpV 4) mlN))) mlN)))))))))
def x_product : List CD → Option (Res × List CD) := mFnX 3 12 ([3] ++ (([] ++ []) ++ (([] ++ []) ++ ([4] ++ ((([5] ++ ([6] ++ [])) ++ ([7] ++ (([8] ++ ([9] ++ ([11] ++ []))) ++ []))) ++ []))))) b_product
def m_product : MF := okOnly x_product
theorem ar_product : Ar 3 m_product := ar_fn (W := ([3] ++ (([] ++ []) ++ (([] ++ []) ++ ([4] ++ ((([5] ++ ([6] ++ [])) ++ ([7] ++ (([8] ++ ([9] ++ ([11] ++ []))) ++ []))) ++ []))))))
theorem arX_product : ∀ cs r, x_product cs = some r → cs.length = 3 := arX_fn
/-! _law_own_bag -/
def N__law_own_bag : List Str := ["script", "cells", "cell", "mixed"]
def o0__law_own_bag : List (Str × Nat) := [("cell", 2)]
def b__law_own_bag : MS :=
    (mSeq (mAsg 1 (mLc (o0__law_own_bag.map (·.2)) (mI gSeq (mlC (mpE (mSl (mpV 0) moN (moS (mC (.int 63))))) mlN)) (mgN 2) mYes (mApp fAbs (mlC (mpV 2) mlN))))
    (mSeq (mAsg 3 (mApp fAdd (mlC (mpE (mC (.int 4409))) (mlC (mpE (mApp fLen (mlC (mpV 1) mlN))) mlN))))
    (mSeq (mFor (mI gSeq (mlC (mpV 1) mlN)) ([2] ++ [3]) (mgN 2) (mAsg 3 (mApp fMod (mlC (mpE (mApp fInt (mlC (mpE (mApp fAdd (mlC (mpE (mApp fAdd (mlC (mpE (mApp fMul (mlC (mpV 3) (mlC (mpE (mC (.int 48271))) mlN)))) (mlC (mpE (mApp fMod (mlC (mpE (mApp fInt (mlC (mpV 2) mlN))) (mlC (mpE (mC (.int 2147483629))) mlN)))) mlN)))) (mlC (mpE (mC (.int 7))) mlN)))) mlN))) (mlC (mpE (mC (.int 2147483647))) mlN)))))
    (mRet (mApp fBag (mlC (mpE (mApp fLBack (mlC (mpV 1) mlN))) (mlC (mpE (mC (.int 0))) (mlC (mpV 3) mlN))))))))
def x__law_own_bag : List CD → Option (Res × List CD) := mFnX 1 4 ([1] ++ ([3] ++ (([2] ++ [3]) ++ []))) b__law_own_bag
def m__law_own_bag : MF := okOnly x__law_own_bag
theorem ar__law_own_bag : Ar 1 m__law_own_bag := ar_fn (W := ([1] ++ ([3] ++ (([2] ++ [3]) ++ []))))
theorem arX__law_own_bag : ∀ cs r, x__law_own_bag cs = some r → cs.length = 1 := arX_fn
/-! _law_draw -/
def N__law_draw : List Str := ["bag", "below", "cell", "found"]
def b__law_draw : MS :=
    (mSeq (mWh (mAnd (mTst (mApp fEq (mlC (mpE (mBagI 1 0)) (mlC (mpE (mC (.int 0))) mlN)))) (mBagNe 0)) (mSeq (mAsg 2 (mBagPop 0))
    (mBagSet 1 (mIfE (mTst (mApp fGt (mlC (mpV 2) (mlC (mpE (mApp fPow (mlC (mpE (mC (.int 10))) (mlC (mpE (mC (.int 9))) mlN)))) mlN)))) (mTk 2) (mC (.int 0))) 0)))
    (mSeq (mIf (mTst (mApp fGt (mlC (mpE (mBagI 1 0)) (mlC (mpE (mC (.int 0))) mlN)))) (mSeq (mAsg 3 (mApp fMod (mlC (mpE (mApp fInt (mlC (mpE (mBagI 1 0)) mlN))) (mlC (mpV 1) mlN))))
    (mSeq (mBagSet 1 (mApp fDiv (mlC (mpE (mBagI 1 0)) (mlC (mpV 1) mlN))) 0)
    (mRet (mTk 3)))) mSkip)
    (mSeq (mBagSet 2 (mApp fMod (mlC (mpE (mApp fInt (mlC (mpE (mApp fAdd (mlC (mpE (mApp fMul (mlC (mpE (mBagI 2 0)) (mlC (mpE (mC (.int 48271))) mlN)))) (mlC (mpE (mC (.int 11))) mlN)))) mlN))) (mlC (mpE (mC (.int 2147483647))) mlN))) 0)
    (mRet (mApp fMod (mlC (mpE (mApp fInt (mlC (mpE (mApp fDiv (mlC (mpE (mApp fMod (mlC (mpE (mApp fInt (mlC (mpE (mApp fMul (mlC (mpE (mBagI 2 0)) (mlC (mpE (mBagI 2 0)) mlN)))) mlN))) (mlC (mpE (mC (.int 2147483629))) mlN)))) (mlC (mpE (mC (.int 7))) mlN)))) mlN))) (mlC (mpV 1) mlN)))))))
def x__law_draw : List CD → Option (Res × List CD) := mFnX 2 4 (([2] ++ []) ++ ((([3] ++ ([] ++ [])) ++ []) ++ ([] ++ []))) b__law_draw
def m__law_draw : MF := okOnly x__law_draw
theorem ar__law_draw : Ar 2 m__law_draw := ar_fn (W := (([2] ++ []) ++ ((([3] ++ ([] ++ [])) ++ []) ++ ([] ++ []))))
theorem arX__law_draw : ∀ cs r, x__law_draw cs = some r → cs.length = 2 := arX_fn
/-! _law_pick -/
def N__law_pick : List Str := ["bag", "some"]
def b__law_pick : MS :=
    (mRet (mApp fIx (mlC (mpV 1) (mlC (mpE (mApp m__law_draw (mlC (mpV 0) (mlC (mpE (mApp fLen (mlC (mpV 1) mlN))) mlN)))) mlN))))
def x__law_pick : List CD → Option (Res × List CD) := mFnX 2 2 [] b__law_pick
def m__law_pick : MF := okOnly x__law_pick
theorem ar__law_pick : Ar 2 m__law_pick := ar_fn (W := [])
theorem arX__law_pick : ∀ cs r, x__law_pick cs = some r → cs.length = 2 := arX_fn
/-! _law_power -/
def N__law_power : List Str := ["number", "many", "found", "turn"]
def b__law_power : MS :=
    (mSeq (mAsg 2 (mC (.int 1)))
    (mSeq (mFor (mI gRng1 (mlC (mpV 1) mlN)) ([3] ++ [2]) (mgN 3) (mAsg 2 (mApp fMul (mlC (mpV 2) (mlC (mpV 0) mlN)))))
    (mRet (mTk 2))))
def x__law_power : List CD → Option (Res × List CD) := mFnX 2 4 ([2] ++ (([3] ++ [2]) ++ [])) b__law_power
def m__law_power : MF := okOnly x__law_power
theorem ar__law_power : Ar 2 m__law_power := ar_fn (W := ([2] ++ (([3] ++ [2]) ++ [])))
theorem arX__law_power : ∀ cs r, x__law_power cs = some r → cs.length = 2 := arX_fn
/-! _law_like -/
def N__law_like : List Str := ["told", "due", "one", "other"]
def o0__law_like : List (Str × Nat) := [("one", 2), ("other", 3)]
def b__law_like (self : MF) : MS :=
    (mSeq (mIf (mTst (mIsi "tuple" (mpV 1))) (mSeq (mIf (mOr (mNot (mTst (mIsi "tuple" (mpV 0)))) (mTst (mApp fNe (mlC (mpE (mApp fLen (mlC (mpV 0) mlN))) (mlC (mpE (mApp fLen (mlC (mpV 1) mlN))) mlN))))) (mRet (mC (.bool false))) mSkip)
    (mRet (mApp fAll (mlC (mpE (mLc (o0__law_like.map (·.2)) (mI gZip (mlC (mpV 0) (mlC (mpV 1) mlN))) (mgT 2 (mgsC (mgN 2) (mgsC (mgN 3) mgsN))) mYes (mApp self (mlC (mpV 2) (mlC (mpV 3) mlN))))) mlN)))) mSkip)
    (mSeq (mIf (mTst (mApp fIs (mlC (mpV 1) (mlC (mpE (mC .none)) mlN)))) (mRet (mApp fIs (mlC (mpV 0) (mlC (mpE (mC .none)) mlN)))) mSkip)
    (mSeq (mIf (mOr (mTst (mApp fNe (mlC (mpE (mIsi "int" (mpV 0))) (mlC (mpE (mIsi "int" (mpV 1))) mlN)))) (mTst (mApp fNe (mlC (mpE (mIsi "bool" (mpV 0))) (mlC (mpE (mIsi "bool" (mpV 1))) mlN))))) (mRet (mC (.bool false))) mSkip)
    (mRet (mAndV (mApp fEq (mlC (mpE (mIsi "str" (mpV 0))) (mlC (mpE (mIsi "str" (mpV 1))) mlN))) (mApp fEq (mlC (mpV 0) (mlC (mpV 1) mlN))))))))
def m__law_like : Nat → MF
  | 0 => fun _ => none
  | n + 1 => mFn 2 4 (((([] ++ []) ++ []) ++ []) ++ (([] ++ []) ++ (([] ++ []) ++ []))) (b__law_like (m__law_like n))
theorem ar__law_like : ∀ n, Ar 2 (m__law_like n)
  | 0 => fun _ _ e => by cases e
  | _ + 1 => ar_fn
/-! _law_value -/
def N__law_value : List Str := ["algebra", "pattern", "given", "at", "part"]
def b__law_value (self : MF) : MS :=
    (mSeq (mIf (mTst (mIsi "int" (mpV 1))) (mRet (mApp fIx (mlC (mpV 2) (mlC (mpV 1) mlN)))) mSkip)
    (mSeq (mAsg 3 (mC (.int 0)))
    (mSeq (mFor (mI gSeq (mlC (mpE (mSl (mpV 1) (moS (mC (.int 1))) moN)) mlN)) ([4] ++ [3]) (mgN 4) (mAsg 3 (mApp fAdd (mlC (mpE (mApp fMul (mlC (mpV 3) (mlC (mpE (mApp fIx (mlC (mpV 0) (mlC (mpE (mC (.int 0))) mlN)))) mlN)))) (mlC (mpE (mApp self (mlC (mpV 0) (mlC (mpV 4) (mlC (mpV 2) mlN))))) mlN)))))
    (mRet (mApp fIx (mlC (mpE (mApp fIx (mlC (mpE (mApp fIx (mlC (mpV 0) (mlC (mpE (mC (.int 1))) mlN)))) (mlC (mpE (mApp fIx (mlC (mpV 1) (mlC (mpE (mC (.int 0))) mlN)))) mlN)))) (mlC (mpV 3) mlN)))))))
def m__law_value : Nat → MF
  | 0 => fun _ => none
  | n + 1 => mFn 3 5 (([] ++ []) ++ ([3] ++ (([4] ++ [3]) ++ []))) (b__law_value (m__law_value n))
theorem ar__law_value : ∀ n, Ar 3 (m__law_value n)
  | 0 => fun _ _ e => by cases e
  | _ + 1 => ar_fn
/-! _law_many -/
def N__law_many : List Str := ["pattern", "found", "rest", "part"]
def b__law_many : MS :=
    (mSeq (mPar [1, 2] (mlC (mpE (mC (.int 0))) (mlC (mpE (mApp fLst (mlC (mpV 0) mlN))) mlN)))
    (mSeq (mWh (mTst (mApp fNe (mlC (mpV 2) (mlC (mpE (mApp fLst mlN)) mlN)))) (mSeq (mAsg 3 (mMth isL 2 fPop mlN))
    (mSeq (mAsg 1 (mApp fAdd (mlC (mpV 1) (mlC (mpE (mC (.int 1))) mlN))))
    (mIf (mTst (mIsi "tuple" (mpV 3))) (mExpr (mMth isL 2 fExtend (mlC (mpE (mSl (mpV 3) (moS (mC (.int 1))) moN)) mlN))) mSkip))))
    (mRet (mTk 1))))
def x__law_many : List CD → Option (Res × List CD) := mFnX 1 4 ([1, 2] ++ (([3] ++ ([1] ++ ([] ++ []))) ++ [])) b__law_many
def m__law_many : MF := okOnly x__law_many
theorem ar__law_many : Ar 1 m__law_many := ar_fn (W := ([1, 2] ++ (([3] ++ ([1] ++ ([] ++ []))) ++ [])))
theorem arX__law_many : ∀ cs r, x__law_many cs = some r → cs.length = 1 := arX_fn
/-! _law_items -/
def N__law_items : List Str := ["signature", "many", "found", "arity"]
def b__law_items : MS :=
    (mSeq (mAsg 2 (mC (.int 0)))
    (mSeq (mFor (mI gSeq (mlC (mpV 0) mlN)) ([3] ++ [2]) (mgN 3) (mAsg 2 (mApp fAdd (mlC (mpV 2) (mlC (mpE (mApp m__law_power (mlC (mpV 1) (mlC (mpV 3) mlN)))) mlN)))))
    (mRet (mTk 2))))
def x__law_items : List CD → Option (Res × List CD) := mFnX 2 4 ([2] ++ (([3] ++ [2]) ++ [])) b__law_items
def m__law_items : MF := okOnly x__law_items
theorem ar__law_items : Ar 2 m__law_items := ar_fn (W := ([2] ++ (([3] ++ [2]) ++ [])))
theorem arX__law_items : ∀ cs r, x__law_items cs = some r → cs.length = 2 := arX_fn
/-! _law_pattern -/
def N__law_pattern : List Str := ["bag", "signature", "names", "room", "fit", "symbol", "arity", "wide", "inner", "rest", "k", "part"]
def o0__law_pattern : List (Str × Nat) := [("symbol", 5), ("arity", 6)]
def o1__law_pattern : List (Str × Nat) := [("symbol", 5)]
def b__law_pattern (self : MF) : MS :=
    (mSeq (mIf (mAnd (mTst (mApp fNe (mlC (mpV 2) (mlC (mpE (mApp fLst mlN)) mlN)))) (mOr (mTst (mApp fEq (mlC (mpV 3) (mlC (mpE (mC (.int 1))) mlN)))) (mTst (mApp fEq (mlC (mpE (mApp m__law_draw (mlC (mpV 0) (mlC (mpE (mC (.int 3))) mlN)))) (mlC (mpE (mC (.int 0))) mlN)))))) (mRet (mApp m__law_pick (mlC (mpV 0) (mlC (mpV 2) mlN)))) mSkip)
    (mSeq (mAsg 4 (mLc (o0__law_pattern.map (·.2)) (mI gEn (mlC (mpV 1) mlN)) (mgT 2 (mgsC (mgN 5) (mgsC (mgN 6) mgsN))) (mTst (mApp fLt (mlC (mpV 6) (mlC (mpV 3) mlN)))) (mTk 5)))
    (mSeq (mIf (mAnd (mTst (mApp fGt (mlC (mpV 3) (mlC (mpE (mC (.int 3))) mlN)))) (mTst (mApp fGt (mlC (mpE (mApp m__law_draw (mlC (mpV 0) (mlC (mpE (mC (.int 6))) mlN)))) (mlC (mpE (mC (.int 0))) mlN))))) (mSeq (mAsg 7 (mLc (o1__law_pattern.map (·.2)) (mI gSeq (mlC (mpV 4) mlN)) (mgN 5) (mTst (mApp fGt (mlC (mpE (mApp fIx (mlC (mpV 1) (mlC (mpV 5) mlN)))) (mlC (mpE (mC (.int 0))) mlN)))) (mTk 5)))
    (mAsg 4 (mIfE (mTst (mApp fNe (mlC (mpV 7) (mlC (mpE (mApp fLst mlN)) mlN)))) (mTk 7) (mTk 4)))) mSkip)
    (mSeq (mPar [5, 8] (mlC (mpE (mApp m__law_pick (mlC (mpV 0) (mlC (mpV 4) mlN)))) (mlC (mpE (mApp fLst mlN)) mlN)))
    (mSeq (mAsg 9 (mApp fSub (mlC (mpV 3) (mlC (mpE (mC (.int 1))) mlN))))
    (mSeq (mFor (mI gRng1 (mlC (mpE (mApp fIx (mlC (mpV 1) (mlC (mpV 5) mlN)))) mlN)) ([10] ++ ([11] ++ ([9] ++ []))) (mgN 10) (mSeq (mAsg 11 (mApp self (mlC (mpV 0) (mlC (mpV 1) (mlC (mpV 2) (mlC (mpE (mApp fSub (mlC (mpV 9) (mlC (mpE (mApp fSub (mlC (mpE (mApp fSub (mlC (mpE (mApp fIx (mlC (mpV 1) (mlC (mpV 5) mlN)))) (mlC (mpV 10) mlN)))) (mlC (mpE (mC (.int 1))) mlN)))) mlN)))) mlN))))))
    (mSeq (mAsg 9 (mApp fSub (mlC (mpV 9) (mlC (mpE (mApp m__law_many (mlC (mpV 11) mlN))) mlN))))
    (mExpr (mMth isL 8 fAppend (mlC (mpV 11) mlN))))))
    (mRet (mApp fAdd (mlC (mpE (mApp fTup (mlC (mpV 5) mlN))) (mlC (mpE (mApp fTuple (mlC (mpV 8) mlN))) mlN))))))))))
def m__law_pattern : Nat → MF
  | 0 => fun _ => none
  | n + 1 => mFn 4 12 (([] ++ []) ++ ([4] ++ ((([7] ++ [4]) ++ []) ++ ([5, 8] ++ ([9] ++ (([10] ++ ([11] ++ ([9] ++ []))) ++ [])))))) (b__law_pattern (m__law_pattern n))
theorem ar__law_pattern : ∀ n, Ar 4 (m__law_pattern n)
  | 0 => fun _ _ e => by cases e
  | _ + 1 => ar_fn
/-! _law_called -/
def N__law_called : List Str := ["pattern", "names", "part"]
def o0__law_called : List (Str × Nat) := [("part", 2)]
def b__law_called (self : MF) : MS :=
    (mSeq (mIf (mTst (mIsi "int" (mpV 0))) (mRet (mIxD 1 (mTk 0))) mSkip)
    (mRet (mApp fAdd (mlC (mpE (mSl (mpV 0) moN (moS (mC (.int 1))))) (mlC (mpE (mApp fTuple (mlC (mpE (mLc (o0__law_called.map (·.2)) (mI gSeq (mlC (mpE (mSl (mpV 0) (moS (mC (.int 1))) moN)) mlN)) (mgN 2) mYes (mApp self (mlC (mpV 2) (mlC (mpV 1) mlN))))) mlN))) mlN)))))
def m__law_called : Nat → MF
  | 0 => fun _ => none
  | n + 1 => mFn 2 3 (([] ++ []) ++ []) (b__law_called (m__law_called n))
theorem ar__law_called : ∀ n, Ar 2 (m__law_called n)
  | 0 => fun _ _ e => by cases e
  | _ + 1 => ar_fn
/-! _law_variables -/
def N__law_variables : List Str := ["pattern", "found", "rest", "part"]
def b__law_variables : MS :=
    (mSeq (mPar [1, 2] (mlC (mpE (mApp fLst mlN)) (mlC (mpE (mApp fLst (mlC (mpV 0) mlN))) mlN)))
    (mSeq (mWh (mTst (mApp fNe (mlC (mpV 2) (mlC (mpE (mApp fLst mlN)) mlN)))) (mSeq (mAsg 3 (mMth isL 2 fPop mlN))
    (mIf (mTst (mIsi "tuple" (mpV 3))) (mExpr (mMth isL 2 fExtend (mlC (mpE (mSl (mpV 3) (moS (mC (.int 1))) moN)) mlN))) (mIf (mTst (mApp fNotIn (mlC (mpV 3) (mlC (mpV 1) mlN)))) (mExpr (mMth isL 1 fAppend (mlC (mpV 3) mlN))) mSkip))))
    (mRet (mTk 1))))
def x__law_variables : List CD → Option (Res × List CD) := mFnX 1 4 ([1, 2] ++ (([3] ++ ([] ++ ([] ++ []))) ++ [])) b__law_variables
def m__law_variables : MF := okOnly x__law_variables
theorem ar__law_variables : Ar 1 m__law_variables := ar_fn (W := ([1, 2] ++ (([3] ++ ([] ++ ([] ++ []))) ++ [])))
theorem arX__law_variables : ∀ cs r, x__law_variables cs = some r → cs.length = 1 := arX_fn
/-! _law_rule -/
def N__law_rule : List Str := ["bag", "signature", "most", "room", "left", "there", "names", "k", "name", "mine", "conditions"]
def b__law_rule : MS :=
    (mSeq (mAsg 4 (mApp (m__law_pattern 12) (mlC (mpV 0) (mlC (mpV 1) (mlC (mpE (mApp fLRg (mlC (mpV 2) mlN))) (mlC (mpV 3) mlN))))))
    (mSeq (mAsg 5 (mApp m__law_variables (mlC (mpV 4) mlN)))
    (mSeq (mAsg 6 mDNew)
    (mSeq (mFor (mI gEn (mlC (mpV 5) mlN)) (([7] ++ ([8] ++ [])) ++ []) (mgT 2 (mgsC (mgN 7) (mgsC (mgN 8) mgsN))) (mSetD (mTk 7) 6 (mTk 8)))
    (mSeq (mPar [4, 9, 10] (mlC (mpE (mApp (m__law_called 12) (mlC (mpV 4) (mlC (mpV 6) mlN)))) (mlC (mpE (mApp fLRg (mlC (mpE (mApp fLen (mlC (mpV 5) mlN))) mlN))) (mlC (mpE (mApp fLst mlN)) mlN))))
    (mSeq (mFor (mI gRng1 (mlC (mpE (mApp m__law_pick (mlC (mpV 0) (mlC (mpE (mApp fLst (mlC (mpE (mC (.int 0))) (mlC (mpE (mC (.int 0))) (mlC (mpE (mC (.int 1))) (mlC (mpE (mC (.int 2))) mlN)))))) mlN)))) mlN)) ([7] ++ []) (mgN 7) (mExpr (mMth isL 10 fAppend (mlC (mpE (mApp fTup (mlC (mpE (mApp (m__law_pattern 12) (mlC (mpV 0) (mlC (mpV 1) (mlC (mpV 9) (mlC (mpE (mC (.int 3))) mlN)))))) (mlC (mpE (mApp (m__law_pattern 12) (mlC (mpV 0) (mlC (mpV 1) (mlC (mpV 9) (mlC (mpE (mC (.int 3))) mlN)))))) mlN)))) mlN))))
    (mRet (mApp fTup (mlC (mpV 4) (mlC (mpE (mApp (m__law_pattern 12) (mlC (mpV 0) (mlC (mpV 1) (mlC (mpV 9) (mlC (mpV 3) mlN)))))) (mlC (mpE (mApp fTuple (mlC (mpV 10) mlN))) mlN)))))))))))
def x__law_rule : List CD → Option (Res × List CD) := mFnX 4 11 ([4] ++ ([5] ++ ([6] ++ ((([7] ++ ([8] ++ [])) ++ []) ++ ([4, 9, 10] ++ (([7] ++ []) ++ [])))))) b__law_rule
def m__law_rule : MF := okOnly x__law_rule
theorem ar__law_rule : Ar 4 m__law_rule := ar_fn (W := ([4] ++ ([5] ++ ([6] ++ ((([7] ++ ([8] ++ [])) ++ []) ++ ([4, 9, 10] ++ (([7] ++ []) ++ [])))))))
theorem arX__law_rule : ∀ cs r, x__law_rule cs = some r → cs.length = 4 := arX_fn
/-! _law_width -/
def N__law_width : List Str := ["rule", "found", "one", "other"]
def b__law_width : MS :=
    (mSeq (mAsg 1 (mApp fAdd (mlC (mpE (mApp m__law_many (mlC (mpE (mApp fIx (mlC (mpV 0) (mlC (mpE (mC (.int 0))) mlN)))) mlN))) (mlC (mpE (mApp m__law_many (mlC (mpE (mApp fIx (mlC (mpV 0) (mlC (mpE (mC (.int 1))) mlN)))) mlN))) mlN))))
    (mSeq (mFor (mI gSeq (mlC (mpE (mApp fIx (mlC (mpV 0) (mlC (mpE (mC (.int 2))) mlN)))) mlN)) (([2] ++ ([3] ++ [])) ++ [1]) (mgT 2 (mgsC (mgN 2) (mgsC (mgN 3) mgsN))) (mAsg 1 (mApp fAdd (mlC (mpE (mApp fAdd (mlC (mpV 1) (mlC (mpE (mApp m__law_many (mlC (mpV 2) mlN))) mlN)))) (mlC (mpE (mApp m__law_many (mlC (mpV 3) mlN))) mlN)))))
    (mRet (mTk 1))))
def x__law_width : List CD → Option (Res × List CD) := mFnX 1 4 ([1] ++ ((([2] ++ ([3] ++ [])) ++ [1]) ++ [])) b__law_width
def m__law_width : MF := okOnly x__law_width
theorem ar__law_width : Ar 1 m__law_width := ar_fn (W := ([1] ++ ((([2] ++ ([3] ++ [])) ++ [1]) ++ [])))
theorem arX__law_width : ∀ cs r, x__law_width cs = some r → cs.length = 1 := arX_fn
/-! _law_given -/
def N__law_given : List Str := ["number", "many", "at", "found", "turn"]
def b__law_given : MS :=
    (mSeq (mAsg 3 (mApp fTup mlN))
    (mSeq (mFor (mI gRng1 (mlC (mpV 1) mlN)) ([4] ++ ([3] ++ [2])) (mgN 4) (mSeq (mAsg 3 (mApp fAdd (mlC (mpE (mApp fTup (mlC (mpE (mApp fMod (mlC (mpE (mApp fInt (mlC (mpV 2) mlN))) (mlC (mpV 0) mlN)))) mlN))) (mlC (mpV 3) mlN))))
    (mAsg 2 (mApp fDiv (mlC (mpV 2) (mlC (mpV 0) mlN))))))
    (mRet (mTk 3))))
def x__law_given : List CD → Option (Res × List CD) := mFnX 3 5 ([3] ++ (([4] ++ ([3] ++ [2])) ++ [])) b__law_given
def m__law_given : MF := okOnly x__law_given
theorem ar__law_given : Ar 3 m__law_given := ar_fn (W := ([3] ++ (([4] ++ ([3] ++ [2])) ++ [])))
theorem arX__law_given : ∀ cs r, x__law_given cs = some r → cs.length = 3 := arX_fn
/-! _law_is_kept -/
def N__law_is_kept : List Str := ["algebra", "rule", "given", "one", "other"]
def b__law_is_kept : MS :=
    (mSeq (mFor (mI gSeq (mlC (mpE (mApp fIx (mlC (mpV 1) (mlC (mpE (mC (.int 2))) mlN)))) mlN)) (([3] ++ ([4] ++ [])) ++ ([] ++ [])) (mgT 2 (mgsC (mgN 3) (mgsC (mgN 4) mgsN))) (mIf (mTst (mApp fNe (mlC (mpE (mApp (m__law_value 12) (mlC (mpV 0) (mlC (mpV 3) (mlC (mpV 2) mlN))))) (mlC (mpE (mApp (m__law_value 12) (mlC (mpV 0) (mlC (mpV 4) (mlC (mpV 2) mlN))))) mlN)))) (mRet (mC (.bool true))) mSkip))
    (mRet (mApp fEq (mlC (mpE (mApp (m__law_value 12) (mlC (mpV 0) (mlC (mpE (mApp fIx (mlC (mpV 1) (mlC (mpE (mC (.int 0))) mlN)))) (mlC (mpV 2) mlN))))) (mlC (mpE (mApp (m__law_value 12) (mlC (mpV 0) (mlC (mpE (mApp fIx (mlC (mpV 1) (mlC (mpE (mC (.int 1))) mlN)))) (mlC (mpV 2) mlN))))) mlN)))))
def x__law_is_kept : List CD → Option (Res × List CD) := mFnX 3 5 ((([3] ++ ([4] ++ [])) ++ ([] ++ [])) ++ []) b__law_is_kept
def m__law_is_kept : MF := okOnly x__law_is_kept
theorem ar__law_is_kept : Ar 3 m__law_is_kept := ar_fn (W := ((([3] ++ ([4] ++ [])) ++ ([] ++ [])) ++ []))
theorem arX__law_is_kept : ∀ cs r, x__law_is_kept cs = some r → cs.length = 3 := arX_fn
/-! _law_broken -/
def N__law_broken : List Str := ["algebra", "rule", "many", "at", "given"]
def b__law_broken : MS :=
    (mSeq (mAsg 2 (mApp fLen (mlC (mpE (mApp m__law_variables (mlC (mpE (mApp fIx (mlC (mpV 1) (mlC (mpE (mC (.int 0))) mlN)))) mlN))) mlN)))
    (mSeq (mFor (mI gRng1 (mlC (mpE (mApp m__law_power (mlC (mpE (mApp fIx (mlC (mpV 0) (mlC (mpE (mC (.int 0))) mlN)))) (mlC (mpV 2) mlN)))) mlN)) ([3] ++ ([4] ++ ([] ++ []))) (mgN 3) (mSeq (mAsg 4 (mApp m__law_given (mlC (mpE (mApp fIx (mlC (mpV 0) (mlC (mpE (mC (.int 0))) mlN)))) (mlC (mpV 2) (mlC (mpV 3) mlN)))))
    (mIf (mNot (mTst (mApp m__law_is_kept (mlC (mpV 0) (mlC (mpV 1) (mlC (mpV 4) mlN)))))) (mRet (mTk 4)) mSkip)))
    (mRet (mC .none))))
def x__law_broken : List CD → Option (Res × List CD) := mFnX 2 5 ([2] ++ (([3] ++ ([4] ++ ([] ++ []))) ++ [])) b__law_broken
def m__law_broken : MF := okOnly x__law_broken
theorem ar__law_broken : Ar 2 m__law_broken := ar_fn (W := ([2] ++ (([3] ++ ([4] ++ ([] ++ []))) ++ [])))
theorem arX__law_broken : ∀ cs r, x__law_broken cs = some r → cs.length = 2 := arX_fn
/-! _law_spots -/
def N__law_spots : List Str := ["number", "one", "times", "arity", "found", "turn", "longer", "at", "k"]
def o0__law_spots : List (Str × Nat) := [("k", 8)]
def b__law_spots : MS :=
    (mSeq (mAsg 4 (mApp fLst (mlC (mpE (mC (.int 0))) mlN)))
    (mSeq (mFor (mI gRng1 (mlC (mpV 3) mlN)) ([5] ++ ([6] ++ (([7] ++ ([] ++ [])) ++ [4]))) (mgN 5) (mSeq (mAsg 6 (mApp fLst mlN))
    (mSeq (mFor (mI gSeq (mlC (mpV 4) mlN)) ([7] ++ ([] ++ [])) (mgN 7) (mIf (mTst (mApp fEq (mlC (mpV 2) (mlC (mpE (mC (.int 1))) mlN)))) (mExpr (mMth isL 6 fExtend (mlC (mpE (mLc (o0__law_spots.map (·.2)) (mI gRng1 (mlC (mpV 0) mlN)) (mgN 8) mYes (mApp fAdd (mlC (mpE (mApp fMul (mlC (mpV 7) (mlC (mpV 1) mlN)))) (mlC (mpE (mApp fDiv (mlC (mpV 8) (mlC (mpE (mApp fDiv (mlC (mpV 0) (mlC (mpV 1) mlN)))) mlN)))) mlN))))) mlN))) (mExpr (mMth isL 6 fExtend (mlC (mpE (mLc (o0__law_spots.map (·.2)) (mI gRng1 (mlC (mpV 0) mlN)) (mgN 8) mYes (mApp fAdd (mlC (mpE (mApp fMul (mlC (mpV 7) (mlC (mpV 1) mlN)))) (mlC (mpE (mApp fMod (mlC (mpE (mApp fInt (mlC (mpV 8) mlN))) (mlC (mpV 1) mlN)))) mlN))))) mlN)))))
    (mAsg 4 (mTk 6)))))
    (mRet (mTk 4))))
def x__law_spots : List CD → Option (Res × List CD) := mFnX 4 9 ([4] ++ (([5] ++ ([6] ++ (([7] ++ ([] ++ [])) ++ [4]))) ++ [])) b__law_spots
def m__law_spots : MF := okOnly x__law_spots
theorem ar__law_spots : Ar 4 m__law_spots := ar_fn (W := ([4] ++ (([5] ++ ([6] ++ (([7] ++ ([] ++ [])) ++ [4]))) ++ [])))
theorem arX__law_spots : ∀ cs r, x__law_spots cs = some r → cs.length = 4 := arX_fn
/-! _law_due -/
def N__law_due : List Str := ["signature", "one", "other", "number", "wide", "tables", "symbol", "arity", "firsts", "seconds", "mine", "yours", "first", "second"]
def o0__law_due : List (Str × Nat) := [("first", 12), ("second", 13)]
def b__law_due : MS :=
    (mSeq (mAsgG (mApp fTup (mlC (mpE (mApp fMul (mlC (mpE (mApp fIx (mlC (mpV 1) (mlC (mpE (mC (.int 0))) mlN)))) (mlC (mpE (mApp fIx (mlC (mpV 2) (mlC (mpE (mC (.int 0))) mlN)))) mlN)))) (mlC (mpE (mApp fIx (mlC (mpV 2) (mlC (mpE (mC (.int 0))) mlN)))) mlN))) (mgT 2 (mgsC (mgN 3) (mgsC (mgN 4) mgsN))))
    (mSeq (mIf (mTst (mApp fGt (mlC (mpV 3) (mlC (mpE (mC (.int 61))) mlN)))) (mRet (mApp fLst (mlC (mpE (mC (.int 61))) mlN))) mSkip)
    (mSeq (mIf (mTst (mApp fGt (mlC (mpE (mApp m__law_items (mlC (mpV 0) (mlC (mpV 3) mlN)))) (mlC (mpE (mC (.int 2000))) mlN)))) (mRet (mApp fLst (mlC (mpE (mC (.int 2000))) mlN))) mSkip)
    (mSeq (mAsg 5 (mApp fLst mlN))
    (mSeq (mFor (mI gEn (mlC (mpV 0) mlN)) (([6] ++ ([7] ++ [])) ++ ([8, 9] ++ (([10] ++ ([11] ++ [])) ++ []))) (mgT 2 (mgsC (mgN 6) (mgsC (mgN 7) mgsN))) (mSeq (mPar [8, 9] (mlC (mpE (mApp m__law_spots (mlC (mpV 3) (mlC (mpE (mApp fIx (mlC (mpV 1) (mlC (mpE (mC (.int 0))) mlN)))) (mlC (mpE (mC (.int 1))) (mlC (mpV 7) mlN)))))) (mlC (mpE (mApp m__law_spots (mlC (mpV 3) (mlC (mpV 4) (mlC (mpE (mC (.int 2))) (mlC (mpV 7) mlN)))))) mlN)))
    (mSeq (mAsgG (mApp fTup (mlC (mpE (mApp fIx (mlC (mpE (mApp fIx (mlC (mpV 1) (mlC (mpE (mC (.int 1))) mlN)))) (mlC (mpV 6) mlN)))) (mlC (mpE (mApp fIx (mlC (mpE (mApp fIx (mlC (mpV 2) (mlC (mpE (mC (.int 1))) mlN)))) (mlC (mpV 6) mlN)))) mlN))) (mgT 2 (mgsC (mgN 10) (mgsC (mgN 11) mgsN))))
    (mExpr (mMth isL 5 fAppend (mlC (mpE (mApp fTuple (mlC (mpE (mLc (o0__law_due.map (·.2)) (mI gZip (mlC (mpV 8) (mlC (mpV 9) mlN))) (mgT 2 (mgsC (mgN 12) (mgsC (mgN 13) mgsN))) mYes (mApp fAdd (mlC (mpE (mApp fMul (mlC (mpE (mApp fIx (mlC (mpV 10) (mlC (mpV 12) mlN)))) (mlC (mpV 4) mlN)))) (mlC (mpE (mApp fIx (mlC (mpV 11) (mlC (mpV 13) mlN)))) mlN))))) mlN))) mlN))))))
    (mRet (mApp fTup (mlC (mpV 3) (mlC (mpE (mApp fTuple (mlC (mpV 5) mlN))) mlN)))))))))
def x__law_due : List CD → Option (Res × List CD) := mFnX 3 14 (([3] ++ ([4] ++ [])) ++ (([] ++ []) ++ (([] ++ []) ++ ([5] ++ ((([6] ++ ([7] ++ [])) ++ ([8, 9] ++ (([10] ++ ([11] ++ [])) ++ []))) ++ []))))) b__law_due
def m__law_due : MF := okOnly x__law_due
theorem ar__law_due : Ar 3 m__law_due := ar_fn (W := (([3] ++ ([4] ++ [])) ++ (([] ++ []) ++ (([] ++ []) ++ ([5] ++ ((([6] ++ ([7] ++ [])) ++ ([8, 9] ++ (([10] ++ ([11] ++ [])) ++ []))) ++ []))))))
theorem arX__law_due : ∀ cs r, x__law_due cs = some r → cs.length = 3 := arX_fn
/-! _law_told -/
def N__law_told : List Str := ["signature", "one", "other", "is_named", "error"]
def b__law_told : MS :=
    (mTry 4 "TooMany" (mRetX (mIfX (mTst (mTk 3)) (mAppX (rev3 x_product) (mlC (mpV 2) (mlC (mpV 1) (mlC (mpV 0) mlN)))) (mAppX x_product (mlC (mpV 0) (mlC (mpV 1) (mlC (mpV 2) mlN)))))) (fun d Γ => some (.lst [d], Γ)))
def x__law_told : List CD → Option (Res × List CD) := mFnX 4 5 ([] ++ [4]) b__law_told
def m__law_told : MF := okOnly x__law_told
theorem ar__law_told : Ar 4 m__law_told := ar_fn (W := ([] ++ [4]))
theorem arX__law_told : ∀ cs r, x__law_told cs = some r → cs.length = 4 := arX_fn
/-! _law_is_product_right -/
def N__law_is_product_right : List Str := ["signature", "one", "other", "is_named", "due", "kept", "told"]
def b__law_is_product_right : MS :=
    (mSeq (mPar [4, 5] (mlC (mpE (mApp m__law_due (mlC (mpV 0) (mlC (mpV 1) (mlC (mpV 2) mlN))))) (mlC (mpE (mApp fRepr (mlC (mpE (mApp fLst (mlC (mpV 0) (mlC (mpV 1) (mlC (mpV 2) mlN))))) mlN))) mlN)))
    (mSeq (mAsg 6 (mApp m__law_told (mlC (mpV 0) (mlC (mpV 1) (mlC (mpV 2) (mlC (mpV 3) mlN))))))
    (mSeq (mIf (mTst (mApp fNe (mlC (mpE (mApp fRepr (mlC (mpE (mApp fLst (mlC (mpV 0) (mlC (mpV 1) (mlC (mpV 2) mlN))))) mlN))) (mlC (mpV 5) mlN)))) (mRet (mC (.bool false))) mSkip)
    (mSeq (mIf (mTst (mIsi "list" (mpV 4))) (mRet (mAndV (mIsi "list" (mpV 6)) (mApp fEq (mlC (mpV 6) (mlC (mpV 4) mlN))))) mSkip)
    (mRet (mApp (m__law_like 6) (mlC (mpV 6) (mlC (mpV 4) mlN))))))))
def x__law_is_product_right : List CD → Option (Res × List CD) := mFnX 4 7 ([4, 5] ++ ([6] ++ (([] ++ []) ++ (([] ++ []) ++ [])))) b__law_is_product_right
def m__law_is_product_right : MF := okOnly x__law_is_product_right
theorem ar__law_is_product_right : Ar 4 m__law_is_product_right := ar_fn (W := ([4, 5] ++ ([6] ++ (([] ++ []) ++ (([] ++ []) ++ [])))))
theorem arX__law_is_product_right : ∀ cs r, x__law_is_product_right cs = some r → cs.length = 4 := arX_fn
/-! _law_signature -/
def N__law_signature : List Str := ["bag", "most", "many", "row", "turn"]
def o0__law_signature : List (Str × Nat) := [("turn", 4)]
def b__law_signature : MS :=
    (mSeq (mAsg 2 (mApp fAdd (mlC (mpE (mC (.int 1))) (mlC (mpE (mApp m__law_draw (mlC (mpV 0) (mlC (mpE (mC (.int 6))) mlN)))) mlN))))
    (mSeq (mAsg 3 (mLc (o0__law_signature.map (·.2)) (mI gRng1 (mlC (mpV 2) mlN)) (mgN 4) mYes (mApp m__law_draw (mlC (mpV 0) (mlC (mpE (mApp fAdd (mlC (mpV 1) (mlC (mpE (mC (.int 1))) mlN)))) mlN)))))
    (mSeq (mSetL (mC (.int 0)) 3 (mApp m__law_draw (mlC (mpV 0) (mlC (mpV 2) mlN))))
    (mRet (mApp fTuple (mlC (mpV 3) mlN))))))
def x__law_signature : List CD → Option (Res × List CD) := mFnX 2 5 ([2] ++ ([3] ++ ([] ++ []))) b__law_signature
def m__law_signature : MF := okOnly x__law_signature
theorem ar__law_signature : Ar 2 m__law_signature := ar_fn (W := ([2] ++ ([3] ++ ([] ++ []))))
theorem arX__law_signature : ∀ cs r, x__law_signature cs = some r → cs.length = 2 := arX_fn
/-! _law_algebra -/
def N__law_algebra : List Str := ["bag", "signature", "number", "tables", "way", "arity", "row", "turn", "k"]
def o0__law_algebra : List (Str × Nat) := [("turn", 7)]
def o1__law_algebra : List (Str × Nat) := [("k", 8)]
def b__law_algebra : MS :=
    (mSeq (mPar [3, 4] (mlC (mpE (mApp fLst mlN)) (mlC (mpE (mApp m__law_draw (mlC (mpV 0) (mlC (mpE (mC (.int 3))) mlN)))) mlN)))
    (mSeq (mFor (mI gSeq (mlC (mpV 1) mlN)) ([5] ++ ([6] ++ ((([6] ++ []) ++ []) ++ []))) (mgN 5) (mSeq (mAsg 6 (mLc (o0__law_algebra.map (·.2)) (mI gRng1 (mlC (mpE (mApp m__law_power (mlC (mpV 2) (mlC (mpV 5) mlN)))) mlN)) (mgN 7) mYes (mApp m__law_draw (mlC (mpV 0) (mlC (mpV 2) mlN)))))
    (mSeq (mIf (mAnd (mTst (mApp fEq (mlC (mpV 4) (mlC (mpE (mC (.int 0))) mlN)))) (mTst (mApp fGt (mlC (mpV 5) (mlC (mpE (mC (.int 0))) mlN))))) (mSeq (mAsg 6 (mLc (o1__law_algebra.map (·.2)) (mI gRng1 (mlC (mpE (mApp fLen (mlC (mpV 6) mlN))) mlN)) (mgN 8) mYes (mApp fDiv (mlC (mpE (mApp fMul (mlC (mpV 8) (mlC (mpV 2) mlN)))) (mlC (mpE (mApp fLen (mlC (mpV 6) mlN))) mlN)))))
    (mSetL (mApp m__law_draw (mlC (mpV 0) (mlC (mpV 2) mlN))) 6 (mApp m__law_draw (mlC (mpV 0) (mlC (mpE (mApp fLen (mlC (mpV 6) mlN))) mlN))))) mSkip)
    (mExpr (mMth isL 3 fAppend (mlC (mpE (mApp fTuple (mlC (mpV 6) mlN))) mlN))))))
    (mRet (mApp fTup (mlC (mpV 2) (mlC (mpE (mApp fTuple (mlC (mpV 3) mlN))) mlN))))))
def x__law_algebra : List CD → Option (Res × List CD) := mFnX 3 9 ([3, 4] ++ (([5] ++ ([6] ++ ((([6] ++ []) ++ []) ++ []))) ++ [])) b__law_algebra
def m__law_algebra : MF := okOnly x__law_algebra
theorem ar__law_algebra : Ar 3 m__law_algebra := ar_fn (W := ([3, 4] ++ (([5] ++ ([6] ++ ((([6] ++ []) ++ []) ++ []))) ++ [])))
theorem arX__law_algebra : ∀ cs r, x__law_algebra cs = some r → cs.length = 3 := arX_fn
/-! _law_small -/
def N__law_small : List Str := ["bag", "signature", "one", "other"]
def b__law_small : MS :=
    (mSeq (mPar [2, 3] (mlC (mpE (mApp fAdd (mlC (mpE (mC (.int 1))) (mlC (mpE (mApp m__law_draw (mlC (mpV 0) (mlC (mpE (mC (.int 4))) mlN)))) mlN)))) (mlC (mpE (mApp fAdd (mlC (mpE (mC (.int 1))) (mlC (mpE (mApp m__law_draw (mlC (mpV 0) (mlC (mpE (mC (.int 4))) mlN)))) mlN)))) mlN)))
    (mSeq (mWh (mTst (mApp fGt (mlC (mpE (mApp m__law_items (mlC (mpV 1) (mlC (mpE (mApp fMul (mlC (mpV 2) (mlC (mpV 3) mlN)))) mlN)))) (mlC (mpE (mC (.int 400))) mlN)))) (mIf (mTst (mApp fGt (mlC (mpV 2) (mlC (mpV 3) mlN)))) (mAsg 2 (mApp fSub (mlC (mpV 2) (mlC (mpE (mC (.int 1))) mlN)))) (mAsg 3 (mApp fSub (mlC (mpV 3) (mlC (mpE (mC (.int 1))) mlN))))))
    (mRet (mApp fLst (mlC (mpE (mApp m__law_algebra (mlC (mpV 0) (mlC (mpV 1) (mlC (mpV 2) mlN))))) (mlC (mpE (mApp m__law_algebra (mlC (mpV 0) (mlC (mpV 1) (mlC (mpV 3) mlN))))) mlN))))))
def x__law_small : List CD → Option (Res × List CD) := mFnX 2 4 ([2, 3] ++ (([2] ++ [3]) ++ [])) b__law_small
def m__law_small : MF := okOnly x__law_small
theorem ar__law_small : Ar 2 m__law_small := ar_fn (W := ([2, 3] ++ (([2] ++ [3]) ++ [])))
theorem arX__law_small : ∀ cs r, x__law_small cs = some r → cs.length = 2 := arX_fn
/-! _law_great -/
def N__law_great : List Str := ["bag", "signature", "number", "tables", "arity", "first", "second", "third", "row", "k"]
def o0__law_great : List (Str × Nat) := [("k", 9)]
def b__law_great : MS :=
    (mSeq (mAsg 3 (mApp fLst mlN))
    (mSeq (mFor (mI gSeq (mlC (mpV 1) mlN)) ([4] ++ (([5] ++ ([6] ++ ([7] ++ []))) ++ ([8] ++ []))) (mgN 4) (mSeq (mAsgG (mApp fTup (mlC (mpE (mApp m__law_draw (mlC (mpV 0) (mlC (mpV 2) mlN)))) (mlC (mpE (mApp m__law_draw (mlC (mpV 0) (mlC (mpE (mC (.int 97))) mlN)))) (mlC (mpE (mApp m__law_draw (mlC (mpV 0) (mlC (mpE (mC (.int 89))) mlN)))) mlN)))) (mgT 3 (mgsC (mgN 5) (mgsC (mgN 6) (mgsC (mgN 7) mgsN)))))
    (mSeq (mAsg 8 (mLc (o0__law_great.map (·.2)) (mI gRng1 (mlC (mpE (mApp m__law_power (mlC (mpV 2) (mlC (mpV 4) mlN)))) mlN)) (mgN 9) mYes (mApp fMod (mlC (mpE (mApp fInt (mlC (mpE (mApp fAdd (mlC (mpE (mApp fAdd (mlC (mpV 5) (mlC (mpE (mApp fMul (mlC (mpV 9) (mlC (mpV 6) mlN)))) mlN)))) (mlC (mpE (mApp fMul (mlC (mpE (mApp fDiv (mlC (mpV 9) (mlC (mpV 2) mlN)))) (mlC (mpV 7) mlN)))) mlN)))) mlN))) (mlC (mpV 2) mlN)))))
    (mExpr (mMth isL 3 fAppend (mlC (mpE (mApp fTuple (mlC (mpV 8) mlN))) mlN))))))
    (mRet (mApp fTup (mlC (mpV 2) (mlC (mpE (mApp fTuple (mlC (mpV 3) mlN))) mlN))))))
def x__law_great : List CD → Option (Res × List CD) := mFnX 3 10 ([3] ++ (([4] ++ (([5] ++ ([6] ++ ([7] ++ []))) ++ ([8] ++ []))) ++ [])) b__law_great
def m__law_great : MF := okOnly x__law_great
theorem ar__law_great : Ar 3 m__law_great := ar_fn (W := ([3] ++ (([4] ++ (([5] ++ ([6] ++ ([7] ++ []))) ++ ([8] ++ []))) ++ [])))
theorem arX__law_great : ∀ cs r, x__law_great cs = some r → cs.length = 3 := arX_fn
/-! _law_any_pair -/
def N__law_any_pair : List Str := ["bag", "signature", "top", "one"]
def b__law_any_pair : MS :=
    (mSeq (mAsg 1 (mApp m__law_signature (mlC (mpV 0) (mlC (mpE (mApp m__law_pick (mlC (mpV 0) (mlC (mpE (mApp fLst (mlC (mpE (mC (.int 1))) (mlC (mpE (mC (.int 2))) (mlC (mpE (mC (.int 3))) mlN))))) mlN)))) mlN))))
    (mSeq (mAsg 2 (mC (.int 61)))
    (mSeq (mWh (mTst (mApp fGt (mlC (mpE (mApp m__law_items (mlC (mpV 1) (mlC (mpV 2) mlN)))) (mlC (mpE (mC (.int 2000))) mlN)))) (mAsg 2 (mApp fSub (mlC (mpV 2) (mlC (mpE (mC (.int 1))) mlN)))))
    (mSeq (mAsg 3 (mApp fAdd (mlC (mpE (mC (.int 1))) (mlC (mpE (mApp m__law_draw (mlC (mpV 0) (mlC (mpE (mApp fMin2 (mlC (mpE (mC (.int 8))) (mlC (mpV 2) mlN)))) mlN)))) mlN))))
    (mRet (mApp fTup (mlC (mpV 1) (mlC (mpV 3) (mlC (mpE (mApp fMax2 (mlC (mpE (mC (.int 1))) (mlC (mpE (mApp fMin2 (mlC (mpV 2) (mlC (mpE (mApp fAdd (mlC (mpE (mApp fDiv (mlC (mpV 2) (mlC (mpV 3) mlN)))) (mlC (mpE (mApp m__law_pick (mlC (mpV 0) (mlC (mpE (mApp fLst (mlC (mpE (mC (.int 0))) (mlC (mpE (mC (.int 1))) (mlC (mpE (mC (.int 1))) (mlC (mpE (mC (.int 2))) mlN)))))) mlN)))) mlN)))) mlN)))) mlN)))) mlN)))))))))
def x__law_any_pair : List CD → Option (Res × List CD) := mFnX 1 4 ([1] ++ ([2] ++ ([2] ++ ([3] ++ [])))) b__law_any_pair
def m__law_any_pair : MF := okOnly x__law_any_pair
theorem ar__law_any_pair : Ar 1 m__law_any_pair := ar_fn (W := ([1] ++ ([2] ++ ([2] ++ ([3] ++ [])))))
theorem arX__law_any_pair : ∀ cs r, x__law_any_pair cs = some r → cs.length = 1 := arX_fn
/-! _law_are_limits_right -/
def N__law_are_limits_right : List Str := ["bag", "within", "beyond", "some", "signature", "one", "other", "at", "first", "second"]
def b__law_are_limits_right : MS :=
    (mSeq (mAsg 1 (mApp fLst (mlC (mpE (mApp fTup (mlC (mpE (mApp fTup (mlC (mpE (mC (.int 0))) (mlC (mpE (mC (.int 1))) (mlC (mpE (mC (.int 2))) mlN))))) (mlC (mpE (mC (.int 4))) (mlC (mpE (mC (.int 11))) mlN))))) (mlC (mpE (mApp fTup (mlC (mpE (mApp fTup (mlC (mpE (mC (.int 0))) (mlC (mpE (mC (.int 2))) mlN)))) (mlC (mpE (mC (.int 2))) (mlC (mpE (mC (.int 22))) mlN))))) (mlC (mpE (mApp fTup (mlC (mpE (mApp fTup (mlC (mpE (mC (.int 0))) (mlC (mpE (mC (.int 1))) (mlC (mpE (mC (.int 2))) mlN))))) (mlC (mpE (mC (.int 1))) (mlC (mpE (mC (.int 44))) mlN))))) (mlC (mpE (mApp fTup (mlC (mpE (mApp fTup (mlC (mpE (mC (.int 0))) (mlC (mpE (mC (.int 1))) mlN)))) (mlC (mpE (mC (.int 1))) (mlC (mpE (mC (.int 61))) mlN))))) (mlC (mpE (mApp fTup (mlC (mpE (mApp fTup (mlC (mpE (mC (.int 0))) (mlC (mpE (mC (.int 1))) (mlC (mpE (mC (.int 1))) mlN))))) (mlC (mpE (mC (.int 1))) (mlC (mpE (mC (.int 61))) mlN))))) (mlC (mpE (mApp fTup (mlC (mpE (mApp fTup (mlC (mpE (mC (.int 0))) (mlC (mpE (mC (.int 0))) (mlC (mpE (mC (.int 1))) mlN))))) (mlC (mpE (mC (.int 6))) (mlC (mpE (mC (.int 10))) mlN))))) (mlC (mpE (mApp fTup (mlC (mpE (mApp fTup (mlC (mpE (mC (.int 0))) (mlC (mpE (mC (.int 3))) mlN)))) (mlC (mpE (mC (.int 3))) (mlC (mpE (mC (.int 4))) mlN))))) (mlC (mpE (mApp fTup (mlC (mpE (mApp fTup (mlC (mpE (mC (.int 0))) (mlC (mpE (mC (.int 0))) (mlC (mpE (mC (.int 1))) (mlC (mpE (mC (.int 1))) (mlC (mpE (mC (.int 2))) (mlC (mpE (mC (.int 2))) mlN)))))))) (mlC (mpE (mC (.int 1))) (mlC (mpE (mC (.int 31))) mlN))))) (mlC (mpE (mApp fTup (mlC (mpE (mApp fTup (mlC (mpE (mC (.int 0))) (mlC (mpE (mC (.int 1))) mlN)))) (mlC (mpE (mC (.int 5))) (mlC (mpE (mC (.int 12))) mlN))))) (mlC (mpE (mApp fTup (mlC (mpE (mApp fTup (mlC (mpE (mC (.int 0))) (mlC (mpE (mC (.int 0))) (mlC (mpE (mC (.int 1))) (mlC (mpE (mC (.int 1))) (mlC (mpE (mC (.int 1))) (mlC (mpE (mC (.int 1))) mlN)))))))) (mlC (mpE (mC (.int 1))) (mlC (mpE (mC (.int 61))) mlN))))) (mlC (mpE (mApp m__law_any_pair (mlC (mpV 0) mlN))) mlN)))))))))))))
    (mSeq (mAsg 2 (mApp fLst (mlC (mpE (mApp fTup (mlC (mpE (mApp fTup (mlC (mpE (mC (.int 0))) (mlC (mpE (mC (.int 1))) mlN)))) (mlC (mpE (mC (.int 2))) (mlC (mpE (mC (.int 31))) mlN))))) (mlC (mpE (mApp fTup (mlC (mpE (mApp fTup (mlC (mpE (mC (.int 0))) (mlC (mpE (mC (.int 1))) (mlC (mpE (mC (.int 1))) mlN))))) (mlC (mpE (mC (.int 2))) (mlC (mpE (mC (.int 31))) mlN))))) (mlC (mpE (mApp fTup (mlC (mpE (mApp fTup (mlC (mpE (mC (.int 0))) (mlC (mpE (mC (.int 0))) (mlC (mpE (mC (.int 1))) mlN))))) (mlC (mpE (mC (.int 7))) (mlC (mpE (mC (.int 9))) mlN))))) (mlC (mpE (mApp fTup (mlC (mpE (mApp fTup (mlC (mpE (mC (.int 0))) (mlC (mpE (mC (.int 1))) mlN)))) (mlC (mpE (mC (.int 8))) (mlC (mpE (mC (.int 8))) mlN))))) (mlC (mpE (mApp fTup (mlC (mpE (mApp fTup (mlC (mpE (mC (.int 0))) (mlC (mpE (mC (.int 2))) mlN)))) (mlC (mpE (mC (.int 8))) (mlC (mpE (mC (.int 8))) mlN))))) (mlC (mpE (mApp fTup (mlC (mpE (mApp fTup (mlC (mpE (mC (.int 0))) (mlC (mpE (mC (.int 1))) (mlC (mpE (mC (.int 2))) mlN))))) (mlC (mpE (mC (.int 7))) (mlC (mpE (mC (.int 10))) mlN))))) (mlC (mpE (mApp fTup (mlC (mpE (mApp fTup (mlC (mpE (mC (.int 0))) (mlC (mpE (mC (.int 2))) mlN)))) (mlC (mpE (mC (.int 5))) (mlC (mpE (mC (.int 9))) mlN))))) (mlC (mpE (mApp fTup (mlC (mpE (mApp fTup (mlC (mpE (mC (.int 0))) (mlC (mpE (mC (.int 0))) (mlC (mpE (mC (.int 2))) mlN))))) (mlC (mpE (mC (.int 3))) (mlC (mpE (mC (.int 15))) mlN))))) (mlC (mpE (mApp fTup (mlC (mpE (mApp fTup (mlC (mpE (mC (.int 0))) (mlC (mpE (mC (.int 3))) (mlC (mpE (mC (.int 3))) mlN))))) (mlC (mpE (mC (.int 2))) (mlC (mpE (mC (.int 5))) mlN))))) (mlC (mpE (mApp fTup (mlC (mpE (mApp fTup (mlC (mpE (mC (.int 0))) (mlC (mpE (mC (.int 2))) (mlC (mpE (mC (.int 2))) (mlC (mpE (mC (.int 2))) (mlC (mpE (mC (.int 2))) (mlC (mpE (mC (.int 2))) mlN)))))))) (mlC (mpE (mC (.int 4))) (mlC (mpE (mC (.int 5))) mlN))))) (mlC (mpE (mApp fTup (mlC (mpE (mApp fTup (mlC (mpE (mC (.int 0))) (mlC (mpE (mC (.int 2))) (mlC (mpE (mC (.int 2))) mlN))))) (mlC (mpE (mC (.int 4))) (mlC (mpE (mC (.int 8))) mlN))))) (mlC (mpE (mApp fTup (mlC (mpE (mApp fTup (mlC (mpE (mC (.int 0))) (mlC (mpE (mC (.int 3))) mlN)))) (mlC (mpE (mC (.int 2))) (mlC (mpE (mC (.int 7))) mlN))))) (mlC (mpE (mApp m__law_any_pair (mlC (mpV 0) mlN))) mlN)))))))))))))))
    (mSeq (mFor2 3 1 2 (mSeq (mAsgG (mApp m__law_pick (mlC (mpV 0) (mlC (mpV 3) mlN))) (mgT 3 (mgsC (mgN 4) (mgsC (mgN 5) (mgsC (mgN 6) mgsN)))))
    (mSeq (mAsg 7 (mApp m__law_draw (mlC (mpV 0) (mlC (mpE (mApp fLen (mlC (mpV 4) mlN))) mlN))))
    (mSeq (mAsg 4 (mApp fAdd (mlC (mpE (mSl (mpV 4) (moS (mTk 7)) moN)) (mlC (mpE (mSl (mpV 4) moN (moS (mTk 7)))) mlN))))
    (mSeq (mIf (mTst (mApp fEq (mlC (mpE (mApp m__law_draw (mlC (mpV 0) (mlC (mpE (mC (.int 2))) mlN)))) (mlC (mpE (mC (.int 0))) mlN)))) (mPar [5, 6] (mlC (mpV 6) (mlC (mpV 5) mlN))) mSkip)
    (mSeq (mPar [8, 9] (mlC (mpE (mApp m__law_great (mlC (mpV 0) (mlC (mpV 4) (mlC (mpV 5) mlN))))) (mlC (mpE (mApp m__law_great (mlC (mpV 0) (mlC (mpV 4) (mlC (mpV 6) mlN))))) mlN)))
    (mIf (mNot (mTst (mApp m__law_is_product_right (mlC (mpV 4) (mlC (mpV 8) (mlC (mpV 9) (mlC (mpE (mApp fEq (mlC (mpE (mApp m__law_draw (mlC (mpV 0) (mlC (mpE (mC (.int 2))) mlN)))) (mlC (mpE (mC (.int 0))) mlN)))) mlN))))))) (mRet (mC (.bool false))) mSkip)))))))
    (mRet (mC (.bool true))))))
def x__law_are_limits_right : List CD → Option (Res × List CD) := mFnX 1 10 ([1] ++ ([2] ++ (([3] ++ (([4] ++ ([5] ++ ([6] ++ []))) ++ ([7] ++ ([4] ++ (([5, 6] ++ []) ++ ([8, 9] ++ ([] ++ []))))))) ++ []))) b__law_are_limits_right
def m__law_are_limits_right : MF := okOnly x__law_are_limits_right
theorem ar__law_are_limits_right : Ar 1 m__law_are_limits_right := ar_fn (W := ([1] ++ ([2] ++ (([3] ++ (([4] ++ ([5] ++ ([6] ++ []))) ++ ([7] ++ ([4] ++ (([5, 6] ++ []) ++ ([8, 9] ++ ([] ++ []))))))) ++ []))))
theorem arX__law_are_limits_right : ∀ cs r, x__law_are_limits_right cs = some r → cs.length = 1 := arX_fn
/-! _law_are_values_right -/
def N__law_are_values_right : List Str := ["bag", "signature", "one", "other", "told", "terms", "turn", "values", "term", "value"]
def o0__law_are_values_right : List (Str × Nat) := [("turn", 6)]
def o1__law_are_values_right : List (Str × Nat) := [("term", 8)]
def b__law_are_values_right : MS :=
    (mSeq (mAsg 5 (mLc (o0__law_are_values_right.map (·.2)) (mI gRng1 (mlC (mpE (mC (.int 4))) mlN)) (mgN 6) mYes (mApp (m__law_pattern 12) (mlC (mpV 0) (mlC (mpV 1) (mlC (mpE (mApp fLst mlN)) (mlC (mpE (mApp fAdd (mlC (mpE (mC (.int 1))) (mlC (mpE (mApp m__law_draw (mlC (mpV 0) (mlC (mpE (mC (.int 8))) mlN)))) mlN)))) mlN)))))))
    (mSeq (mAsg 7 (mLc (o1__law_are_values_right.map (·.2)) (mI gSeq (mlC (mpV 5) mlN)) (mgN 8) mYes (mApp m_value_of (mlC (mpV 4) (mlC (mpV 8) mlN)))))
    (mSeq (mFor (mI gZip (mlC (mpV 5) (mlC (mpV 7) mlN))) (([8] ++ ([9] ++ [])) ++ ([] ++ [])) (mgT 2 (mgsC (mgN 8) (mgsC (mgN 9) mgsN))) (mIf (mNot (mTst (mApp (m__law_like 6) (mlC (mpV 9) (mlC (mpE (mApp fAdd (mlC (mpE (mApp fMul (mlC (mpE (mApp (m__law_value 12) (mlC (mpV 2) (mlC (mpV 8) (mlC (mpE (mApp fTup mlN)) mlN))))) (mlC (mpE (mApp fIx (mlC (mpV 3) (mlC (mpE (mC (.int 0))) mlN)))) mlN)))) (mlC (mpE (mApp (m__law_value 12) (mlC (mpV 3) (mlC (mpV 8) (mlC (mpE (mApp fTup mlN)) mlN))))) mlN)))) mlN))))) (mRet (mC (.bool false))) mSkip))
    (mRet (mC (.bool true))))))
def x__law_are_values_right : List CD → Option (Res × List CD) := mFnX 5 10 ([5] ++ ([7] ++ ((([8] ++ ([9] ++ [])) ++ ([] ++ [])) ++ []))) b__law_are_values_right
def m__law_are_values_right : MF := okOnly x__law_are_values_right
theorem ar__law_are_values_right : Ar 5 m__law_are_values_right := ar_fn (W := ([5] ++ ([7] ++ ((([8] ++ ([9] ++ [])) ++ ([] ++ [])) ++ []))))
theorem arX__law_are_values_right : ∀ cs r, x__law_are_values_right cs = some r → cs.length = 5 := arX_fn
/-! _law_both_rule -/
def N__law_both_rule : List Str := ["bag", "signature", "one", "other", "rule", "turn"]
def b__law_both_rule : MS :=
    (mSeq (mAsg 4 (mApp m__law_rule (mlC (mpV 0) (mlC (mpV 1) (mlC (mpE (mC (.int 2))) (mlC (mpE (mC (.int 5))) mlN))))))
    (mSeq (mFor (mI gRng1 (mlC (mpE (mC (.int 6))) mlN)) ([5] ++ ([4] ++ [])) (mgN 5) (mIf (mOr (mTst (mApp fEq (mlC (mpE (mApp fIx (mlC (mpV 4) (mlC (mpE (mC (.int 0))) mlN)))) (mlC (mpE (mApp fIx (mlC (mpV 4) (mlC (mpE (mC (.int 1))) mlN)))) mlN)))) (mOr (mTst (mApp fIsN (mlC (mpE (mApp m__law_broken (mlC (mpV 2) (mlC (mpV 4) mlN)))) (mlC (mpE (mC .none)) mlN)))) (mTst (mApp fIsN (mlC (mpE (mApp m__law_broken (mlC (mpV 3) (mlC (mpV 4) mlN)))) (mlC (mpE (mC .none)) mlN)))))) (mAsg 4 (mApp m__law_rule (mlC (mpV 0) (mlC (mpV 1) (mlC (mpE (mC (.int 2))) (mlC (mpE (mC (.int 5))) mlN)))))) mSkip))
    (mRet (mTk 4))))
def x__law_both_rule : List CD → Option (Res × List CD) := mFnX 4 6 ([4] ++ (([5] ++ ([4] ++ [])) ++ [])) b__law_both_rule
def m__law_both_rule : MF := okOnly x__law_both_rule
theorem ar__law_both_rule : Ar 4 m__law_both_rule := ar_fn (W := ([4] ++ (([5] ++ ([4] ++ [])) ++ [])))
theorem arX__law_both_rule : ∀ cs r, x__law_both_rule cs = some r → cs.length = 4 := arX_fn
/-! _law_are_rules_right -/
def N__law_are_rules_right : List Str := ["bag", "signature", "one", "other", "told", "due", "turn", "rule", "broken", "is_both"]
def b__law_are_rules_right : MS :=
    (mSeq (mFor (mI gRng1 (mlC (mpE (mC (.int 4))) mlN)) ([6] ++ ([7] ++ (([7] ++ []) ++ (([8] ++ ([9] ++ (([] ++ []) ++ (([] ++ []) ++ ([] ++ []))))) ++ [])))) (mgN 6) (mSeq (mAsg 7 (mApp m__law_rule (mlC (mpV 0) (mlC (mpV 1) (mlC (mpE (mC (.int 2))) (mlC (mpE (mC (.int 5))) mlN))))))
    (mSeq (mIf (mTst (mApp fLt (mlC (mpV 6) (mlC (mpE (mC (.int 2))) mlN)))) (mAsg 7 (mApp m__law_both_rule (mlC (mpV 0) (mlC (mpV 1) (mlC (mpV 2) (mlC (mpV 3) mlN)))))) mSkip)
    (mIf (mTst (mApp fLe (mlC (mpE (mApp fMul (mlC (mpE (mApp m__law_power (mlC (mpE (mApp fIx (mlC (mpV 5) (mlC (mpE (mC (.int 0))) mlN)))) (mlC (mpE (mApp fLen (mlC (mpE (mApp m__law_variables (mlC (mpE (mApp fIx (mlC (mpV 7) (mlC (mpE (mC (.int 0))) mlN)))) mlN))) mlN))) mlN)))) (mlC (mpE (mApp m__law_width (mlC (mpV 7) mlN))) mlN)))) (mlC (mpE (mC (.int 450))) mlN)))) (mSeq (mAsg 8 (mApp m__law_broken (mlC (mpV 5) (mlC (mpV 7) mlN))))
    (mSeq (mAsg 9 (mAndV (mApp fIs (mlC (mpE (mApp m__law_broken (mlC (mpV 2) (mlC (mpV 7) mlN)))) (mlC (mpE (mC .none)) mlN))) (mApp fIs (mlC (mpE (mApp m__law_broken (mlC (mpV 3) (mlC (mpV 7) mlN)))) (mlC (mpE (mC .none)) mlN)))))
    (mSeq (mIf (mAnd (mTst (mTk 9)) (mTst (mApp fIsN (mlC (mpV 8) (mlC (mpE (mC .none)) mlN))))) (mRet (mC (.bool false))) mSkip)
    (mSeq (mIf (mAnd (mTst (mApp fEq (mlC (mpE (mApp fIx (mlC (mpV 7) (mlC (mpE (mC (.int 2))) mlN)))) (mlC (mpE (mApp fTup mlN)) mlN)))) (mTst (mApp fNe (mlC (mpV 9) (mlC (mpE (mApp fIs (mlC (mpV 8) (mlC (mpE (mC .none)) mlN)))) mlN))))) (mRet (mC (.bool false))) mSkip)
    (mIf (mNot (mTst (mApp (m__law_like 6) (mlC (mpE (mApp m_breaks (mlC (mpV 4) (mlC (mpV 7) mlN)))) (mlC (mpV 8) mlN))))) (mRet (mC (.bool false))) mSkip))))) mSkip))))
    (mRet (mC (.bool true))))
def x__law_are_rules_right : List CD → Option (Res × List CD) := mFnX 6 10 (([6] ++ ([7] ++ (([7] ++ []) ++ (([8] ++ ([9] ++ (([] ++ []) ++ (([] ++ []) ++ ([] ++ []))))) ++ [])))) ++ []) b__law_are_rules_right
def m__law_are_rules_right : MF := okOnly x__law_are_rules_right
theorem ar__law_are_rules_right : Ar 6 m__law_are_rules_right := ar_fn (W := (([6] ++ ([7] ++ (([7] ++ []) ++ (([8] ++ ([9] ++ (([] ++ []) ++ (([] ++ []) ++ ([] ++ []))))) ++ [])))) ++ []))
theorem arX__law_are_rules_right : ∀ cs r, x__law_are_rules_right cs = some r → cs.length = 6 := arX_fn
/-! law -/
def N_law : List Str := ["script", "bag", "signature", "one", "other", "is_named", "told", "due"]
def b_law : MS :=
    (mSeq (mAsg 1 (mApp m__law_own_bag (mlC (mpV 0) mlN)))
    (mSeq (mAsg 2 (mApp m__law_signature (mlC (mpV 1) (mlC (mpE (mApp m__law_pick (mlC (mpV 1) (mlC (mpE (mApp fLst (mlC (mpE (mC (.int 1))) (mlC (mpE (mC (.int 2))) (mlC (mpE (mC (.int 2))) (mlC (mpE (mC (.int 3))) mlN)))))) mlN)))) mlN))))
    (mSeq (mAsgL (mApp m__law_small (mlC (mpV 1) (mlC (mpV 2) mlN))) 2 (mgsC (mgN 3) (mgsC (mgN 4) mgsN)))
    (mSeq (mAsg 5 (mApp fEq (mlC (mpE (mApp m__law_draw (mlC (mpV 1) (mlC (mpE (mC (.int 2))) mlN)))) (mlC (mpE (mC (.int 0))) mlN))))
    (mSeq (mIf (mNot (mTst (mApp m__law_is_product_right (mlC (mpV 2) (mlC (mpV 3) (mlC (mpV 4) (mlC (mpV 5) mlN))))))) (mRet (mC (.bool false))) mSkip)
    (mSeq (mIf (mNot (mTst (mApp m__law_is_product_right (mlC (mpV 2) (mlC (mpV 4) (mlC (mpV 3) (mlC (mpE (mNotV (mTk 5))) mlN))))))) (mRet (mC (.bool false))) mSkip)
    (mSeq (mPar [6, 7] (mlC (mpE (mApp m_product (mlC (mpV 2) (mlC (mpV 3) (mlC (mpV 4) mlN))))) (mlC (mpE (mApp m__law_due (mlC (mpV 2) (mlC (mpV 3) (mlC (mpV 4) mlN))))) mlN)))
    (mSeq (mIf (mNot (mTst (mApp m__law_are_values_right (mlC (mpV 1) (mlC (mpV 2) (mlC (mpV 3) (mlC (mpV 4) (mlC (mpV 6) mlN)))))))) (mRet (mC (.bool false))) mSkip)
    (mSeq (mIf (mNot (mTst (mApp m__law_are_rules_right (mlC (mpV 1) (mlC (mpV 2) (mlC (mpV 3) (mlC (mpV 4) (mlC (mpV 6) (mlC (mpV 7) mlN))))))))) (mRet (mC (.bool false))) mSkip)
    (mRet (mAndV (mApp m__law_are_limits_right (mlC (mpV 1) mlN)) (mApp m__law_is_product_right (mlC (mpV 2) (mlC (mpV 3) (mlC (mpV 4) (mlC (mpE (mNotV (mTk 5))) mlN))))))))))))))))
def x_law : List CD → Option (Res × List CD) := mFnX 1 8 ([1] ++ ([2] ++ (([3] ++ ([4] ++ [])) ++ ([5] ++ (([] ++ []) ++ (([] ++ []) ++ ([6, 7] ++ (([] ++ []) ++ (([] ++ []) ++ []))))))))) b_law
def m_law : MF := okOnly x_law
theorem ar_law : Ar 1 m_law := ar_fn (W := ([1] ++ ([2] ++ (([3] ++ ([4] ++ [])) ++ ([5] ++ (([] ++ []) ++ (([] ++ []) ++ ([6, 7] ++ (([] ++ []) ++ (([] ++ []) ++ []))))))))))
theorem arX_law : ∀ cs r, x_law cs = some r → cs.length = 1 := arX_fn
end K73
namespace K73
open PySem L2 JJ
structure BagOk (cs : List Int) (dg mx : Int) : Prop where
  dg0 : 0 ≤ dg
  mx0 : 0 ≤ mx
  mx1 : mx < 4294967296
  cs0 : ∀ z ∈ cs, 0 ≤ z
  len : cs.length ≤ 63
/-- the bag -/
theorem own_bag_ok {ns : List Int} (h : ns.length ≤ 63) : ∃ cs dg mx, x__law_own_bag [.scr ns] = some (.ok (.bag cs dg mx), [.scr ns]) ∧ BagOk cs dg mx := by
  obtain ⟨ms, e1, hm⟩ := cut_ints ns none (some 63)
  have hsl : mSl (mpV 0) moN (moS (mC (.int 63))) [.scr ns, .any, .any, .any] = some (.lst (ms.map .int), [.scr ns, .any, .any, .any]) := by
    simp [mSl, moN, moS, sliceC, e1]
  have hlc := lc_mapA (own := [2]) (mg := mgN 2) (me := mApp fAbs (mlC (mpV 2) mlN)) (Γ := [.scr ns, .any, .any, .any]) ms PyData.int (fun i => PyData.int (if i < 0 then -i else i)) (fun d hd => ⟨_, _, rfl, rfl, rfl⟩) (by rw [sizeLine_eq]; omega)
  rw [show ms.map (fun i => PyData.int (if i < 0 then -i else i)) = (ms.map fun i => if i < 0 then -i else i).map PyData.int by rw [List.map_map]; rfl] at hlc
  generalize hc : (ms.map fun i => if i < 0 then -i else i) = cs at hlc
  have hcs : ∀ z ∈ cs, 0 ≤ z := fun z hz => by
    rw [← hc] at hz
    obtain ⟨i, _, rfl⟩ := List.mem_map.mp hz
    by_cases hi : i < 0
    · rw [if_pos hi]; omega
    · rw [if_neg hi]; omega
  have hlen : cs.length ≤ 63 := by rw [← hc, List.length_map]; omega
  have hloop := loop_invA (mg := mgN 2) (mb := mAsg 3 (mApp fMod (mlC (mpE (mApp fInt (mlC (mpE (mApp fAdd (mlC (mpE (mApp fAdd (mlC (mpE (mApp fMul (mlC (mpV 3) (mlC (mpE (mC (.int 48271))) mlN)))) (mlC (mpE (mApp fMod (mlC (mpE (mApp fInt (mlC (mpV 2) mlN))) (mlC (mpE (mC (.int 2147483629))) mlN)))) mlN)))) (mlC (mpE (mC (.int 7))) mlN)))) mlN))) (mlC (mpE (mC (.int 2147483647))) mlN))))
    (Γ := [.scr ns, .any, .any, .dat (.int (4409 + (cs.length : Nat)))]) cs PyData.int (fun _ G => ∃ c mx, G = [.scr ns, .any, c, .dat (.int mx)] ∧ 0 ≤ mx ∧ mx < 4294967296) (fun i z G hi hI => by
      obtain ⟨c, mx, rfl, h0, h1⟩ := hI
      refine ⟨_, _, rfl, ?_, ⟨.dat (.int z), (mx * 48271 + z % 2147483629 + 7) % 2147483647, rfl, by omega, by omega⟩⟩
      simp [v_mul31 h0 h1 (show (0:Int) ≤ 48271 by decide) (by decide), v_mod]) ⟨.any, _, rfl, by omega, by omega⟩
  obtain ⟨G, hG, c, mx, rfl, h0, h1⟩ := hloop
  refine ⟨cs.reverse, 0, mx, ?_, ⟨by decide, h0, h1, fun z hz => hcs z (by simpa using hz), by simpa using hlen⟩⟩
  simp [x__law_own_bag, mFnX, b__law_own_bag, o0__law_own_bag, hsl, hlc, hG]
/-- a draw -/
theorem draw_ok {cs : List Int} {dg mx : Int} {below : Nat} (hB : BagOk cs dg mx) (hb : 0 < below) (hb2 : below < 2 ^ 60) : ∃ (r : Nat) (cs' : List Int) (dg' mx' : Int), r < below ∧ BagOk cs' dg' mx' ∧
    x__law_draw [.bag cs dg mx, .dat (.int (below : Nat))] = some (.ok (.dat (.int (r : Nat))), [.bag cs' dg' mx', .dat (.int (below : Nat))]) := by
  -- the while loop
  have hw := wh_end (mt := mAnd (mTst (mApp fEq (mlC (mpE (mBagI 1 0)) (mlC (mpE (mC (.int 0))) mlN)))) (mBagNe 0)) (mb := mSeq (mAsg 2 (mBagPop 0))
      (mBagSet 1 (mIfE (mTst (mApp fGt (mlC (mpV 2) (mlC (mpE (mApp fPow (mlC (mpE (mC (.int 10))) (mlC (mpE (mC (.int 9))) mlN)))) mlN)))) (mTk 2) (mC (.int 0))) 0))
    (fun n G => ∃ cs dg mx c, G = [.bag cs dg mx, .dat (.int (below : Nat)), c, .any] ∧ BagOk cs dg mx ∧ n = cs.length) (fun G => ∃ cs dg mx c, G = [.bag cs dg mx, .dat (.int (below : Nat)), c, .any] ∧ BagOk cs dg mx) (fun n G hI => by
      obtain ⟨cs, dg, mx, c, rfl, hB, rfl⟩ := hI
      by_cases h0 : dg = 0
      · subst h0
        rcases List.eq_nil_or_concat cs with rfl | ⟨r, z, rfl⟩
        · refine .inl ⟨[.bag [] 0 mx, .dat (.int (below : Nat)), c, .any], ?_, ⟨_, _, _, _, rfl, hB⟩⟩
          simp [shapedL_ints []]
          exact shapedL_ints []
        · have hz : 0 ≤ z := hB.cs0 z (by simp)
          have hB1 : BagOk r 0 mx := ⟨hB.dg0, hB.mx0, hB.mx1, fun y hy => hB.cs0 y (by simp [hy]), by have := hB.len; simp at this; omega⟩
          refine .inr ⟨r.length, [.bag (r ++ [z]) 0 mx, .dat (.int (below : Nat)), c, .any], [.bag r (if 1000000000 < z then z else 0) mx, .dat (.int (below : Nat)), .dat (.int z), .any], ?_, ?_, by simp, ⟨_, _, _, _, rfl, ⟨by split <;> omega, hB1.mx0, hB1.mx1, hB1.cs0, hB1.len⟩, rfl⟩⟩
          · have := shapedL_ints (r ++ [z])
            simp [List.map_append] at this
            simp [this]
          · by_cases hz2 : 1000000000 < z
            · simp [hz2]
            · simp [hz2]
      · refine .inl ⟨[.bag cs dg mx, .dat (.int (below : Nat)), c, .any], ?_, ⟨_, _, _, _, rfl, hB⟩⟩
        have h1 : (dg == 0) = false := by simpa using h0
        simp [h1]) cs.length 1000000 [.bag cs dg mx, .dat (.int (below : Nat)), .any, .any] (by have := hB.len; omega) ⟨_, _, _, _, rfl, hB, rfl⟩
  obtain ⟨G, hG, cs1, dg1, mx1, c, rfl, hB1⟩ := hw
  have hW := v_wh hG
  by_cases h0 : 0 < dg1
  · have hr : 0 ≤ dg1 % (below : Nat) := Int.emod_nonneg _ (by omega)
    have hr2 : dg1 % (below : Nat) < (below : Nat) := Int.emod_lt_of_pos _ (by omega)
    obtain ⟨r, er⟩ := Int.eq_ofNat_of_zero_le hr
    refine ⟨r, cs1, dg1 / (below : Nat), mx1, by omega, ⟨Int.ediv_nonneg hB1.dg0 (by omega), hB1.mx0, hB1.mx1, hB1.cs0, hB1.len⟩, ?_⟩
    have hm : fMod [.dat (.int dg1), .dat (.int (below : Nat))] = some (.dat (.int (r : Nat)), [.dat (.int dg1), .dat (.int (below : Nat))]) := by rw [v_mod (by omega), er]
    have hd : fDiv [.dat (.int dg1), .dat (.int (below : Nat))] = some (.dat (.int (dg1 / (below : Nat))), [.dat (.int dg1), .dat (.int (below : Nat))]) := v_div (by omega) (by
      have h1 : (((below : Nat) : Int).natAbs).log2 < 60 := by
        rw [Int.natAbs_natCast]
        exact (Nat.log2_lt (by omega)).mpr hb2
      omega)
    simp [x__law_draw, mFnX, b__law_draw, hW, h0, hm, hd]
  · have a1 := hB1.mx0
    have a2 := hB1.mx1
    generalize hm2 : (mx1 * 48271 + 11) % 2147483647 = mx2
    have b1 : 0 ≤ mx2 := by omega
    have b2 : mx2 < 4294967296 := by omega
    generalize hq : mx2 * mx2 % 2147483629 / 7 = q
    have hr : 0 ≤ q % (below : Nat) := Int.emod_nonneg _ (by omega)
    have hr2 : q % (below : Nat) < (below : Nat) := Int.emod_lt_of_pos _ (by omega)
    obtain ⟨r, er⟩ := Int.eq_ofNat_of_zero_le hr
    refine ⟨r, cs1, dg1, mx2, by omega, ⟨hB1.dg0, b1, b2, hB1.cs0, hB1.len⟩, ?_⟩
    have e1 := v_mul31 a1 a2 (show (0 : Int) ≤ 48271 by decide) (by decide)
    have e2 : fMod [.dat (.int (mx1 * 48271 + 11)), .dat (.int 2147483647)] = some (.dat (.int mx2), [.dat (.int (mx1 * 48271 + 11)), .dat (.int 2147483647)]) := by rw [v_mod (by decide), hm2]
    have e3 := v_mul31 b1 b2 b1 b2
    have e4 := v_mod (i := mx2 * mx2) (j := 2147483629) (by decide)
    have e5 : fDiv [.dat (.int (mx2 * mx2 % 2147483629)), .dat (.int 7)] = some (.dat (.int q), [.dat (.int (mx2 * mx2 % 2147483629)), .dat (.int 7)]) := by rw [v_div (by decide) (by decide), hq]
    have e6 : fMod [.dat (.int q), .dat (.int (below : Nat))] = some (.dat (.int (r : Nat)), [.dat (.int q), .dat (.int (below : Nat))]) := by rw [v_mod (by omega), er]
    simp [x__law_draw, mFnX, b__law_draw, hW, h0, e1, e2, e3, e4, e5, e6]
theorem mdraw_ok {cs : List Int} {dg mx : Int} {below : Nat} (hB : BagOk cs dg mx) (hb : 0 < below) (hb2 : below < 2 ^ 60) : ∃ (r : Nat) (cs' : List Int) (dg' mx' : Int), r < below ∧ BagOk cs' dg' mx' ∧
    m__law_draw [.bag cs dg mx, .dat (.int (below : Nat))] = some (.dat (.int (r : Nat)), [.bag cs' dg' mx', .dat (.int (below : Nat))]) := by
  obtain ⟨r, cs', dg', mx', h1, h2, h3⟩ := draw_ok hB hb hb2
  exact ⟨r, cs', dg', mx', h1, h2, okOnly_of h3⟩
theorem pick_ok {cs : List Int} {dg mx : Int} {xs : List Da} (hB : BagOk cs dg mx) (hx : xs ≠ []) (hl : xs.length < 2 ^ 60) : ∃ d ∈ xs, ∃ (cs' : List Int) (dg' mx' : Int), BagOk cs' dg' mx' ∧ m__law_pick [.bag cs dg mx, .lst xs] = some (.dat d, [.bag cs' dg' mx', .lst xs]) := by
  obtain ⟨r, cs', dg', mx', h1, h2, h3⟩ := mdraw_ok (below := xs.length) hB (List.length_pos_iff.mpr hx) hl
  have hr : xs[r]? = some xs[r] := List.getElem?_eq_getElem h1
  refine ⟨xs[r], List.getElem_mem h1, cs', dg', mx', h2, ?_⟩
  simp [m__law_pick, okOnly, x__law_pick, mFnX, b__law_pick, h3, v_ixL hr]
/-- powers -/
theorem power_ok {n k : Nat} (h : ∀ i ≤ k, n ^ i < 4294967296) (hk : k < 4611686018427387904) (hn : n < 4294967296) : x__law_power [.dat (.int (n : Nat)), .dat (.int (k : Nat))] = some (.ok (.dat (.int ((n ^ k : Nat) : Nat))), [.dat (.int (n : Nat)), .dat (.int (k : Nat))]) := by
  obtain ⟨G, hG, c, e, rfl⟩ := loop_inv (mg := mgN 3) (mb := mAsg 2 (mApp fMul (mlC (mpV 2) (mlC (mpV 0) mlN)))) (fun i G => ∃ c, i ≤ k ∧ G = [.dat (.int (n : Nat)), .dat (.int (k : Nat)), .dat (.int ((n ^ i : Nat) : Nat)), c]) (items := rgD 0 k) (j := 0) (Γ := [.dat (.int (n : Nat)), .dat (.int (k : Nat)), .dat (.int ((n ^ 0 : Nat) : Nat)), .any]) (fun i d G hi hI => by
    obtain ⟨c, hk', rfl⟩ := hI
    obtain ⟨hi1, rfl⟩ := rg_at hi
    have e := v_mul31 (i := ((n ^ (0 + i) : Nat) : Int)) (j := (n : Nat)) (by omega) (by have := h (0 + i) hk'; omega) (by omega) (by omega)
    refine ⟨_, _, rfl, ?_, ⟨.dat (.int (0 + (i : Nat))), by omega, rfl⟩⟩
    simp only [v_asg, v_app, v_lC, v_pV, v_lN]
    simp only [List.set_cons_succ, List.set_cons_zero, List.getElem?_cons_succ, List.getElem?_cons_zero, takeO, c_dat, if_true, e, giveO]
    rw [Nat.pow_succ, Int.natCast_mul]) ⟨.any, Nat.zero_le _, rfl⟩
  rw [rg_len, Nat.zero_add] at *
  simp only [Nat.pow_zero] at hG
  rw [show ((1 : Nat) : Int) = 1 from rfl] at hG
  refine fn_rt (Γ := [.dat (.int (n : Nat)), .dat (.int (k : Nat)), .dat (.int ((n ^ k : Nat) : Nat)), c]) ?_
  simp [b__law_power, v_rng1 hk, hG]
theorem mpower_ok {n k : Nat} (h : ∀ i ≤ k, n ^ i < 4294967296) (hk : k < 4611686018427387904) (hn : n < 4294967296) : m__law_power [.dat (.int (n : Nat)), .dat (.int (k : Nat))] = some (.dat (.int ((n ^ k : Nat) : Nat)), [.dat (.int (n : Nat)), .dat (.int (k : Nat))]) := okOnly_of (power_ok h hk hn)
end K73
/-! M3: signatures and algebras out of the bag. -/
namespace K73
open PySem L2 JJ
def nD (n : Nat) : Da := .int (n : Nat)
def tD (l : List Nat) : Da := .tuple (l.map nD)
def items (sig : List Nat) (n : Nat) : Nat := (sig.map (n ^ ·)).sum
theorem items_snoc (l : List Nat) (a n : Nat) : items (l ++ [a]) n = items l n + n ^ a := by simp [items]
theorem items_take {sig : List Nat} {n i : Nat} : items (sig.take i) n ≤ items sig n := by
  induction sig generalizing i with
  | nil => simp [items]
  | cons a r ih =>
    cases i with
    | zero => simp [items]
    | succ i =>
      have := ih (i := i)
      simp only [items, List.take_succ_cons, List.map_cons, List.sum_cons] at *
      omega
/-- small powers -/
def Small (sig : List Nat) (n : Nat) : Prop := n ≤ 1000 ∧ ∀ a ∈ sig, a ≤ 3
theorem pow_le3 {n a i : Nat} (hn : n ≤ 1000) (ha : a ≤ 3) (hi : i ≤ a) : n ^ i < 4294967296 := by
  have h1 : n ^ i ≤ 1000 ^ i := Nat.pow_le_pow_left hn i
  have h2 : 1000 ^ i ≤ 1000 ^ 3 := Nat.pow_le_pow_right (by decide) (by omega)
  have : (1000 : Nat) ^ 3 = 1000000000 := by decide
  omega
theorem mpow_small {n a : Nat} (hn : n ≤ 1000) (ha : a ≤ 3) : m__law_power [.dat (.int (n : Nat)), .dat (.int (a : Nat))] = some (.dat (.int ((n ^ a : Nat) : Nat)), [.dat (.int (n : Nat)), .dat (.int (a : Nat))]) :=
  mpower_ok (fun i hi => pow_le3 hn ha hi) (by omega) (by omega)
theorem items_ok {sig : List Nat} {n : Nat} (h : Small sig n) : m__law_items [.dat (tD sig), .dat (.int (n : Nat))] = some (.dat (.int ((items sig n : Nat) : Nat)), [.dat (tD sig), .dat (.int (n : Nat))]) := by
  obtain ⟨G, hG, c, rfl⟩ := loop_invA (mg := mgN 3) (mb := mAsg 2 (mApp fAdd (mlC (mpV 2) (mlC (mpE (mApp m__law_power (mlC (mpV 1) (mlC (mpV 3) mlN)))) mlN)))) (Γ := [.dat (tD sig), .dat (.int (n : Nat)), .dat (.int 0), .any]) sig nD (fun l G => ∃ c, G = [.dat (tD sig), .dat (.int (n : Nat)), .dat (.int ((items l n : Nat) : Nat)), c]) (fun i a G hi hI => by
    obtain ⟨c, rfl⟩ := hI
    have e := mpow_small (n := n) (a := a) h.1 (h.2 a (List.mem_of_getElem? hi))
    refine ⟨_, _, rfl, ?_, ⟨.dat (nD a), rfl⟩⟩
    simp [nD, e, items_snoc]) ⟨.any, rfl⟩
  refine okOnly_of (fn_rt (Γ := [.dat (tD sig), .dat (.int (n : Nat)), .dat (.int ((items sig n : Nat) : Nat)), c]) ?_)
  simp only [tD] at hG ⊢
  simp [b__law_items, hG]

/-- a signature -/
theorem signature_ok {cs : List Int} {dg mx : Int} {most : Nat} (hB : BagOk cs dg mx) (hm : most ≤ 3) : ∃ (sig : List Nat) (cs' : List Int) (dg' mx' : Int), BagOk cs' dg' mx' ∧ sig.length ≤ 6 ∧ 0 ∈ sig ∧ (∀ a ∈ sig, a ≤ most) ∧
    m__law_signature [.bag cs dg mx, .dat (.int (most : Nat))] = some (.dat (tD sig), [.bag cs' dg' mx', .dat (.int (most : Nat))]) := by
  obtain ⟨r1, cs1, dg1, mx1, hr1, hB1, e1⟩ := mdraw_ok (below := 6) hB (by decide) (by decide)
  obtain ⟨many, hmany⟩ : ∃ m, m = 1 + r1 := ⟨_, rfl⟩
  have em : (1 + ((r1 : Nat) : Int)) = ((many : Nat) : Int) := by omega
  obtain ⟨m1, hm1⟩ : ∃ m, m = most + 1 := ⟨_, rfl⟩
  have hmost : ((most : Nat) : Int) + 1 = ((m1 : Nat) : Int) := by omega
  obtain ⟨acc, G, hG, cs2, dg2, mx2, l, hB2, rfl, hl, hla, rfl⟩ := lc_inv (own := [4]) (mg := mgN 4) (mt := mYes) (me := mApp m__law_draw (mlC (mpV 0) (mlC (mpE (mApp fAdd (mlC (mpV 1) (mlC (mpE (mC (.int 1))) mlN)))) mlN)))
    (fun i acc G => ∃ cs dg mx l, BagOk cs dg mx ∧ acc = l.map nD ∧ l.length = i ∧ (∀ a ∈ l, a ≤ most) ∧ G = [.bag cs dg mx, .dat (.int (most : Nat)), .dat (.int (many : Nat)), .any, .any]) (items := rgD 0 many) (j := 0) (acc := []) (Γ := [.bag cs1 dg1 mx1, .dat (.int (most : Nat)), .dat (.int (many : Nat)), .any, .any]) (fun i d acc G hi hI => by
      obtain ⟨cs, dg, mx, l, hB, rfl, hl, hla, rfl⟩ := hI
      obtain ⟨hi1, rfl⟩ := rg_at hi
      obtain ⟨r, cs', dg', mx', hr, hB', e⟩ := mdraw_ok (below := m1) hB (by omega) (by omega)
      refine .inl ⟨_, _, nD r, [.bag cs' dg' mx', .dat (.int (most : Nat)), .dat (.int (many : Nat)), .any, .dat (.int (0 + (i : Nat)))], rfl, rfl, ?_, by rw [sizeLine_eq, List.length_map]; omega, ⟨cs', dg', mx', l ++ [r], hB', by simp, by simp [hl], fun a ha => ?_, rfl⟩⟩
      · simp [hmost, e, nD]
      · rcases List.mem_append.mp ha with h | h
        · exact hla a h
        · rw [List.mem_singleton.mp h]; omega) ⟨cs1, dg1, mx1, [], hB1, rfl, rfl, (by simp), rfl⟩
  rw [rg_len, Nat.zero_add] at hl
  obtain ⟨r3, cs3, dg3, mx3, hr3, hB3, e3⟩ := mdraw_ok (below := many) hB2 (by omega) (by omega)
  have hlen : l.length = many := hl
  refine ⟨l.set r3 0, cs3, dg3, mx3, hB3, by rw [List.length_set]; omega, ?_, fun a ha => ?_, ?_⟩
  · exact List.mem_of_getElem? (i := r3) (List.getElem?_set_self (by omega))
  · rcases List.mem_or_eq_of_mem_set ha with h | h
    · exact hla a h
    · omega
  · refine okOnly_of (fn_rt (Γ := [.bag cs3 dg3 mx3, .dat (.int (most : Nat)), .dat (.int (many : Nat)), .lst ((l.set r3 0).map nD), .any]) ?_)
    have e1' : m__law_draw [.bag cs dg mx, .dat (.int 6)] = some (.dat (.int (r1 : Nat)), [.bag cs1 dg1 mx1, .dat (.int 6)]) := e1
    have hrng := v_rng1 (k := many) (by omega)
    have hix := ixN_nat (n := (l.map nD).length) (r := r3) (by rw [List.length_map]; omega)
    rw [List.length_map] at hix
    simp [b__law_signature, o0__law_signature, e1', em, hrng, hG, e3, hix, tD, List.map_set, nD]
end K73
/-! M4: algebras out of the bag. -/
namespace K73
open PySem L2 JJ
def TabOk (sig : List Nat) (n : Nat) (T : List (List Nat)) : Prop := T.length = sig.length ∧ ∀ (i a : Nat) (t : List Nat), sig[i]? = some a → T[i]? = some t → t.length = n ^ a ∧ ∀ x ∈ t, x < n
def algD (n : Nat) (T : List (List Nat)) : Da := .tuple [.int (n : Nat), .tuple (T.map tD)]
theorem TabOk.nil {n : Nat} : TabOk [] n [] := ⟨rfl, fun i a t h => by simp at h⟩
theorem TabOk.snoc {sig : List Nat} {n a : Nat} {T : List (List Nat)} {t : List Nat} (h : TabOk sig n T) (h1 : t.length = n ^ a) (h2 : ∀ x ∈ t, x < n) : TabOk (sig ++ [a]) n (T ++ [t]) := by
  obtain ⟨h3, h4⟩ := h
  refine ⟨by simp [h3], fun i b u hb hu => ?_⟩
  by_cases hi : i < sig.length
  · rw [List.getElem?_append_left hi] at hb
    rw [List.getElem?_append_left (by omega)] at hu
    exact h4 i b u hb hu
  · rw [List.getElem?_append_right (by omega)] at hb
    rw [List.getElem?_append_right (by omega)] at hu
    rw [h3] at hu
    cases hz : i - sig.length with
    | zero =>
      rw [hz] at hb hu
      simp at hb hu
      subst hb hu
      exact ⟨h1, h2⟩
    | succ m =>
      rw [hz] at hb
      simp at hb
theorem pow_small {n a : Nat} (hn : n ≤ 61) (ha : a ≤ 3) : n ^ a ≤ 226981 := by
  have h1 : n ^ a ≤ 61 ^ a := Nat.pow_le_pow_left hn a
  have h2 : 61 ^ a ≤ 61 ^ 3 := Nat.pow_le_pow_right (by decide) ha
  have : (61 : Nat) ^ 3 = 226981 := by decide
  omega
theorem algebra_ok {cs : List Int} {dg mx : Int} {sig : List Nat} {n : Nat} (hB : BagOk cs dg mx) (hs : ∀ a ∈ sig, a ≤ 3) (hl : sig.length ≤ 100) (hn : 0 < n) (hn2 : n ≤ 61) : ∃ (T : List (List Nat)) (cs' : List Int) (dg' mx' : Int), BagOk cs' dg' mx' ∧ TabOk sig n T ∧
    m__law_algebra [.bag cs dg mx, .dat (tD sig), .dat (.int (n : Nat))] = some (.dat (algD n T), [.bag cs' dg' mx', .dat (tD sig), .dat (.int (n : Nat))]) := by
  obtain ⟨way, cs1, dg1, mx1, hr1, hB1, e1⟩ := mdraw_ok (below := 3) hB (by decide) (by decide)
  obtain ⟨G, hG, cs2, dg2, mx2, T, c5, c6, hB2, hT, rfl⟩ := loop_invA (mg := mgN 5) (mb := (mSeq (mAsg 6 (mLc (o0__law_algebra.map (·.2)) (mI gRng1 (mlC (mpE (mApp m__law_power (mlC (mpV 2) (mlC (mpV 5) mlN)))) mlN)) (mgN 7) mYes (mApp m__law_draw (mlC (mpV 0) (mlC (mpV 2) mlN)))))
      (mSeq (mIf (mAnd (mTst (mApp fEq (mlC (mpV 4) (mlC (mpE (mC (.int 0))) mlN)))) (mTst (mApp fGt (mlC (mpV 5) (mlC (mpE (mC (.int 0))) mlN))))) (mSeq (mAsg 6 (mLc (o1__law_algebra.map (·.2)) (mI gRng1 (mlC (mpE (mApp fLen (mlC (mpV 6) mlN))) mlN)) (mgN 8) mYes (mApp fDiv (mlC (mpE (mApp fMul (mlC (mpV 8) (mlC (mpV 2) mlN)))) (mlC (mpE (mApp fLen (mlC (mpV 6) mlN))) mlN)))))
      (mSetL (mApp m__law_draw (mlC (mpV 0) (mlC (mpV 2) mlN))) 6 (mApp m__law_draw (mlC (mpV 0) (mlC (mpE (mApp fLen (mlC (mpV 6) mlN))) mlN))))) mSkip)
      (mExpr (mMth isL 3 fAppend (mlC (mpE (mApp fTuple (mlC (mpV 6) mlN))) mlN))))))
    (Γ := [.bag cs1 dg1 mx1, .dat (tD sig), .dat (.int (n : Nat)), .lst [], .dat (.int (way : Nat)), .any, .any, .any, .any]) sig nD
    (fun l G => ∃ cs dg mx T c5 c6, BagOk cs dg mx ∧ TabOk l n T ∧ G = [.bag cs dg mx, .dat (tD sig), .dat (.int (n : Nat)), .lst (T.map tD), .dat (.int (way : Nat)), c5, c6, .any, .any]) (fun i a G hi hI => by
      obtain ⟨cs, dg, mx, T, c5, c6, hB, hT, rfl⟩ := hI
      have ha : a ≤ 3 := hs a (List.mem_of_getElem? hi)
      have hil : i < sig.length := (List.getElem?_eq_some_iff.mp hi).1
      have hTl : T.length < 16777216 := by rw [hT.1, List.length_take]; omega
      have hp := pow_small hn2 ha
      have ep := mpow_small (n := n) (a := a) (by omega) ha
      obtain ⟨N, hN⟩ : ∃ N, N = n ^ a := ⟨_, rfl⟩
      rw [← hN] at ep hp
      have hNpos : 0 < N := by rw [hN]; exact Nat.pow_pos hn
      -- the row that is drawn
      obtain ⟨acc, G1, hG1, cs1, dg1, mx1, l, hB1, rfl, hll, hla, rfl⟩ := lc_inv (own := [7]) (mg := mgN 7) (mt := mYes) (me := mApp m__law_draw (mlC (mpV 0) (mlC (mpV 2) mlN)))
        (fun i acc G => ∃ cs dg mx l, BagOk cs dg mx ∧ acc = l.map nD ∧ l.length = i ∧ (∀ x ∈ l, x < n) ∧ G = [.bag cs dg mx, .dat (tD sig), .dat (.int (n : Nat)), .lst (T.map tD), .dat (.int (way : Nat)), .dat (nD a), c6, .any, .any]) (items := rgD 0 N) (j := 0) (acc := []) (Γ := [.bag cs dg mx, .dat (tD sig), .dat (.int (n : Nat)), .lst (T.map tD), .dat (.int (way : Nat)), .dat (nD a), c6, .any, .any]) (fun i d acc G hi hI => by
          obtain ⟨cs, dg, mx, l, hB, rfl, hl, hla, rfl⟩ := hI
          obtain ⟨hi1, rfl⟩ := rg_at hi
          obtain ⟨r, cs', dg', mx', hr, hB', e⟩ := mdraw_ok (below := n) hB hn (by omega)
          refine .inl ⟨_, _, nD r, [.bag cs' dg' mx', .dat (tD sig), .dat (.int (n : Nat)), .lst (T.map tD), .dat (.int (way : Nat)), .dat (nD a), c6, .dat (.int (0 + (i : Nat))), .any], rfl, rfl, ?_, by rw [sizeLine_eq, List.length_map]; omega, ⟨cs', dg', mx', l ++ [r], hB', by simp, by simp [hl], fun x hx => ?_, rfl⟩⟩
          · simp [e, nD]
          · rcases List.mem_append.mp hx with h | h
            · exact hla x h
            · rw [List.mem_singleton.mp h]; exact hr) ⟨cs, dg, mx, [], hB, rfl, rfl, (by simp), rfl⟩
      rw [rg_len, Nat.zero_add] at hll
      have hrng := v_rng1 (k := N) (by omega)
      have step2 : ∃ (cs : List Int) (dg mx : Int) (l2 : List Nat), BagOk cs dg mx ∧ l2.length = N ∧ (∀ x ∈ l2, x < n) ∧ (mIf (mAnd (mTst (mApp fEq (mlC (mpV 4) (mlC (mpE (mC (.int 0))) mlN)))) (mTst (mApp fGt (mlC (mpV 5) (mlC (mpE (mC (.int 0))) mlN))))) (mSeq (mAsg 6 (mLc (o1__law_algebra.map (·.2)) (mI gRng1 (mlC (mpE (mApp fLen (mlC (mpV 6) mlN))) mlN)) (mgN 8) mYes (mApp fDiv (mlC (mpE (mApp fMul (mlC (mpV 8) (mlC (mpV 2) mlN)))) (mlC (mpE (mApp fLen (mlC (mpV 6) mlN))) mlN)))))
        (mSetL (mApp m__law_draw (mlC (mpV 0) (mlC (mpV 2) mlN))) 6 (mApp m__law_draw (mlC (mpV 0) (mlC (mpE (mApp fLen (mlC (mpV 6) mlN))) mlN))))) mSkip) [.bag cs1 dg1 mx1, .dat (tD sig), .dat (.int (n : Nat)), .lst (T.map tD), .dat (.int (way : Nat)), .dat (nD a), .lst (l.map nD), .any, .any] =
          some (.nx [.bag cs dg mx, .dat (tD sig), .dat (.int (n : Nat)), .lst (T.map tD), .dat (.int (way : Nat)), .dat (nD a), .lst (l2.map nD), .any, .any]) := by
        by_cases hw : way = 0
        · by_cases ha0 : a = 0
          · refine ⟨cs1, dg1, mx1, l, hB1, hll, hla, ?_⟩
            subst hw ha0
            simp [nD]
          · have hlen : ((l.map nD).length : Nat) = N := by rw [List.length_map]; exact hll
            have hlc := lc_mapA (own := [8]) (mg := mgN 8) (me := mApp fDiv (mlC (mpE (mApp fMul (mlC (mpV 8) (mlC (mpV 2) mlN)))) (mlC (mpE (mApp fLen (mlC (mpV 6) mlN))) mlN)))
              (Γ := [.bag cs1 dg1 mx1, .dat (tD sig), .dat (.int (n : Nat)), .lst (T.map tD), .dat (.int (way : Nat)), .dat (nD a), .lst (l.map nD), .any, .any]) (List.range N) (fun k => .int (k : Nat)) (fun k => nD (k * n / N)) (fun k hk => by
                have hk' : k < N := List.mem_range.mp hk
                have em := v_mul31 (i := ((k : Nat) : Int)) (j := ((n : Nat) : Int)) (by omega) (by omega) (by omega) (by omega)
                have ed := v_div (i := ((k : Nat) : Int) * ((n : Nat) : Int)) (j := ((N : Nat) : Int)) (by omega) (by
                  rw [Int.natAbs_natCast]
                  have : N.log2 < 60 := (Nat.log2_lt (by omega)).mpr (by omega)
                  omega)
                refine ⟨_, [.bag cs1 dg1 mx1, .dat (tD sig), .dat (.int (n : Nat)), .lst (T.map tD), .dat (.int (way : Nat)), .dat (nD a), .lst (l.map nD), .any, .dat (.int (k : Nat))], rfl, ?_, rfl⟩
                have hl' : l.length = N := hll
                simp [em, hl', ed, nD]) (by rw [List.length_range, sizeLine_eq]; omega)
            obtain ⟨v, cs3, dg3, mx3, hv, hB3, e3⟩ := mdraw_ok (below := n) hB1 hn (by omega)
            obtain ⟨j, cs4, dg4, mx4, hj, hB4, e4⟩ := mdraw_ok (below := N) hB3 hNpos (by omega)
            refine ⟨cs4, dg4, mx4, ((List.range N).map fun k => k * n / N).set j v, hB4, by simp, fun x hx => ?_, ?_⟩
            · rcases List.mem_or_eq_of_mem_set hx with h | h
              · obtain ⟨k, hk, rfl⟩ := List.mem_map.mp h
                have hk' := List.mem_range.mp hk
                rw [Nat.div_lt_iff_lt_mul hNpos, Nat.mul_comm n N]
                exact Nat.mul_lt_mul_of_pos_right hk' hn
              · rw [h]; exact hv
            · subst hw
              have h0 : 0 < a := by omega
              have hix := ixN_nat (n := N) (r := j) hj
              have hll' : l.length = N := hll
              have hrd : rgD 0 N = (List.range N).map fun k => PyData.int (k : Nat) := by simp [rgD]
              simp only [hrd] at hrng
              have hlc' := hlc
              simp only [nD, show ((0 : Nat) : Int) = 0 from rfl] at hlc' e3 e4 ⊢
              simp [o1__law_algebra, h0, hll', hrng, hlc', e3, e4, hix, List.map_set]
              have hf : (fun k : Nat => PyData.int ((k : Int) * (n : Int) / (N : Int))) = (nD ∘ fun k => k * n / N) := by
                funext k
                simp [nD]
              rw [hf]
              rfl
        · refine ⟨cs1, dg1, mx1, l, hB1, hll, hla, ?_⟩
          have h0 : ((way : Int) == 0) = false := by simpa using hw
          simp [h0]
      obtain ⟨cs5, dg5, mx5, l2, hB5, hl2, hl3, e2⟩ := step2
      refine ⟨_, [.bag cs5 dg5 mx5, .dat (tD sig), .dat (.int (n : Nat)), .lst ((T ++ [l2]).map tD), .dat (.int (way : Nat)), .dat (nD a), .lst (l2.map nD), .any, .any], rfl, ?_, ⟨cs5, dg5, mx5, T ++ [l2], .dat (nD a), .lst (l2.map nD), hB5, hT.snoc (by omega) hl3, rfl⟩⟩
      have hap := v_appd (xs := T.map tD) (d := tD l2) (by rw [List.length_map]; exact hTl)
      have e0 : (mAsg 6 (mLc (o0__law_algebra.map (·.2)) (mI gRng1 (mlC (mpE (mApp m__law_power (mlC (mpV 2) (mlC (mpV 5) mlN)))) mlN)) (mgN 7) mYes (mApp m__law_draw (mlC (mpV 0) (mlC (mpV 2) mlN))))) [.bag cs dg mx, .dat (tD sig), .dat (.int (n : Nat)), .lst (T.map tD), .dat (.int (way : Nat)), .dat (nD a), c6, .any, .any] =
          some (.nx [.bag cs1 dg1 mx1, .dat (tD sig), .dat (.int (n : Nat)), .lst (T.map tD), .dat (.int (way : Nat)), .dat (nD a), .lst (l.map nD), .any, .any]) := by
        simp only [nD] at ep hG1 ⊢
        simp [o0__law_algebra, ep, hrng, hG1]
      show mSeq _ _ _ = _
      rw [v_seq, show ([CD.bag cs dg mx, .dat (tD sig), .dat (.int (n : Nat)), .lst (T.map tD), .dat (.int (way : Nat)), c5, c6, .any, .any].set 5 (.dat (nD a))) = [.bag cs dg mx, .dat (tD sig), .dat (.int (n : Nat)), .lst (T.map tD), .dat (.int (way : Nat)), .dat (nD a), c6, .any, .any] from rfl, e0]
      dsimp only
      rw [v_seq, e2]
      simp only [tD] at hap
      simp [tD, hap]) ⟨cs1, dg1, mx1, [], .any, .any, hB1, .nil, rfl⟩
  refine ⟨T, cs2, dg2, mx2, hB2, hT, okOnly_of (fn_rt (Γ := [.bag cs2 dg2 mx2, .dat (tD sig), .dat (.int (n : Nat)), .lst (T.map tD), .dat (.int (way : Nat)), c5, c6, .any, .any]) ?_)⟩
  have e1' : m__law_draw [.bag cs dg mx, .dat (.int 3)] = some (.dat (.int (way : Nat)), [.bag cs1 dg1 mx1, .dat (.int 3)]) := e1
  simp only [tD, nD] at hG ⊢
  simp [b__law_algebra, e1', hG, algD, tD, nD]
end K73
/-! M5: pairs of algebras out of the bag. -/
namespace K73
open PySem L2 JJ
theorem items_one {sig : List Nat} : items sig 1 = sig.length := by
  induction sig with
  | nil => rfl
  | cons a r ih => simp only [items, List.map_cons, List.sum_cons, Nat.one_pow, List.length_cons] at *; omega
theorem small_ok {cs : List Int} {dg mx : Int} {sig : List Nat} (hB : BagOk cs dg mx) (hs : ∀ a ∈ sig, a ≤ 3) (hl : sig.length ≤ 100) : ∃ (n m : Nat) (S T : List (List Nat)) (cs' : List Int) (dg' mx' : Int), BagOk cs' dg' mx' ∧ 0 < n ∧ n ≤ 4 ∧ 0 < m ∧ m ≤ 4 ∧ items sig (n * m) ≤ 400 ∧ TabOk sig n S ∧ TabOk sig m T ∧
    m__law_small [.bag cs dg mx, .dat (tD sig)] = some (.lst [algD n S, algD m T], [.bag cs' dg' mx', .dat (tD sig)]) := by
  obtain ⟨r1, cs1, dg1, mx1, hr1, hB1, e1⟩ := mdraw_ok (below := 4) hB (by decide) (by decide)
  obtain ⟨r2, cs2, dg2, mx2, hr2, hB2, e2⟩ := mdraw_ok (below := 4) hB1 (by decide) (by decide)
  obtain ⟨n0, hn0⟩ : ∃ m, m = 1 + r1 := ⟨_, rfl⟩
  obtain ⟨m0, hm0⟩ : ∃ m, m = 1 + r2 := ⟨_, rfl⟩
  have en : (1 + ((r1 : Nat) : Int)) = ((n0 : Nat) : Int) := by omega
  have em : (1 + ((r2 : Nat) : Int)) = ((m0 : Nat) : Int) := by omega
  obtain ⟨G, hG, n, m, h1, h2, h3, h4, h5, rfl⟩ := wh_end (mt := mTst (mApp fGt (mlC (mpE (mApp m__law_items (mlC (mpV 1) (mlC (mpE (mApp fMul (mlC (mpV 2) (mlC (mpV 3) mlN)))) mlN)))) (mlC (mpE (mC (.int 400))) mlN)))) (mb := mIf (mTst (mApp fGt (mlC (mpV 2) (mlC (mpV 3) mlN)))) (mAsg 2 (mApp fSub (mlC (mpV 2) (mlC (mpE (mC (.int 1))) mlN)))) (mAsg 3 (mApp fSub (mlC (mpV 3) (mlC (mpE (mC (.int 1))) mlN)))))
    (fun k G => ∃ n m : Nat, 0 < n ∧ n ≤ 4 ∧ 0 < m ∧ m ≤ 4 ∧ k = n + m ∧ G = [.bag cs2 dg2 mx2, .dat (tD sig), .dat (.int (n : Nat)), .dat (.int (m : Nat))])
    (fun G => ∃ n m : Nat, 0 < n ∧ n ≤ 4 ∧ 0 < m ∧ m ≤ 4 ∧ items sig (n * m) ≤ 400 ∧ G = [.bag cs2 dg2 mx2, .dat (tD sig), .dat (.int (n : Nat)), .dat (.int (m : Nat))]) (fun k G hI => by
      obtain ⟨n, m, h1, h2, h3, h4, rfl, rfl⟩ := hI
      have emul := v_mul31 (i := ((n : Nat) : Int)) (j := ((m : Nat) : Int)) (by omega) (by omega) (by omega) (by omega)
      obtain ⟨p, hp⟩ : ∃ p, p = n * m := ⟨_, rfl⟩
      have ep : ((n : Nat) : Int) * ((m : Nat) : Int) = ((p : Nat) : Int) := by rw [hp, Int.natCast_mul]
      have hp2 : p ≤ 16 := by rw [hp]; exact Nat.mul_le_mul h2 h4
      have eit := items_ok (sig := sig) (n := p) ⟨by omega, hs⟩
      rw [ep] at emul
      by_cases hc : 400 < items sig p
      · right
        by_cases hnm : m < n
        · refine ⟨(n - 1) + m, [.bag cs2 dg2 mx2, .dat (tD sig), .dat (.int (n : Nat)), .dat (.int (m : Nat))], [.bag cs2 dg2 mx2, .dat (tD sig), .dat (.int ((n - 1 : Nat) : Nat)), .dat (.int (m : Nat))], ?_, ?_, by omega, n - 1, m, by omega, by omega, h3, h4, rfl, rfl⟩
          · have hc' : (400 : Int) < ((items sig p : Nat) : Int) := by omega
            simp [emul, eit, hc']
          · have hs : ((n : Nat) : Int) - 1 = ((n - 1 : Nat) : Int) := by omega
            simp [hnm, hs]
        · have hm1 : 1 < m := by
            by_cases hm : m = 1
            · exfalso
              have hn : n = 1 := by omega
              subst hm hn
              rw [hp, Nat.mul_one, items_one] at hc
              omega
            · omega
          refine ⟨n + (m - 1), [.bag cs2 dg2 mx2, .dat (tD sig), .dat (.int (n : Nat)), .dat (.int (m : Nat))], [.bag cs2 dg2 mx2, .dat (tD sig), .dat (.int (n : Nat)), .dat (.int ((m - 1 : Nat) : Nat))], ?_, ?_, by omega, n, m - 1, h1, h2, by omega, by omega, rfl, rfl⟩
          · have hc' : (400 : Int) < ((items sig p : Nat) : Int) := by omega
            simp [emul, eit, hc']
          · have hs : ((m : Nat) : Int) - 1 = ((m - 1 : Nat) : Int) := by omega
            simp [hnm, hs]
      · refine .inl ⟨[.bag cs2 dg2 mx2, .dat (tD sig), .dat (.int (n : Nat)), .dat (.int (m : Nat))], ?_, ⟨n, m, h1, h2, h3, h4, by rw [← hp]; omega, rfl⟩⟩
        have hc' : ¬ (400 : Int) < ((items sig p : Nat) : Int) := by omega
        simp [emul, eit, hc']) (n0 + m0) 1000000 [.bag cs2 dg2 mx2, .dat (tD sig), .dat (.int (n0 : Nat)), .dat (.int (m0 : Nat))] (by omega) ⟨n0, m0, by omega, by omega, by omega, by omega, rfl, rfl⟩
  obtain ⟨S, cs3, dg3, mx3, hB3, hS, e3⟩ := algebra_ok hB2 hs hl h1 (by omega)
  obtain ⟨T, cs4, dg4, mx4, hB4, hT, e4⟩ := algebra_ok hB3 hs hl h3 (by omega)
  refine ⟨n, m, S, T, cs4, dg4, mx4, hB4, h1, h2, h3, h4, h5, hS, hT, okOnly_of (fn_rt (Γ := [.bag cs4 dg4 mx4, .dat (tD sig), .dat (.int (n : Nat)), .dat (.int (m : Nat))]) ?_)⟩
  have e1' : m__law_draw [.bag cs dg mx, .dat (.int 4)] = some (.dat (.int (r1 : Nat)), [.bag cs1 dg1 mx1, .dat (.int 4)]) := e1
  have e2' : m__law_draw [.bag cs1 dg1 mx1, .dat (.int 4)] = some (.dat (.int (r2 : Nat)), [.bag cs2 dg2 mx2, .dat (.int 4)]) := e2
  have hW := v_wh hG
  simp [b__law_small, e1', e2', en, em, hW, e3, e4]
end K73
/-! M6: great algebras; any pair. -/
namespace K73
open PySem L2 JJ
theorem great_ok {cs : List Int} {dg mx : Int} {sig : List Nat} {n : Nat} (hB : BagOk cs dg mx) (hs : ∀ a ∈ sig, a ≤ 3) (hl : sig.length ≤ 100) (hn : 0 < n) (hn2 : n ≤ 61) : ∃ (T : List (List Nat)) (cs' : List Int) (dg' mx' : Int), BagOk cs' dg' mx' ∧ TabOk sig n T ∧
    m__law_great [.bag cs dg mx, .dat (tD sig), .dat (.int (n : Nat))] = some (.dat (algD n T), [.bag cs' dg' mx', .dat (tD sig), .dat (.int (n : Nat))]) := by
  obtain ⟨G, hG, cs2, dg2, mx2, T, c4, c5, c6, c7, c8, hB2, hT, rfl⟩ := loop_invA (mg := mgN 4) (mb := (mSeq (mAsgG (mApp fTup (mlC (mpE (mApp m__law_draw (mlC (mpV 0) (mlC (mpV 2) mlN)))) (mlC (mpE (mApp m__law_draw (mlC (mpV 0) (mlC (mpE (mC (.int 97))) mlN)))) (mlC (mpE (mApp m__law_draw (mlC (mpV 0) (mlC (mpE (mC (.int 89))) mlN)))) mlN)))) (mgT 3 (mgsC (mgN 5) (mgsC (mgN 6) (mgsC (mgN 7) mgsN)))))
    (mSeq (mAsg 8 (mLc (o0__law_great.map (·.2)) (mI gRng1 (mlC (mpE (mApp m__law_power (mlC (mpV 2) (mlC (mpV 4) mlN)))) mlN)) (mgN 9) mYes (mApp fMod (mlC (mpE (mApp fInt (mlC (mpE (mApp fAdd (mlC (mpE (mApp fAdd (mlC (mpV 5) (mlC (mpE (mApp fMul (mlC (mpV 9) (mlC (mpV 6) mlN)))) mlN)))) (mlC (mpE (mApp fMul (mlC (mpE (mApp fDiv (mlC (mpV 9) (mlC (mpV 2) mlN)))) (mlC (mpV 7) mlN)))) mlN)))) mlN))) (mlC (mpV 2) mlN)))))
    (mExpr (mMth isL 3 fAppend (mlC (mpE (mApp fTuple (mlC (mpV 8) mlN))) mlN))))))
    (Γ := [.bag cs dg mx, .dat (tD sig), .dat (.int (n : Nat)), .lst [], .any, .any, .any, .any, .any, .any]) sig nD
    (fun l G => ∃ cs dg mx T c4 c5 c6 c7 c8, BagOk cs dg mx ∧ TabOk l n T ∧ G = [.bag cs dg mx, .dat (tD sig), .dat (.int (n : Nat)), .lst (T.map tD), c4, c5, c6, c7, c8, .any]) (fun i a G hi hI => by
      obtain ⟨cs, dg, mx, T, c4, c5, c6, c7, c8, hB, hT, rfl⟩ := hI
      have ha : a ≤ 3 := hs a (List.mem_of_getElem? hi)
      have hil : i < sig.length := (List.getElem?_eq_some_iff.mp hi).1
      have hTl : T.length < 16777216 := by rw [hT.1, List.length_take]; omega
      have hp := pow_small hn2 ha
      have ep := mpow_small (n := n) (a := a) (by omega) ha
      obtain ⟨N, hN⟩ : ∃ N, N = n ^ a := ⟨_, rfl⟩
      rw [← hN] at ep hp
      obtain ⟨fi, cs1, dg1, mx1, hfi, hB1, e1⟩ := mdraw_ok (below := n) hB hn (by omega)
      obtain ⟨se, cs2, dg2, mx2, hse, hB2, e2⟩ := mdraw_ok (below := 97) hB1 (by decide) (by decide)
      obtain ⟨th, cs3, dg3, mx3, hth, hB3, e3⟩ := mdraw_ok (below := 89) hB2 (by decide) (by decide)
      have e2' : m__law_draw [.bag cs1 dg1 mx1, .dat (.int 97)] = some (.dat (.int (se : Nat)), [.bag cs2 dg2 mx2, .dat (.int 97)]) := e2
      have e3' : m__law_draw [.bag cs2 dg2 mx2, .dat (.int 89)] = some (.dat (.int (th : Nat)), [.bag cs3 dg3 mx3, .dat (.int 89)]) := e3
      have hrng := v_rng1 (k := N) (by omega)
      have hrd : rgD 0 N = (List.range N).map fun k => PyData.int (k : Nat) := by simp [rgD]
      rw [hrd] at hrng
      obtain ⟨row, hrow⟩ : ∃ row : List Nat, row = (List.range N).map fun k => (fi + k * se + k / n * th) % n := ⟨_, rfl⟩
      have hlc := lc_mapA (own := [9]) (mg := mgN 9) (me := mApp fMod (mlC (mpE (mApp fInt (mlC (mpE (mApp fAdd (mlC (mpE (mApp fAdd (mlC (mpV 5) (mlC (mpE (mApp fMul (mlC (mpV 9) (mlC (mpV 6) mlN)))) mlN)))) (mlC (mpE (mApp fMul (mlC (mpE (mApp fDiv (mlC (mpV 9) (mlC (mpV 2) mlN)))) (mlC (mpV 7) mlN)))) mlN)))) mlN))) (mlC (mpV 2) mlN)))
        (Γ := [.bag cs3 dg3 mx3, .dat (tD sig), .dat (.int (n : Nat)), .lst (T.map tD), .dat (.int (a : Nat)), .dat (.int (fi : Nat)), .dat (.int (se : Nat)), .dat (.int (th : Nat)), c8, .any]) (List.range N) (fun k => .int (k : Nat)) (fun k => nD ((fi + k * se + k / n * th) % n)) (fun k hk => by
          have hk' : k < N := List.mem_range.mp hk
          have m1 := v_mul31 (i := ((k : Nat) : Int)) (j := ((se : Nat) : Int)) (by omega) (by omega) (by omega) (by omega)
          have d1 := v_div (i := ((k : Nat) : Int)) (j := ((n : Nat) : Int)) (by omega) (by
            rw [Int.natAbs_natCast]
            have : n.log2 < 60 := (Nat.log2_lt (by omega)).mpr (by omega)
            omega)
          have hq : k / n < 4294967296 := Nat.lt_of_le_of_lt (Nat.div_le_self k n) (by omega)
          have hq2 : ((k : Nat) : Int) / ((n : Nat) : Int) = ((k / n : Nat) : Int) := by simp
          have m2 := v_mul31 (i := ((k : Nat) : Int) / ((n : Nat) : Int)) (j := ((th : Nat) : Int)) (Int.ediv_nonneg (by omega) (by omega)) (by rw [hq2]; omega) (by omega) (by omega)
          have md := v_mod (i := ((fi : Nat) : Int) + ((k : Nat) : Int) * ((se : Nat) : Int) + ((k : Nat) : Int) / ((n : Nat) : Int) * ((th : Nat) : Int)) (j := ((n : Nat) : Int)) (by omega)
          refine ⟨_, [.bag cs3 dg3 mx3, .dat (tD sig), .dat (.int (n : Nat)), .lst (T.map tD), .dat (.int (a : Nat)), .dat (.int (fi : Nat)), .dat (.int (se : Nat)), .dat (.int (th : Nat)), c8, .dat (.int (k : Nat))], rfl, ?_, rfl⟩
          simp [m1, d1, m2, md, nD]) (by rw [List.length_range, sizeLine_eq]; omega)
      rw [show (List.range N).map (fun k => nD ((fi + k * se + k / n * th) % n)) = row.map nD by rw [hrow, List.map_map]; rfl] at hlc
      have hrow1 : row.length = n ^ a := by rw [hrow]; simp [hN]
      have hrow2 : ∀ x ∈ row, x < n := fun x hx => by
        rw [hrow] at hx
        obtain ⟨k, _, rfl⟩ := List.mem_map.mp hx
        exact Nat.mod_lt _ hn
      refine ⟨_, [.bag cs3 dg3 mx3, .dat (tD sig), .dat (.int (n : Nat)), .lst ((T ++ [row]).map tD), .dat (.int (a : Nat)), .dat (.int (fi : Nat)), .dat (.int (se : Nat)), .dat (.int (th : Nat)), .lst (row.map nD), .any], rfl, ?_, ⟨cs3, dg3, mx3, T ++ [row], _, _, _, _, _, hB3, hT.snoc hrow1 hrow2, rfl⟩⟩
      have hap := v_appd (xs := T.map tD) (d := tD row) (by rw [List.length_map]; exact hTl)
      simp only [tD, nD] at hap hlc e1 ⊢
      simp [o0__law_great, e1, e2', e3', ep, hrng, hlc, hap]
      rfl) ⟨cs, dg, mx, [], .any, .any, .any, .any, .any, hB, .nil, rfl⟩
  refine ⟨T, cs2, dg2, mx2, hB2, hT, okOnly_of (fn_rt (Γ := [.bag cs2 dg2 mx2, .dat (tD sig), .dat (.int (n : Nat)), .lst (T.map tD), c4, c5, c6, c7, c8, .any]) ?_)⟩
  simp only [tD] at hG ⊢
  simp [b__law_great, hG, algD, tD]

theorem pick_of {cs : List Int} {dg mx : Int} {xs : List Da} (hB : BagOk cs dg mx) (hx : xs ≠ []) (hl : xs.length < 2 ^ 60) : ∃ d ∈ xs, ∃ (cs' : List Int) (dg' mx' : Int), BagOk cs' dg' mx' ∧ m__law_pick [.bag cs dg mx, .lst xs] = some (.dat d, [.bag cs' dg' mx', .lst xs]) := pick_ok hB hx hl
/-- a pair for the limits: two numbers within the elements' limit -/
theorem any_pair_ok {cs : List Int} {dg mx : Int} (hB : BagOk cs dg mx) : ∃ (sig : List Nat) (n m : Nat) (cs' : List Int) (dg' mx' : Int), BagOk cs' dg' mx' ∧ sig.length ≤ 6 ∧ (∀ a ∈ sig, a ≤ 3) ∧ sig ≠ [] ∧ 0 < n ∧ n ≤ 8 ∧ 0 < m ∧ m ≤ 61 ∧
    m__law_any_pair [.bag cs dg mx] = some (.dat (.tuple [tD sig, .int (n : Nat), .int (m : Nat)]), [.bag cs' dg' mx']) := by
  obtain ⟨d, hd, cs1, dg1, mx1, hB1, e1⟩ := pick_ok (xs := [.int 1, .int 2, .int 3]) hB (by simp) (by decide)
  obtain ⟨most, hm, rfl⟩ : ∃ most : Nat, most ≤ 3 ∧ d = .int (most : Nat) := by
    simp only [List.mem_cons, List.mem_nil_iff, or_false] at hd
    rcases hd with rfl | rfl | rfl
    · exact ⟨1, by decide, rfl⟩
    · exact ⟨2, by decide, rfl⟩
    · exact ⟨3, by decide, rfl⟩
  obtain ⟨sig, cs2, dg2, mx2, hB2, hsl, hs0, hsa, e2⟩ := signature_ok (most := most) hB1 hm
  have hs3 : ∀ a ∈ sig, a ≤ 3 := fun a ha => Nat.le_trans (hsa a ha) hm
  have hne : sig ≠ [] := fun h => by rw [h] at hs0; cases hs0
  obtain ⟨G, hG, top, ht1, ht2, rfl⟩ := wh_end (mt := mTst (mApp fGt (mlC (mpE (mApp m__law_items (mlC (mpV 1) (mlC (mpV 2) mlN)))) (mlC (mpE (mC (.int 2000))) mlN)))) (mb := mAsg 2 (mApp fSub (mlC (mpV 2) (mlC (mpE (mC (.int 1))) mlN))))
    (fun k G => ∃ top : Nat, 0 < top ∧ top ≤ 61 ∧ k = top ∧ G = [.bag cs2 dg2 mx2, .dat (tD sig), .dat (.int (top : Nat)), .any]) (fun G => ∃ top : Nat, 0 < top ∧ top ≤ 61 ∧ G = [.bag cs2 dg2 mx2, .dat (tD sig), .dat (.int (top : Nat)), .any]) (fun k G hI => by
      obtain ⟨top, h1, h2, rfl, rfl⟩ := hI
      have eit := items_ok (sig := sig) (n := k) ⟨by omega, hs3⟩
      by_cases hc : 2000 < items sig k
      · have hk : k ≠ 1 := fun h => by subst h; rw [items_one] at hc; omega
        refine .inr ⟨k - 1, [.bag cs2 dg2 mx2, .dat (tD sig), .dat (.int (k : Nat)), .any], [.bag cs2 dg2 mx2, .dat (tD sig), .dat (.int ((k - 1 : Nat) : Nat)), .any], ?_, ?_, by omega, k - 1, by omega, by omega, rfl, rfl⟩
        · have hc' : (2000 : Int) < ((items sig k : Nat) : Int) := by omega
          simp [eit, hc']
        · have hs : ((k : Nat) : Int) - 1 = ((k - 1 : Nat) : Int) := by omega
          simp [hs]
      · refine .inl ⟨[.bag cs2 dg2 mx2, .dat (tD sig), .dat (.int (k : Nat)), .any], ?_, ⟨k, h1, h2, rfl⟩⟩
        have hc' : ¬ (2000 : Int) < ((items sig k : Nat) : Int) := by omega
        simp [eit, hc']) 61 1000000 [.bag cs2 dg2 mx2, .dat (tD sig), .dat (.int ((61 : Nat) : Nat)), .any] (by decide) ⟨61, by decide, by decide, rfl, rfl⟩
  have hW := v_wh hG
  rw [show ((61 : Nat) : Int) = 61 from rfl] at hW
  obtain ⟨q, hq⟩ : ∃ q : Nat, q = min 8 top := ⟨_, rfl⟩
  have hq1 : 0 < q := by omega
  obtain ⟨r, cs3, dg3, mx3, hr, hB3, e3⟩ := mdraw_ok (below := q) hB2 hq1 (by omega)
  obtain ⟨one, hone⟩ : ∃ m, m = 1 + r := ⟨_, rfl⟩
  have eone : (1 + ((r : Nat) : Int)) = ((one : Nat) : Int) := by omega
  have emin : (if ((top : Nat) : Int) < 8 then ((top : Nat) : Int) else 8) = ((q : Nat) : Int) := by
    by_cases h : top < 8
    · rw [if_pos (by omega)]; omega
    · rw [if_neg (by omega)]; omega
  obtain ⟨d4, hd4, cs4, dg4, mx4, hB4, e4⟩ := pick_ok (xs := [.int 0, .int 1, .int 1, .int 2]) hB3 (by simp) (by decide)
  obtain ⟨b, hb, rfl⟩ : ∃ b : Nat, b ≤ 2 ∧ d4 = .int (b : Nat) := by
    simp only [List.mem_cons, List.mem_nil_iff, or_false] at hd4
    rcases hd4 with rfl | rfl | rfl | rfl
    · exact ⟨0, by decide, rfl⟩
    · exact ⟨1, by decide, rfl⟩
    · exact ⟨1, by decide, rfl⟩
    · exact ⟨2, by decide, rfl⟩
  have ed := v_div (i := ((top : Nat) : Int)) (j := ((one : Nat) : Int)) (by omega) (by
    rw [Int.natAbs_natCast]
    have : one.log2 < 60 := (Nat.log2_lt (by omega)).mpr (by omega)
    omega)
  obtain ⟨z, hz⟩ : ∃ z : Nat, z = top / one + b := ⟨_, rfl⟩
  have ez : ((top : Nat) : Int) / ((one : Nat) : Int) + ((b : Nat) : Int) = ((z : Nat) : Int) := by rw [hz]; simp
  obtain ⟨y, hy⟩ : ∃ y : Nat, y = min top z := ⟨_, rfl⟩
  have ey : (if ((z : Nat) : Int) < ((top : Nat) : Int) then ((z : Nat) : Int) else ((top : Nat) : Int)) = ((y : Nat) : Int) := by
    by_cases h : z < top
    · rw [if_pos (by omega)]; omega
    · rw [if_neg (by omega)]; omega
  obtain ⟨x, hx⟩ : ∃ x : Nat, x = max 1 y := ⟨_, rfl⟩
  have ex : (if ((y : Nat) : Int) > 1 then ((y : Nat) : Int) else 1) = ((x : Nat) : Int) := by
    by_cases h : 1 < y
    · rw [if_pos (by omega)]; omega
    · rw [if_neg (by omega)]; omega
  refine ⟨sig, one, x, cs4, dg4, mx4, hB4, hsl, hs3, hne, by omega, by omega, by omega, by omega, okOnly_of (fn_rt (Γ := [.bag cs4 dg4 mx4, .dat (tD sig), .dat (.int (top : Nat)), .dat (.int (one : Nat))]) ?_)⟩
  have hmin : fMin2 [.dat (.int 8), .dat (.int (top : Nat))] = some (.dat (.int (q : Nat)), [.dat (.int 8), .dat (.int (top : Nat))]) := by rw [v_min, emin]
  have hmin2 : fMin2 [.dat (.int (top : Nat)), .dat (.int (z : Nat))] = some (.dat (.int (y : Nat)), [.dat (.int (top : Nat)), .dat (.int (z : Nat))]) := by rw [v_min, ey]
  have hmax : fMax2 [.dat (.int 1), .dat (.int (y : Nat))] = some (.dat (.int (x : Nat)), [.dat (.int 1), .dat (.int (y : Nat))]) := by rw [v_max, ex]
  simp [-v_min, -v_max, b__law_any_pair, e1, e2, hW, hmin, e3, eone, ed, e4, ez, hmin2, hmax]
end K73
/-! M7: patterns. -/
namespace K73
open PySem L2 JJ
inductive Pat where
  | v (k : Nat)
  | a (s : Nat) (ps : List Pat)
mutual
def patD : Pat → Da
  | .v k => .int (k : Nat)
  | .a s ps => .tuple (.int (s : Nat) :: patsD ps)
def patsD : List Pat → List Da
  | [] => []
  | p :: r => patD p :: patsD r
end
mutual
def psz : Pat → Nat
  | .v _ => 1
  | .a _ ps => pszs ps + 1
def pszs : List Pat → Nat
  | [] => 0
  | p :: r => psz p + pszs r
end
theorem patsD_map : ∀ l : List Pat, patsD l = l.map patD
  | [] => by simp [patsD]
  | p :: r => by simp [patsD, patsD_map r]
theorem pszs_app : ∀ l m : List Pat, pszs (l ++ m) = pszs l + pszs m
  | [], m => by simp [pszs]
  | p :: r, m => by simp [pszs, pszs_app r m]; omega
theorem patsD_len : ∀ l : List Pat, (patsD l).length ≤ pszs l
  | [] => by simp [patsD]
  | p :: r => by
    have := patsD_len r
    have h : 0 < psz p := by cases p <;> simp [psz]
    simp [patsD, pszs]
    omega
theorem psz_pos : ∀ p : Pat, 0 < psz p
  | .v _ => by simp [psz]
  | .a _ _ => by simp [psz]
mutual
theorem pat_depth : ∀ p : Pat, (patD p).depth ≤ psz p
  | .v _ => by simp [patD, PyData.depth]
  | .a s ps => by
    have := pats_depth ps
    simp [patD, PyData.depth, PyData.depthAll, psz]
    omega
theorem pats_depth : ∀ l : List Pat, PyData.depthAll (patsD l) ≤ pszs l
  | [] => by simp [patsD, PyData.depthAll]
  | p :: r => by
    have := pat_depth p
    have := pats_depth r
    simp [patsD, PyData.depthAll, pszs]
    omega
end
mutual
theorem pat_lay : ∀ p : Pat, (patD p).canLay0 = true
  | .v _ => by simp [patD, PyData.canLay0]
  | .a s ps => by simp [patD, PyData.canLay0, PyData.canLayAll0, pats_lay ps]
theorem pats_lay : ∀ l : List Pat, PyData.canLayAll0 (patsD l) = true
  | [] => by simp [patsD, PyData.canLayAll0]
  | p :: r => by simp [patsD, PyData.canLayAll0, pat_lay p, pats_lay r]
end
theorem shapedP {l : List Pat} (h : pszs l ≤ 63) : SeqAt.shaped (.list (patsD l)) = true := by
  have := pats_depth l
  simp [SeqAt.shaped, PyData.canLay0, PyData.depth, pats_lay]
  omega
theorem shaped0 : SeqAt.shaped (.list []) = true := by decide +kernel
theorem v_neNil {xs : List Da} (h : SeqAt.shaped (.list xs) = true) : fNe [.lst xs, .lst []] = some (.dat (.bool (!xs.isEmpty)), [.lst xs, .lst []]) := by
  have e : PyData.eqv (.list xs) (.list []) = xs.isEmpty := by
    cases xs with
    | nil => rfl
    | cons a r => rfl
  simp [fNe, mR, gEq, pyOf, h, shaped0, e]
@[simp] theorem isi_tT {i : Nat} {xs : List Da} {Γ : List CD} (h : Γ[i]? = some (.dat (.tuple xs))) : mIsi "tuple" (mpV i) Γ = some (.dat (.bool true), Γ) := by
  simp [mIsi, h, mR, tyC, tyD, show kitB "tuple" "tuple" = some true by decide +kernel]
theorem isi_tI {i : Nat} {z : Int} {Γ : List CD} (h : Γ[i]? = some (.dat (.int z))) : mIsi "tuple" (mpV i) Γ = some (.dat (.bool false), Γ) := by
  simp [mIsi, h, mR, tyC, tyD, show kitB "int" "tuple" = some false by decide +kernel]
theorem sl1 {i : Nat} {x : Da} {xs : List Da} {Γ : List CD} (h : Γ[i]? = some (.dat (.tuple (x :: xs)))) : mSl (mpV i) (moS (mC (.int 1))) moN Γ = some (.dat (.tuple xs), Γ) := by
  have e : cutD (x :: xs) (some 1) none = xs := by
    unfold cutD HT.sIx
    have h1 : min (1 : Int).toNat (x :: xs).length = 1 := by simp
    simp
  simp [mSl, moS, moN, h, sliceC, e]
/-- _law_many -/
theorem many_ok {p : Pat} (h : psz p ≤ 62) : m__law_many [.dat (patD p)] = some (.dat (.int ((psz p : Nat) : Nat)), [.dat (patD p)]) := by
  obtain ⟨G, hG, c, rfl⟩ := wh_end (mt := mTst (mApp fNe (mlC (mpV 2) (mlC (mpE (mApp fLst mlN)) mlN)))) (mb := mSeq (mAsg 3 (mMth isL 2 fPop mlN))
      (mSeq (mAsg 1 (mApp fAdd (mlC (mpV 1) (mlC (mpE (mC (.int 1))) mlN))))
      (mIf (mTst (mIsi "tuple" (mpV 3))) (mExpr (mMth isL 2 fExtend (mlC (mpE (mSl (mpV 3) (moS (mC (.int 1))) moN)) mlN))) mSkip)))
    (fun n G => ∃ (st : List Pat) (f : Nat) (c : CD), n = pszs st ∧ f + pszs st = psz p ∧ G = [.dat (patD p), .dat (.int (f : Nat)), .lst (patsD st), c])
    (fun G => ∃ c, G = [.dat (patD p), .dat (.int ((psz p : Nat) : Nat)), .lst [], c]) (fun n G hI => by
      obtain ⟨st, f, c, rfl, hf, rfl⟩ := hI
      have hsh := v_neNil (shapedP (l := st) (by omega))
      rcases List.eq_nil_or_concat st with rfl | ⟨r, q, rfl⟩
      · refine .inl ⟨[.dat (patD p), .dat (.int (f : Nat)), .lst [], c], ?_, ⟨c, by simp [pszs] at hf; rw [hf]⟩⟩
        simp [patsD] at hsh ⊢
        simp [hsh]
      · right
        rw [List.concat_eq_append] at *
        have e1 : patsD (r ++ [q]) = patsD r ++ [patD q] := by rw [patsD_map, patsD_map]; simp
        have hz : pszs (r ++ [q]) = pszs r + psz q := by rw [pszs_app]; simp [pszs]
        rw [e1] at hsh
        have hne : (!(patsD r ++ [patD q]).isEmpty) = true := by simp
        rw [hne] at hsh
        cases q with
        | v k =>
          refine ⟨pszs r, [.dat (patD p), .dat (.int (f : Nat)), .lst (patsD r ++ [patD (.v k)]), c], [.dat (patD p), .dat (.int ((f + 1 : Nat) : Nat)), .lst (patsD r), .dat (patD (.v k))], ?_, ?_, by rw [hz]; simp [psz], r, f + 1, _, rfl, by rw [hz] at hf; simp [psz] at hf; omega, rfl⟩
          · rw [e1]; simp [hsh]
          · have hi := isi_tI (i := 3) (z := (k : Nat)) (Γ := [.dat (patD p), .dat (.int ((f : Nat) + 1)), .lst (patsD r), .dat (.int (k : Nat))]) rfl
            simp [patD, hi]
        | a s ps =>
          refine ⟨pszs (r ++ ps), [.dat (patD p), .dat (.int (f : Nat)), .lst (patsD r ++ [patD (.a s ps)]), c], [.dat (patD p), .dat (.int ((f + 1 : Nat) : Nat)), .lst (patsD (r ++ ps)), .dat (patD (.a s ps))], ?_, ?_, by rw [hz, pszs_app]; simp [psz], r ++ ps, f + 1, _, rfl, by rw [hz] at hf; simp [psz] at hf; rw [pszs_app]; omega, rfl⟩
          · rw [e1]; simp [hsh]
          · have hi := isi_tT (i := 3) (xs := .int (s : Nat) :: patsD ps) (Γ := [.dat (patD p), .dat (.int ((f : Nat) + 1)), .lst (patsD r), .dat (.tuple (.int (s : Nat) :: patsD ps))]) rfl
            have hs := sl1 (i := 3) (x := .int (s : Nat)) (xs := patsD ps) (Γ := [.dat (patD p), .dat (.int ((f : Nat) + 1)), .lst (patsD r), .dat (.tuple (.int (s : Nat) :: patsD ps))]) rfl
            have hx := v_extT (xs := patsD r) (ys := patsD ps) (by
              have := patsD_len r
              have := patsD_len ps
              rw [hz] at hf
              simp [psz] at hf
              omega)
            have e2 : patsD (r ++ ps) = patsD r ++ patsD ps := by rw [patsD_map, patsD_map, patsD_map]; simp
            simp [patD, hi, hs, hx, e2]) (psz p) 1000000 [.dat (patD p), .dat (.int ((0 : Nat) : Nat)), .lst (patsD [p]), .any] (by omega) ⟨[p], 0, .any, by simp [pszs], by simp [pszs], rfl⟩
  refine okOnly_of (fn_rt (Γ := [.dat (patD p), .dat (.int ((psz p : Nat) : Nat)), .lst [], c]) ?_)
  have hW := v_wh hG
  simp [patsD] at hW
  simp [b__law_many, hW]
end K73
/-! M8: patterns out of the bag. -/
namespace K73
open PySem L2 JJ
mutual
def PatOk (sig : List Nat) (nv : Nat → Prop) : Pat → Prop
  | .v k => nv k
  | .a s ps => sig[s]? = some ps.length ∧ PatsOk sig nv ps
def PatsOk (sig : List Nat) (nv : Nat → Prop) : List Pat → Prop
  | [] => True
  | p :: r => PatOk sig nv p ∧ PatsOk sig nv r
end
theorem patsOk_snoc {sig : List Nat} {nv : Nat → Prop} {q : Pat} (hq : PatOk sig nv q) : ∀ {l : List Pat}, PatsOk sig nv l → PatsOk sig nv (l ++ [q])
  | [], _ => by simp [PatsOk]; exact hq
  | p :: r, h => by
    simp only [PatsOk, List.cons_append] at *
    exact ⟨h.1, patsOk_snoc hq h.2⟩
theorem shapedN (l : List Nat) : SeqAt.shaped (.list (l.map nD)) = true := by
  have := shapedL_ints (l.map fun n => ((n : Nat) : Int))
  rw [List.map_map] at this
  exact this
theorem en_at : ∀ {k i : Nat} {xs : List Da} {d : Da}, (enD k xs)[i]? = some d → ∃ x, xs[i]? = some x ∧ d = .tuple [.int ((k + i : Nat) : Nat), x]
  | k, i, [], d, h => by simp [enD] at h
  | k, 0, x :: xs, d, h => by
    simp [enD] at h
    exact ⟨x, rfl, by rw [← h]; simp⟩
  | k, i + 1, x :: xs, d, h => by
    simp only [enD, List.getElem?_cons_succ] at h
    obtain ⟨y, h1, h2⟩ := en_at h
    refine ⟨y, by simpa using h1, ?_⟩
    rw [h2, show k + 1 + i = k + (i + 1) by omega]
section
variable {sig : List Nat} {room : Nat} {B : CD} {nm c4 c5 c6 c7 c8 c9 c10 c11 : CD}
/-- the symbols that fit -/
theorem fit_ok (hl : sig.length ≤ 100) : ∃ l : List Nat, (∀ i ∈ l, ∃ a, sig[i]? = some a ∧ a < room) ∧ (∀ i, sig[i]? = some 0 → 0 < room → i ∈ l) ∧ l.length ≤ sig.length ∧ (
    lcM [5, 6] (mgT 2 (mgsC (mgN 5) (mgsC (mgN 6) mgsN))) (mTst (mApp fLt (mlC (mpV 6) (mlC (mpV 3) mlN)))) (mTk 5) (enD 0 (sig.map nD)) [] [B, .dat (tD sig), nm, .dat (.int (room : Nat)), c4, .any, .any, c7, c8, c9, c10, c11] =
      some (l.map nD, [B, .dat (tD sig), nm, .dat (.int (room : Nat)), c4, .any, .any, c7, c8, c9, c10, c11])) := by
  obtain ⟨acc, G, hG, l, rfl, h1, h2, h3, rfl⟩ := lc_inv (own := [5, 6]) (mg := mgT 2 (mgsC (mgN 5) (mgsC (mgN 6) mgsN))) (mt := mTst (mApp fLt (mlC (mpV 6) (mlC (mpV 3) mlN)))) (me := mTk 5)
    (fun j acc G => ∃ l : List Nat, acc = l.map nD ∧ (∀ i ∈ l, ∃ a, sig[i]? = some a ∧ a < room) ∧ (∀ i < j, sig[i]? = some 0 → 0 < room → i ∈ l) ∧ l.length ≤ j ∧ G = [B, .dat (tD sig), nm, .dat (.int (room : Nat)), c4, .any, .any, c7, c8, c9, c10, c11]) (items := enD 0 (sig.map nD)) (j := 0) (acc := []) (Γ := [B, .dat (tD sig), nm, .dat (.int (room : Nat)), c4, .any, .any, c7, c8, c9, c10, c11]) (fun i d acc G hi hI => by
      obtain ⟨l, rfl, h1, h2, h3, rfl⟩ := hI
      obtain ⟨x, hx, rfl⟩ := en_at hi
      rw [List.getElem?_map] at hx
      obtain ⟨a, ha, rfl⟩ := Option.map_eq_some_iff.mp hx
      have hil : i < sig.length := (List.getElem?_eq_some_iff.mp ha).1
      by_cases hc : a < room
      · refine .inl ⟨[B, .dat (tD sig), nm, .dat (.int (room : Nat)), c4, .dat (.int ((0 + i : Nat) : Nat)), .dat (nD a), c7, c8, c9, c10, c11], [B, .dat (tD sig), nm, .dat (.int (room : Nat)), c4, .dat (.int ((0 + i : Nat) : Nat)), .dat (nD a), c7, c8, c9, c10, c11], nD i, [B, .dat (tD sig), nm, .dat (.int (room : Nat)), c4, .dat (.int ((0 + i : Nat) : Nat)), .dat (nD a), c7, c8, c9, c10, c11], by simp, ?_, by simp [nD], by rw [List.length_map, sizeLine_eq]; omega, ⟨l ++ [i], by simp, fun j hj => ?_, fun j hj h0 hr => ?_, by simp; omega, rfl⟩⟩
        · have hc' : ((a : Nat) : Int) < ((room : Nat) : Int) := by omega
          simp [nD, hc']
        · rcases List.mem_append.mp hj with h | h
          · exact h1 j h
          · rw [List.mem_singleton.mp h]; exact ⟨a, ha, hc⟩
        · by_cases hji : j = i
          · rw [hji]; simp
          · exact List.mem_append_left _ (h2 j (by omega) h0 hr)
      · refine .inr ⟨[B, .dat (tD sig), nm, .dat (.int (room : Nat)), c4, .dat (.int ((0 + i : Nat) : Nat)), .dat (nD a), c7, c8, c9, c10, c11], [B, .dat (tD sig), nm, .dat (.int (room : Nat)), c4, .dat (.int ((0 + i : Nat) : Nat)), .dat (nD a), c7, c8, c9, c10, c11], by simp, ?_, ⟨l, rfl, h1, fun j hj h0 hr => ?_, by omega, rfl⟩⟩
        · have hc' : ¬ ((a : Nat) : Int) < ((room : Nat) : Int) := by omega
          simp [nD, hc']
        · by_cases hji : j = i
          · subst hji
            rw [ha] at h0
            cases h0
            exact absurd hr hc
          · exact h2 j (by omega) h0 hr) ⟨[], rfl, (by simp), (fun i hi => absurd hi (Nat.not_lt_zero _)), Nat.le_refl _, rfl⟩
  rw [enD_len, List.length_map, Nat.zero_add] at h2 h3
  exact ⟨l, h1, fun i h0 hr => h2 i (List.getElem?_eq_some_iff.mp h0).1 h0 hr, h3, hG⟩
/-- those among them that take something -/
theorem wide_ok {l : List Nat} (hl : l.length ≤ 100) (hv : ∀ i ∈ l, ∃ a, sig[i]? = some a ∧ a < room) : ∃ w : List Nat, (∀ i ∈ w, i ∈ l) ∧ w.length ≤ l.length ∧
    lcM [5] (mgN 5) (mTst (mApp fGt (mlC (mpE (mApp fIx (mlC (mpV 1) (mlC (mpV 5) mlN)))) (mlC (mpE (mC (.int 0))) mlN)))) (mTk 5) (l.map nD) [] [B, .dat (tD sig), nm, .dat (.int (room : Nat)), .any, .any, c6, c7, c8, c9, c10, c11] =
      some (w.map nD, [B, .dat (tD sig), nm, .dat (.int (room : Nat)), .any, .any, c6, c7, c8, c9, c10, c11]) := by
  obtain ⟨acc, G, hG, w, rfl, h1, h2, rfl⟩ := lc_inv (own := [5]) (mg := mgN 5) (mt := mTst (mApp fGt (mlC (mpE (mApp fIx (mlC (mpV 1) (mlC (mpV 5) mlN)))) (mlC (mpE (mC (.int 0))) mlN)))) (me := mTk 5)
    (fun j acc G => ∃ w : List Nat, acc = w.map nD ∧ (∀ i ∈ w, i ∈ l) ∧ w.length ≤ j ∧ G = [B, .dat (tD sig), nm, .dat (.int (room : Nat)), .any, .any, c6, c7, c8, c9, c10, c11]) (items := l.map nD) (j := 0) (acc := []) (Γ := [B, .dat (tD sig), nm, .dat (.int (room : Nat)), .any, .any, c6, c7, c8, c9, c10, c11]) (fun i d acc G hi hI => by
      obtain ⟨w, rfl, h1, h2, rfl⟩ := hI
      rw [List.getElem?_map] at hi
      obtain ⟨s, hs, rfl⟩ := Option.map_eq_some_iff.mp hi
      have hsl : s ∈ l := List.mem_of_getElem? hs
      have hil : i < l.length := (List.getElem?_eq_some_iff.mp hs).1
      obtain ⟨a, ha, _⟩ := hv s hsl
      have hix := v_ixT (xs := sig.map nD) (i := s) (d := nD a) (by rw [List.getElem?_map, ha]; rfl)
      by_cases hc : 0 < a
      · refine .inl ⟨[B, .dat (tD sig), nm, .dat (.int (room : Nat)), .any, .dat (nD s), c6, c7, c8, c9, c10, c11], [B, .dat (tD sig), nm, .dat (.int (room : Nat)), .any, .dat (nD s), c6, c7, c8, c9, c10, c11], nD s, [B, .dat (tD sig), nm, .dat (.int (room : Nat)), .any, .dat (nD s), c6, c7, c8, c9, c10, c11], by simp, ?_, by simp, by rw [List.length_map, sizeLine_eq]; omega, ⟨w ++ [s], by simp, fun j hj => ?_, by simp; omega, rfl⟩⟩
        · simp only [nD] at hix ⊢
          simp [tD, nD, hix, hc]
        · rcases List.mem_append.mp hj with h | h
          · exact h1 j h
          · rw [List.mem_singleton.mp h]; exact hsl
      · refine .inr ⟨[B, .dat (tD sig), nm, .dat (.int (room : Nat)), .any, .dat (nD s), c6, c7, c8, c9, c10, c11], [B, .dat (tD sig), nm, .dat (.int (room : Nat)), .any, .dat (nD s), c6, c7, c8, c9, c10, c11], by simp, ?_, ⟨w, rfl, h1, by omega, rfl⟩⟩
        simp only [nD] at hix ⊢
        simp [tD, nD, hix, hc]) ⟨[], rfl, (by simp), Nat.le_refl _, rfl⟩
  exact ⟨w, h1, by simpa using h2, hG⟩
end
end K73
/-! M9: a pattern out of the bag. -/
namespace K73
open PySem L2 JJ
section
variable {sig nms : List Nat} {room : Nat}
abbrev pt1 : MS := mIf (mAnd (mTst (mApp fNe (mlC (mpV 2) (mlC (mpE (mApp fLst mlN)) mlN)))) (mOr (mTst (mApp fEq (mlC (mpV 3) (mlC (mpE (mC (.int 1))) mlN)))) (mTst (mApp fEq (mlC (mpE (mApp m__law_draw (mlC (mpV 0) (mlC (mpE (mC (.int 3))) mlN)))) (mlC (mpE (mC (.int 0))) mlN)))))) (mRet (mApp m__law_pick (mlC (mpV 0) (mlC (mpV 2) mlN)))) mSkip
abbrev G0 (cs : List Int) (dg mx : Int) (sig nms : List Nat) (room : Nat) (r : List CD) : List CD := .bag cs dg mx :: .dat (tD sig) :: .lst (nms.map nD) :: .dat (.int (room : Nat)) :: r
theorem pt1_ok {cs : List Int} {dg mx : Int} {r : List CD} (hB : BagOk cs dg mx) (hn : nms.length ≤ 100) : (∃ (k : Nat) (cs' : List Int) (dg' mx' : Int), k ∈ nms ∧ BagOk cs' dg' mx' ∧ pt1 (G0 cs dg mx sig nms room r) = some (.rt (.dat (nD k)) (G0 cs' dg' mx' sig nms room r))) ∨
    ∃ (cs' : List Int) (dg' mx' : Int), BagOk cs' dg' mx' ∧ pt1 (G0 cs dg mx sig nms room r) = some (.nx (G0 cs' dg' mx' sig nms room r)) := by
  have hne := v_neNil (shapedN nms)
  by_cases h0 : nms = []
  · subst h0
    refine .inr ⟨cs, dg, mx, hB, ?_⟩
    simp at hne
    simp [hne]
  · have h1 : (nms.map nD).isEmpty = false := by simpa using h0
    have hx : nms.map nD ≠ [] := by simpa using h0
    rw [h1, Bool.not_false] at hne
    by_cases hr : room = 1
    · obtain ⟨d, hd, cs1, dg1, mx1, hB1, e1⟩ := pick_ok (xs := nms.map nD) hB hx (by rw [List.length_map]; omega)
      obtain ⟨k, hk, rfl⟩ := List.mem_map.mp hd
      refine .inl ⟨k, cs1, dg1, mx1, hk, hB1, ?_⟩
      subst hr
      simp [hne, e1]
    · obtain ⟨z, cs2, dg2, mx2, hz, hB2, e2⟩ := mdraw_ok (below := 3) hB (by decide) (by decide)
      have e2' : m__law_draw [.bag cs dg mx, .dat (.int 3)] = some (.dat (.int (z : Nat)), [.bag cs2 dg2 mx2, .dat (.int 3)]) := e2
      have hr' : (((room : Nat) : Int) == 1) = false := by simp; omega
      by_cases hz0 : z = 0
      · obtain ⟨d, hd, cs1, dg1, mx1, hB1, e1⟩ := pick_ok (xs := nms.map nD) hB2 hx (by rw [List.length_map]; omega)
        obtain ⟨k, hk, rfl⟩ := List.mem_map.mp hd
        refine .inl ⟨k, cs1, dg1, mx1, hk, hB1, ?_⟩
        subst hz0
        simp only [show ((0 : Nat) : Int) = 0 from rfl] at e2'
        simp [hne, hr', e2', e1]
      · refine .inr ⟨cs2, dg2, mx2, hB2, ?_⟩
        have hz' : (((z : Nat) : Int) == 0) = false := by simpa using hz0
        simp [hne, hr', e2', hz']
end
end K73
/-! M10: a pattern out of the bag, further. -/
namespace K73
open PySem L2 JJ
section
variable {sig nms : List Nat} {room : Nat}
abbrev pt2 : MS := mAsg 4 (mLc (o0__law_pattern.map (·.2)) (mI gEn (mlC (mpV 1) mlN)) (mgT 2 (mgsC (mgN 5) (mgsC (mgN 6) mgsN))) (mTst (mApp fLt (mlC (mpV 6) (mlC (mpV 3) mlN)))) (mTk 5))
abbrev pt3 : MS := mIf (mAnd (mTst (mApp fGt (mlC (mpV 3) (mlC (mpE (mC (.int 3))) mlN)))) (mTst (mApp fGt (mlC (mpE (mApp m__law_draw (mlC (mpV 0) (mlC (mpE (mC (.int 6))) mlN)))) (mlC (mpE (mC (.int 0))) mlN))))) (mSeq (mAsg 7 (mLc (o1__law_pattern.map (·.2)) (mI gSeq (mlC (mpV 4) mlN)) (mgN 5) (mTst (mApp fGt (mlC (mpE (mApp fIx (mlC (mpV 1) (mlC (mpV 5) mlN)))) (mlC (mpE (mC (.int 0))) mlN)))) (mTk 5)))
    (mAsg 4 (mIfE (mTst (mApp fNe (mlC (mpV 7) (mlC (mpE (mApp fLst mlN)) mlN)))) (mTk 7) (mTk 4)))) mSkip
theorem pt2_ok {cs : List Int} {dg mx : Int} {c8 c9 c10 c11 : CD} (hl : sig.length ≤ 100) : ∃ l : List Nat, (∀ i ∈ l, ∃ a, sig[i]? = some a ∧ a < room) ∧ (∀ i, sig[i]? = some 0 → 0 < room → i ∈ l) ∧ l.length ≤ sig.length ∧
    pt2 (G0 cs dg mx sig nms room [.any, .any, .any, .any, c8, c9, c10, c11]) = some (.nx (G0 cs dg mx sig nms room [.lst (l.map nD), .any, .any, .any, c8, c9, c10, c11])) := by
  obtain ⟨l, h1, h2, h3, h4⟩ := fit_ok (sig := sig) (room := room) (B := .bag cs dg mx) (nm := .lst (nms.map nD)) (c4 := .any) (c7 := .any) (c8 := c8) (c9 := c9) (c10 := c10) (c11 := c11) hl
  refine ⟨l, h1, h2, h3, ?_⟩
  simp only [tD] at h4 ⊢
  simp [o0__law_pattern, h4, tD, G0]
theorem pt3_ok {cs : List Int} {dg mx : Int} {c8 c9 c10 c11 : CD} {l : List Nat} (hB : BagOk cs dg mx) (hl : l.length ≤ 100) (hne : l ≠ []) (hv : ∀ i ∈ l, ∃ a, sig[i]? = some a ∧ a < room) : ∃ (w : List Nat) (c7 : CD) (cs' : List Int) (dg' mx' : Int), BagOk cs' dg' mx' ∧ w ≠ [] ∧ (∀ i ∈ w, i ∈ l) ∧ w.length ≤ 1000000 ∧
    pt3 (G0 cs dg mx sig nms room [.lst (l.map nD), .any, .any, .any, c8, c9, c10, c11]) = some (.nx (G0 cs' dg' mx' sig nms room [.lst (w.map nD), .any, .any, c7, c8, c9, c10, c11])) := by
  by_cases hr : 3 < room
  · obtain ⟨z, cs2, dg2, mx2, hz, hB2, e2⟩ := mdraw_ok (below := 6) hB (by decide) (by decide)
    have e2' : m__law_draw [.bag cs dg mx, .dat (.int 6)] = some (.dat (.int (z : Nat)), [.bag cs2 dg2 mx2, .dat (.int 6)]) := e2
    have hr' : (3 : Int) < ((room : Nat) : Int) := by omega
    by_cases hz0 : 0 < z
    · obtain ⟨w, hw, hwl, e⟩ := wide_ok (sig := sig) (room := room) (B := .bag cs2 dg2 mx2) (nm := .lst (nms.map nD)) (c6 := .any) (c7 := .any) (c8 := c8) (c9 := c9) (c10 := c10) (c11 := c11) hl hv
      have hsh := v_neNil (shapedN w)
      simp only [tD] at e
      by_cases hwe : w = []
      · subst hwe
        refine ⟨l, .lst [], cs2, dg2, mx2, hB2, hne, fun i hi => hi, by omega, ?_⟩
        simp at hsh
        simp at e
        simp [o1__law_pattern, hr', e2', hz0, tD, e, hsh]
      · have h1 : (w.map nD).isEmpty = false := by simpa using hwe
        rw [h1, Bool.not_false] at hsh
        refine ⟨w, .any, cs2, dg2, mx2, hB2, hwe, hw, by omega, ?_⟩
        simp [o1__law_pattern, hr', e2', hz0, tD, e, hsh]
    · refine ⟨l, .any, cs2, dg2, mx2, hB2, hne, fun i hi => hi, by omega, ?_⟩
      simp [hr', e2', hz0]
  · refine ⟨l, .any, cs, dg, mx, hB, hne, fun i hi => hi, by omega, ?_⟩
    have hr' : ¬ (3 : Int) < ((room : Nat) : Int) := by omega
    simp [hr']
end
end K73
/-! M11: a pattern out of the bag: the whole. -/
namespace K73
open PySem L2 JJ
section
variable {sig nms : List Nat}
theorem seq_nx {m n : MS} {Γ Γ1 : List CD} (h : m Γ = some (.nx Γ1)) : mSeq m n Γ = n Γ1 := by rw [v_seq, h]
theorem seq_rt {m n : MS} {Γ Γ1 : List CD} {c : CD} (h : m Γ = some (.rt c Γ1)) : mSeq m n Γ = some (.rt c Γ1) := by rw [v_seq, h]
abbrev ptL (self : MF) : MS := (mSeq (mAsg 11 (mApp self (mlC (mpV 0) (mlC (mpV 1) (mlC (mpV 2) (mlC (mpE (mApp fSub (mlC (mpV 9) (mlC (mpE (mApp fSub (mlC (mpE (mApp fSub (mlC (mpE (mApp fIx (mlC (mpV 1) (mlC (mpV 5) mlN)))) (mlC (mpV 10) mlN)))) (mlC (mpE (mC (.int 1))) mlN)))) mlN)))) mlN))))))
    (mSeq (mAsg 9 (mApp fSub (mlC (mpV 9) (mlC (mpE (mApp m__law_many (mlC (mpV 11) mlN))) mlN))))
    (mExpr (mMth isL 8 fAppend (mlC (mpV 11) mlN)))))
theorem pattern_ok (hs3 : ∀ a ∈ sig, a ≤ 3) (h0 : 0 ∈ sig) (hl : sig.length ≤ 100) (hn : nms.length ≤ 100) : ∀ (n room : Nat) (cs : List Int) (dg mx : Int), BagOk cs dg mx → 0 < room → room ≤ n → room ≤ 60 →
    ∃ (p : Pat) (cs' : List Int) (dg' mx' : Int), BagOk cs' dg' mx' ∧ PatOk sig (· ∈ nms) p ∧ psz p ≤ room ∧
      m__law_pattern n [.bag cs dg mx, .dat (tD sig), .lst (nms.map nD), .dat (.int (room : Nat))] = some (.dat (patD p), [.bag cs' dg' mx', .dat (tD sig), .lst (nms.map nD), .dat (.int (room : Nat))])
  | 0, room, cs, dg, mx, hB, h1, h2, h3 => by omega
  | n + 1, room, cs, dg, mx, hB, h1, h2, h3 => by
    show ∃ (p : Pat) (cs' : List Int) (dg' mx' : Int), BagOk cs' dg' mx' ∧ PatOk sig (· ∈ nms) p ∧ psz p ≤ room ∧ okOnly (mFnX 4 12 _ (b__law_pattern (m__law_pattern n))) _ = _
    rcases pt1_ok (sig := sig) (nms := nms) (room := room) (r := [.any, .any, .any, .any, .any, .any, .any, .any]) hB hn with ⟨k, cs1, dg1, mx1, hk, hB1, e1⟩ | ⟨cs1, dg1, mx1, hB1, e1⟩
    · refine ⟨.v k, cs1, dg1, mx1, hB1, by simp [PatOk, hk], by simp [psz]; omega, okOnly_of (fn_rt (Γ0 := G0 cs dg mx sig nms room [.any, .any, .any, .any, .any, .any, .any, .any]) (Γ := G0 cs1 dg1 mx1 sig nms room [.any, .any, .any, .any, .any, .any, .any, .any]) ?_)⟩
      unfold b__law_pattern
      refine (seq_rt e1).trans ?_
      simp [patD, nD]
    · obtain ⟨l, hv, hz, hll, e2⟩ := pt2_ok (sig := sig) (nms := nms) (room := room) (cs := cs1) (dg := dg1) (mx := mx1) (c8 := .any) (c9 := .any) (c10 := .any) (c11 := .any) hl
      obtain ⟨i0, hi0⟩ := List.getElem?_of_mem h0
      have hlne : l ≠ [] := fun h => by have := hz i0 hi0 h1; rw [h] at this; cases this
      obtain ⟨w, c7, cs3, dg3, mx3, hB3, hwne, hwl, hww, e3⟩ := pt3_ok (sig := sig) (nms := nms) (room := room) (c8 := .any) (c9 := .any) (c10 := .any) (c11 := .any) hB1 (by omega) hlne hv
      obtain ⟨d4, hd4, cs4, dg4, mx4, hB4, e4⟩ := pick_ok (xs := w.map nD) hB3 (by simpa using hwne) (by rw [List.length_map]; omega)
      obtain ⟨s, hs, rfl⟩ := List.mem_map.mp hd4
      obtain ⟨a, ha, har⟩ := hv s (hwl s hs)
      have ha3 : a ≤ 3 := hs3 a (List.mem_of_getElem? ha)
      have hix := v_ixT (xs := sig.map nD) (i := s) (d := nD a) (by rw [List.getElem?_map, ha]; rfl)
      have hrng := v_rng1 (k := a) (by omega)
      -- the parts
      obtain ⟨G, hG, cs5, dg5, mx5, ps, rest, c10, c11, hB5, hps, hpl, hpr, hpr2, rfl⟩ := loop_inv (mg := mgN 10) (mb := ptL (m__law_pattern n))
        (fun j G => ∃ (cs : List Int) (dg mx : Int) (ps : List Pat) (rest : Nat) (c10 c11 : CD), BagOk cs dg mx ∧ PatsOk sig (· ∈ nms) ps ∧ ps.length = j ∧ pszs ps + rest = room - 1 ∧ a - j ≤ rest ∧
          G = G0 cs dg mx sig nms room [.lst (w.map nD), .dat (.int (s : Nat)), .any, c7, .lst (patsD ps), .dat (.int (rest : Nat)), c10, c11]) (items := rgD 0 a) (j := 0) (Γ := G0 cs4 dg4 mx4 sig nms room [.lst (w.map nD), .dat (.int (s : Nat)), .any, c7, .lst [], .dat (.int ((room - 1 : Nat) : Nat)), .any, .any]) (fun j d G hj hI => by
          obtain ⟨cs, dg, mx, ps, rest, c10, c11, hB, hps, hpl, hpr, hpr2, rfl⟩ := hI
          obtain ⟨hj1, rfl⟩ := rg_at hj
          rw [Nat.zero_add] at hpl hpr2
          obtain ⟨rm, hrm⟩ : ∃ rm, rm = rest - (a - j - 1) := ⟨_, rfl⟩
          obtain ⟨q, cs6, dg6, mx6, hB6, hq, hqz, e6⟩ := pattern_ok hs3 h0 hl hn n rm cs dg mx hB (by omega) (by omega) (by omega)
          have hm := many_ok (p := q) (by omega)
          have erm : ((rest : Nat) : Int) - (((a : Nat) : Int) - ((j : Nat) : Int) - 1) = ((rm : Nat) : Int) := by omega
          obtain ⟨r2, hr2⟩ : ∃ r2, r2 = rest - psz q := ⟨_, rfl⟩
          have er2 : ((rest : Nat) : Int) - ((psz q : Nat) : Int) = ((r2 : Nat) : Int) := by omega
          have hap := v_appd (xs := patsD ps) (d := patD q) (by have := patsD_len ps; omega)
          have e1 : patsD (ps ++ [q]) = patsD ps ++ [patD q] := by rw [patsD_map, patsD_map]; simp
          have hz2 : pszs (ps ++ [q]) = pszs ps + psz q := by rw [pszs_app]; simp [pszs]
          refine ⟨_, G0 cs6 dg6 mx6 sig nms room [.lst (w.map nD), .dat (.int (s : Nat)), .any, c7, .lst (patsD (ps ++ [q])), .dat (.int (r2 : Nat)), .dat (.int (0 + (j : Nat))), .dat (patD q)], rfl, ?_, ⟨cs6, dg6, mx6, ps ++ [q], r2, _, _, hB6, patsOk_snoc hq hps, by simp [hpl], by omega, by omega, rfl⟩⟩
          simp only [tD, nD] at hix e6
          simp [G0, tD, hix, erm, e6, hm, er2, hap, e1]) ⟨cs4, dg4, mx4, [], room - 1, .any, .any, hB4, by simp [PatsOk], rfl, by simp [pszs], by omega, rfl⟩
      rw [rg_len, Nat.zero_add] at hpl
      refine ⟨.a s ps, cs5, dg5, mx5, hB5, by simp only [PatOk]; exact ⟨by rw [ha, hpl], hps⟩, by simp only [psz]; omega, okOnly_of (fn_rt (Γ0 := G0 cs dg mx sig nms room [.any, .any, .any, .any, .any, .any, .any, .any]) (Γ := G0 cs5 dg5 mx5 sig nms room [.lst (w.map nD), .dat (.int (s : Nat)), .any, c7, .lst (patsD ps), .dat (.int (rest : Nat)), c10, c11]) ?_)⟩
      unfold b__law_pattern
      refine (seq_nx e1).trans ((seq_nx e2).trans ((seq_nx e3).trans ?_))
      have er1 : ((room : Nat) : Int) - 1 = ((room - 1 : Nat) : Int) := by omega
      have hcat := v_catT (xs := [.int (s : Nat)]) (ys := patsD ps) (by have := patsD_len ps; simp; omega)
      simp only [tD, nD, G0, patD] at hix hG e4 ⊢
      simp [e4, er1, hix, hrng, hG, hcat]
end
end K73
/-! M12: values of patterns. -/
namespace K73
open PySem L2 JJ
def plc (n : Nat) (l : List Nat) : Nat := l.foldl (fun acc e => acc * n + e) 0
theorem plc_snoc (n : Nat) (l : List Nat) (e : Nat) : plc n (l ++ [e]) = plc n l * n + e := by simp [plc]
theorem plc_lt {n : Nat} {l : List Nat} (h : ∀ e ∈ l, e < n) : plc n l < n ^ l.length := by
  obtain ⟨k, hk⟩ : ∃ k, k = l.length := ⟨_, rfl⟩
  induction k generalizing l with
  | zero =>
    have : l = [] := List.length_eq_zero_iff.mp hk.symm
    subst this
    simp [plc]
  | succ k ih =>
    rcases List.eq_nil_or_concat l with rfl | ⟨r, z, rfl⟩
    · simp at hk
    · rw [List.concat_eq_append] at *
      have h1 := ih (l := r) (fun e he => h e (by simp [he])) (by simp at hk; exact hk)
      have hz := h z (by simp)
      rw [plc_snoc, List.length_append, List.length_singleton, Nat.pow_succ]
      have h2 : (plc n r + 1) * n ≤ n ^ r.length * n := Nat.mul_le_mul_right n h1
      rw [Nat.add_mul, Nat.one_mul] at h2
      omega
mutual
def val (n : Nat) (T : List (List Nat)) (g : List Nat) : Pat → Nat
  | .v k => g.getD k 0
  | .a s ps => (T.getD s []).getD (plc n (vals n T g ps)) 0
def vals (n : Nat) (T : List (List Nat)) (g : List Nat) : List Pat → List Nat
  | [] => []
  | p :: r => val n T g p :: vals n T g r
end
theorem vals_map {n : Nat} {T : List (List Nat)} {g : List Nat} : ∀ l : List Pat, vals n T g l = l.map (val n T g)
  | [] => by simp [vals]
  | p :: r => by simp [vals, vals_map r]
theorem patsOk_mem {sig : List Nat} {nv : Nat → Prop} {q : Pat} : ∀ {l : List Pat}, PatsOk sig nv l → q ∈ l → PatOk sig nv q
  | p :: r, h, hq => by
    simp only [PatsOk] at h
    rcases List.mem_cons.mp hq with rfl | hq
    · exact h.1
    · exact patsOk_mem h.2 hq
section
variable {sig g : List Nat} {n : Nat} {T : List (List Nat)}
mutual
theorem val_lt (hT : TabOk sig n T) (hg : ∀ x ∈ g, x < n) : ∀ p : Pat, PatOk sig (· < g.length) p → val n T g p < n
  | .v k, h => by
    simp only [PatOk] at h
    simp only [val, List.getD_eq_getElem?_getD, List.getElem?_eq_getElem h, Option.getD_some]
    exact hg _ (List.getElem_mem h)
  | .a s ps, h => by
    simp only [PatOk] at h
    have hs : s < T.length := by rw [hT.1]; exact (List.getElem?_eq_some_iff.mp h.1).1
    obtain ⟨h1, h2⟩ := hT.2 s ps.length T[s] h.1 (List.getElem?_eq_getElem hs)
    have hv := vals_lt hT hg ps h.2
    have hl : plc n (vals n T g ps) < T[s].length := by
      rw [h1]
      have := plc_lt hv
      rwa [vals_map, List.length_map, ← vals_map] at this
    simp only [val, List.getD_eq_getElem?_getD, List.getElem?_eq_getElem hs, Option.getD_some, List.getElem?_eq_getElem hl]
    exact h2 _ (List.getElem_mem hl)
theorem vals_lt (hT : TabOk sig n T) (hg : ∀ x ∈ g, x < n) : ∀ l : List Pat, PatsOk sig (· < g.length) l → ∀ e ∈ vals n T g l, e < n
  | [], _, e, he => by simp [vals] at he
  | p :: r, h, e, he => by
    simp only [PatsOk] at h
    simp only [vals, List.mem_cons] at he
    rcases he with rfl | he
    · exact val_lt hT hg p h.1
    · exact vals_lt hT hg r h.2 e he
end
/-- the entry that a pattern's value is read from -/
theorem entry_at (hT : TabOk sig n T) (hg : ∀ x ∈ g, x < n) {s : Nat} {ps : List Pat} (h : PatOk sig (· < g.length) (.a s ps)) : ∃ t, T[s]? = some t ∧ t[plc n (vals n T g ps)]? = some (val n T g (.a s ps)) := by
  simp only [PatOk] at h
  have hs : s < T.length := by rw [hT.1]; exact (List.getElem?_eq_some_iff.mp h.1).1
  obtain ⟨h1, h2⟩ := hT.2 s ps.length T[s] h.1 (List.getElem?_eq_getElem hs)
  have hl : plc n (vals n T g ps) < T[s].length := by
    rw [h1]
    have := plc_lt (vals_lt hT hg ps h.2)
    rwa [vals_map, List.length_map, ← vals_map] at this
  refine ⟨T[s], List.getElem?_eq_getElem hs, ?_⟩
  simp only [val, List.getD_eq_getElem?_getD, List.getElem?_eq_getElem hs, Option.getD_some, List.getElem?_eq_getElem hl]
theorem isi_iI {i : Nat} {z : Int} {Γ : List CD} (h : Γ[i]? = some (.dat (.int z))) : mIsi "int" (mpV i) Γ = some (.dat (.bool true), Γ) := by
  simp [mIsi, h, mR, tyC, tyD, show kitB "int" "int" = some true by decide +kernel]
theorem isi_iT {i : Nat} {xs : List Da} {Γ : List CD} (h : Γ[i]? = some (.dat (.tuple xs))) : mIsi "int" (mpV i) Γ = some (.dat (.bool false), Γ) := by
  simp [mIsi, h, mR, tyC, tyD, show kitB "tuple" "int" = some false by decide +kernel]
theorem psz_mem {q : Pat} : ∀ {l : List Pat}, q ∈ l → psz q ≤ pszs l
  | p :: r, h => by
    rcases List.mem_cons.mp h with rfl | h
    · simp [pszs]
    · have := psz_mem h
      simp [pszs]; omega
theorem lvalue_ok (hT : TabOk sig n T) (hs3 : ∀ a ∈ sig, a ≤ 3) (hn : n ≤ 61) (hg : ∀ x ∈ g, x < n) : ∀ (fuel : Nat) (p : Pat), psz p ≤ fuel → PatOk sig (· < g.length) p →
    m__law_value fuel [.dat (algD n T), .dat (patD p), .dat (tD g)] = some (.dat (nD (val n T g p)), [.dat (algD n T), .dat (patD p), .dat (tD g)])
  | 0, p, hz, _ => by have := psz_pos p; omega
  | fuel + 1, .v k, hz, hp => by
    simp only [PatOk] at hp
    have hix := v_ixT (xs := g.map nD) (i := k) (d := nD (val n T g (.v k))) (by
      rw [List.getElem?_map, List.getElem?_eq_getElem hp]
      simp [val, List.getElem?_eq_getElem hp])
    have hi := isi_iI (i := 1) (z := (k : Nat)) (Γ := [.dat (algD n T), .dat (.int (k : Nat)), .dat (tD g), .any, .any]) rfl
    refine okOnly_of (f := mFnX 3 5 _ (b__law_value (m__law_value fuel))) (fn_rt (Γ0 := [.dat (algD n T), .dat (patD (.v k)), .dat (tD g), .any, .any]) (Γ := [.dat (algD n T), .dat (patD (.v k)), .dat (tD g), .any, .any]) ?_)
    simp only [patD, tD] at hi hix ⊢
    simp [b__law_value, hi, hix]
  | fuel + 1, .a s ps, hz, hp => by
    obtain ⟨t, ht, he⟩ := entry_at hT hg hp
    simp only [PatOk] at hp
    have ha : ps.length ≤ 3 := hs3 _ (List.mem_of_getElem? hp.1)
    have hpow := pow_small (n := n) (a := ps.length) hn ha
    obtain ⟨G, hG, c, rfl⟩ := loop_invA (mg := mgN 4) (mb := mAsg 3 (mApp fAdd (mlC (mpE (mApp fMul (mlC (mpV 3) (mlC (mpE (mApp fIx (mlC (mpV 0) (mlC (mpE (mC (.int 0))) mlN)))) mlN)))) (mlC (mpE (mApp (m__law_value fuel) (mlC (mpV 0) (mlC (mpV 4) (mlC (mpV 2) mlN))))) mlN))))
      (Γ := [.dat (algD n T), .dat (patD (.a s ps)), .dat (tD g), .dat (.int 0), .any]) ps patD (fun l G => ∃ c, G = [.dat (algD n T), .dat (patD (.a s ps)), .dat (tD g), .dat (.int ((plc n (vals n T g l) : Nat) : Nat)), c]) (fun i q G hi hI => by
        obtain ⟨c, rfl⟩ := hI
        have hq := List.mem_of_getElem? hi
        have hqz := psz_mem hq
        have eq := lvalue_ok hT hs3 hn hg fuel q (by simp [psz] at hz; omega) (patsOk_mem hp.2 hq)
        have hix := v_ixT (xs := [.int (n : Nat), .tuple (T.map tD)]) (i := 0) (d := .int (n : Nat)) rfl
        have hb : plc n (vals n T g (ps.take i)) < 4294967296 := by
          have h1 := plc_lt (n := n) (l := vals n T g (ps.take i)) (fun e he => by
            rw [vals_map] at he
            obtain ⟨x, hx, rfl⟩ := List.mem_map.mp he
            exact val_lt hT hg x (patsOk_mem hp.2 (List.mem_of_mem_take hx)))
          have h2 := pow_small (n := n) (a := (vals n T g (ps.take i)).length) hn (by rw [vals_map, List.length_map, List.length_take]; omega)
          omega
        have em := v_mul31 (i := ((plc n (vals n T g (ps.take i)) : Nat) : Int)) (j := ((n : Nat) : Int)) (by omega) (by omega) (by omega) (by omega)
        refine ⟨_, _, rfl, ?_, ⟨.dat (patD q), rfl⟩⟩
        have e1 : plc n (vals n T g (ps.take i ++ [q])) = plc n (vals n T g (ps.take i)) * n + val n T g q := by
          rw [vals_map, vals_map, List.map_append, List.map_singleton, plc_snoc]
        simp only [algD, nD] at eq ⊢
        simp only [show ((0 : Nat) : Int) = 0 from rfl] at hix
        simp [hix, em, eq, e1]) ⟨.any, by simp [vals, plc]⟩
    have hi := isi_iT (i := 1) (xs := .int (s : Nat) :: patsD ps) (Γ := [.dat (algD n T), .dat (.tuple (.int (s : Nat) :: patsD ps)), .dat (tD g), .any, .any]) rfl
    have hsl := sl1 (i := 1) (x := .int (s : Nat)) (xs := patsD ps) (Γ := [.dat (algD n T), .dat (.tuple (.int (s : Nat) :: patsD ps)), .dat (tD g), .dat (.int 0), .any]) rfl
    have x1 := v_ixT (xs := [.int (n : Nat), .tuple (T.map tD)]) (i := 1) (d := .tuple (T.map tD)) rfl
    have x2 := v_ixT (xs := .int (s : Nat) :: patsD ps) (i := 0) (d := .int (s : Nat)) rfl
    have x3 := v_ixT (xs := T.map tD) (i := s) (d := tD t) (by rw [List.getElem?_map, ht]; rfl)
    have x4 := v_ixT (xs := t.map nD) (i := plc n (vals n T g ps)) (d := nD (val n T g (.a s ps))) (by rw [List.getElem?_map, he]; rfl)
    refine okOnly_of (f := mFnX 3 5 _ (b__law_value (m__law_value fuel))) (fn_rt (Γ0 := [.dat (algD n T), .dat (patD (.a s ps)), .dat (tD g), .any, .any]) (Γ := [.dat (algD n T), .dat (patD (.a s ps)), .dat (tD g), .dat (.int ((plc n (vals n T g ps) : Nat) : Nat)), c]) ?_)
    simp only [show ((0 : Nat) : Int) = 0 from rfl, show ((1 : Nat) : Int) = 1 from rfl] at x1 x2
    rw [← patsD_map] at hG
    simp only [patD, algD, tD] at hi hsl hG x1 x2 x3 x4 ⊢
    simp [b__law_value, hi, hsl, hG, x1, x2, x3, x4]
end
end K73
/-! M13: the program's values. -/
namespace K73
open PySem L2 JJ
theorem place_ok {n : Nat} {l : List Nat} (hn : n ≤ 61) (hl : l.length ≤ 3) (he : ∀ e ∈ l, e < n) : m_place_of [.dat (.int (n : Nat)), .lst (l.map nD)] = some (.dat (.int ((plc n l : Nat) : Nat)), [.dat (.int (n : Nat)), .lst (l.map nD)]) := by
  obtain ⟨G, hG, c, rfl⟩ := loop_invA (mg := mgN 3) (mb := mAsg 2 (mApp fAdd (mlC (mpE (mApp fMul (mlC (mpV 2) (mlC (mpV 0) mlN)))) (mlC (mpV 3) mlN)))) (Γ := [.dat (.int (n : Nat)), .any, .dat (.int 0), .any]) l nD (fun r G => ∃ c, G = [.dat (.int (n : Nat)), .any, .dat (.int ((plc n r : Nat) : Nat)), c]) (fun i x G hi hI => by
    obtain ⟨c, rfl⟩ := hI
    have hb : plc n (l.take i) < 4294967296 := by
      have h1 := plc_lt (n := n) (l := l.take i) (fun e h => he e (List.mem_of_mem_take h))
      have h2 := pow_small (n := n) (a := (l.take i).length) hn (by rw [List.length_take]; omega)
      omega
    have em := v_mul31 (i := ((plc n (l.take i) : Nat) : Int)) (j := ((n : Nat) : Int)) (by omega) (by omega) (by omega) (by omega)
    refine ⟨_, _, rfl, ?_, ⟨.dat (nD x), rfl⟩⟩
    simp [nD, em, plc_snoc]) ⟨.any, rfl⟩
  refine okOnly_of (fn_rt (Γ := [.dat (.int (n : Nat)), .lst (l.map nD), .dat (.int ((plc n l : Nat) : Nat)), c]) ?_)
  simp [b_place_of, hG]
section
variable {sig g : List Nat} {n : Nat} {T : List (List Nat)}
theorem valued_ok (hT : TabOk sig n T) (hs3 : ∀ a ∈ sig, a ≤ 3) (hn : n ≤ 61) (hg : ∀ x ∈ g, x < n) : ∀ (fuel : Nat) (p : Pat), psz p ≤ fuel → PatOk sig (· < g.length) p →
    m_valued fuel [.dat (algD n T), .dat (patD p), .dat (tD g)] = some (.dat (nD (val n T g p)), [.dat (algD n T), .dat (patD p), .dat (tD g)])
  | 0, p, hz, _ => by have := psz_pos p; omega
  | fuel + 1, .v k, hz, hp => by
    simp only [PatOk] at hp
    have hix := v_ixT (xs := g.map nD) (i := k) (d := nD (val n T g (.v k))) (by
      rw [List.getElem?_map, List.getElem?_eq_getElem hp]
      simp [val, List.getElem?_eq_getElem hp])
    have hi := isi_tI (i := 1) (z := (k : Nat)) (Γ := [.dat (algD n T), .dat (.int (k : Nat)), .dat (tD g), .any, .any, .any]) rfl
    refine okOnly_of (f := mFnX 3 6 _ (b_valued (m_valued fuel))) (fn_rt (Γ0 := [.dat (algD n T), .dat (patD (.v k)), .dat (tD g), .any, .any, .any]) (Γ := [.dat (algD n T), .dat (patD (.v k)), .dat (tD g), .any, .any, .any]) ?_)
    simp only [patD, tD] at hi hix ⊢
    simp [b_valued, hi, hix]
  | fuel + 1, .a s ps, hz, hp => by
    obtain ⟨t, ht, he⟩ := entry_at hT hg hp
    have hp' := hp
    simp only [PatOk] at hp
    have ha : ps.length ≤ 3 := hs3 _ (List.mem_of_getElem? hp.1)
    have hlc := lc_mapA (own := [5]) (mg := mgN 5) (me := mApp (m_valued fuel) (mlC (mpV 0) (mlC (mpV 5) (mlC (mpV 2) mlN)))) (Γ := [.dat (algD n T), .dat (patD (.a s ps)), .dat (tD g), .dat (.int (n : Nat)), .dat (.tuple (T.map tD)), .any]) ps patD (fun q => nD (val n T g q)) (fun q hq => by
      have hqz := psz_mem hq
      have eq := valued_ok hT hs3 hn hg fuel q (by simp [psz] at hz; omega) (patsOk_mem hp.2 hq)
      refine ⟨_, [.dat (algD n T), .dat (patD (.a s ps)), .dat (tD g), .dat (.int (n : Nat)), .dat (.tuple (T.map tD)), .dat (patD q)], rfl, ?_, rfl⟩
      simp [eq]) (by rw [sizeLine_eq]; omega)
    rw [show ps.map (fun q => nD (val n T g q)) = (vals n T g ps).map nD by rw [vals_map, List.map_map]; rfl, ← patsD_map] at hlc
    have hpl := place_ok (n := n) (l := vals n T g ps) hn (by rw [vals_map, List.length_map]; exact ha) (vals_lt hT hg ps hp.2)
    have hi := isi_tT (i := 1) (xs := .int (s : Nat) :: patsD ps) (Γ := [.dat (algD n T), .dat (.tuple (.int (s : Nat) :: patsD ps)), .dat (tD g), .any, .any, .any]) rfl
    have hsl := sl1 (i := 1) (x := .int (s : Nat)) (xs := patsD ps) (Γ := [.dat (algD n T), .dat (.tuple (.int (s : Nat) :: patsD ps)), .dat (tD g), .dat (.int (n : Nat)), .dat (.tuple (T.map tD)), .any]) rfl
    have x2 := v_ixT (xs := .int (s : Nat) :: patsD ps) (i := 0) (d := .int (s : Nat)) rfl
    have x3 := v_ixT (xs := T.map tD) (i := s) (d := tD t) (by rw [List.getElem?_map, ht]; rfl)
    have x4 := v_ixT (xs := t.map nD) (i := plc n (vals n T g ps)) (d := nD (val n T g (.a s ps))) (by rw [List.getElem?_map, he]; rfl)
    refine okOnly_of (f := mFnX 3 6 _ (b_valued (m_valued fuel))) (fn_rt (Γ0 := [.dat (algD n T), .dat (patD (.a s ps)), .dat (tD g), .any, .any, .any]) (Γ := [.dat (algD n T), .dat (patD (.a s ps)), .dat (tD g), .dat (.int (n : Nat)), .dat (.tuple (T.map tD)), .any]) ?_)
    simp only [show ((0 : Nat) : Int) = 0 from rfl] at x2
    simp only [patD, algD, tD] at hi hsl hlc x2 x3 x4 ⊢
    simp [b_valued, o0_valued, hi, hsl, hlc, hpl, x2, x3, x4]
end
theorem value_of_ok {sig : List Nat} {n : Nat} {T : List (List Nat)} (hT : TabOk sig n T) (hs3 : ∀ a ∈ sig, a ≤ 3) (hn : n ≤ 61) {p : Pat} (hz : psz p ≤ 12) (hp : PatOk sig (fun _ => False) p) :
    m_value_of [.dat (algD n T), .dat (patD p)] = some (.dat (nD (val n T [] p)), [.dat (algD n T), .dat (patD p)]) := by
  have hp' : PatOk sig (· < ([] : List Nat).length) p := by simpa using hp
  have e := valued_ok (g := []) hT hs3 hn (by simp) 12 p hz hp'
  simp only [tD, List.map_nil] at e
  refine okOnly_of (fn_rt (Γ0 := [.dat (algD n T), .dat (patD p)]) (Γ := [.dat (algD n T), .dat (patD p)]) ?_)
  simp [b_value_of, e]
end K73
/-! M14: tuples in their order. -/
namespace K73
open PySem L2 JJ
def tups (N : Nat) : Nat → List (List Nat)
  | 0 => [[]]
  | a + 1 => (tups N a).flatMap fun row => (List.range N).map fun k => row ++ [k]
theorem tups_len {N : Nat} : ∀ a, (tups N a).length = N ^ a
  | 0 => rfl
  | a + 1 => by
    simp only [tups, List.length_flatMap, List.length_map, List.length_range]
    rw [show (fun _ : List Nat => N) = Function.const _ N from rfl]
    rw [List.map_const, List.sum_replicate_nat, tups_len a, Nat.pow_succ]
theorem tups_row {N : Nat} : ∀ a, ∀ r ∈ tups N a, r.length = a ∧ ∀ x ∈ r, x < N
  | 0, r, h => by simp [tups] at h; subst h; simp
  | a + 1, r, h => by
    simp only [tups, List.mem_flatMap, List.mem_map, List.mem_range] at h
    obtain ⟨q, hq, k, hk, rfl⟩ := h
    obtain ⟨h1, h2⟩ := tups_row a q hq
    refine ⟨by simp [h1], fun x hx => ?_⟩
    rcases List.mem_append.mp hx with h | h
    · exact h2 x h
    · rw [List.mem_singleton.mp h]; exact hk
theorem flat_len {N : Nat} (l : List (List Nat)) : (l.flatMap fun row => (List.range N).map fun k => row ++ [k]).length = l.length * N := by
  induction l with
  | nil => simp
  | cons a r ih => simp only [List.flatMap_cons, List.length_append, ih, List.length_map, List.length_range, List.length_cons, Nat.add_mul, Nat.one_mul]; omega
theorem tuples_ok {N a : Nat} (hN : N ≤ 61) (ha : a ≤ 3) : m_tuples_of [.lst ((List.range N).map nD), .dat (.int (a : Nat))] = some (.lst ((tups N a).map tD), [.lst ((List.range N).map nD), .dat (.int (a : Nat))]) := by
  have hrng := v_rng1 (k := a) (by omega)
  obtain ⟨G, hG, c3, c4, c5, hja, rfl⟩ := loop_inv (mg := mgN 3) (mb := (mSeq (mAsg 4 (mApp fLst mlN))
    (mSeq (mFor (mI gSeq (mlC (mpV 2) mlN)) ([5] ++ []) (mgN 5) (mExpr (mMth isL 4 fExtend (mlC (mpE (mLc (o0_tuples_of.map (·.2)) (mI gSeq (mlC (mpV 0) mlN)) (mgN 6) mYes (mApp fAdd (mlC (mpV 5) (mlC (mpE (mApp fTup (mlC (mpV 6) mlN))) mlN))))) mlN))))
    (mAsg 2 (mTk 4)))))
    (fun j G => ∃ c3 c4 c5, j ≤ a ∧ G = [.lst ((List.range N).map nD), .dat (.int (a : Nat)), .lst ((tups N j).map tD), c3, c4, c5, .any]) (items := rgD 0 a) (j := 0) (Γ := [.lst ((List.range N).map nD), .dat (.int (a : Nat)), .lst [.tuple []], .any, .any, .any, .any]) (fun j d G hj hI => by
      obtain ⟨c3, c4, c5, hja, rfl⟩ := hI
      obtain ⟨hj1, rfl⟩ := rg_at hj
      rw [Nat.zero_add] at hja ⊢
      have hp := pow_small (n := N) (a := j + 1) hN (by omega)
      obtain ⟨G, hG, c5', rfl⟩ := loop_invA (mg := mgN 5) (mb := mExpr (mMth isL 4 fExtend (mlC (mpE (mLc (o0_tuples_of.map (·.2)) (mI gSeq (mlC (mpV 0) mlN)) (mgN 6) mYes (mApp fAdd (mlC (mpV 5) (mlC (mpE (mApp fTup (mlC (mpV 6) mlN))) mlN))))) mlN)))
        (Γ := [.lst ((List.range N).map nD), .dat (.int (a : Nat)), .any, .dat (.int (0 + (j : Nat))), .lst [], c5, .any]) (tups N j) tD (fun l G => ∃ c5, G = [.lst ((List.range N).map nD), .dat (.int (a : Nat)), .any, .dat (.int (0 + (j : Nat))), .lst ((l.flatMap fun row => (List.range N).map fun k => row ++ [k]).map tD), c5, .any]) (fun i row G hi hI => by
          obtain ⟨c5, rfl⟩ := hI
          have hrow := (tups_row j row (List.mem_of_getElem? hi)).1
          have hil : i < (tups N j).length := (List.getElem?_eq_some_iff.mp hi).1
          obtain ⟨acc, hacc⟩ : ∃ acc : List (List Nat), acc = ((tups N j).take i).flatMap fun row => (List.range N).map fun k => row ++ [k] := ⟨_, rfl⟩
          have hal : acc.length + N ≤ 226981 := by
            rw [hacc, flat_len, List.length_take, tups_len]
            rw [tups_len] at hil
            have h1 : (min i (N ^ j)) * N + N ≤ N ^ j * N := by
              have : min i (N ^ j) + 1 ≤ N ^ j := by omega
              have := Nat.mul_le_mul_right N this
              rw [Nat.add_mul, Nat.one_mul] at this
              exact this
            rw [Nat.pow_succ] at hp
            omega
          have hlc := lc_mapA (own := [6]) (mg := mgN 6) (me := mApp fAdd (mlC (mpV 5) (mlC (mpE (mApp fTup (mlC (mpV 6) mlN))) mlN))) (Γ := [.any, .dat (.int (a : Nat)), .any, .dat (.int (0 + (j : Nat))), .lst (acc.map tD), .dat (tD row), .any]) (List.range N) nD (fun k => tD (row ++ [k])) (fun k hk => by
            have hc := v_catT (xs := row.map nD) (ys := [nD k]) (by simp; omega)
            refine ⟨_, [.any, .dat (.int (a : Nat)), .any, .dat (.int (0 + (j : Nat))), .lst (acc.map tD), .dat (tD row), .dat (nD k)], rfl, ?_, rfl⟩
            simp [tD, hc]) (by rw [List.length_range, sizeLine_eq]; omega)
          rw [show (List.range N).map (fun k => tD (row ++ [k])) = ((List.range N).map fun k => row ++ [k]).map tD by rw [List.map_map]; rfl] at hlc
          have hx := v_extL (xs := acc.map tD) (ys := ((List.range N).map fun k => row ++ [k]).map tD) (by simp; omega)
          rw [← hacc]
          refine ⟨_, [.lst ((List.range N).map nD), .dat (.int (a : Nat)), .any, .dat (.int (0 + (j : Nat))), .lst ((((tups N j).take i ++ [row]).flatMap fun row => (List.range N).map fun k => row ++ [k]).map tD), .dat (tD row), .any], rfl, ?_, ⟨_, rfl⟩⟩
          rw [List.flatMap_append, ← hacc, List.flatMap_singleton, List.map_append]
          simp only [Int.zero_add] at hlc ⊢
          simp [o0_tuples_of, hlc]
          simp at hx
          simp [hx]) ⟨c5, rfl⟩
      refine ⟨_, [.lst ((List.range N).map nD), .dat (.int (a : Nat)), .lst ((tups N (j + 1)).map tD), .dat (.int (0 + (j : Nat))), .any, c5', .any], rfl, ?_, ⟨_, _, _, by omega, rfl⟩⟩
      simp only [Int.zero_add] at hG ⊢
      simp [hG, tups]) ⟨.any, .any, .any, Nat.zero_le _, rfl⟩
  rw [rg_len, Nat.zero_add] at *
  simp only [List.append_nil] at hG
  refine okOnly_of (fn_rt (Γ := [.lst ((List.range N).map nD), .dat (.int (a : Nat)), .any, c3, c4, c5, .any]) ?_)
  simp [b_tuples_of, hrng, hG]
end K73
/-! M15: the law's spots. -/
namespace K73
open PySem L2 JJ
def spot (o : Nat) (f : Nat → Nat) (r : List Nat) : Nat := plc o (r.map f)
theorem spot_snoc {o : Nat} {f : Nat → Nat} {r : List Nat} {k : Nat} : spot o f (r ++ [k]) = spot o f r * o + f k := by simp [spot, plc_snoc]
theorem spots_ok {N o t a : Nat} {f : Nat → Nat} (hN : N ≤ 61) (ha : a ≤ 3) (ho : 0 < o) (hoN : o ≤ N) (hf : ∀ k, k < N → f k < o) (ht : (t = 1 ∧ ∀ k, f k = k / (N / o)) ∨ (t ≠ 1 ∧ ∀ k, f k = k % o)) :
    m__law_spots [.dat (.int (N : Nat)), .dat (.int (o : Nat)), .dat (.int (t : Nat)), .dat (.int (a : Nat))] = some (.lst ((tups N a).map fun r => nD (spot o f r)), [.dat (.int (N : Nat)), .dat (.int (o : Nat)), .dat (.int (t : Nat)), .dat (.int (a : Nat))]) := by
  have hrng := v_rng1 (k := a) (by omega)
  have hrngN := v_rng1 (k := N) (by omega)
  have hrd : rgD 0 N = (List.range N).map nD := by simp [rgD, nD]
  rw [hrd] at hrngN
  have hM : 0 < N / o := Nat.div_pos hoN ho
  obtain ⟨M, hMe⟩ : ∃ M, M = N / o := ⟨_, rfl⟩
  have eM : ((N : Nat) : Int) / ((o : Nat) : Int) = ((M : Nat) : Int) := by rw [hMe]; simp
  have small : ∀ x : Nat, x ≤ 61 → x.log2 < 9000 := fun x hx => by
    by_cases h : x = 0
    · subst h; decide
    · have := (Nat.log2_lt h).mpr (show x < 2 ^ 60 by omega)
      omega
  have hMN : M ≤ 61 := by rw [hMe]; exact Nat.le_trans (Nat.div_le_self N o) hN
  have hd1 := v_div (i := ((N : Nat) : Int)) (j := ((o : Nat) : Int)) (by omega) (by rw [Int.natAbs_natCast]; exact small o (by omega))
  have spot_small : ∀ (j : Nat) (r : List Nat), j ≤ 3 → r ∈ tups N j → spot o f r < 226982 := fun j r hj hr => by
    obtain ⟨h1, h2⟩ := tups_row j r hr
    have h3 := plc_lt (n := o) (l := r.map f) (fun e he => by
      obtain ⟨x, hx, rfl⟩ := List.mem_map.mp he
      exact hf x (h2 x hx))
    have h4 := pow_small (n := o) (a := (r.map f).length) (by omega) (by rw [List.length_map, h1]; exact hj)
    show plc o (r.map f) < _
    omega
  obtain ⟨G, hG, c5, c6, c7, hja, rfl⟩ := loop_inv (mg := mgN 5) (mb := (mSeq (mAsg 6 (mApp fLst mlN))
    (mSeq (mFor (mI gSeq (mlC (mpV 4) mlN)) ([7] ++ ([] ++ [])) (mgN 7) (mIf (mTst (mApp fEq (mlC (mpV 2) (mlC (mpE (mC (.int 1))) mlN)))) (mExpr (mMth isL 6 fExtend (mlC (mpE (mLc (o0__law_spots.map (·.2)) (mI gRng1 (mlC (mpV 0) mlN)) (mgN 8) mYes (mApp fAdd (mlC (mpE (mApp fMul (mlC (mpV 7) (mlC (mpV 1) mlN)))) (mlC (mpE (mApp fDiv (mlC (mpV 8) (mlC (mpE (mApp fDiv (mlC (mpV 0) (mlC (mpV 1) mlN)))) mlN)))) mlN))))) mlN))) (mExpr (mMth isL 6 fExtend (mlC (mpE (mLc (o0__law_spots.map (·.2)) (mI gRng1 (mlC (mpV 0) mlN)) (mgN 8) mYes (mApp fAdd (mlC (mpE (mApp fMul (mlC (mpV 7) (mlC (mpV 1) mlN)))) (mlC (mpE (mApp fMod (mlC (mpE (mApp fInt (mlC (mpV 8) mlN))) (mlC (mpV 1) mlN)))) mlN))))) mlN)))))
    (mAsg 4 (mTk 6)))))
    (fun j G => ∃ c5 c6 c7, j ≤ a ∧ G = [.dat (.int (N : Nat)), .dat (.int (o : Nat)), .dat (.int (t : Nat)), .dat (.int (a : Nat)), .lst ((tups N j).map fun r => nD (spot o f r)), c5, c6, c7, .any]) (items := rgD 0 a) (j := 0) (Γ := [.dat (.int (N : Nat)), .dat (.int (o : Nat)), .dat (.int (t : Nat)), .dat (.int (a : Nat)), .lst [.int 0], .any, .any, .any, .any]) (fun j d G hj hI => by
      obtain ⟨c5, c6, c7, hja, rfl⟩ := hI
      obtain ⟨hj1, rfl⟩ := rg_at hj
      rw [Nat.zero_add] at hja ⊢
      have hp := pow_small (n := N) (a := j + 1) hN (by omega)
      obtain ⟨G, hG, c7', rfl⟩ := loop_invA (mg := mgN 7) (mb := (mIf (mTst (mApp fEq (mlC (mpV 2) (mlC (mpE (mC (.int 1))) mlN)))) (mExpr (mMth isL 6 fExtend (mlC (mpE (mLc (o0__law_spots.map (·.2)) (mI gRng1 (mlC (mpV 0) mlN)) (mgN 8) mYes (mApp fAdd (mlC (mpE (mApp fMul (mlC (mpV 7) (mlC (mpV 1) mlN)))) (mlC (mpE (mApp fDiv (mlC (mpV 8) (mlC (mpE (mApp fDiv (mlC (mpV 0) (mlC (mpV 1) mlN)))) mlN)))) mlN))))) mlN))) (mExpr (mMth isL 6 fExtend (mlC (mpE (mLc (o0__law_spots.map (·.2)) (mI gRng1 (mlC (mpV 0) mlN)) (mgN 8) mYes (mApp fAdd (mlC (mpE (mApp fMul (mlC (mpV 7) (mlC (mpV 1) mlN)))) (mlC (mpE (mApp fMod (mlC (mpE (mApp fInt (mlC (mpV 8) mlN))) (mlC (mpV 1) mlN)))) mlN))))) mlN)))))
        (Γ := [.dat (.int (N : Nat)), .dat (.int (o : Nat)), .dat (.int (t : Nat)), .dat (.int (a : Nat)), .any, .dat (.int (0 + (j : Nat))), .lst [], c7, .any]) (tups N j) (fun r => nD (spot o f r)) (fun l G => ∃ c7, G = [.dat (.int (N : Nat)), .dat (.int (o : Nat)), .dat (.int (t : Nat)), .dat (.int (a : Nat)), .any, .dat (.int (0 + (j : Nat))), .lst ((l.flatMap fun row => (List.range N).map fun k => row ++ [k]).map fun r => nD (spot o f r)), c7, .any]) (fun i row G hi hI => by
          obtain ⟨c7, rfl⟩ := hI
          have hrm := List.mem_of_getElem? hi
          have hil : i < (tups N j).length := (List.getElem?_eq_some_iff.mp hi).1
          have hsm := spot_small j row (by omega) hrm
          obtain ⟨acc, hacc⟩ : ∃ acc : List (List Nat), acc = ((tups N j).take i).flatMap fun row => (List.range N).map fun k => row ++ [k] := ⟨_, rfl⟩
          have hal : acc.length + N ≤ 226981 := by
            rw [hacc, flat_len, List.length_take, tups_len]
            rw [tups_len] at hil
            have h1 : (min i (N ^ j)) * N + N ≤ N ^ j * N := by
              have : min i (N ^ j) + 1 ≤ N ^ j := by omega
              have := Nat.mul_le_mul_right N this
              rw [Nat.add_mul, Nat.one_mul] at this
              exact this
            rw [Nat.pow_succ] at hp
            omega
          have em := v_mul31 (i := ((spot o f row : Nat) : Int)) (j := ((o : Nat) : Int)) (by omega) (by omega) (by omega) (by omega)
          have hx := v_extL (xs := acc.map fun r => nD (spot o f r)) (ys := ((List.range N).map fun k => row ++ [k]).map fun r => nD (spot o f r)) (by simp; omega)
          have hll : (List.range N).map (fun k => nD (spot o f (row ++ [k]))) = ((List.range N).map fun k => row ++ [k]).map fun r => nD (spot o f r) := by rw [List.map_map]; rfl
          rw [← hacc]
          refine ⟨_, [.dat (.int (N : Nat)), .dat (.int (o : Nat)), .dat (.int (t : Nat)), .dat (.int (a : Nat)), .any, .dat (.int (0 + (j : Nat))), .lst ((((tups N j).take i ++ [row]).flatMap fun row => (List.range N).map fun k => row ++ [k]).map fun r => nD (spot o f r)), .dat (nD (spot o f row)), .any], rfl, ?_, ⟨_, rfl⟩⟩
          rw [List.flatMap_append, ← hacc, List.flatMap_singleton, List.map_append]
          rcases ht with ⟨rfl, hfk⟩ | ⟨ht1, hfk⟩
          · have hlc := lc_mapA (own := [8]) (mg := mgN 8) (me := (mApp fAdd (mlC (mpE (mApp fMul (mlC (mpV 7) (mlC (mpV 1) mlN)))) (mlC (mpE (mApp fDiv (mlC (mpV 8) (mlC (mpE (mApp fDiv (mlC (mpV 0) (mlC (mpV 1) mlN)))) mlN)))) mlN)))) (Γ := [.dat (.int (N : Nat)), .dat (.int (o : Nat)), .dat (.int ((1 : Nat) : Nat)), .dat (.int (a : Nat)), .any, .dat (.int (0 + (j : Nat))), .lst (acc.map fun r => nD (spot o f r)), .dat (nD (spot o f row)), .any]) (List.range N) nD (fun k => nD (spot o f (row ++ [k]))) (fun k hk => by
              have hd2 := v_div (i := ((k : Nat) : Int)) (j := ((M : Nat) : Int)) (by omega) (by rw [Int.natAbs_natCast]; exact small M hMN)
              refine ⟨_, [.dat (.int (N : Nat)), .dat (.int (o : Nat)), .dat (.int ((1 : Nat) : Nat)), .dat (.int (a : Nat)), .any, .dat (.int (0 + (j : Nat))), .lst (acc.map fun r => nD (spot o f r)), .dat (nD (spot o f row)), .dat (nD k)], rfl, ?_, rfl⟩
              have e2 : nD (spot o f (row ++ [k])) = .int (((spot o f row : Nat) : Int) * ((o : Nat) : Int) + ((k : Nat) : Int) / ((M : Nat) : Int)) := by rw [spot_snoc, hfk, ← hMe]; simp [nD]
              rw [e2]
              simp [nD, em, hd1, eM, hd2]) (by rw [List.length_range, sizeLine_eq]; omega)
            rw [hll] at hlc
            simp only [Int.zero_add, show ((1 : Nat) : Int) = 1 from rfl] at hlc ⊢
            simp [o0__law_spots, hrngN, hlc]
            simp at hx
            simp [hx]
          · have hlc := lc_mapA (own := [8]) (mg := mgN 8) (me := (mApp fAdd (mlC (mpE (mApp fMul (mlC (mpV 7) (mlC (mpV 1) mlN)))) (mlC (mpE (mApp fMod (mlC (mpE (mApp fInt (mlC (mpV 8) mlN))) (mlC (mpV 1) mlN)))) mlN)))) (Γ := [.dat (.int (N : Nat)), .dat (.int (o : Nat)), .dat (.int (t : Nat)), .dat (.int (a : Nat)), .any, .dat (.int (0 + (j : Nat))), .lst (acc.map fun r => nD (spot o f r)), .dat (nD (spot o f row)), .any]) (List.range N) nD (fun k => nD (spot o f (row ++ [k]))) (fun k hk => by
              have hm2 := v_mod (i := ((k : Nat) : Int)) (j := ((o : Nat) : Int)) (by omega)
              refine ⟨_, [.dat (.int (N : Nat)), .dat (.int (o : Nat)), .dat (.int (t : Nat)), .dat (.int (a : Nat)), .any, .dat (.int (0 + (j : Nat))), .lst (acc.map fun r => nD (spot o f r)), .dat (nD (spot o f row)), .dat (nD k)], rfl, ?_, rfl⟩
              have e2 : nD (spot o f (row ++ [k])) = .int (((spot o f row : Nat) : Int) * ((o : Nat) : Int) + ((k : Nat) : Int) % ((o : Nat) : Int)) := by rw [spot_snoc, hfk]; simp [nD]
              rw [e2]
              simp [nD, em, hm2]) (by rw [List.length_range, sizeLine_eq]; omega)
            rw [hll] at hlc
            have ht2 : (((t : Nat) : Int) == 1) = false := by simp; omega
            simp only [Int.zero_add] at hlc ⊢
            simp [o0__law_spots, ht2, hrngN, hlc]
            simp at hx
            simp [hx]) ⟨c7, rfl⟩
      refine ⟨_, [.dat (.int (N : Nat)), .dat (.int (o : Nat)), .dat (.int (t : Nat)), .dat (.int (a : Nat)), .lst ((tups N (j + 1)).map fun r => nD (spot o f r)), .dat (.int (0 + (j : Nat))), .any, c7', .any], rfl, ?_, ⟨_, _, _, by omega, rfl⟩⟩
      simp only [Int.zero_add, List.append_nil] at hG ⊢
      simp [hG, tups]) ⟨.any, .any, .any, Nat.zero_le _, rfl⟩
  rw [rg_len, Nat.zero_add] at *
  simp only [List.append_nil] at hG
  refine okOnly_of (fn_rt (Γ := [.dat (.int (N : Nat)), .dat (.int (o : Nat)), .dat (.int (t : Nat)), .dat (.int (a : Nat)), .any, c5, c6, c7, .any]) ?_)
  simp [b__law_spots, hrng, hG]
end K73
/-! M16: the product that is due. -/
namespace K73
open PySem L2 JJ
def ent (n m : Nat) (s t : List Nat) (r : List Nat) : Nat := s.getD (spot n (· / m) r) 0 * m + t.getD (spot m (· % m) r) 0
def tabP (sig : List Nat) (n m : Nat) (S T : List (List Nat)) (i : Nat) : List Nat := (tups (n * m) (sig.getD i 0)).map (ent n m (S.getD i []) (T.getD i []))
def prodT (sig : List Nat) (n m : Nat) (S T : List (List Nat)) : List (List Nat) := (List.range sig.length).map (tabP sig n m S T)
theorem zip_map {α : Type} (f g : α → Da) : ∀ l : List α, zipD (l.map f) (l.map g) = l.map fun x => .tuple [f x, g x]
  | [] => rfl
  | x :: r => by simp [zipD, zip_map f g r]
section
variable {sig : List Nat} {n m : Nat} {S T : List (List Nat)}
theorem spot_div {r : List Nat} {a : Nat} (hm : 0 < m) (hr : r.length = a) (hx : ∀ x ∈ r, x < n * m) : spot n (· / m) r < n ^ a := by
  have h := plc_lt (n := n) (l := r.map (· / m)) (fun e he => by
    obtain ⟨x, h, rfl⟩ := List.mem_map.mp he
    exact (Nat.div_lt_iff_lt_mul hm).mpr (hx x h))
  rwa [List.length_map, hr] at h
theorem spot_mod {r : List Nat} {a : Nat} (hm : 0 < m) (hr : r.length = a) : spot m (· % m) r < m ^ a := by
  have h := plc_lt (n := m) (l := r.map (· % m)) (fun e he => by
    obtain ⟨x, h, rfl⟩ := List.mem_map.mp he
    exact Nat.mod_lt _ hm)
  rwa [List.length_map, hr] at h
theorem due_big (hn : n ≤ 1000) (hm : m ≤ 1000) (h : 61 < n * m) : m__law_due [.dat (tD sig), .dat (algD n S), .dat (algD m T)] = some (.lst [.int 61], [.dat (tD sig), .dat (algD n S), .dat (algD m T)]) := by
  have x1 := v_ixT (xs := [.int (n : Nat), .tuple (S.map tD)]) (i := 0) (d := .int (n : Nat)) rfl
  have x2 := v_ixT (xs := [.int (m : Nat), .tuple (T.map tD)]) (i := 0) (d := .int (m : Nat)) rfl
  have em := v_mul31 (i := ((n : Nat) : Int)) (j := ((m : Nat) : Int)) (by omega) (by omega) (by omega) (by omega)
  obtain ⟨N, hN⟩ : ∃ N, N = n * m := ⟨_, rfl⟩
  have eN : ((n : Nat) : Int) * ((m : Nat) : Int) = ((N : Nat) : Int) := by rw [hN]; simp
  rw [eN] at em
  refine okOnly_of (fn_rt (Γ := [.dat (tD sig), .dat (algD n S), .dat (algD m T), .dat (.int (N : Nat)), .dat (.int (m : Nat)), .any, .any, .any, .any, .any, .any, .any, .any, .any]) ?_)
  have h' : 61 < N := by omega
  have h'' : (61 : Int) < ((N : Nat) : Int) := by omega
  simp only [algD, show ((0 : Nat) : Int) = 0 from rfl] at x1 x2 ⊢
  simp [b__law_due, x1, x2, em, h'']
theorem due_many (hs3 : ∀ a ∈ sig, a ≤ 3) (hn : n ≤ 1000) (hm : m ≤ 1000) (h : n * m ≤ 61) (h2 : 2000 < items sig (n * m)) : m__law_due [.dat (tD sig), .dat (algD n S), .dat (algD m T)] = some (.lst [.int 2000], [.dat (tD sig), .dat (algD n S), .dat (algD m T)]) := by
  have x1 := v_ixT (xs := [.int (n : Nat), .tuple (S.map tD)]) (i := 0) (d := .int (n : Nat)) rfl
  have x2 := v_ixT (xs := [.int (m : Nat), .tuple (T.map tD)]) (i := 0) (d := .int (m : Nat)) rfl
  have em := v_mul31 (i := ((n : Nat) : Int)) (j := ((m : Nat) : Int)) (by omega) (by omega) (by omega) (by omega)
  obtain ⟨N, hN⟩ : ∃ N, N = n * m := ⟨_, rfl⟩
  have eN : ((n : Nat) : Int) * ((m : Nat) : Int) = ((N : Nat) : Int) := by rw [hN]; simp
  rw [eN] at em
  rw [← hN] at h h2
  have eit := items_ok (sig := sig) (n := N) ⟨by omega, hs3⟩
  refine okOnly_of (fn_rt (Γ := [.dat (tD sig), .dat (algD n S), .dat (algD m T), .dat (.int (N : Nat)), .dat (.int (m : Nat)), .any, .any, .any, .any, .any, .any, .any, .any, .any]) ?_)
  have h' : ¬ (61 : Int) < ((N : Nat) : Int) := by omega
  have h'' : (2000 : Int) < ((items sig N : Nat) : Int) := by omega
  simp only [algD, show ((0 : Nat) : Int) = 0 from rfl] at x1 x2 ⊢
  simp [b__law_due, x1, x2, em, h', eit, h'']
end
end K73
/-! M17: the product that is due, its tables. -/
namespace K73
open PySem L2 JJ
section
variable {sig : List Nat} {n m : Nat} {S T : List (List Nat)}
theorem due_ok (hs3 : ∀ a ∈ sig, a ≤ 3) (hl : sig.length ≤ 100) (hn0 : 0 < n) (hm0 : 0 < m) (h : n * m ≤ 61) (h2 : items sig (n * m) ≤ 2000) (hS : TabOk sig n S) (hT : TabOk sig m T) :
    m__law_due [.dat (tD sig), .dat (algD n S), .dat (algD m T)] = some (.dat (algD (n * m) (prodT sig n m S T)), [.dat (tD sig), .dat (algD n S), .dat (algD m T)]) := by
  have hn : n ≤ 61 := Nat.le_trans (Nat.le_mul_of_pos_right n hm0) h
  have hm : m ≤ 61 := Nat.le_trans (Nat.le_mul_of_pos_left m hn0) h
  have x1 := v_ixT (xs := [.int (n : Nat), .tuple (S.map tD)]) (i := 0) (d := .int (n : Nat)) rfl
  have x2 := v_ixT (xs := [.int (m : Nat), .tuple (T.map tD)]) (i := 0) (d := .int (m : Nat)) rfl
  have y1 := v_ixT (xs := [.int (n : Nat), .tuple (S.map tD)]) (i := 1) (d := .tuple (S.map tD)) rfl
  have y2 := v_ixT (xs := [.int (m : Nat), .tuple (T.map tD)]) (i := 1) (d := .tuple (T.map tD)) rfl
  simp only [show ((0 : Nat) : Int) = 0 from rfl, show ((1 : Nat) : Int) = 1 from rfl] at x1 x2 y1 y2
  have em := v_mul31 (i := ((n : Nat) : Int)) (j := ((m : Nat) : Int)) (by omega) (by omega) (by omega) (by omega)
  obtain ⟨N, hN⟩ : ∃ N, N = n * m := ⟨_, rfl⟩
  have eN : ((n : Nat) : Int) * ((m : Nat) : Int) = ((N : Nat) : Int) := by rw [hN]; simp
  rw [eN] at em
  have hN61 : N ≤ 61 := by omega
  have eit := items_ok (sig := sig) (n := N) ⟨by omega, hs3⟩
  have h' : ¬ (61 : Int) < ((N : Nat) : Int) := by omega
  have h'' : ¬ (2000 : Int) < ((items sig N : Nat) : Int) := by rw [hN]; omega
  have hNn : N / n = m := by rw [hN]; exact Nat.mul_div_cancel_left m hn0
  obtain ⟨G, hG, c6, c7, c8, c9, c10, c11, rfl⟩ := loop_inv (mg := mgT 2 (mgsC (mgN 6) (mgsC (mgN 7) mgsN))) (mb := (mSeq (mPar [8, 9] (mlC (mpE (mApp m__law_spots (mlC (mpV 3) (mlC (mpE (mApp fIx (mlC (mpV 1) (mlC (mpE (mC (.int 0))) mlN)))) (mlC (mpE (mC (.int 1))) (mlC (mpV 7) mlN)))))) (mlC (mpE (mApp m__law_spots (mlC (mpV 3) (mlC (mpV 4) (mlC (mpE (mC (.int 2))) (mlC (mpV 7) mlN)))))) mlN)))
    (mSeq (mAsgG (mApp fTup (mlC (mpE (mApp fIx (mlC (mpE (mApp fIx (mlC (mpV 1) (mlC (mpE (mC (.int 1))) mlN)))) (mlC (mpV 6) mlN)))) (mlC (mpE (mApp fIx (mlC (mpE (mApp fIx (mlC (mpV 2) (mlC (mpE (mC (.int 1))) mlN)))) (mlC (mpV 6) mlN)))) mlN))) (mgT 2 (mgsC (mgN 10) (mgsC (mgN 11) mgsN))))
    (mExpr (mMth isL 5 fAppend (mlC (mpE (mApp fTuple (mlC (mpE (mLc (o0__law_due.map (·.2)) (mI gZip (mlC (mpV 8) (mlC (mpV 9) mlN))) (mgT 2 (mgsC (mgN 12) (mgsC (mgN 13) mgsN))) mYes (mApp fAdd (mlC (mpE (mApp fMul (mlC (mpE (mApp fIx (mlC (mpV 10) (mlC (mpV 12) mlN)))) (mlC (mpV 4) mlN)))) (mlC (mpE (mApp fIx (mlC (mpV 11) (mlC (mpV 13) mlN)))) mlN))))) mlN))) mlN))))))
    (fun j G => ∃ c6 c7 c8 c9 c10 c11, G = [.dat (tD sig), .dat (algD n S), .dat (algD m T), .dat (.int (N : Nat)), .dat (.int (m : Nat)), .lst (((List.range j).map (tabP sig n m S T)).map tD), c6, c7, c8, c9, c10, c11, .any, .any]) (items := enD 0 (sig.map nD)) (j := 0) (Γ := [.dat (tD sig), .dat (algD n S), .dat (algD m T), .dat (.int (N : Nat)), .dat (.int (m : Nat)), .lst [], .any, .any, .any, .any, .any, .any, .any, .any]) (fun i d G hi hI => by
      obtain ⟨c6, c7, c8, c9, c10, c11, rfl⟩ := hI
      obtain ⟨x, hx, rfl⟩ := en_at hi
      rw [List.getElem?_map] at hx
      obtain ⟨a, ha, rfl⟩ := Option.map_eq_some_iff.mp hx
      have ha3 : a ≤ 3 := hs3 a (List.mem_of_getElem? ha)
      have hil : i < sig.length := (List.getElem?_eq_some_iff.mp ha).1
      simp only [Nat.zero_add]
      have hsi : i < S.length := by rw [hS.1]; exact hil
      have hti : i < T.length := by rw [hT.1]; exact hil
      obtain ⟨s, hs⟩ : ∃ s, S[i]? = some s := ⟨_, List.getElem?_eq_getElem hsi⟩
      obtain ⟨t, ht⟩ : ∃ t, T[i]? = some t := ⟨_, List.getElem?_eq_getElem hti⟩
      obtain ⟨hsl, hsb⟩ := hS.2 i a s ha hs
      obtain ⟨htl, htb⟩ := hT.2 i a t ha ht
      have e1 := spots_ok (N := N) (o := n) (t := 1) (a := a) (f := (· / m)) hN61 ha3 hn0 (by rw [hN]; exact Nat.le_mul_of_pos_right n hm0) (fun k hk => (Nat.div_lt_iff_lt_mul hm0).mpr (by rw [← hN]; exact hk)) (.inl ⟨rfl, fun k => by rw [hNn]⟩)
      have e2 := spots_ok (N := N) (o := m) (t := 2) (a := a) (f := (· % m)) hN61 ha3 hm0 (by rw [hN]; exact Nat.le_mul_of_pos_left m hn0) (fun k hk => Nat.mod_lt _ hm0) (.inr ⟨by decide, fun k => rfl⟩)
      simp only [show ((1 : Nat) : Int) = 1 from rfl, show ((2 : Nat) : Int) = 2 from rfl] at e1 e2
      have z1 := v_ixT (xs := S.map tD) (i := i) (d := tD s) (by rw [List.getElem?_map, hs]; rfl)
      have z2 := v_ixT (xs := T.map tD) (i := i) (d := tD t) (by rw [List.getElem?_map, ht]; rfl)
      have tabE : tabP sig n m S T i = (tups N a).map (ent n m s t) := by
        unfold tabP
        rw [← hN]
        simp only [List.getD_eq_getElem?_getD, ha, hs, ht, Option.getD_some]
      have hlc := lc_mapA (own := [12, 13]) (mg := mgT 2 (mgsC (mgN 12) (mgsC (mgN 13) mgsN))) (me := (mApp fAdd (mlC (mpE (mApp fMul (mlC (mpE (mApp fIx (mlC (mpV 10) (mlC (mpV 12) mlN)))) (mlC (mpV 4) mlN)))) (mlC (mpE (mApp fIx (mlC (mpV 11) (mlC (mpV 13) mlN)))) mlN)))) (Γ := [.dat (tD sig), .dat (algD n S), .dat (algD m T), .dat (.int (N : Nat)), .dat (.int (m : Nat)), .lst (((List.range i).map (tabP sig n m S T)).map tD), .dat (.int (i : Nat)), .dat (nD a), .any, .any, .dat (tD s), .dat (tD t), .any, .any]) (tups N a) (fun r => .tuple [nD (spot n (· / m) r), nD (spot m (· % m) r)]) (fun r => nD (ent n m s t r)) (fun r hr => by
        obtain ⟨hr1, hr2⟩ := tups_row a r hr
        have b1 := spot_div (n := n) (m := m) hm0 hr1 (fun x hx => by rw [← hN]; exact hr2 x hx)
        have b2 := spot_mod (m := m) hm0 hr1
        rw [← hsl] at b1
        rw [← htl] at b2
        have w1 := v_ixT (xs := s.map nD) (i := spot n (· / m) r) (d := nD s[spot n (· / m) r]) (by rw [List.getElem?_map, List.getElem?_eq_getElem b1]; rfl)
        have w2 := v_ixT (xs := t.map nD) (i := spot m (· % m) r) (d := nD t[spot m (· % m) r]) (by rw [List.getElem?_map, List.getElem?_eq_getElem b2]; rfl)
        have hb := hsb _ (List.getElem_mem b1)
        have hmul := v_mul31 (i := ((s[spot n (· / m) r] : Nat) : Int)) (j := ((m : Nat) : Int)) (by omega) (by omega) (by omega) (by omega)
        have hent : ent n m s t r = s[spot n (· / m) r] * m + t[spot m (· % m) r] := by
          simp only [ent, List.getD_eq_getElem?_getD, List.getElem?_eq_getElem b1, List.getElem?_eq_getElem b2, Option.getD_some]
        refine ⟨_, [.dat (tD sig), .dat (algD n S), .dat (algD m T), .dat (.int (N : Nat)), .dat (.int (m : Nat)), .lst (((List.range i).map (tabP sig n m S T)).map tD), .dat (.int (i : Nat)), .dat (nD a), .any, .any, .dat (tD s), .dat (tD t), .dat (nD (spot n (· / m) r)), .dat (nD (spot m (· % m) r))], rfl, ?_, rfl⟩
        rw [hent]
        simp only [tD, nD] at w1 w2 ⊢
        simp [w1, w2, hmul]) (by rw [tups_len, sizeLine_eq]; have := pow_small (n := N) (a := a) hN61 ha3; omega)
      rw [← zip_map, show (tups N a).map (fun r => nD (ent n m s t r)) = (tabP sig n m S T i).map nD by rw [tabE, List.map_map]; rfl] at hlc
      have hap := v_appd (xs := ((List.range i).map (tabP sig n m S T)).map tD) (d := tD (tabP sig n m S T i)) (by simp; omega)
      refine ⟨_, [.dat (tD sig), .dat (algD n S), .dat (algD m T), .dat (.int (N : Nat)), .dat (.int (m : Nat)), .lst (((List.range (i + 1)).map (tabP sig n m S T)).map tD), .dat (.int (i : Nat)), .dat (nD a), .lst ((tups N a).map fun r => nD (spot n (· / m) r)), .lst ((tups N a).map fun r => nD (spot m (· % m) r)), .dat (tD s), .dat (tD t), .any, .any], rfl, ?_, ⟨_, _, _, _, _, _, rfl⟩⟩
      rw [List.range_succ, List.map_append, List.map_append]
      simp only [algD] at x1 y1 y2 hlc ⊢
      simp only [nD] at e1 e2
      simp only [nD, tD] at hlc hap
      simp [-List.map_map, o0__law_due, x1, nD, e1, e2, y1, y2, z1, z2, hlc, hap, tD]) ⟨.any, .any, .any, .any, .any, .any, rfl⟩
  rw [enD_len, List.length_map, Nat.zero_add] at hG
  refine okOnly_of (fn_rt (Γ := [.dat (tD sig), .dat (algD n S), .dat (algD m T), .dat (.int (N : Nat)), .dat (.int (m : Nat)), .lst ((prodT sig n m S T).map tD), c6, c7, c8, c9, c10, c11, .any, .any]) ?_)
  rw [← hN]
  simp only [algD, tD, prodT] at x1 x2 eit hG ⊢
  simp [-List.map_map, b__law_due, x1, x2, em, h', eit, h'', hG]
end
end K73
/-! M18: power and entries of the program. -/
namespace K73
open PySem L2 JJ
theorem ppow_small {n a : Nat} (hn : n ≤ 1000) (ha : a ≤ 3) : m_power [.dat (.int (n : Nat)), .dat (.int (a : Nat))] = some (.dat (.int ((n ^ a : Nat) : Nat)), [.dat (.int (n : Nat)), .dat (.int (a : Nat))]) :=
  mpow_small hn ha
theorem ints_map (f : Nat → Nat) : ∀ l : List Nat, intsOf (l.map fun a => nD (f a)) = some (l.map fun a => ((f a : Nat) : Int))
  | [] => rfl
  | a :: r => by
    have := ints_map f r
    simp [intsOf, nD, this] at this ⊢
theorem sum_map (f : Nat → Nat) : ∀ l : List Nat, (l.map fun a => ((f a : Nat) : Int)).sum = (((l.map f).sum : Nat) : Int)
  | [] => rfl
  | a :: r => by simp [sum_map f r]
theorem v_sumN (f : Nat → Nat) (l : List Nat) : fSum [.lst (l.map fun a => nD (f a))] = some (.dat (.int (((l.map f).sum : Nat) : Int)), [.lst (l.map fun a => nD (f a))]) := by
  unfold fSum
  simp only [mR, gSum, ints_map, sum_map]
theorem entries_ok {sig : List Nat} {n : Nat} (h : Small sig n) (hl : sig.length ≤ sizeLine) : m_entries [.dat (tD sig), .dat (.int (n : Nat))] = some (.dat (.int ((items sig n : Nat) : Nat)), [.dat (tD sig), .dat (.int (n : Nat))]) := by
  have hlc := lc_mapA (own := [2]) (mg := mgN 2) (me := mApp m_power (mlC (mpV 1) (mlC (mpV 2) mlN))) (Γ := [.dat (tD sig), .dat (.int (n : Nat)), .any]) sig nD (fun a => nD (n ^ a)) (fun a ha => by
    have e := ppow_small (n := n) (a := a) h.1 (h.2 a ha)
    refine ⟨_, [.dat (tD sig), .dat (.int (n : Nat)), .dat (nD a)], rfl, ?_, rfl⟩
    simp only [nD] at e ⊢
    simp [e]) hl
  have hs := v_sumN (n ^ ·) sig
  refine okOnly_of (fn_rt (Γ := [.dat (tD sig), .dat (.int (n : Nat)), .any]) ?_)
  simp only [tD] at hlc hs ⊢
  simp [b_entries, o0_entries, hlc, hs, items]
end K73
/-! M19: product, where it refuses. -/
namespace K73
open PySem L2 JJ
section
variable {sig : List Nat} {n m : Nat} {S T : List (List Nat)}
theorem product_big (hn : n ≤ 1000) (hm : m ≤ 1000) (h : 61 < n * m) : x_product [.dat (tD sig), .dat (algD n S), .dat (algD m T)] = some (.ex "TooMany" (.int 61), [.dat (tD sig), .dat (algD n S), .dat (algD m T)]) := by
  have x1 := v_ixT (xs := [.int (n : Nat), .tuple (S.map tD)]) (i := 0) (d := .int (n : Nat)) rfl
  have x2 := v_ixT (xs := [.int (m : Nat), .tuple (T.map tD)]) (i := 0) (d := .int (m : Nat)) rfl
  have em := v_mul31 (i := ((n : Nat) : Int)) (j := ((m : Nat) : Int)) (by omega) (by omega) (by omega) (by omega)
  obtain ⟨N, hN⟩ : ∃ N, N = n * m := ⟨_, rfl⟩
  have eN : ((n : Nat) : Int) * ((m : Nat) : Int) = ((N : Nat) : Int) := by rw [hN]; simp
  rw [eN] at em
  refine fn_ex (Γ := [.dat (tD sig), .dat (algD n S), .dat (algD m T), .dat (.int (m : Nat)), .any, .any, .any, .any, .any, .any, .any, .any]) ?_
  have h'' : (61 : Int) < ((N : Nat) : Int) := by omega
  simp only [algD, show ((0 : Nat) : Int) = 0 from rfl] at x1 x2 ⊢
  simp [b_product, x1, x2, em, h'', mRaise]
theorem product_many (hs3 : ∀ a ∈ sig, a ≤ 3) (hl : sig.length ≤ 100) (hn : n ≤ 1000) (hm : m ≤ 1000) (h : n * m ≤ 61) (h2 : 2000 < items sig (n * m)) : x_product [.dat (tD sig), .dat (algD n S), .dat (algD m T)] = some (.ex "TooMany" (.int 2000), [.dat (tD sig), .dat (algD n S), .dat (algD m T)]) := by
  have x1 := v_ixT (xs := [.int (n : Nat), .tuple (S.map tD)]) (i := 0) (d := .int (n : Nat)) rfl
  have x2 := v_ixT (xs := [.int (m : Nat), .tuple (T.map tD)]) (i := 0) (d := .int (m : Nat)) rfl
  have em := v_mul31 (i := ((n : Nat) : Int)) (j := ((m : Nat) : Int)) (by omega) (by omega) (by omega) (by omega)
  obtain ⟨N, hN⟩ : ∃ N, N = n * m := ⟨_, rfl⟩
  have eN : ((n : Nat) : Int) * ((m : Nat) : Int) = ((N : Nat) : Int) := by rw [hN]; simp
  rw [eN] at em
  rw [← hN] at h h2
  have eit := entries_ok (sig := sig) (n := N) ⟨by omega, hs3⟩ (by rw [sizeLine_eq]; omega)
  refine fn_ex (Γ := [.dat (tD sig), .dat (algD n S), .dat (algD m T), .dat (.int (m : Nat)), .any, .any, .any, .any, .any, .any, .any, .any]) ?_
  have h' : ¬ (61 : Int) < ((N : Nat) : Int) := by omega
  have h'' : (2000 : Int) < ((items sig N : Nat) : Int) := by omega
  simp only [algD, show ((0 : Nat) : Int) = 0 from rfl] at x1 x2 ⊢
  simp [b_product, x1, x2, em, h', eit, h'', mRaise]
end
end K73
/-! M20: product, a row of a table. -/
namespace K73
open PySem L2 JJ
theorem rg_map (N : Nat) : rgD 0 N = (List.range N).map nD := by
  unfold rgD
  simp [nD]
section
variable {sig : List Nat} {n m : Nat} {S T : List (List Nat)}
/-- one row's entry -/
theorem row_ok {N i a : Nat} {s t r : List Nat} {X Y c9 c11 : CD} {xs : List Da} (hn : n ≤ 61) (hm : m ≤ 61) (hm0 : 0 < m) (hN : N = n * m) (ha3 : a ≤ 3) (hs : S[i]? = some s) (ht : T[i]? = some t) (hsl : s.length = n ^ a) (hsb : ∀ x ∈ s, x < n) (htl : t.length = m ^ a) (htb : ∀ x ∈ t, x < m) (hr1 : r.length = a) (hr2 : ∀ x ∈ r, x < N) (hx : xs.length < 1000000) :
    (mSeq (mAsg 9 (mApp fIx (mlC (mpE (mApp fIx (mlC (mpE (mApp fIx (mlC (mpV 1) (mlC (mpE (mC (.int 1))) mlN)))) (mlC (mpV 5) mlN)))) (mlC (mpE (mApp m_place_of (mlC (mpE (mApp fIx (mlC (mpV 1) (mlC (mpE (mC (.int 0))) mlN)))) (mlC (mpE (mLc (o0_product.map (·.2)) (mI gSeq (mlC (mpV 8) mlN)) (mgN 10) mYes (mApp fDiv (mlC (mpV 10) (mlC (mpV 3) mlN))))) mlN)))) mlN))))
    (mSeq (mAsg 11 (mApp fIx (mlC (mpE (mApp fIx (mlC (mpE (mApp fIx (mlC (mpV 2) (mlC (mpE (mC (.int 1))) mlN)))) (mlC (mpV 5) mlN)))) (mlC (mpE (mApp m_place_of (mlC (mpV 3) (mlC (mpE (mLc (o0_product.map (·.2)) (mI gSeq (mlC (mpV 8) mlN)) (mgN 10) mYes (mApp fMod (mlC (mpV 10) (mlC (mpV 3) mlN))))) mlN)))) mlN))))
    (mExpr (mMth isL 7 fAppend (mlC (mpE (mApp fAdd (mlC (mpE (mApp fMul (mlC (mpV 9) (mlC (mpV 3) mlN)))) (mlC (mpV 11) mlN)))) mlN)))))
      [X, .dat (algD n S), .dat (algD m T), .dat (.int (m : Nat)), Y, .dat (.int (i : Nat)), .dat (nD a), .lst xs, .dat (tD r), c9, .any, c11] =
    some (.nx [X, .dat (algD n S), .dat (algD m T), .dat (.int (m : Nat)), Y, .dat (.int (i : Nat)), .dat (nD a), .lst (xs ++ [nD (ent n m s t r)]), .dat (tD r), .dat (nD (s.getD (spot n (· / m) r) 0)), .any, .dat (nD (t.getD (spot m (· % m) r) 0))]) := by
  have small : ∀ x : Nat, x ≤ 61 → x.log2 < 9000 := fun x hx => by
    by_cases h : x = 0
    · subst h; decide
    · have := (Nat.log2_lt h).mpr (show x < 2 ^ 60 by omega)
      omega
  have x1 := v_ixT (xs := [.int (n : Nat), .tuple (S.map tD)]) (i := 0) (d := .int (n : Nat)) rfl
  have y1 := v_ixT (xs := [.int (n : Nat), .tuple (S.map tD)]) (i := 1) (d := .tuple (S.map tD)) rfl
  have y2 := v_ixT (xs := [.int (m : Nat), .tuple (T.map tD)]) (i := 1) (d := .tuple (T.map tD)) rfl
  have z1 := v_ixT (xs := S.map tD) (i := i) (d := tD s) (by rw [List.getElem?_map, hs]; rfl)
  have z2 := v_ixT (xs := T.map tD) (i := i) (d := tD t) (by rw [List.getElem?_map, ht]; rfl)
  have b1 := spot_div (n := n) (m := m) hm0 hr1 (fun x hx => by rw [← hN]; exact hr2 x hx)
  have b2 := spot_mod (m := m) hm0 hr1
  have p1 := place_ok (n := n) (l := r.map (· / m)) hn (by rw [List.length_map]; omega) (fun e he => by
    obtain ⟨x, hx, rfl⟩ := List.mem_map.mp he
    exact (Nat.div_lt_iff_lt_mul hm0).mpr (by rw [← hN]; exact hr2 x hx))
  have p2 := place_ok (n := m) (l := r.map (· % m)) hm (by rw [List.length_map]; omega) (fun e he => by
    obtain ⟨x, hx, rfl⟩ := List.mem_map.mp he
    exact Nat.mod_lt _ hm0)
  rw [← hsl] at b1
  rw [← htl] at b2
  have w1 := v_ixT (xs := s.map nD) (i := spot n (· / m) r) (d := nD s[spot n (· / m) r]) (by rw [List.getElem?_map, List.getElem?_eq_getElem b1]; rfl)
  have w2 := v_ixT (xs := t.map nD) (i := spot m (· % m) r) (d := nD t[spot m (· % m) r]) (by rw [List.getElem?_map, List.getElem?_eq_getElem b2]; rfl)
  have hb := hsb _ (List.getElem_mem b1)
  have hmul := v_mul31 (i := ((s[spot n (· / m) r] : Nat) : Int)) (j := ((m : Nat) : Int)) (by omega) (by omega) (by omega) (by omega)
  have g1 : s.getD (spot n (· / m) r) 0 = s[spot n (· / m) r] := by rw [List.getD_eq_getElem?_getD, List.getElem?_eq_getElem b1]; rfl
  have g2 : t.getD (spot m (· % m) r) 0 = t[spot m (· % m) r] := by rw [List.getD_eq_getElem?_getD, List.getElem?_eq_getElem b2]; rfl
  have hent : ent n m s t r = s[spot n (· / m) r] * m + t[spot m (· % m) r] := by
    simp only [ent, g1, g2]
  have l1 := lc_mapA (own := [10]) (mg := mgN 10) (me := mApp fDiv (mlC (mpV 10) (mlC (mpV 3) mlN))) (Γ := [X, .dat (algD n S), .dat (algD m T), .dat (.int (m : Nat)), Y, .dat (.int (i : Nat)), .dat (nD a), .lst xs, .dat (tD r), c9, .any, c11]) r nD (fun x => nD (x / m)) (fun x hx => by
    have e := v_div (i := ((x : Nat) : Int)) (j := ((m : Nat) : Int)) (by omega) (by rw [Int.natAbs_natCast]; exact small m (by omega))
    refine ⟨_, [X, .dat (algD n S), .dat (algD m T), .dat (.int (m : Nat)), Y, .dat (.int (i : Nat)), .dat (nD a), .lst xs, .dat (tD r), c9, .dat (nD x), c11], rfl, ?_, rfl⟩
    simp only [nD] at e ⊢
    simp [e]) (by rw [sizeLine_eq]; omega)
  have l2 := lc_mapA (own := [10]) (mg := mgN 10) (me := mApp fMod (mlC (mpV 10) (mlC (mpV 3) mlN))) (Γ := [X, .dat (algD n S), .dat (algD m T), .dat (.int (m : Nat)), Y, .dat (.int (i : Nat)), .dat (nD a), .lst xs, .dat (tD r), .dat (nD s[spot n (· / m) r]), .any, c11]) r nD (fun x => nD (x % m)) (fun x hx => by
    have e := v_mod (i := ((x : Nat) : Int)) (j := ((m : Nat) : Int)) (by omega)
    refine ⟨_, [X, .dat (algD n S), .dat (algD m T), .dat (.int (m : Nat)), Y, .dat (.int (i : Nat)), .dat (nD a), .lst xs, .dat (tD r), .dat (nD s[spot n (· / m) r]), .dat (nD x), c11], rfl, ?_, rfl⟩
    simp only [nD] at e ⊢
    simp [e]) (by rw [sizeLine_eq]; omega)
  have hap := v_appd (xs := xs) (d := nD (ent n m s t r)) (by omega)
  rw [g1, g2, hent] at *
  rw [show (r.map (· / m)).map nD = r.map (fun x => nD (x / m)) by rw [List.map_map]; rfl] at p1
  rw [show (r.map (· % m)).map nD = r.map (fun x => nD (x % m)) by rw [List.map_map]; rfl] at p2
  have q1 : plc n (r.map (· / m)) = spot n (· / m) r := rfl
  have q2 : plc m (r.map (· % m)) = spot m (· % m) r := rfl
  rw [q1] at p1
  rw [q2] at p2
  obtain ⟨k1, hk1⟩ : ∃ k, k = spot n (· / m) r := ⟨_, rfl⟩
  obtain ⟨k2, hk2⟩ : ∃ k, k = spot m (· % m) r := ⟨_, rfl⟩
  simp only [algD, tD, nD, show ((0 : Nat) : Int) = 0 from rfl, show ((1 : Nat) : Int) = 1 from rfl] at x1 y1 y2 z1 z2 w1 w2 p1 p2 l1 l2 hap hmul ⊢
  simp only [Int.natCast_ediv, Int.natCast_emod, Int.natCast_add, Int.natCast_mul] at p1 p2 l1 l2 hap hmul ⊢
  simp [-List.map_map, o0_product, x1, y1, y2, z1, z2, w1, w2, p1, p2, l1, l2, hmul, hap]
end
end K73
/-! M21: product. -/
namespace K73
open PySem L2 JJ
section
variable {sig : List Nat} {n m : Nat} {S T : List (List Nat)}
theorem product_ok (hs3 : ∀ a ∈ sig, a ≤ 3) (hl : sig.length ≤ 100) (hn0 : 0 < n) (hm0 : 0 < m) (h : n * m ≤ 61) (h2 : items sig (n * m) ≤ 2000) (hS : TabOk sig n S) (hT : TabOk sig m T) :
    x_product [.dat (tD sig), .dat (algD n S), .dat (algD m T)] = some (.ok (.dat (algD (n * m) (prodT sig n m S T))), [.dat (tD sig), .dat (algD n S), .dat (algD m T)]) := by
  have hn : n ≤ 61 := Nat.le_trans (Nat.le_mul_of_pos_right n hm0) h
  have hm : m ≤ 61 := Nat.le_trans (Nat.le_mul_of_pos_left m hn0) h
  have x1 := v_ixT (xs := [.int (n : Nat), .tuple (S.map tD)]) (i := 0) (d := .int (n : Nat)) rfl
  have x2 := v_ixT (xs := [.int (m : Nat), .tuple (T.map tD)]) (i := 0) (d := .int (m : Nat)) rfl
  simp only [show ((0 : Nat) : Int) = 0 from rfl] at x1 x2
  have em := v_mul31 (i := ((n : Nat) : Int)) (j := ((m : Nat) : Int)) (by omega) (by omega) (by omega) (by omega)
  obtain ⟨N, hN⟩ : ∃ N, N = n * m := ⟨_, rfl⟩
  have eN : ((n : Nat) : Int) * ((m : Nat) : Int) = ((N : Nat) : Int) := by rw [hN]; simp
  rw [eN] at em
  have hN61 : N ≤ 61 := by omega
  have eit := entries_ok (sig := sig) (n := N) ⟨by omega, hs3⟩ (by rw [sizeLine_eq]; omega)
  have h' : ¬ (61 : Int) < ((N : Nat) : Int) := by omega
  have h'' : ¬ (2000 : Int) < ((items sig N : Nat) : Int) := by rw [hN]; omega
  have elr := v_lrg (n := N) (by omega)
  rw [rg_map] at elr
  obtain ⟨G, hG, c5, c6, c7, c8, c9, c11, rfl⟩ := loop_inv (mg := mgT 2 (mgsC (mgN 5) (mgsC (mgN 6) mgsN))) (mb := (mSeq (mAsg 7 (mApp fLst mlN))
    (mSeq (mFor (mI gSeq (mlC (mpE (mApp m_tuples_of (mlC (mpE (mApp fLRg (mlC (mpE (mApp fMul (mlC (mpE (mApp fIx (mlC (mpV 1) (mlC (mpE (mC (.int 0))) mlN)))) (mlC (mpV 3) mlN)))) mlN))) (mlC (mpV 6) mlN)))) mlN)) ([8] ++ ([9] ++ ([11] ++ []))) (mgN 8) (mSeq (mAsg 9 (mApp fIx (mlC (mpE (mApp fIx (mlC (mpE (mApp fIx (mlC (mpV 1) (mlC (mpE (mC (.int 1))) mlN)))) (mlC (mpV 5) mlN)))) (mlC (mpE (mApp m_place_of (mlC (mpE (mApp fIx (mlC (mpV 1) (mlC (mpE (mC (.int 0))) mlN)))) (mlC (mpE (mLc (o0_product.map (·.2)) (mI gSeq (mlC (mpV 8) mlN)) (mgN 10) mYes (mApp fDiv (mlC (mpV 10) (mlC (mpV 3) mlN))))) mlN)))) mlN))))
    (mSeq (mAsg 11 (mApp fIx (mlC (mpE (mApp fIx (mlC (mpE (mApp fIx (mlC (mpV 2) (mlC (mpE (mC (.int 1))) mlN)))) (mlC (mpV 5) mlN)))) (mlC (mpE (mApp m_place_of (mlC (mpV 3) (mlC (mpE (mLc (o0_product.map (·.2)) (mI gSeq (mlC (mpV 8) mlN)) (mgN 10) mYes (mApp fMod (mlC (mpV 10) (mlC (mpV 3) mlN))))) mlN)))) mlN))))
    (mExpr (mMth isL 7 fAppend (mlC (mpE (mApp fAdd (mlC (mpE (mApp fMul (mlC (mpV 9) (mlC (mpV 3) mlN)))) (mlC (mpV 11) mlN)))) mlN))))))
    (mExpr (mMth isL 4 fAppend (mlC (mpE (mApp fTuple (mlC (mpV 7) mlN))) mlN))))))
    (fun j G => ∃ c5 c6 c7 c8 c9 c11, G = [.dat (tD sig), .dat (algD n S), .dat (algD m T), .dat (.int (m : Nat)), .lst (((List.range j).map (tabP sig n m S T)).map tD), c5, c6, c7, c8, c9, .any, c11]) (items := enD 0 (sig.map nD)) (j := 0) (Γ := [.dat (tD sig), .dat (algD n S), .dat (algD m T), .dat (.int (m : Nat)), .lst [], .any, .any, .any, .any, .any, .any, .any]) (fun i d G hi hI => by
      obtain ⟨c5, c6, c7, c8, c9, c11, rfl⟩ := hI
      obtain ⟨x, hx, rfl⟩ := en_at hi
      rw [List.getElem?_map] at hx
      obtain ⟨a, ha, rfl⟩ := Option.map_eq_some_iff.mp hx
      have ha3 : a ≤ 3 := hs3 a (List.mem_of_getElem? ha)
      have hil : i < sig.length := (List.getElem?_eq_some_iff.mp ha).1
      simp only [Nat.zero_add]
      obtain ⟨s, hs⟩ : ∃ s, S[i]? = some s := ⟨_, List.getElem?_eq_getElem (by rw [hS.1]; exact hil)⟩
      obtain ⟨t, ht⟩ : ∃ t, T[i]? = some t := ⟨_, List.getElem?_eq_getElem (by rw [hT.1]; exact hil)⟩
      obtain ⟨hsl, hsb⟩ := hS.2 i a s ha hs
      obtain ⟨htl, htb⟩ := hT.2 i a t ha ht
      have tabE : tabP sig n m S T i = (tups N a).map (ent n m s t) := by
        unfold tabP
        rw [← hN]
        simp only [List.getD_eq_getElem?_getD, ha, hs, ht, Option.getD_some]
      have htu := tuples_ok (N := N) (a := a) hN61 ha3
      have htl2 : (tups N a).length < 1000000 := by rw [tups_len]; have := pow_small (n := N) (a := a) hN61 ha3; omega
      obtain ⟨G, hG, d8, d9, d11, rfl⟩ := loop_invA (mg := mgN 8) (mb := (mSeq (mAsg 9 (mApp fIx (mlC (mpE (mApp fIx (mlC (mpE (mApp fIx (mlC (mpV 1) (mlC (mpE (mC (.int 1))) mlN)))) (mlC (mpV 5) mlN)))) (mlC (mpE (mApp m_place_of (mlC (mpE (mApp fIx (mlC (mpV 1) (mlC (mpE (mC (.int 0))) mlN)))) (mlC (mpE (mLc (o0_product.map (·.2)) (mI gSeq (mlC (mpV 8) mlN)) (mgN 10) mYes (mApp fDiv (mlC (mpV 10) (mlC (mpV 3) mlN))))) mlN)))) mlN))))
    (mSeq (mAsg 11 (mApp fIx (mlC (mpE (mApp fIx (mlC (mpE (mApp fIx (mlC (mpV 2) (mlC (mpE (mC (.int 1))) mlN)))) (mlC (mpV 5) mlN)))) (mlC (mpE (mApp m_place_of (mlC (mpV 3) (mlC (mpE (mLc (o0_product.map (·.2)) (mI gSeq (mlC (mpV 8) mlN)) (mgN 10) mYes (mApp fMod (mlC (mpV 10) (mlC (mpV 3) mlN))))) mlN)))) mlN))))
    (mExpr (mMth isL 7 fAppend (mlC (mpE (mApp fAdd (mlC (mpE (mApp fMul (mlC (mpV 9) (mlC (mpV 3) mlN)))) (mlC (mpV 11) mlN)))) mlN)))))) (tups N a) tD
        (fun l G => ∃ c8 c9 c11, G = [.dat (tD sig), .dat (algD n S), .dat (algD m T), .dat (.int (m : Nat)), .lst (((List.range i).map (tabP sig n m S T)).map tD), .dat (.int (i : Nat)), .dat (nD a), .lst ((l.map (ent n m s t)).map nD), c8, c9, .any, c11])
        (Γ := [.dat (tD sig), .dat (algD n S), .dat (algD m T), .dat (.int (m : Nat)), .lst (((List.range i).map (tabP sig n m S T)).map tD), .dat (.int (i : Nat)), .dat (nD a), .lst [], c8, c9, .any, c11]) (fun k r G hi hI => by
          obtain ⟨c8, c9, c11, rfl⟩ := hI
          obtain ⟨hr1, hr2⟩ := tups_row a r (List.mem_of_getElem? hi)
          have hrow := row_ok (S := S) (T := T) (n := n) (m := m) (N := N) (i := i) (a := a) (s := s) (t := t) (r := r) (X := .dat (tD sig)) (Y := .lst (((List.range i).map (tabP sig n m S T)).map tD)) (c9 := c9) (c11 := c11) (xs := (((tups N a).take k).map (ent n m s t)).map nD) hn hm hm0 hN ha3 hs ht hsl hsb htl htb hr1 hr2 (by simp only [List.length_map, List.length_take]; omega)
          refine ⟨_, _, rfl, hrow, ⟨.dat (tD r), .dat (nD (s.getD (spot n (· / m) r) 0)), .dat (nD (t.getD (spot m (· % m) r) 0)), ?_⟩⟩
          rw [List.map_append, List.map_append]; rfl) ⟨c8, c9, c11, rfl⟩
      rw [← tabE] at hG
      have hap := v_appd (xs := ((List.range i).map (tabP sig n m S T)).map tD) (d := tD (tabP sig n m S T i)) (by simp; omega)
      refine ⟨_, [.dat (tD sig), .dat (algD n S), .dat (algD m T), .dat (.int (m : Nat)), .lst (((List.range (i + 1)).map (tabP sig n m S T)).map tD), .dat (.int (i : Nat)), .dat (nD a), .lst ((tabP sig n m S T i).map nD), d8, d9, .any, d11], rfl, ?_, ⟨_, _, _, _, _, _, rfl⟩⟩
      rw [List.range_succ, List.map_append, List.map_append]
      simp only [nD, tD, algD] at hG hap htu x1 x2 elr ⊢
      simp [-List.map_map, x1, x2, em, elr, htu, hG, hap]
      rfl) ⟨.any, .any, .any, .any, .any, .any, rfl⟩
  rw [enD_len, List.length_map, Nat.zero_add] at hG
  refine fn_rt (Γ := [.dat (tD sig), .dat (algD n S), .dat (algD m T), .dat (.int (m : Nat)), .lst ((prodT sig n m S T).map tD), c5, c6, c7, c8, c9, .any, c11]) ?_
  rw [← hN]
  simp only [algD, tD, nD, prodT, List.cons_append, List.nil_append, List.append_nil] at x1 x2 eit hG ⊢
  simp [-List.map_map, b_product, x1, x2, em, h', eit, h'', hG]
end
end K73
/-! M22: equal data are alike. -/
namespace K73
open PySem L2 JJ
theorem isi_g {x : String} {b : Bool} {i : Nat} {z : Int} {Γ : List CD} (h : Γ[i]? = some (.dat (.int z))) (hk : kitB "int" x = some b) : mIsi x (mpV i) Γ = some (.dat (.bool b), Γ) := by
  simp [mIsi, h, mR, tyC, tyD, hk]
theorem like_int (k : Nat) (n : Nat) : m__law_like (k + 1) [.dat (nD n), .dat (nD n)] = some (.dat (.bool true), [.dat (nD n), .dat (nD n)]) := by
  have i1 := isi_g (x := "tuple") (b := false) (i := 1) (z := n) (Γ := [.dat (nD n), .dat (nD n), .any, .any]) rfl (by decide +kernel)
  have i2 := isi_g (x := "int") (b := true) (i := 1) (z := n) (Γ := [.dat (nD n), .dat (nD n), .any, .any]) rfl (by decide +kernel)
  have i3 := isi_g (x := "int") (b := true) (i := 0) (z := n) (Γ := [.dat (nD n), .dat (nD n), .any, .any]) rfl (by decide +kernel)
  have i4 := isi_g (x := "bool") (b := false) (i := 1) (z := n) (Γ := [.dat (nD n), .dat (nD n), .any, .any]) rfl (by decide +kernel)
  have i5 := isi_g (x := "bool") (b := false) (i := 0) (z := n) (Γ := [.dat (nD n), .dat (nD n), .any, .any]) rfl (by decide +kernel)
  have i6 := isi_g (x := "str") (b := false) (i := 1) (z := n) (Γ := [.dat (nD n), .dat (nD n), .any, .any]) rfl (by decide +kernel)
  have i7 := isi_g (x := "str") (b := false) (i := 0) (z := n) (Γ := [.dat (nD n), .dat (nD n), .any, .any]) rfl (by decide +kernel)
  rw [m__law_like, mFn]
  refine okOnly_of (fn_rt (cs := [.dat (nD n), .dat (nD n)]) (Γ0 := [.dat (nD n), .dat (nD n), .any, .any]) (Γ := [.dat (nD n), .dat (nD n), .any, .any]) ?_)
  simp only [nD] at *
  have b1 : fNe [.dat (.bool true), .dat (.bool true)] = some (.dat (.bool false), [.dat (.bool true), .dat (.bool true)]) := by rfl
  have b2 : fNe [.dat (.bool false), .dat (.bool false)] = some (.dat (.bool false), [.dat (.bool false), .dat (.bool false)]) := by rfl
  have b3 : fEq [.dat (.bool false), .dat (.bool false)] = some (.dat (.bool true), [.dat (.bool false), .dat (.bool false)]) := by rfl
  simp [b__law_like, b1, b2, b3, fIs, mR, gIs, JJ.isNon, i1, i2, i3, i4, i5, i6, i7]
end K73
/-! M23: equal tuples are alike. -/
namespace K73
open PySem L2 JJ
theorem zip_self (xs : List Da) : zipD xs xs = xs.map fun x => .tuple [x, x] := by
  have := zip_map (fun x : Da => x) (fun x => x) xs
  simpa using this
theorem bools_true {α : Type} : ∀ xs : List α, boolsOf (xs.map fun _ => PyData.bool true) = some (xs.map fun _ => true)
  | [] => rfl
  | _ :: r => by simp only [List.map_cons, boolsOf, bools_true r]
theorem v_allT {α : Type} (xs : List α) : fAll [.lst (xs.map fun _ => PyData.bool true)] = some (.dat (.bool true), [.lst (xs.map fun _ => PyData.bool true)]) := by
  unfold fAll
  simp [mR, gAll, bools_true]
theorem like_tup (k : Nat) (xs : List Da) (hz : xs.length ≤ sizeLine) (h : ∀ x ∈ xs, m__law_like k [.dat x, .dat x] = some (.dat (.bool true), [.dat x, .dat x])) : m__law_like (k + 1) [.dat (.tuple xs), .dat (.tuple xs)] = some (.dat (.bool true), [.dat (.tuple xs), .dat (.tuple xs)]) := by
  have i1 := isi_tT (i := 1) (xs := xs) (Γ := [.dat (.tuple xs), .dat (.tuple xs), .any, .any]) rfl
  have i2 := isi_tT (i := 0) (xs := xs) (Γ := [.dat (.tuple xs), .dat (.tuple xs), .any, .any]) rfl
  have l1 := lc_mapA (own := [2, 3]) (mg := mgT 2 (mgsC (mgN 2) (mgsC (mgN 3) mgsN))) (me := mApp (m__law_like k) (mlC (mpV 2) (mlC (mpV 3) mlN))) (Γ := [.dat (.tuple xs), .dat (.tuple xs), .any, .any]) xs (fun x => .tuple [x, x]) (fun x => .bool true) (fun x hx => by
    refine ⟨_, [.dat (.tuple xs), .dat (.tuple xs), .dat x, .dat x], rfl, ?_, rfl⟩
    simp [h x hx]) hz
  rw [← zip_self] at l1
  rw [m__law_like, mFn]
  refine okOnly_of (fn_rt (cs := [.dat (.tuple xs), .dat (.tuple xs)]) (Γ0 := [.dat (.tuple xs), .dat (.tuple xs), .any, .any]) (Γ := [.dat (.tuple xs), .dat (.tuple xs), .any, .any]) ?_)
  simp [b__law_like, o0__law_like, i1, i2, l1, v_allT]
end K73
/-! M24: equal algebras are alike. -/
namespace K73
open PySem L2 JJ
theorem like_row (k : Nat) (r : List Nat) (h : r.length ≤ sizeLine) : m__law_like (k + 2) [.dat (tD r), .dat (tD r)] = some (.dat (.bool true), [.dat (tD r), .dat (tD r)]) := by
  refine like_tup (k + 1) (r.map nD) (by rw [List.length_map]; exact h) (fun x hx => ?_)
  obtain ⟨a, ha, rfl⟩ := List.mem_map.mp hx
  exact like_int k a
theorem like_alg (k n : Nat) (S : List (List Nat)) (h : S.length ≤ sizeLine) (hr : ∀ r ∈ S, r.length ≤ sizeLine) : m__law_like (k + 4) [.dat (algD n S), .dat (algD n S)] = some (.dat (.bool true), [.dat (algD n S), .dat (algD n S)]) := by
  refine like_tup (k + 3) _ (by rw [sizeLine_eq]; simp) (fun x hx => ?_)
  rcases List.mem_cons.mp hx with rfl | hx
  · exact like_int (k + 2) n
  · rw [List.mem_singleton] at hx
    subst hx
    refine like_tup (k + 2) (S.map tD) (by rw [List.length_map]; exact h) (fun x hx => ?_)
    obtain ⟨r, hr', rfl⟩ := List.mem_map.mp hx
    exact like_row k r (hr r hr')
end K73
/-! M25: _law_told. -/
namespace K73
open PySem L2 JJ
theorem told_ok {a b c r : Da} {nm : Bool} (h : x_product [.dat a, .dat b, .dat c] = some (.ok (.dat r), [.dat a, .dat b, .dat c])) : m__law_told [.dat a, .dat b, .dat c, .dat (.bool nm)] = some (.dat r, [.dat a, .dat b, .dat c, .dat (.bool nm)]) := by
  refine okOnly_of (fn_rt (Γ := [.dat a, .dat b, .dat c, .dat (.bool nm), .any]) ?_)
  cases nm <;> simp [b__law_told, mTry, mRetX, mIfX, mAppX, rev3, h]
theorem told_ex {a b c r : Da} {nm : Bool} (h : x_product [.dat a, .dat b, .dat c] = some (.ex "TooMany" r, [.dat a, .dat b, .dat c])) : m__law_told [.dat a, .dat b, .dat c, .dat (.bool nm)] = some (.lst [r], [.dat a, .dat b, .dat c, .dat (.bool nm)]) := by
  refine okOnly_of (fn_rt (Γ := [.dat a, .dat b, .dat c, .dat (.bool nm), .any]) ?_)
  cases nm <;> simp [b__law_told, mTry, mRetX, mIfX, mAppX, rev3, h]
end K73
/-! M26: what repr shows of algebras. -/
namespace K73
open PySem L2 JJ
theorem shown_small : ∀ n : Nat, n < 100 → (PyData.shown (.int (n : Nat))).length ≤ 2 := by
  intro n hn
  have h : ∀ k : Fin 100, (PyData.shown (.int (k.val : Nat))).length ≤ 2 := by decide +kernel
  exact h ⟨n, hn⟩
theorem shownAll_map : ∀ xs : List Da, PyData.shownAll xs = xs.map PyData.shown
  | [] => rfl
  | x :: r => by rw [PyData.shownAll, shownAll_map r]; rfl
theorem sum_le {α : Type} (f : α → Nat) (b : Nat) : ∀ xs : List α, (∀ x ∈ xs, f x ≤ b) → (xs.map f).sum ≤ b * xs.length
  | [], _ => by simp
  | x :: r, h => by
    have h1 := h x List.mem_cons_self
    have h2 := sum_le f b r (fun y hy => h y (List.mem_cons_of_mem _ hy))
    simp only [List.map_cons, List.sum_cons, List.length_cons, Nat.mul_add, Nat.mul_one]
    omega
theorem shown_tup (b : Nat) (xs : List Da) (h : ∀ x ∈ xs, x.shown.length ≤ b) : (PyData.shown (.tuple xs)).length ≤ (b + 2) * xs.length + 3 := by
  have h1 := tupleText_len_le (PyData.shownAll xs)
  rw [shownAll_map, List.map_map, List.length_map] at h1
  have h2 := sum_le (fun x : Da => x.shown.length) b xs h
  rw [PyData.shown, shownAll_map]
  have e : (b + 2) * xs.length = b * xs.length + 2 * xs.length := Nat.add_mul ..
  have e2 : (xs.map ((·.length) ∘ PyData.shown)).sum = (xs.map (fun x : Da => x.shown.length)).sum := rfl
  rw [e2] at h1
  omega
theorem shown_row (r : List Nat) (h : ∀ x ∈ r, x < 100) : (PyData.shown (tD r)).length ≤ 4 * r.length + 3 := by
  have := shown_tup 2 (r.map nD) (fun x hx => by
    obtain ⟨a, ha, rfl⟩ := List.mem_map.mp hx
    exact shown_small a (h a ha))
  rw [List.length_map] at this
  exact this
theorem showable_all : ∀ xs : List Da, (∀ x ∈ xs, x.showable = true) → PyData.showableAll xs = true
  | [], _ => rfl
  | x :: r, h => by rw [PyData.showableAll, h x List.mem_cons_self, showable_all r (fun y hy => h y (List.mem_cons_of_mem _ hy))]; rfl
theorem hasDict_all : ∀ xs : List Da, (∀ x ∈ xs, x.hasDict = false) → PyData.hasDictAll xs = false
  | [], _ => rfl
  | x :: r, h => by rw [PyData.hasDictAll, h x List.mem_cons_self, hasDict_all r (fun y hy => h y (List.mem_cons_of_mem _ hy))]; rfl
theorem depth_all (b : Nat) : ∀ xs : List Da, (∀ x ∈ xs, x.depth ≤ b) → PyData.depthAll xs ≤ b
  | [], _ => Nat.zero_le _
  | x :: r, h => by
    rw [PyData.depthAll]
    exact Nat.max_le.mpr ⟨h x List.mem_cons_self, depth_all b r (fun y hy => h y (List.mem_cons_of_mem _ hy))⟩
theorem shown_sum (xs : List Da) : (PyData.shown (.tuple xs)).length ≤ (xs.map (fun x : Da => x.shown.length)).sum + 2 * xs.length + 3 := by
  have h1 := tupleText_len_le (PyData.shownAll xs)
  rw [shownAll_map, List.map_map, List.length_map] at h1
  rw [PyData.shown, shownAll_map]
  exact h1
theorem shown_sumL (xs : List Da) : (PyData.shown (.list xs)).length ≤ (xs.map (fun x : Da => x.shown.length)).sum + 2 * xs.length + 3 := by
  have h1 := listText_len_le (PyData.shownAll xs)
  rw [shownAll_map, List.map_map, List.length_map] at h1
  rw [PyData.shown, shownAll_map]
  exact h1
theorem int_sh {n : Nat} (h : n < 100) : (PyData.int (n : Nat)).showable = true := by
  simp only [PyData.showable, Int.natAbs_natCast, decide_eq_true_eq]
  have := Nat.log2_le_self n
  omega
theorem row_sh {r : List Nat} (h : ∀ x ∈ r, x < 100) : (tD r).showable = true ∧ (tD r).hasDict = false ∧ (tD r).depth ≤ 1 := by
  refine ⟨?_, ?_, ?_⟩
  · simp only [tD, PyData.showable]
    exact showable_all _ fun x hx => by
      obtain ⟨a, ha, rfl⟩ := List.mem_map.mp hx
      exact int_sh (h a ha)
  · simp only [tD, PyData.hasDict]
    exact hasDict_all _ fun x hx => by
      obtain ⟨a, ha, rfl⟩ := List.mem_map.mp hx
      simp only [nD, PyData.hasDict]
  · have := depth_all 0 (r.map nD) fun x hx => by
      obtain ⟨a, ha, rfl⟩ := List.mem_map.mp hx
      simp only [nD, PyData.depth, Nat.le_refl]
    simp only [tD, PyData.depth]
    omega
theorem tabs_lt {sig : List Nat} {n : Nat} {S : List (List Nat)} (hS : TabOk sig n S) (hs3 : ∀ a ∈ sig, a ≤ 3) (hn : n ≤ 61) : ∀ t ∈ S, t.length ≤ 226981 ∧ ∀ x ∈ t, x < 100 := fun t ht => by
  obtain ⟨i, hi⟩ := List.getElem?_of_mem ht
  have hl : i < sig.length := by rw [← hS.1]; exact (List.getElem?_eq_some_iff.mp hi).1
  have ha := List.getElem?_eq_getElem hl
  obtain ⟨h1, h2⟩ := hS.2 i _ t ha hi
  refine ⟨by rw [h1]; exact pow_small hn (hs3 _ (List.getElem_mem hl)), fun x hx => ?_⟩
  have := h2 x hx
  omega
theorem alg_sh {sig : List Nat} {n : Nat} {S : List (List Nat)} (hS : TabOk sig n S) (hs3 : ∀ a ∈ sig, a ≤ 3) (hl : sig.length ≤ 6) (hn : n ≤ 61) : (algD n S).showable = true ∧ (algD n S).hasDict = false ∧ (algD n S).depth ≤ 3 ∧ (algD n S).shown.length ≤ 5447600 := by
  have ht := tabs_lt hS hs3 hn
  have hSl : S.length ≤ 6 := by rw [hS.1]; exact hl
  have r1 : ∀ x ∈ S.map tD, x.showable = true ∧ x.hasDict = false ∧ x.depth ≤ 1 := fun x hx => by
    obtain ⟨t, h, rfl⟩ := List.mem_map.mp hx
    exact row_sh (ht t h).2
  have r2 : ∀ x ∈ S.map tD, x.shown.length ≤ 907927 := fun x hx => by
    obtain ⟨t, h, rfl⟩ := List.mem_map.mp hx
    have := shown_row t (ht t h).2
    have := (ht t h).1
    omega
  have q1 := showable_all _ fun x hx => (r1 x hx).1
  have q2 := hasDict_all _ fun x hx => (r1 x hx).2.1
  have q3 := depth_all 1 _ fun x hx => (r1 x hx).2.2
  refine ⟨?_, ?_, ?_, ?_⟩
  · have := int_sh (n := n) (by omega)
    simp only [algD, PyData.showable, PyData.showableAll, q1, Bool.and_true] at this ⊢
    exact this
  · simp only [algD, PyData.hasDict, PyData.hasDictAll, q2, Bool.or_false]
  · simp only [algD, PyData.depth, PyData.depthAll]
    omega
  · have a1 := shown_sum (S.map tD)
    have a2 := sum_le (fun x : Da => x.shown.length) 907927 _ r2
    have a3 := shown_sum [.int (n : Nat), .tuple (S.map tD)]
    have a4 := shown_small n (by omega)
    simp only [List.length_map] at a1 a2
    simp only [List.map_cons, List.map_nil, List.sum_cons, List.sum_nil, List.length_cons, List.length_nil] at a3
    simp only [algD]
    omega
theorem ok_app {a b : Str} (h1 : PyData.strOk a = true) (h2 : PyData.strOk b = true) : PyData.strOk (a ++ b) = true := by
  unfold PyData.strOk at *
  rw [Str.cps_append, Array.all_append, h1, h2]
  rfl
theorem ok_from : ∀ (ts : List Str) (k : Nat) (acc : Str), PyData.strOk acc = true → (∀ t ∈ ts, PyData.strOk t = true) → PyData.strOk (textFrom k acc ts) = true
  | [], _, _, h, _ => h
  | t :: r, k, acc, h, hr => ok_from r (k + 1) _ (ok_app (ok_app h (by split <;> decide +kernel)) (hr t List.mem_cons_self)) fun t ht => hr t (List.mem_cons_of_mem _ ht)
theorem ok_join : ∀ ts : List Str, (∀ t ∈ ts, PyData.strOk t = true) → PyData.strOk (Str.join ", " ts) = true
  | [], _ => by decide +kernel
  | [x], h => h x List.mem_cons_self
  | x :: y :: r, h => ok_app (ok_app (h x List.mem_cons_self) (by decide +kernel)) (ok_join (y :: r) fun t ht => h t (List.mem_cons_of_mem _ ht))
theorem ok_tuple (xs : List Da) (h : ∀ x ∈ xs, PyData.strOk x.shown = true) : PyData.strOk (PyData.shown (.tuple xs)) = true := by
  rw [PyData.shown, shownAll_map]
  refine ok_app (ok_app (by decide +kernel) (ok_join _ fun t ht => ?_)) (by split <;> decide +kernel)
  obtain ⟨x, hx, rfl⟩ := List.mem_map.mp ht
  exact h x hx
theorem ok_list (xs : List Da) (h : ∀ x ∈ xs, PyData.strOk x.shown = true) : PyData.strOk (PyData.shown (.list xs)) = true := by
  rw [PyData.shown, shownAll_map]
  refine ok_app (ok_from _ 0 _ (by decide +kernel) fun t ht => ?_) (by decide +kernel)
  obtain ⟨x, hx, rfl⟩ := List.mem_map.mp ht
  exact h x hx
theorem ok_small {n : Nat} (hn : n < 100) : PyData.strOk (PyData.shown (.int (n : Nat))) = true := by
  have h : ∀ k : Fin 100, PyData.strOk (PyData.shown (.int (k.val : Nat))) = true := by decide +kernel
  exact h ⟨n, hn⟩
theorem ok_row {r : List Nat} (h : ∀ x ∈ r, x < 100) : PyData.strOk (tD r).shown = true := ok_tuple _ fun x hx => by
  obtain ⟨a, ha, rfl⟩ := List.mem_map.mp hx
  exact ok_small (h a ha)
theorem ok_alg {sig : List Nat} {n : Nat} {S : List (List Nat)} (hS : TabOk sig n S) (hs3 : ∀ a ∈ sig, a ≤ 3) (hn : n ≤ 61) : PyData.strOk (algD n S).shown = true := by
  have ht := tabs_lt hS hs3 hn
  refine ok_tuple _ fun x hx => ?_
  rcases List.mem_cons.mp hx with rfl | hx
  · exact ok_small (by omega)
  · rw [List.mem_singleton] at hx
    subst hx
    refine ok_tuple _ fun x hx => ?_
    obtain ⟨t, h, rfl⟩ := List.mem_map.mp hx
    exact ok_row (ht t h).2
theorem repr_ok {sig : List Nat} {n m : Nat} {S T : List (List Nat)} (hs3 : ∀ a ∈ sig, a ≤ 3) (hl : sig.length ≤ 6) (hn : n ≤ 61) (hm : m ≤ 61) (hS : TabOk sig n S) (hT : TabOk sig m T) : ∃ s : Str, PyData.strOk s = true ∧ fRepr [.lst [tD sig, algD n S, algD m T]] = some (.dat (.str s), [.lst [tD sig, algD n S, algD m T]]) := by
  obtain ⟨a1, a2, a3, a4⟩ := alg_sh hS hs3 hl hn
  obtain ⟨b1, b2, b3, b4⟩ := alg_sh hT hs3 hl hm
  have hs : ∀ x ∈ sig, x < 100 := fun x hx => by have := hs3 x hx; omega
  obtain ⟨c1, c2, c3⟩ := row_sh hs
  have c4 := shown_row sig hs
  have d1 := shown_sumL [tD sig, algD n S, algD m T]
  simp only [List.map_cons, List.map_nil, List.sum_cons, List.sum_nil, List.length_cons, List.length_nil] at d1
  have e1 : (PyData.list [tD sig, algD n S, algD m T]).showable = true := by
    simp only [PyData.showable, PyData.showableAll, a1, b1, c1, Bool.and_self]
  have e2 : (PyData.list [tD sig, algD n S, algD m T]).hasDict = false := by
    simp only [PyData.hasDict, PyData.hasDictAll, a2, b2, c2, Bool.or_self]
  have e3 : (PyData.list [tD sig, algD n S, algD m T]).depth ≤ 60 := by
    simp only [PyData.depth, PyData.depthAll]
    omega
  have e4 : (PyData.list [tD sig, algD n S, algD m T]).shown.length ≤ sizeLine := by
    rw [sizeLine_eq]
    omega
  refine ⟨(PyData.list [tD sig, algD n S, algD m T]).shown, ok_list _ fun x hx => ?_, ?_⟩
  · simp only [List.mem_cons, List.not_mem_nil, or_false] at hx
    rcases hx with rfl | rfl | rfl
    · exact ok_row hs
    · exact ok_alg hS hs3 hn
    · exact ok_alg hT hs3 hm
  simp only [fRepr, mR, gRepr, pyOf]
  rw [if_pos ⟨e1, e2, e3, e4⟩]
end K73
/-! M27: the product is right. -/
namespace K73
open PySem L2 JJ
theorem v_neS (s : Str) (h : PyData.strOk s = true) : fNe [.dat (.str s), .dat (.str s)] = some (.dat (.bool false), [.dat (.str s), .dat (.str s)]) := by
  simp [fNe, mR, gEq, pyOf, SeqAt.shaped, PyData.canLay0, PyData.depth, PyData.eqv, h]
theorem isi_lL {i : Nat} {xs : List Da} {Γ : List CD} (h : Γ[i]? = some (.lst xs)) : mIsi "list" (mpV i) Γ = some (.dat (.bool true), Γ) := by
  have : (Γ.set i .any).set i (.lst xs) = Γ := by
    rw [List.set_set]
    exact List.ext_getElem? fun j => by
      by_cases e : i = j
      · subst e; rw [List.getElem?_set_self (List.getElem?_eq_some_iff.mp h).1, h]
      · rw [List.getElem?_set_ne e]
  simp [mIsi, h, mR, tyC, tyD, show kitB "list" "list" = some true by decide +kernel, this]
theorem isi_lT {i : Nat} {xs : List Da} {Γ : List CD} (h : Γ[i]? = some (.dat (.tuple xs))) : mIsi "list" (mpV i) Γ = some (.dat (.bool false), Γ) := by
  simp [mIsi, h, mR, tyC, tyD, show kitB "tuple" "list" = some false by decide +kernel]
theorem v_eqLI (z : Int) : fEq [.lst [.int z], .lst [.int z]] = some (.dat (.bool true), [.lst [.int z], .lst [.int z]]) := by
  have h : SeqAt.shaped (.list [.int z]) = true := shapedL_ints [z]
  simp [fEq, mR, gEq, pyOf, h, PyData.eqv, PyData.eqvAll]
section
variable {sig : List Nat} {n m : Nat} {S T : List (List Nat)}
theorem right_ok (hs3 : ∀ a ∈ sig, a ≤ 3) (hl : sig.length ≤ 6) (hn0 : 0 < n) (hm0 : 0 < m) (hn : n ≤ 61) (hm : m ≤ 61) (hS : TabOk sig n S) (hT : TabOk sig m T) (nm : Bool) :
    m__law_is_product_right [.dat (tD sig), .dat (algD n S), .dat (algD m T), .dat (.bool nm)] = some (.dat (.bool true), [.dat (tD sig), .dat (algD n S), .dat (algD m T), .dat (.bool nm)]) := by
  obtain ⟨s, hok, hr⟩ := repr_ok hs3 hl hn hm hS hT
  have hne := v_neS s hok
  by_cases h : n * m ≤ 61
  · by_cases h2 : items sig (n * m) ≤ 2000
    · have e1 := due_ok hs3 (by omega) hn0 hm0 h h2 hS hT
      have e2 := told_ok (nm := nm) (product_ok hs3 (by omega) hn0 hm0 h h2 hS hT)
      have e3 := like_alg 2 (n * m) (prodT sig n m S T) (by rw [sizeLine_eq]; simp [prodT]; omega) (fun r hr => by
        rw [sizeLine_eq]
        obtain ⟨i, hi, rfl⟩ := List.mem_map.mp hr
        have hi' : i < sig.length := List.mem_range.mp hi
        simp only [tabP, List.length_map, tups_len]
        have ha : sig.getD i 0 ≤ 3 := by
          simp only [List.getD_eq_getElem?_getD, List.getElem?_eq_getElem hi', Option.getD_some]
          exact hs3 _ (List.getElem_mem hi')
        have := pow_small h ha
        omega)
      refine okOnly_of (fn_rt (Γ := [.dat (tD sig), .dat (algD n S), .dat (algD m T), .dat (.bool nm), .dat (algD (n * m) (prodT sig n m S T)), .dat (.str s), .dat (algD (n * m) (prodT sig n m S T))]) ?_)
      have i1 := isi_lT (i := 4) (Γ := [.dat (tD sig), .dat (algD n S), .dat (algD m T), .dat (.bool nm), .dat (algD (n * m) (prodT sig n m S T)), .dat (.str s), .dat (algD (n * m) (prodT sig n m S T))]) rfl
      simp [b__law_is_product_right, e1, hr, e2, hne, i1, e3]
    · have e1 := due_many (S := S) (T := T) hs3 (by omega) (by omega) h (by omega : 2000 < items sig (n * m))
      have e2 := told_ex (nm := nm) (product_many (S := S) (T := T) hs3 (by omega) (by omega) (by omega) h (by omega : 2000 < items sig (n * m)))
      have hq := v_eqLI 2000
      refine okOnly_of (fn_rt (Γ := [.dat (tD sig), .dat (algD n S), .dat (algD m T), .dat (.bool nm), .lst [.int 2000], .dat (.str s), .lst [.int 2000]]) ?_)
      have i1 := isi_lL (i := 4) (Γ := [.dat (tD sig), .dat (algD n S), .dat (algD m T), .dat (.bool nm), .lst [.int 2000], .dat (.str s), .lst [.int 2000]]) rfl
      have i2 := isi_lL (i := 6) (Γ := [.dat (tD sig), .dat (algD n S), .dat (algD m T), .dat (.bool nm), .lst [.int 2000], .dat (.str s), .lst [.int 2000]]) rfl
      simp [b__law_is_product_right, e1, hr, e2, hne, i1, i2, hq]
  · have e1 := due_big (sig := sig) (S := S) (T := T) (by omega) (by omega) (by omega : 61 < n * m)
    have e2 := told_ex (nm := nm) (product_big (sig := sig) (S := S) (T := T) (by omega) (by omega) (by omega : 61 < n * m))
    have hq := v_eqLI 61
    refine okOnly_of (fn_rt (Γ := [.dat (tD sig), .dat (algD n S), .dat (algD m T), .dat (.bool nm), .lst [.int 61], .dat (.str s), .lst [.int 61]]) ?_)
    have i1 := isi_lL (i := 4) (Γ := [.dat (tD sig), .dat (algD n S), .dat (algD m T), .dat (.bool nm), .lst [.int 61], .dat (.str s), .lst [.int 61]]) rfl
    have i2 := isi_lL (i := 6) (Γ := [.dat (tD sig), .dat (algD n S), .dat (algD m T), .dat (.bool nm), .lst [.int 61], .dat (.str s), .lst [.int 61]]) rfl
    simp [b__law_is_product_right, e1, hr, e2, hne, i1, i2, hq]
end
end K73
/-! M28: the variables of a pattern, both ways; sizes. -/
namespace K73
open PySem L2 JJ
mutual
def pvars : Pat → List Nat
  | .v k => [k]
  | .a _ ps => pvarss ps
def pvarss : List Pat → List Nat
  | [] => []
  | p :: r => pvars p ++ pvarss r
end
theorem pvarss_app : ∀ l m : List Pat, pvarss (l ++ m) = pvarss l ++ pvarss m
  | [], m => by simp [pvarss]
  | p :: r, m => by simp [pvarss, pvarss_app r m]
mutual
theorem pvars_len : ∀ p : Pat, (pvars p).length ≤ psz p
  | .v _ => by simp [pvars, psz]
  | .a _ ps => by have := pvarss_len ps; simp [pvars, psz]; omega
theorem pvarss_len : ∀ l : List Pat, (pvarss l).length ≤ pszs l
  | [] => by simp [pvarss]
  | p :: r => by
    have := pvars_len p
    have := pvarss_len r
    simp [pvarss, pszs]
    omega
end
mutual
theorem pvars_of {sig : List Nat} {nv : Nat → Prop} : ∀ {p : Pat}, PatOk sig nv p → ∀ k ∈ pvars p, nv k
  | .v j, h, k, hk => by
    simp only [pvars, List.mem_singleton] at hk
    subst hk
    simpa only [PatOk] using h
  | .a s ps, h, k, hk => by
    simp only [PatOk] at h
    simp only [pvars] at hk
    exact pvarss_of h.2 k hk
theorem pvarss_of {sig : List Nat} {nv : Nat → Prop} : ∀ {l : List Pat}, PatsOk sig nv l → ∀ k ∈ pvarss l, nv k
  | [], h, k, hk => by simp [pvarss] at hk
  | p :: r, h, k, hk => by
    simp only [PatsOk] at h
    simp only [pvarss, List.mem_append] at hk
    rcases hk with hk | hk
    · exact pvars_of h.1 k hk
    · exact pvarss_of h.2 k hk
end
def sv (p : Pat) : List Int := sortU ((pvars p).map fun k => ((k : Nat) : Int))
def vc (p : Pat) : Nat := (sv p).length
theorem mem_sv {p : Pat} {z : Int} : z ∈ sv p ↔ ∃ k ∈ pvars p, ((k : Nat) : Int) = z := by
  unfold sv
  rw [mem_sortU]
  simp
theorem sv_nodup (p : Pat) : (sv p).Nodup := (asc_sortU _).imp fun h e => by omega
theorem vc_of {p : Pat} {l : List Nat} (hn : l.Nodup) (h : ∀ x, x ∈ l ↔ x ∈ pvars p) : l.length = vc p := by
  have h1 : (l.map fun k => ((k : Nat) : Int)).Nodup := List.Pairwise.map _ (fun a b e h => e (by omega)) hn
  have h2 : (l.map fun k => ((k : Nat) : Int)).Perm (sv p) := (List.perm_ext_iff_of_nodup h1 (sv_nodup p)).mpr fun z => by
    rw [mem_sv]
    simp [h]
  have := h2.length_eq
  rwa [List.length_map] at this
theorem isi_pI {i k : Nat} {Γ : List CD} (h : Γ[i]? = some (.dat (.int (k : Nat)))) : mIsi "tuple" (mpV i) Γ = some (.dat (.bool false), Γ) := isi_tI h
theorem patsD_app (l m : List Pat) : patsD (l ++ m) = patsD l ++ patsD m := by simp [patsD_map]
theorem patsD_rev (l : List Pat) : patsD l.reverse = (patsD l).reverse := by simp [patsD_map]
theorem pszs_rev (l : List Pat) : pszs l.reverse = pszs l := by
  induction l with
  | nil => rfl
  | cons p r ih => simp [pszs_app, ih, pszs]; omega
/-- the test of a worklist, and its last item -/
theorem wl_cases {st : List Pat} (h : pszs st ≤ 63) : (st = [] ∧ fNe [.lst (patsD st), .lst []] = some (.dat (.bool false), [.lst (patsD st), .lst []])) ∨ ∃ r q, st = r ++ [q] ∧ patsD st = patsD r ++ [patD q] ∧ pszs st = pszs r + psz q ∧ fNe [.lst (patsD st), .lst []] = some (.dat (.bool true), [.lst (patsD st), .lst []]) := by
  have hsh := v_neNil (shapedP h)
  rcases List.eq_nil_or_concat st with rfl | ⟨r, q, rfl⟩
  · exact .inl ⟨rfl, by simpa [patsD] using hsh⟩
  · rw [List.concat_eq_append] at *
    refine .inr ⟨r, q, rfl, by rw [patsD_app]; simp [patsD], by rw [pszs_app]; simp [pszs], ?_⟩
    have : (!(patsD (r ++ [q])).isEmpty) = true := by rw [patsD_app]; simp [patsD]
    rw [this] at hsh
    exact hsh
theorem notin_ok {l : List Nat} {k : Nat} : fNotIn [.dat (.int (k : Nat)), .lst (l.map nD)] = some (.dat (.bool (!(decide (k ∈ l)))), [.dat (.int (k : Nat)), .lst (l.map nD)]) := by
  have e : (l.map nD).any (fun z => PyData.eqv z (.int (k : Nat))) = decide (k ∈ l) := by
    induction l with
    | nil => rfl
    | cons a r ih =>
      rw [List.map_cons, List.any_cons, ih]
      simp only [nD, PyData.eqv, List.mem_cons]
      by_cases h : k = a
      · subst h; simp
      · have : ((a : Nat) : Int) ≠ ((k : Nat) : Int) := by omega
        simp [h, this]
  simp [fNotIn, mR, gIn, shaped_int, shapedN, e]
theorem lvars_ok {p : Pat} (h : psz p ≤ 62) : ∃ l : List Nat, l.Nodup ∧ (∀ x, x ∈ l ↔ x ∈ pvars p) ∧ m__law_variables [.dat (patD p)] = some (.lst (l.map nD), [.dat (patD p)]) := by
  obtain ⟨c, cs', e, l, rfl, rfl, h1, h2⟩ := fn_ofR (n := 1) (N := 4) (W := ([1, 2] ++ (([3] ++ ([] ++ ([] ++ []))) ++ []))) (mb := b__law_variables) (Γ0 := [.dat (patD p), .any, .any, .any]) (cs := [.dat (patD p)]) (R := fun c cs' => ∃ l : List Nat, c = .lst (l.map nD) ∧ cs' = [.dat (patD p)] ∧ l.Nodup ∧ (∀ x, x ∈ l ↔ x ∈ pvars p)) (h3 := by
    unfold b__law_variables
    refine rn_nx (Γ1 := [.dat (patD p), .lst [], .lst [patD p], .any]) (by simp) ?_
    refine rn_seq (rn_wh (fun n G => ∃ (st : List Pat) (f : List Nat) (c : CD), n = pszs st ∧ pszs st ≤ 62 ∧ f.length + pszs st ≤ psz p ∧ f.Nodup ∧ (∀ x, x ∈ pvars p ↔ x ∈ f ∨ x ∈ pvarss st) ∧ G = [.dat (patD p), .lst (f.map nD), .lst (patsD st), c]) (psz p) (by omega) ⟨[p], [], .any, by simp [pszs], by simp [pszs]; omega, by simp [pszs], List.nodup_nil, by simp [pvarss], by simp [patsD]⟩ ?_)
    rintro n G ⟨st, f, c, rfl, hz, hf, hnd, hv, rfl⟩
    rcases wl_cases (st := st) (by omega) with ⟨rfl, hne⟩ | ⟨r, q, rfl, e1, e2, hne⟩
    · refine ⟨false, _, by simp [hne]; rfl, fun _ => ?_, fun e => by cases e⟩
      exact rn (o := .rt (.lst (f.map nD)) [.dat (patD p), .any, .lst (patsD []), c]) (by simp) ⟨_, _, rfl, f, rfl, rfl, hnd, fun x => by rw [hv x]; simp [pvarss]⟩
    · refine ⟨true, [.dat (patD p), .lst (f.map nD), .lst (patsD (r ++ [q])), c], by simp [hne], nofun, fun _ => ?_⟩
      rw [e1]
      refine rn_nx (Γ1 := [.dat (patD p), .lst (f.map nD), .lst (patsD r), .dat (patD q)]) (by simp) ?_
      cases q with
      | v k =>
        have hi := isi_pI (i := 3) (k := k) (Γ := [.dat (patD p), .lst (f.map nD), .lst (patsD r), .dat (patD (.v k))]) rfl
        refine rn_if (b := false) (by simp [hi]; rfl) (fun e => by cases e) fun _ => ?_
        have hni := notin_ok (l := f) (k := k)
        refine rn_if (b := !(decide (k ∈ f))) (Γ1 := [.dat (patD p), .lst (f.map nD), .lst (patsD r), .dat (patD (.v k))]) (by simp [patD, hni]) (fun hb => ?_) fun hb => ?_
        · have hk : k ∉ f := by simpa using hb
          have ha := v_appd (xs := f.map nD) (d := nD k) (by rw [List.length_map]; simp [psz] at e2; omega)
          refine rn (o := .nx [.dat (patD p), .lst ((f ++ [k]).map nD), .lst (patsD r), .dat (patD (.v k))]) (by simp only [nD] at ha ⊢; simp [patD, ha, nD]) ⟨pszs r, by rw [e2]; simp [psz], r, f ++ [k], _, rfl, by omega, by simp [psz] at e2; simp; omega, ?_, fun x => ?_, rfl⟩
          · rw [List.nodup_append]
            exact ⟨hnd, by simp, fun a ha b hb e => hk (by simp at hb; rw [← hb, ← e]; exact ha)⟩
          · rw [hv x, pvarss_app]
            simp [pvarss, pvars]
            constructor
            · rintro (h | h | h)
              · exact .inl (.inl h)
              · exact .inr h
              · exact .inl (.inr h)
            · rintro ((h | h) | h)
              · exact .inl h
              · exact .inr (.inr h)
              · exact .inr (.inl h)
        · have hk : k ∈ f := by simpa using hb
          refine rn (o := .nx [.dat (patD p), .lst (f.map nD), .lst (patsD r), .dat (patD (.v k))]) (by simp) ⟨pszs r, by rw [e2]; simp [psz], r, f, _, rfl, by omega, by simp [psz] at e2; omega, hnd, fun x => ?_, rfl⟩
          rw [hv x, pvarss_app]
          simp [pvarss, pvars]
          constructor
          · rintro (h | h | h)
            · exact .inl h
            · exact .inr h
            · rw [h]; exact .inl hk
          · rintro (h | h)
            · exact .inl h
            · exact .inr (.inl h)
      | a s ps =>
        have hi := isi_tT (i := 3) (xs := .int (s : Nat) :: patsD ps) (Γ := [.dat (patD p), .lst (f.map nD), .lst (patsD r), .dat (patD (.a s ps))]) rfl
        refine rn_if (b := true) (by simp [hi]; rfl) (fun _ => ?_) fun e => by cases e
        have hs := sl1 (i := 3) (x := .int (s : Nat)) (xs := patsD ps) (Γ := [.dat (patD p), .lst (f.map nD), .any, .dat (patD (.a s ps))]) rfl
        have hs2 := sl1 (i := 3) (x := .int (s : Nat)) (xs := patsD ps) (Γ := [.dat (patD p), .lst (f.map nD), .lst (patsD r), .dat (patD (.a s ps))]) rfl
        have hx := v_extT (xs := patsD r) (ys := patsD ps) (by
          have := patsD_len r
          have := patsD_len ps
          simp [psz] at e2
          omega)
        refine rn (o := .nx [.dat (patD p), .lst (f.map nD), .lst (patsD (r ++ ps)), .dat (patD (.a s ps))]) (by simp [hs, hs2, hx, patsD_app]) ⟨pszs (r ++ ps), by rw [e2, pszs_app]; simp [psz], r ++ ps, f, _, rfl, by rw [pszs_app]; simp [psz] at e2; omega, by rw [pszs_app]; simp [psz] at e2; omega, hnd, fun x => ?_, rfl⟩
        rw [hv x, pvarss_app, pvarss_app]
        simp [pvarss, pvars])
  exact ⟨l, h1, h2, okOnly_of e⟩
end K73
/-! M29: the program's variables and sizes. -/
namespace K73
open PySem L2 JJ
theorem spots_of_ok {p : Pat} (h : psz p ≤ 62) : m_spots_of [.dat (patD p)] = some (.lst ((pvars p).map nD), [.dat (patD p)]) := by
  refine okOnly_of (fn_of (Γ0 := [.dat (patD p), .any, .any, .any]) (mb := b_spots_of) ?_)
  unfold b_spots_of
  refine rn_nx (Γ1 := [.dat (patD p), .lst [], .lst [patD p], .any]) (by simp) ?_
  refine rn_seq (rn_wh (fun n G => ∃ (st : List Pat) (f : List Nat) (c : CD), n = pszs st ∧ pszs st ≤ 62 ∧ f.length + pszs st ≤ psz p ∧ pvars p = f ++ pvarss st.reverse ∧ G = [.dat (patD p), .lst (f.map nD), .lst (patsD st), c]) (psz p) (by omega) ⟨[p], [], .any, by simp [pszs], by simp [pszs]; omega, by simp [pszs], by simp [pvarss], by simp [patsD]⟩ ?_)
  rintro n G ⟨st, f, c, rfl, hz, hf, hv, rfl⟩
  rcases wl_cases (st := st) (by omega) with ⟨rfl, hne⟩ | ⟨r, q, rfl, e1, e2, hne⟩
  · refine ⟨false, _, by simp [hne]; rfl, fun _ => ?_, fun e => by cases e⟩
    have : f = pvars p := by rw [hv]; simp [pvarss]
    exact rn (o := .rt (.lst (f.map nD)) [.dat (patD p), .any, .lst (patsD []), c]) (by simp) ⟨_, by rw [this], rfl⟩
  · refine ⟨true, [.dat (patD p), .lst (f.map nD), .lst (patsD (r ++ [q])), c], by simp [hne], nofun, fun _ => ?_⟩
    rw [e1]
    have hrev : (r ++ [q]).reverse = q :: r.reverse := by simp
    rw [hrev] at hv
    simp only [pvarss] at hv
    refine rn_nx (Γ1 := [.dat (patD p), .lst (f.map nD), .lst (patsD r), .dat (patD q)]) (by simp) ?_
    cases q with
    | v k =>
      have hi := isi_pI (i := 3) (k := k) (Γ := [.dat (patD p), .lst (f.map nD), .lst (patsD r), .dat (patD (.v k))]) rfl
      refine rn_if (b := false) (by simp [hi]; rfl) (fun e => by cases e) fun _ => ?_
      have ha := v_appd (xs := f.map nD) (d := nD k) (by rw [List.length_map]; simp [psz] at e2; omega)
      refine rn (o := .nx [.dat (patD p), .lst ((f ++ [k]).map nD), .lst (patsD r), .dat (patD (.v k))]) (by simp only [nD] at ha ⊢; simp [patD, ha, nD]) ⟨pszs r, by rw [e2]; simp [psz], r, f ++ [k], _, rfl, by omega, by simp [psz] at e2; simp; omega, by rw [hv]; simp [pvars], rfl⟩
    | a s ps =>
      have hi := isi_tT (i := 3) (xs := .int (s : Nat) :: patsD ps) (Γ := [.dat (patD p), .lst (f.map nD), .lst (patsD r), .dat (patD (.a s ps))]) rfl
      refine rn_if (b := true) (by simp [hi]; rfl) (fun _ => ?_) fun e => by cases e
      have hx := v_extT (xs := patsD r) (ys := patsD ps.reverse) (by
        have := patsD_len r
        have := patsD_len ps.reverse
        rw [pszs_rev] at this
        simp [psz] at e2
        omega)
      rw [patsD_rev] at hx
      refine rn (o := .nx [.dat (patD p), .lst (f.map nD), .lst (patsD (r ++ ps.reverse)), .dat (patD (.a s ps))]) (by simp [patD, hx, patsD_app, patsD_rev]) ⟨pszs (r ++ ps.reverse), by rw [e2, pszs_app, pszs_rev]; simp [psz], r ++ ps.reverse, f, _, rfl, by rw [pszs_app, pszs_rev]; simp [psz] at e2; omega, by rw [pszs_app, pszs_rev]; simp [psz] at e2; omega, by rw [hv, List.reverse_append, List.reverse_reverse, pvarss_app]; simp [pvars], rfl⟩
theorem variables_ok {p : Pat} (h : psz p ≤ 60) : m_variables [.dat (patD p)] = some (.dat (.tuple ((sv p).map .int)), [.dat (patD p)]) := by
  have h1 := spots_of_ok (p := p) (by omega)
  have h2 := ints_map (fun k => k) (pvars p)
  have h3 : (pvars p).length < 64 := by have := pvars_len p; omega
  refine okOnly_of (fn_rt (Γ := [.dat (patD p)]) ?_)
  have e : mSSet (mApp m_spots_of (mlC (mpV 0) mlN)) [.dat (patD p)] = some (.lst ((sv p).map .int), [.dat (patD p)]) := by
    simp [mSSet, h1]
    rw [show (pvars p).map nD = (pvars p).map fun k => nD k from rfl, h2]
    simp [h3, sv]
  simp [b_variables, e]
/-- how many variables, told by the law -/
theorem lvc_ok {p : Pat} (h : psz p ≤ 62) : ∃ l : List Nat, l.length = vc p ∧ m__law_variables [.dat (patD p)] = some (.lst (l.map nD), [.dat (patD p)]) := by
  obtain ⟨l, h1, h2, h3⟩ := lvars_ok h
  exact ⟨l, vc_of h1 h2, h3⟩
theorem row_of_ok {p : Pat} (h : psz p ≤ 62) : ∃ xs : List Da, xs.length = psz p ∧ m_row_of [.dat (patD p)] = some (.dat (.tuple xs), [.dat (patD p)]) := by
  obtain ⟨c, cs', e, xs, rfl, rfl, h1⟩ := fn_ofR (n := 1) (N := 4) (W := ([1, 2] ++ (([3] ++ (([] ++ []) ++ [])) ++ []))) (mb := b_row_of) (Γ0 := [.dat (patD p), .any, .any, .any]) (cs := [.dat (patD p)]) (R := fun c cs' => ∃ xs : List Da, c = .dat (.tuple xs) ∧ cs' = [.dat (patD p)] ∧ xs.length = psz p) (h3 := by
    unfold b_row_of
    refine rn_nx (Γ1 := [.dat (patD p), .lst [], .lst [patD p], .any]) (by simp) ?_
    refine rn_seq (rn_wh (fun n G => ∃ (st : List Pat) (f : List Da) (c : CD), n = pszs st ∧ f.length + pszs st = psz p ∧ G = [.dat (patD p), .lst f, .lst (patsD st), c]) (psz p) (by omega) ⟨[p], [], .any, by simp [pszs], by simp [pszs], by simp [patsD]⟩ ?_)
    rintro n G ⟨st, f, c, rfl, hf, rfl⟩
    rcases wl_cases (st := st) (by omega) with ⟨rfl, hne⟩ | ⟨r, q, rfl, e1, e2, hne⟩
    · refine ⟨false, _, by simp [hne]; rfl, fun _ => ?_, fun e => by cases e⟩
      exact rn (o := .rt (.dat (.tuple f)) [.dat (patD p), .lst f, .lst (patsD []), c]) (by simp) ⟨_, _, rfl, f, rfl, rfl, by simp [pszs] at hf; exact hf⟩
    · refine ⟨true, [.dat (patD p), .lst f, .lst (patsD (r ++ [q])), c], by simp [hne], nofun, fun _ => ?_⟩
      rw [e1]
      refine rn_nx (Γ1 := [.dat (patD p), .lst f, .lst (patsD r), .dat (patD q)]) (by simp) ?_
      cases q with
      | v k =>
        have hi := isi_pI (i := 3) (k := k) (Γ := [.dat (patD p), .lst f, .lst (patsD r), .dat (patD (.v k))]) rfl
        refine rn_if (b := false) (by simp [hi]; rfl) (fun e => by cases e) fun _ => ?_
        have ha := v_appd (xs := f) (d := nD k) (by simp [psz] at e2; omega)
        refine rn (o := .nx [.dat (patD p), .lst (f ++ [nD k]), .lst (patsD r), .dat (patD (.v k))]) (by simp only [nD] at ha ⊢; simp [patD, ha, nD]) ⟨pszs r, by rw [e2]; simp [psz], r, f ++ [nD k], _, rfl, by simp [psz] at e2; simp; omega, rfl⟩
      | a s ps =>
        have hi := isi_tT (i := 3) (xs := .int (s : Nat) :: patsD ps) (Γ := [.dat (patD p), .lst f, .lst (patsD r), .dat (patD (.a s ps))]) rfl
        refine rn_if (b := true) (by simp [hi]; rfl) (fun _ => ?_) fun e => by cases e
        have hx := v_extT (xs := patsD r) (ys := patsD ps.reverse) (by
          have := patsD_len r
          have := patsD_len ps.reverse
          rw [pszs_rev] at this
          simp [psz] at e2
          omega)
        rw [patsD_rev] at hx
        have ha := v_appd (xs := f) (d := nD s) (by simp [psz] at e2; omega)
        have x1 := v_ixT (xs := .int (s : Nat) :: patsD ps) (i := 0) (d := .int (s : Nat)) rfl
        simp only [show ((0 : Nat) : Int) = 0 from rfl] at x1
        refine rn (o := .nx [.dat (patD p), .lst (f ++ [nD s]), .lst (patsD (r ++ ps.reverse)), .dat (patD (.a s ps))]) (by simp only [nD] at ha ⊢; simp [patD, x1, ha, hx, patsD_app, patsD_rev, nD]) ⟨pszs (r ++ ps.reverse), by rw [e2, pszs_app, pszs_rev]; simp [psz], r ++ ps.reverse, f ++ [nD s], _, rfl, by rw [pszs_app, pszs_rev]; simp [psz] at e2; simp; omega, rfl⟩)
  exact ⟨xs, h1, okOnly_of e⟩
theorem size_ok {p : Pat} (h : psz p ≤ 62) : m_size [.dat (patD p)] = some (.dat (.int ((psz p : Nat) : Int)), [.dat (patD p)]) := by
  obtain ⟨xs, h1, h2⟩ := row_of_ok h
  refine okOnly_of (fn_rt (Γ := [.dat (patD p)]) ?_)
  simp [b_size, h2, h1]
/-! rules -/
structure Rul where
  l : Pat
  r : Pat
  c : List (Pat × Pat)
def conD (c : Pat × Pat) : Da := .tuple [patD c.1, patD c.2]
def rulD (ρ : Rul) : Da := .tuple [patD ρ.l, patD ρ.r, .tuple (ρ.c.map conD)]
def consz (c : List (Pat × Pat)) : Nat := (c.map fun c => psz c.1 + psz c.2).sum
def rwid (ρ : Rul) : Nat := psz ρ.l + psz ρ.r + consz ρ.c
structure RulOk (sig : List Nat) (ρ : Rul) : Prop where
  v2 : vc ρ.l ≤ 2
  lz : psz ρ.l ≤ 5
  rz : psz ρ.r ≤ 5
  cz : ∀ c ∈ ρ.c, psz c.1 ≤ 3 ∧ psz c.2 ≤ 3
  cl : ρ.c.length ≤ 2
  lo : PatOk sig (· < vc ρ.l) ρ.l
  ro : PatOk sig (· < vc ρ.l) ρ.r
  co : ∀ c ∈ ρ.c, PatOk sig (· < vc ρ.l) c.1 ∧ PatOk sig (· < vc ρ.l) c.2
section
variable {sig : List Nat} {ρ : Rul}
theorem ru0 (ρ : Rul) : fIx [.dat (rulD ρ), .dat (.int 0)] = some (.dat (patD ρ.l), [.dat (rulD ρ), .dat (.int 0)]) := v_ixT (xs := [patD ρ.l, patD ρ.r, .tuple (ρ.c.map conD)]) (i := 0) rfl
theorem ru1 (ρ : Rul) : fIx [.dat (rulD ρ), .dat (.int 1)] = some (.dat (patD ρ.r), [.dat (rulD ρ), .dat (.int 1)]) := v_ixT (xs := [patD ρ.l, patD ρ.r, .tuple (ρ.c.map conD)]) (i := 1) rfl
theorem ru2 (ρ : Rul) : fIx [.dat (rulD ρ), .dat (.int 2)] = some (.dat (.tuple (ρ.c.map conD)), [.dat (rulD ρ), .dat (.int 2)]) := v_ixT (xs := [patD ρ.l, patD ρ.r, .tuple (ρ.c.map conD)]) (i := 2) rfl
theorem width_ok (h : RulOk sig ρ) : m__law_width [.dat (rulD ρ)] = some (.dat (.int ((rwid ρ : Nat) : Int)), [.dat (rulD ρ)]) := by
  have e0 := ru0 ρ
  have e1 := ru1 ρ
  have e2 := ru2 ρ
  have m0 := many_ok (p := ρ.l) (by have := h.lz; omega)
  have m1 := many_ok (p := ρ.r) (by have := h.rz; omega)
  refine okOnly_of (fn_of (Γ0 := [.dat (rulD ρ), .any, .any, .any]) (mb := b__law_width) ?_)
  unfold b__law_width
  refine rn_nx (Γ1 := [.dat (rulD ρ), .dat (.int ((psz ρ.l + psz ρ.r : Nat) : Int)), .any, .any]) (by simp [e0, e1, m0, m1]) ?_
  refine rn_seq (rn_forE ρ.c conD (fun l G => ∃ c2 c3, G = [.dat (rulD ρ), .dat (.int ((psz ρ.l + psz ρ.r + consz l : Nat) : Int)), c2, c3]) (by simp [e2] <;> rfl) gSeq_tup ⟨.any, .any, rfl⟩ ?_ ?_)
  · rintro l ⟨a, b⟩ r G e ⟨c2, c3, rfl⟩
    have hz := h.cz (a, b) (by rw [e]; simp)
    have ma := many_ok (p := a) (by have := hz.1; simp at this; omega)
    have mb := many_ok (p := b) (by have := hz.2; simp at this; omega)
    refine ⟨[.dat (rulD ρ), .dat (.int ((psz ρ.l + psz ρ.r + consz l : Nat) : Int)), .dat (patD a), .dat (patD b)], rfl, ?_⟩
    refine rn (o := .nx [.dat (rulD ρ), .dat (.int ((psz ρ.l + psz ρ.r + consz (l ++ [(a, b)]) : Nat) : Int)), .dat (patD a), .dat (patD b)]) ?_ ⟨_, _, rfl⟩
    have : consz (l ++ [(a, b)]) = consz l + (psz a + psz b) := by simp [consz]
    rw [this]
    simp [ma, mb]
    omega
  · rintro G ⟨c2, c3, rfl⟩
    exact rn (o := .rt (.dat (.int ((rwid ρ : Nat) : Int))) [.dat (rulD ρ), .dat (.int ((rwid ρ : Nat) : Int)), c2, c3]) (by simp [rwid]) ⟨_, rfl, rfl⟩
theorem sizes_ok (h : RulOk sig ρ) : m_sizes_of [.dat (.tuple [rulD ρ])] = some (.dat (.int ((rwid ρ : Nat) : Int)), [.dat (.tuple [rulD ρ])]) := by
  have m0 := size_ok (p := ρ.l) (by have := h.lz; omega)
  have m1 := size_ok (p := ρ.r) (by have := h.rz; omega)
  refine okOnly_of (fn_of (Γ0 := [.dat (.tuple [rulD ρ]), .any, .any, .any, .any, .any, .any]) (mb := b_sizes_of) ?_)
  unfold b_sizes_of
  refine rn_nx (Γ1 := [.dat (.tuple [rulD ρ]), .dat (.int 0), .any, .any, .any, .any, .any]) (by simp) ?_
  refine rn_seq (rn_forV [()] (fun _ => rulD ρ) (fun l G => ∃ c2 c3 c4 c5 c6, G = [.dat (.tuple [rulD ρ]), .dat (.int ((rwid ρ * l.length : Nat) : Int)), c2, c3, c4, c5, c6]) rfl gSeq_tup ⟨.any, .any, .any, .any, .any, by simp⟩ ?_ ?_)
  · rintro l x r G e ⟨c2, c3, c4, c5, c6, rfl⟩
    have hl : l = [] := by
      have := congrArg List.length e
      simp at this
      exact List.eq_nil_of_length_eq_zero (by omega)
    subst hl
    refine ⟨[.dat (.tuple [rulD ρ]), .dat (.int 0), .dat (patD ρ.l), .dat (patD ρ.r), .dat (.tuple (ρ.c.map conD)), c5, c6], rfl, ?_⟩
    have hlc := lc_mapA (own := [5, 6]) (mg := mgT 2 (mgsC (mgN 5) (mgsC (mgN 6) mgsN))) (me := mApp fAdd (mlC (mpE (mApp m_size (mlC (mpV 5) mlN))) (mlC (mpE (mApp m_size (mlC (mpV 6) mlN))) mlN))) (Γ := [.dat (.tuple [rulD ρ]), .dat (.int 0), .dat (patD ρ.l), .dat (patD ρ.r), .dat (.tuple (ρ.c.map conD)), .any, .any]) ρ.c conD (fun c => nD (psz c.1 + psz c.2)) (fun c hc => by
      obtain ⟨z1, z2⟩ := h.cz c hc
      have s1 := size_ok (p := c.1) (by omega)
      have s2 := size_ok (p := c.2) (by omega)
      refine ⟨_, [.dat (.tuple [rulD ρ]), .dat (.int 0), .dat (patD ρ.l), .dat (patD ρ.r), .dat (.tuple (ρ.c.map conD)), .dat (patD c.1), .dat (patD c.2)], rfl, ?_, rfl⟩
      simp [s1, s2, nD]) (by have := h.cl; rw [sizeLine_eq]; omega)
    have hs := v_sumN (fun k => k) (ρ.c.map fun c => psz c.1 + psz c.2)
    rw [List.map_map, show ((fun a => nD a) ∘ fun c : Pat × Pat => psz c.1 + psz c.2) = fun c => nD (psz c.1 + psz c.2) from rfl, List.map_id'] at hs
    refine rn (o := .nx [.dat (.tuple [rulD ρ]), .dat (.int ((rwid ρ : Nat) : Int)), .dat (patD ρ.l), .dat (patD ρ.r), .dat (.tuple (ρ.c.map conD)), .any, .any]) ?_ ⟨.dat (patD ρ.l), .dat (patD ρ.r), .dat (.tuple (ρ.c.map conD)), .any, .any, by simp⟩
    simp [-List.map_map, o0_sizes_of, m0, m1, hlc, hs, rwid, consz]
  · rintro G ⟨c2, c3, c4, c5, c6, rfl⟩
    exact rn (o := .rt (.dat (.int ((rwid ρ : Nat) : Int))) [.dat (.tuple [rulD ρ]), .dat (.int ((rwid ρ : Nat) : Int)), c2, c3, c4, c5, c6]) (by simp) ⟨_, rfl, rfl⟩
end
end K73
/-! M30: rules out of the bag. -/
namespace JJ
open PySem L2
theorem getD_rep {k k' : Key} {d : Da} : ∀ kvs : List (Key × Da), getD (repD kvs k d) k' = if k = k' then (getD kvs k).map (fun _ => d) else getD kvs k'
  | [] => by simp [repD, getD]
  | (j, x) :: r => by
    have ih := getD_rep (k := k) (k' := k') (d := d) r
    simp only [repD] at ih ⊢
    by_cases h1 : j = k
    · subst h1
      by_cases h2 : j = k'
      · subst h2; simp [getD]
      · simp [getD, h2] at ih ⊢; exact ih
    · by_cases h2 : j = k'
      · subst h2
        have : ¬ k = j := fun e => h1 e.symm
        simp [getD, h1, this]
      · simp only [List.map_cons, if_neg h1, getD, if_neg h2, ih]
theorem getD_app {k k' : Key} {d : Da} : ∀ kvs : List (Key × Da), getD kvs k = none → getD (kvs ++ [(k, d)]) k' = if k = k' then some d else getD kvs k'
  | [], _ => by simp [getD]
  | (j, x) :: r, h => by
    have h1 : ¬ j = k := fun e => by subst e; simp [getD] at h
    simp only [getD, if_neg h1] at h
    have ih := getD_app (k' := k') (d := d) r h
    simp only [List.cons_append, getD, ih]
    by_cases h2 : j = k'
    · subst h2
      have : ¬ k = j := fun e => h1 e.symm
      simp [this]
    · simp [h2]
theorem getD_put {kvs : List (Key × Da)} {k k' : Key} {d : Da} : getD (putD kvs k d) k' = if k = k' then some d else getD kvs k' := by
  unfold putD
  cases h : getD kvs k with
  | none => simp only [Option.isSome_none, Bool.false_eq_true, if_false]; exact getD_app kvs h
  | some x => simp only [Option.isSome_some, if_true, getD_rep, h, Option.map_some]
theorem putD_len {kvs : List (Key × Da)} {k : Key} {d : Da} : (putD kvs k d).length ≤ kvs.length + 1 := by
  unfold putD
  split
  · simp [repD]
  · simp
end JJ
namespace K73
open PySem L2 JJ
mutual
def ren (f : Nat → Nat) : Pat → Pat
  | .v k => .v (f k)
  | .a s ps => .a s (rens f ps)
def rens (f : Nat → Nat) : List Pat → List Pat
  | [] => []
  | p :: r => ren f p :: rens f r
end
theorem rens_map (f : Nat → Nat) : ∀ l : List Pat, rens f l = l.map (ren f)
  | [] => by simp [rens]
  | p :: r => by simp [rens, rens_map f r]
mutual
theorem ren_sz (f : Nat → Nat) : ∀ p : Pat, psz (ren f p) = psz p
  | .v k => by simp [ren, psz]
  | .a s ps => by simp [ren, psz, rens_sz f ps]
theorem rens_sz (f : Nat → Nat) : ∀ l : List Pat, pszs (rens f l) = pszs l
  | [] => by simp [rens, pszs]
  | p :: r => by simp [rens, pszs, ren_sz f p, rens_sz f r]
end
mutual
theorem ren_vars (f : Nat → Nat) : ∀ p : Pat, pvars (ren f p) = (pvars p).map f
  | .v k => by simp [ren, pvars]
  | .a s ps => by simp [ren, pvars, rens_vars f ps]
theorem rens_vars (f : Nat → Nat) : ∀ l : List Pat, pvarss (rens f l) = (pvarss l).map f
  | [] => by simp [rens, pvarss]
  | p :: r => by simp [rens, pvarss, ren_vars f p, rens_vars f r]
end
mutual
theorem ren_ok {sig : List Nat} {nv nv' : Nat → Prop} (f : Nat → Nat) : ∀ p : Pat, PatOk sig nv p → (∀ k ∈ pvars p, nv' (f k)) → PatOk sig nv' (ren f p)
  | .v k, _, h => by simp only [ren, PatOk]; exact h k (by simp [pvars])
  | .a s ps, h, h2 => by
    simp only [ren, PatOk] at h ⊢
    exact ⟨by rw [rens_map, List.length_map]; exact h.1, rens_ok f ps h.2 (by simpa only [pvars] using h2)⟩
theorem rens_ok {sig : List Nat} {nv nv' : Nat → Prop} (f : Nat → Nat) : ∀ l : List Pat, PatsOk sig nv l → (∀ k ∈ pvarss l, nv' (f k)) → PatsOk sig nv' (rens f l)
  | [], _, _ => by simp [rens, PatsOk]
  | p :: r, h, h2 => by
    simp only [rens, PatsOk, pvarss] at h h2 ⊢
    exact ⟨ren_ok f p h.1 fun k hk => h2 k (by simp [hk]), rens_ok f r h.2 fun k hk => h2 k (by simp [hk])⟩
end
mutual
theorem pat_mono {sig : List Nat} {nv nv' : Nat → Prop} (hm : ∀ k, nv k → nv' k) : ∀ p : Pat, PatOk sig nv p → PatOk sig nv' p
  | .v k, h => by simp only [PatOk] at h ⊢; exact hm k h
  | .a s ps, h => by simp only [PatOk] at h ⊢; exact ⟨h.1, pats_mono hm ps h.2⟩
theorem pats_mono {sig : List Nat} {nv nv' : Nat → Prop} (hm : ∀ k, nv k → nv' k) : ∀ l : List Pat, PatsOk sig nv l → PatsOk sig nv' l
  | [], _ => by simp [PatsOk]
  | p :: r, h => by simp only [PatsOk] at h ⊢; exact ⟨pat_mono hm p h.1, pats_mono hm r h.2⟩
end
theorem sl0 {i : Nat} {x : Da} {xs : List Da} {Γ : List CD} (h : Γ[i]? = some (.dat (.tuple (x :: xs)))) : mSl (mpV i) moN (moS (mC (.int 1))) Γ = some (.dat (.tuple [x]), Γ) := by
  have e : cutD (x :: xs) none (some 1) = [x] := by
    unfold cutD HT.sIx
    have h1 : min (1 : Int).toNat (x :: xs).length = 1 := by simp
    simp
  simp [mSl, moS, moN, h, sliceC, e]
theorem called_ok {kvs : List (Key × Da)} {f : Nat → Nat} : ∀ (n : Nat) (p : Pat), psz p ≤ n → psz p ≤ 1000 → (∀ k ∈ pvars p, getD kvs (.inl (k : Nat)) = some (.int (f k : Nat))) → m__law_called n [.dat (patD p), .dic kvs] = some (.dat (patD (ren f p)), [.dat (patD p), .dic kvs])
  | 0, p, hz, _, _ => by have := psz_pos p; omega
  | n + 1, .v k, hz, _, h => by
    have hi := isi_iI (i := 0) (z := (k : Nat)) (Γ := [.dat (.int (k : Nat)), .dic kvs, .any]) rfl
    have hk := h k (by simp [pvars])
    refine okOnly_of (fn_rt (Γ0 := [.dat (patD (.v k)), .dic kvs, .any]) (Γ := [.dat (patD (.v k)), .dic kvs, .any]) ?_)
    simp only [patD, ren]
    simp [b__law_called, hi, mIxD, keyOfD, hk]
  | n + 1, .a s ps, hz, hz2, h => by
    have hi := isi_iT (i := 0) (xs := .int (s : Nat) :: patsD ps) (Γ := [.dat (.tuple (.int (s : Nat) :: patsD ps)), .dic kvs, .any]) rfl
    have h0 := sl0 (i := 0) (x := .int (s : Nat)) (xs := patsD ps) (Γ := [.dat (.tuple (.int (s : Nat) :: patsD ps)), .dic kvs, .any]) rfl
    have h1 := sl1 (i := 0) (x := .int (s : Nat)) (xs := patsD ps) (Γ := [.dat (.tuple (.int (s : Nat) :: patsD ps)), .dic kvs, .any]) rfl
    simp only [psz] at hz hz2
    have hpl := patsD_len ps
    have hl : ps.length ≤ pszs ps := by rw [patsD_map, List.length_map] at hpl; exact hpl
    have hlc := lc_mapA (own := [2]) (mg := mgN 2) (me := mApp (m__law_called n) (mlC (mpV 2) (mlC (mpV 1) mlN))) (Γ := [.dat (.tuple (.int (s : Nat) :: patsD ps)), .dic kvs, .any]) ps patD (fun p => patD (ren f p)) (fun p hp => by
      have hpz := psz_mem hp
      have e := called_ok (kvs := kvs) (f := f) n p (by omega) (by omega) fun k hk => h k (by
        simp only [pvars]
        clear hz hz2 h hi h0 h1 hpl hl hpz
        induction ps with
        | nil => cases hp
        | cons q r ih =>
          simp only [pvarss, List.mem_append]
          rcases List.mem_cons.mp hp with rfl | hp
          · exact .inl hk
          · exact .inr (ih hp))
      refine ⟨_, [.dat (.tuple (.int (s : Nat) :: patsD ps)), .dic kvs, .dat (patD p)], rfl, ?_, rfl⟩
      simp [e]) (by rw [sizeLine_eq]; omega)
    rw [← patsD_map] at hlc
    have hc := v_catT (xs := [.int (s : Nat)]) (ys := ps.map fun p => patD (ren f p)) (by simp; omega)
    refine okOnly_of (fn_rt (Γ0 := [.dat (patD (.a s ps)), .dic kvs, .any]) (Γ := [.dat (patD (.a s ps)), .dic kvs, .any]) ?_)
    simp only [patD, ren]
    have hr : patsD (rens f ps) = ps.map fun p => patD (ren f p) := by rw [patsD_map, rens_map, List.map_map]; rfl
    rw [hr]
    simp [-List.map_map, b__law_called, o0__law_called, hi, h0, h1, hlc, hc]
theorem idx_lt {l : List Nat} {k : Nat} (h : k ∈ l) : l.idxOf k < l.length := List.idxOf_lt_length_of_mem h
theorem vc_ren {p : Pat} {l : List Nat} (hn : l.Nodup) (h : ∀ x, x ∈ l ↔ x ∈ pvars p) : vc (ren (fun k => l.idxOf k) p) = l.length := by
  have := vc_of (p := ren (fun k => l.idxOf k) p) (l := List.range l.length) List.nodup_range fun x => by
    rw [ren_vars, List.mem_range, List.mem_map]
    constructor
    · intro hx
      refine ⟨l[x], (h _).mp (List.getElem_mem hx), ?_⟩
      exact List.Nodup.idxOf_getElem hn x hx
    · rintro ⟨k, hk, rfl⟩
      exact idx_lt ((h k).mpr hk)
  rw [← this, List.length_range]
end K73
/-! M31: a rule out of the bag. -/
namespace K73
open PySem L2 JJ
theorem mem_range2 {k m : Nat} (h : k ∈ List.range m) : k < m := List.mem_range.mp h
theorem rule_ok {sig : List Nat} {cs : List Int} {dg mx : Int} (hs3 : ∀ a ∈ sig, a ≤ 3) (h0 : 0 ∈ sig) (hl : sig.length ≤ 100) (hB : BagOk cs dg mx) : ∃ (ρ : Rul) (cs' : List Int) (dg' mx' : Int), RulOk sig ρ ∧ BagOk cs' dg' mx' ∧
    m__law_rule [.bag cs dg mx, .dat (tD sig), .dat (.int 2), .dat (.int 5)] = some (.dat (rulD ρ), [.bag cs' dg' mx', .dat (tD sig), .dat (.int 2), .dat (.int 5)]) := by
  obtain ⟨L, cs1, dg1, mx1, hB1, hL, hLz, e1⟩ := pattern_ok (sig := sig) (nms := List.range 2) hs3 h0 hl (by simp) 12 5 cs dg mx hB (by decide) (by decide) (by decide)
  obtain ⟨vs, hvn, hvm, e2⟩ := lvars_ok (p := L) (by omega)
  have hvl : vs.length = vc L := vc_of hvn hvm
  have hv2 : vs.length ≤ 2 := by
    have h : vs ⊆ List.range 2 := fun x hx => pvars_of hL x ((hvm x).mp hx)
    have := hvn.length_le_of_subset h
    simpa using this
  have hz : psz (ren (fun k => vs.idxOf k) L) ≤ 5 := by rw [ren_sz]; exact hLz
  have hok : PatOk sig (· < vs.length) (ren (fun k => vs.idxOf k) L) := ren_ok _ L hL fun k hk => idx_lt ((hvm k).mpr hk)
  have hvc := vc_ren (p := L) hvn hvm
  have el : fLRg [.dat (.int 2)] = some (.lst ((List.range 2).map nD), [.dat (.int 2)]) := by
    have := v_lrg (n := 2) (by decide)
    rw [rg_map] at this
    exact this
  have el2 : fLRg [.dat (.int ((vs.length : Nat) : Int))] = some (.lst ((List.range vs.length).map nD), [.dat (.int ((vs.length : Nat) : Int))]) := by
    have := v_lrg (n := vs.length) (by omega)
    rw [rg_map] at this
    exact this
  simp only [show ((5 : Nat) : Int) = 5 from rfl] at e1
  obtain ⟨c, cs', e, ρ, cs9, dg9, mx9, rfl, rfl, h1, h2⟩ := fn_ofR (n := 4) (N := 11) (W := ([4] ++ ([5] ++ ([6] ++ ((([7] ++ ([8] ++ [])) ++ []) ++ ([4, 9, 10] ++ (([7] ++ []) ++ []))))))) (mb := b__law_rule) (Γ0 := [.bag cs dg mx, .dat (tD sig), .dat (.int 2), .dat (.int 5), .any, .any, .any, .any, .any, .any, .any]) (cs := [.bag cs dg mx, .dat (tD sig), .dat (.int 2), .dat (.int 5)])
    (R := fun c cs' => ∃ (ρ : Rul) (cs9 : List Int) (dg9 mx9 : Int), c = .dat (rulD ρ) ∧ cs' = [.bag cs9 dg9 mx9, .dat (tD sig), .dat (.int 2), .dat (.int 5)] ∧ RulOk sig ρ ∧ BagOk cs9 dg9 mx9) (h3 := by
      unfold b__law_rule
      refine rn_nx (Γ1 := [.bag cs1 dg1 mx1, .dat (tD sig), .dat (.int 2), .dat (.int 5), .dat (patD L), .any, .any, .any, .any, .any, .any]) (by simp [el, e1]) ?_
      refine rn_nx (Γ1 := [.bag cs1 dg1 mx1, .dat (tD sig), .dat (.int 2), .dat (.int 5), .dat (patD L), .lst (vs.map nD), .any, .any, .any, .any, .any]) (by simp [e2]) ?_
      refine rn_nx (Γ1 := [.bag cs1 dg1 mx1, .dat (tD sig), .dat (.int 2), .dat (.int 5), .dat (patD L), .lst (vs.map nD), .dic [], .any, .any, .any, .any]) (by simp [mDNew]) ?_
      refine rn_seq (rn_forL (ds := vs.map nD) (vs.zipIdx) (fun p => .tuple [.int ((p.2 : Nat) : Int), nD p.1]) (fun l G => ∃ kvs c7 c8, (∀ p ∈ l, getD kvs (.inl (p.1 : Nat)) = some (.int (p.2 : Nat))) ∧ kvs.length ≤ l.length ∧ G = [.bag cs1 dg1 mx1, .dat (tD sig), .dat (.int 2), .dat (.int 5), .dat (patD L), .any, .dic kvs, c7, c8, .any, .any]) rfl (by show some (enD 0 (vs.map nD)) = _; rw [en_map nD vs 0]) ⟨[], .any, .any, by simp, by simp, rfl⟩ ?_ ?_)
      · rintro l ⟨k, i⟩ r G ez ⟨kvs, c7, c8, hk, hkl, rfl⟩
        have hll : l.length ≤ 2 := by
          have := congrArg List.length ez
          simp at this
          omega
        refine ⟨[.bag cs1 dg1 mx1, .dat (tD sig), .dat (.int 2), .dat (.int 5), .dat (patD L), .any, .dic kvs, .dat (.int (i : Nat)), .dat (nD k), .any, .any], rfl, ?_⟩
        refine rn (o := .nx [.bag cs1 dg1 mx1, .dat (tD sig), .dat (.int 2), .dat (.int 5), .dat (patD L), .any, .dic (putD kvs (.inl (k : Nat)) (.int (i : Nat))), .dat (.int (i : Nat)), .dat (nD k), .any, .any]) ?_ ⟨_, _, _, ?_, ?_, rfl⟩
        · have : kvs.length < 16777216 := by omega
          simp [mSetD, nD, keyOfD, sizeLine_eq, this]
        · intro p hp
          rw [getD_put]
          rcases List.mem_append.mp hp with hp | hp
          · have hne : p.1 ≠ k := by
              intro he
              have hm1 : (k, i) ∈ vs.zipIdx := by rw [ez]; simp
              have hm2 : p ∈ vs.zipIdx := by rw [ez]; simp [hp]
              obtain ⟨j, ej⟩ := List.getElem?_of_mem hp
              have h3 := List.getElem?_append_left (l₂ := (k, i) :: r) (List.getElem?_eq_some_iff.mp ej).1
              have hjl := (List.getElem?_eq_some_iff.mp ej).1
              have e5 : vs.zipIdx[j]? = some p := by rw [ez, h3, ej]
              have e6 : vs.zipIdx[l.length]? = some (k, i) := by rw [ez]; simp
              rw [List.getElem?_zipIdx] at e5 e6
              obtain ⟨a, ha, ea⟩ := Option.map_eq_some_iff.mp e5
              obtain ⟨b, hb, eb⟩ := Option.map_eq_some_iff.mp e6
              have hab : a = b := by
                have := congrArg Prod.fst ea
                have := congrArg Prod.fst eb
                simp at *
                omega
              subst hab
              have := (List.getElem?_inj (List.getElem?_eq_some_iff.mp ha).1 hvn).mp (ha.trans hb.symm)
              omega
            have : ¬ (Sum.inl ((k : Nat) : Int) : Key) = .inl ((p.1 : Nat) : Int) := fun he => hne (by
              have := Sum.inl.inj he
              omega)
            rw [if_neg this]
            exact hk p hp
          · rw [List.mem_singleton] at hp
            subst hp
            rw [if_pos rfl]
        · have := putD_len (kvs := kvs) (k := .inl ((k : Nat) : Int)) (d := .int (i : Nat))
          rw [List.length_append, List.length_singleton]
          omega
      · rintro G ⟨kvs, c7, c8, hk, hkl, rfl⟩
        have hget : ∀ k ∈ pvars L, getD kvs (.inl (k : Nat)) = some (.int ((vs.idxOf k : Nat) : Int)) := fun k hkm => by
          have hkv := (hvm k).mpr hkm
          refine hk (k, vs.idxOf k) ?_
          rw [List.mem_zipIdx_iff_getElem?]
          rw [List.getElem?_eq_getElem (idx_lt hkv)]
          simp
        have ec := called_ok (kvs := kvs) (f := fun k => vs.idxOf k) 12 L (by omega) (by omega) hget
        refine rn_nx (Γ1 := [.bag cs1 dg1 mx1, .dat (tD sig), .dat (.int 2), .dat (.int 5), .dat (patD (ren (fun k => vs.idxOf k) L)), .lst (vs.map nD), .dic kvs, c7, c8, .lst ((List.range vs.length).map nD), .lst []]) (by simp [ec, el2]) ?_
        obtain ⟨d, hd, cs2, dg2, mx2, hB2, ep⟩ := pick_ok (xs := [nD 0, nD 0, nD 1, nD 2]) hB1 (by simp) (by simp)
        obtain ⟨j, hj, rfl⟩ : ∃ j : Nat, j ≤ 2 ∧ d = nD j := by
          simp at hd
          rcases hd with rfl | rfl | rfl
          · exact ⟨0, by decide, rfl⟩
          · exact ⟨1, by decide, rfl⟩
          · exact ⟨2, by decide, rfl⟩
        have ep' : m__law_pick [.bag cs1 dg1 mx1, .lst [.int 0, .int 0, .int 1, .int 2]] = some (.dat (.int (j : Nat)), [.bag cs2 dg2 mx2, .lst [.int 0, .int 0, .int 1, .int 2]]) := ep
        refine rn_seq (rn_forE (Γ1 := [.bag cs2 dg2 mx2, .dat (tD sig), .dat (.int 2), .dat (.int 5), .dat (patD (ren (fun k => vs.idxOf k) L)), .lst (vs.map nD), .dic kvs, c7, c8, .lst ((List.range vs.length).map nD), .lst []]) (c := .dat (.int (j : Nat))) (List.range j) (fun i => .int ((i : Nat) : Int)) (fun l G => ∃ (cs : List Int) (dg mx : Int) (c7 : CD) (C : List (Pat × Pat)), BagOk cs dg mx ∧ C.length = l.length ∧ (∀ c ∈ C, (psz c.1 ≤ 3 ∧ psz c.2 ≤ 3) ∧ PatOk sig (· < vs.length) c.1 ∧ PatOk sig (· < vs.length) c.2) ∧ G = [.bag cs dg mx, .dat (tD sig), .dat (.int 2), .dat (.int 5), .dat (patD (ren (fun k => vs.idxOf k) L)), .lst (vs.map nD), .dic kvs, c7, c8, .lst ((List.range vs.length).map nD), .lst (C.map conD)]) (by simp [ep']) (gRng1_map (by omega)) ⟨cs2, dg2, mx2, c7, [], hB2, rfl, by simp, rfl⟩ ?_ ?_)
        · rintro l x r G ex ⟨cs3, dg3, mx3, d7, C, hB3, hCl, hC, rfl⟩
          have hll : l.length < j := by
            have := congrArg List.length ex
            simp at this
            omega
          obtain ⟨p1, cs4, dg4, mx4, hB4, hp1, hz1, e4⟩ := pattern_ok (sig := sig) (nms := List.range vs.length) hs3 h0 hl (by simp; omega) 12 3 cs3 dg3 mx3 hB3 (by decide) (by decide) (by decide)
          obtain ⟨p2, cs5, dg5, mx5, hB5, hp2, hz2, e5⟩ := pattern_ok (sig := sig) (nms := List.range vs.length) hs3 h0 hl (by simp; omega) 12 3 cs4 dg4 mx4 hB4 (by decide) (by decide) (by decide)
          simp only [show ((3 : Nat) : Int) = 3 from rfl] at e4 e5
          have ha := v_appd (xs := C.map conD) (d := conD (p1, p2)) (by rw [List.length_map]; omega)
          refine ⟨[.bag cs3 dg3 mx3, .dat (tD sig), .dat (.int 2), .dat (.int 5), .dat (patD (ren (fun k => vs.idxOf k) L)), .lst (vs.map nD), .dic kvs, .dat (.int (x : Nat)), c8, .lst ((List.range vs.length).map nD), .lst (C.map conD)], rfl, ?_⟩
          refine rn (o := .nx [.bag cs5 dg5 mx5, .dat (tD sig), .dat (.int 2), .dat (.int 5), .dat (patD (ren (fun k => vs.idxOf k) L)), .lst (vs.map nD), .dic kvs, .dat (.int (x : Nat)), c8, .lst ((List.range vs.length).map nD), .lst ((C ++ [(p1, p2)]).map conD)]) ?_ ⟨cs5, dg5, mx5, _, C ++ [(p1, p2)], hB5, by simp [hCl], ?_, rfl⟩
          · simp only [conD] at ha
            simp [e4, e5, conD, ha]
          · intro c hc
            rcases List.mem_append.mp hc with hc | hc
            · exact hC c hc
            · rw [List.mem_singleton] at hc
              subst hc
              exact ⟨⟨hz1, hz2⟩, pat_mono (fun k => mem_range2) p1 hp1, pat_mono (fun k => mem_range2) p2 hp2⟩
        · rintro G ⟨cs3, dg3, mx3, d7, C, hB3, hCl, hC, rfl⟩
          obtain ⟨R, cs4, dg4, mx4, hB4, hR, hRz, e4⟩ := pattern_ok (sig := sig) (nms := List.range vs.length) hs3 h0 hl (by simp; omega) 12 5 cs3 dg3 mx3 hB3 (by decide) (by decide) (by decide)
          simp only [show ((5 : Nat) : Int) = 5 from rfl] at e4
          refine rn (o := .rt (.dat (rulD ⟨ren (fun k => vs.idxOf k) L, R, C⟩)) [.bag cs4 dg4 mx4, .dat (tD sig), .dat (.int 2), .dat (.int 5), .dat (patD (ren (fun k => vs.idxOf k) L)), .lst (vs.map nD), .dic kvs, d7, c8, .lst ((List.range vs.length).map nD), .lst (C.map conD)]) (by simp [e4, rulD]) ⟨_, _, rfl, ⟨ren (fun k => vs.idxOf k) L, R, C⟩, cs4, dg4, mx4, rfl, rfl, ?_, hB4⟩
          have hRok := pat_mono (fun k => mem_range2) R hR
          exact ⟨by simp only [hvc]; exact hv2, hz, hRz, fun c hc => (hC c hc).1, by simp only; rw [hCl]; simp; omega, by simp only [hvc]; exact hok, by simp only [hvc]; exact hRok, fun c hc => by simp only [hvc]; exact (hC c hc).2⟩)
  exact ⟨ρ, cs9, dg9, mx9, h1, h2, okOnly_of e⟩
end K73
/-! M32: tuples by their numbers. -/
namespace K73
open PySem L2 JJ
def giv (N : Nat) : Nat → Nat → List Nat
  | 0, _ => []
  | k + 1, i => giv N k (i / N) ++ [i % N]
theorem giv_cons {N : Nat} : ∀ (k i : Nat), giv N (k + 1) i = (i / N ^ k % N) :: giv N k i
  | 0, i => by simp [giv]
  | k + 1, i => by
    rw [giv, giv_cons k (i / N), List.cons_append, Nat.div_div_eq_div_mul, ← Nat.pow_succ']
    rfl
theorem giv_len {N : Nat} : ∀ k i : Nat, (giv N k i).length = k
  | 0, _ => rfl
  | k + 1, i => by rw [giv, List.length_append, giv_len k, List.length_singleton]
theorem giv_lt {N : Nat} (h : 0 < N) : ∀ k i : Nat, ∀ x ∈ giv N k i, x < N
  | 0, _, x, hx => by simp [giv] at hx
  | k + 1, i, x, hx => by
    rw [giv] at hx
    rcases List.mem_append.mp hx with hx | hx
    · exact giv_lt h k _ x hx
    · rw [List.mem_singleton.mp hx]; exact Nat.mod_lt _ h
theorem range_flat {α : Type} (N : Nat) (f : Nat → α) : ∀ a : Nat, ((List.range a).flatMap fun i => (List.range N).map fun j => f (i * N + j)) = (List.range (a * N)).map f
  | 0 => by simp
  | a + 1 => by
    rw [List.range_succ, List.flatMap_append, range_flat N f a, Nat.add_mul, Nat.one_mul, List.range_add, List.map_append, List.map_map]
    simp
theorem tups_giv {N : Nat} (h : 0 < N) : ∀ k : Nat, tups N k = (List.range (N ^ k)).map (giv N k)
  | 0 => by simp [tups, giv]
  | k + 1 => by
    rw [tups, tups_giv h k, List.flatMap_map, Nat.pow_succ, ← range_flat]
    congr 1
    funext i
    refine List.map_congr_left fun j hj => ?_
    have hj' := List.mem_range.mp hj
    rw [giv]
    have h1 : (i * N + j) / N = i := by
      rw [Nat.add_comm, Nat.add_mul_div_right _ _ h, Nat.div_eq_of_lt hj', Nat.zero_add]
    have h2 : (i * N + j) % N = j := by
      rw [Nat.add_comm, Nat.add_mul_mod_self_right, Nat.mod_eq_of_lt hj']
    rw [h1, h2]
theorem giv_plc {N : Nat} (h : 0 < N) : ∀ (k : Nat) (r : List Nat), r.length = k → (∀ x ∈ r, x < N) → giv N k (plc N r) = r
  | 0, r, hl, _ => by rw [List.eq_nil_of_length_eq_zero hl]; rfl
  | k + 1, r, hl, hx => by
    rcases List.eq_nil_or_concat r with rfl | ⟨q, z, rfl⟩
    · simp at hl
    · rw [List.concat_eq_append] at *
      have hz := hx z (by simp)
      rw [giv, plc_snoc]
      have h1 : (plc N q * N + z) / N = plc N q := by
        rw [Nat.add_comm, Nat.add_mul_div_right _ _ h, Nat.div_eq_of_lt hz, Nat.zero_add]
      have h2 : (plc N q * N + z) % N = z := by
        rw [Nat.add_comm, Nat.add_mul_mod_self_right, Nat.mod_eq_of_lt hz]
      rw [h1, h2, giv_plc h k q (by simp at hl; exact hl) fun x hx' => hx x (by simp [hx'])]
theorem tups_at {N a : Nat} (h : 0 < N) {r : List Nat} (hl : r.length = a) (hx : ∀ x ∈ r, x < N) : (tups N a)[plc N r]? = some r := by
  have hp : plc N r < N ^ a := by rw [← hl]; exact plc_lt hx
  rw [tups_giv h, List.getElem?_map, List.getElem?_range hp, Option.map_some, giv_plc h a r hl hx]
theorem tups_mem {N a : Nat} (h : 0 < N) {r : List Nat} (hl : r.length = a) (hx : ∀ x ∈ r, x < N) : r ∈ tups N a := List.mem_of_getElem? (tups_at h hl hx)
/-- _law_given -/
theorem given_ok {N k i : Nat} (hN : 0 < N) (hN2 : N ≤ 1000) (hk : k ≤ 1000) : m__law_given [.dat (.int (N : Nat)), .dat (.int (k : Nat)), .dat (.int (i : Nat))] = some (.dat (tD (giv N k i)), [.dat (.int (N : Nat)), .dat (.int (k : Nat)), .dat (.int (i : Nat))]) := by
  refine okOnly_of (fn_of (Γ0 := [.dat (.int (N : Nat)), .dat (.int (k : Nat)), .dat (.int (i : Nat)), .any, .any]) (mb := b__law_given) ?_)
  unfold b__law_given
  refine rn_nx (Γ1 := [.dat (.int (N : Nat)), .dat (.int (k : Nat)), .dat (.int (i : Nat)), .dat (tD []), .any]) (by simp [tD]) ?_
  refine rn_seq (rn_forV (List.range k) (fun i => .int ((i : Nat) : Int)) (fun l G => ∃ c, G = [.dat (.int (N : Nat)), .dat (.int (k : Nat)), .dat (.int ((i / N ^ l.length : Nat) : Int)), .dat (tD (giv N l.length i)), c]) rfl (gRng1_map (by omega)) ⟨.any, by simp; rfl⟩ ?_ ?_)
  · rintro l x r G e ⟨c, rfl⟩
    have hll : l.length < k := by
      have := congrArg List.length e
      simp at this
      omega
    refine ⟨[.dat (.int (N : Nat)), .dat (.int (k : Nat)), .dat (.int ((i / N ^ l.length : Nat) : Int)), .dat (tD (giv N l.length i)), .dat (.int (x : Nat))], rfl, ?_⟩
    refine rn (o := .nx [.dat (.int (N : Nat)), .dat (.int (k : Nat)), .dat (.int ((i / N ^ (l ++ [x]).length : Nat) : Int)), .dat (tD (giv N (l ++ [x]).length i)), .dat (.int (x : Nat))]) ?_ ⟨_, rfl⟩
    rw [List.length_append, List.length_singleton, giv_cons, Nat.pow_succ, ← Nat.div_div_eq_div_mul]
    generalize i / N ^ l.length = q
    have hm := v_mod (i := ((q : Nat) : Int)) (j := (N : Nat)) (by omega)
    have hd := v_div (i := ((q : Nat) : Int)) (j := (N : Nat)) (by omega) (by
      rw [Int.natAbs_natCast]
      by_cases h : N = 0
      · omega
      · exact (Nat.log2_lt h).mpr (Nat.lt_of_lt_of_le (Nat.lt_of_le_of_lt hN2 (show 1000 < 2 ^ 10 by decide)) (Nat.pow_le_pow_right (by decide) (by decide))))
    have hc := v_catT (xs := [nD (q % N)]) (ys := (giv N l.length i).map nD) (by simp [giv_len]; omega)
    simp only [tD, nD, Int.natCast_ediv, Int.natCast_emod, List.map_cons, List.singleton_append, List.cons_append, List.nil_append] at hm hd hc ⊢
    simp [hm, hd, hc]
  · rintro G ⟨c, rfl⟩
    exact rn (o := .rt (.dat (tD (giv N k i))) [.dat (.int (N : Nat)), .dat (.int (k : Nat)), .dat (.int ((i / N ^ k : Nat) : Int)), .dat (tD (giv N k i)), c]) (by simp) ⟨_, rfl, rfl⟩
end K73
/-! M33: whether a rule holds, both ways. -/
namespace K73
open PySem L2 JJ
def keptC (n : Nat) (T : List (List Nat)) (g : List Nat) (c : Pat × Pat) : Bool := val n T g c.1 == val n T g c.2
def kept (n : Nat) (T : List (List Nat)) (ρ : Rul) (g : List Nat) : Bool := !(ρ.c.all (keptC n T g)) || keptC n T g (ρ.l, ρ.r)
def brk (n : Nat) (T : List (List Nat)) (ρ : Rul) : Option (List Nat) := (tups n (vc ρ.l)).find? fun g => !kept n T ρ g
def brkD : Option (List Nat) → Da
  | none => .none
  | some g => tD g
theorem v_eqN {i j : Nat} : fEq [.dat (nD i), .dat (nD j)] = some (.dat (.bool (i == j)), [.dat (nD i), .dat (nD j)]) := by
  have : (((i : Nat) : Int) == ((j : Nat) : Int)) = (i == j) := Bool.eq_iff_iff.mpr (by simp only [beq_iff_eq]; omega)
  unfold nD
  rw [v_eqI, this]
theorem v_neN {i j : Nat} : fNe [.dat (nD i), .dat (nD j)] = some (.dat (.bool (!(i == j))), [.dat (nD i), .dat (nD j)]) := by
  have : (((i : Nat) : Int) == ((j : Nat) : Int)) = (i == j) := Bool.eq_iff_iff.mpr (by simp only [beq_iff_eq]; omega)
  unfold nD
  rw [v_neI, this]
theorem bools_map {α : Type} (f : α → Bool) : ∀ xs : List α, boolsOf (xs.map fun x => PyData.bool (f x)) = some (xs.map f)
  | [] => rfl
  | _ :: r => by simp only [List.map_cons, boolsOf, bools_map f r]
theorem v_allB {α : Type} (f : α → Bool) (xs : List α) : fAll [.lst (xs.map fun x => PyData.bool (f x))] = some (.dat (.bool (xs.all f)), [.lst (xs.map fun x => PyData.bool (f x))]) := by
  unfold fAll
  simp only [mR, gAll, bools_map, List.all_map]
  rfl
theorem find_fst {α : Type} {p : α → Bool} {l r : List α} {x : α} (h : ∀ y ∈ l, p y = false) (hx : p x = true) : (l ++ x :: r).find? p = some x := by
  induction l with
  | nil => simp [hx]
  | cons a l ih =>
    rw [List.cons_append, List.find?_cons, h a List.mem_cons_self]
    exact ih fun y hy => h y (List.mem_cons_of_mem _ hy)
theorem find_non {α : Type} {p : α → Bool} {l : List α} (h : ∀ y ∈ l, p y = false) : l.find? p = none := by
  rw [List.find?_eq_none]
  intro x hx
  rw [h x hx]
  decide
section
variable {sig g : List Nat} {n : Nat} {T : List (List Nat)} {ρ : Rul}
theorem is_kept_ok (hT : TabOk sig n T) (hs3 : ∀ a ∈ sig, a ≤ 3) (hn : n ≤ 61) (hg : ∀ x ∈ g, x < n) (hgl : g.length = vc ρ.l) (hρ : RulOk sig ρ) :
    m__law_is_kept [.dat (algD n T), .dat (rulD ρ), .dat (tD g)] = some (.dat (.bool (kept n T ρ g)), [.dat (algD n T), .dat (rulD ρ), .dat (tD g)]) := by
  have hv : ∀ p : Pat, psz p ≤ 12 → PatOk sig (· < vc ρ.l) p → m__law_value 12 [.dat (algD n T), .dat (patD p), .dat (tD g)] = some (.dat (nD (val n T g p)), [.dat (algD n T), .dat (patD p), .dat (tD g)]) := fun p hz hp => lvalue_ok hT hs3 hn hg 12 p hz (by rw [hgl]; exact hp)
  have e0 := ru0 ρ
  have e1 := ru1 ρ
  have e2 := ru2 ρ
  refine okOnly_of (fn_of (Γ0 := [.dat (algD n T), .dat (rulD ρ), .dat (tD g), .any, .any]) (mb := b__law_is_kept) ?_)
  unfold b__law_is_kept
  refine rn_seq (rn_forE ρ.c conD (fun l G => ∃ c3 c4, (∀ c ∈ l, keptC n T g c = true) ∧ G = [.dat (algD n T), .dat (rulD ρ), .dat (tD g), c3, c4]) (by simp [e2] <;> rfl) gSeq_tup ⟨.any, .any, by simp, rfl⟩ ?_ ?_)
  · rintro l ⟨a, b⟩ r G e ⟨c3, c4, hk, rfl⟩
    have hm : (a, b) ∈ ρ.c := by rw [e]; simp
    obtain ⟨z1, z2⟩ := hρ.cz _ hm
    obtain ⟨o1, o2⟩ := hρ.co _ hm
    have v1 := hv a (by simp at z1; omega) o1
    have v2 := hv b (by simp at z2; omega) o2
    have hne := v_neN (i := val n T g a) (j := val n T g b)
    refine ⟨[.dat (algD n T), .dat (rulD ρ), .dat (tD g), .dat (patD a), .dat (patD b)], rfl, ?_⟩
    refine rn_if (b := !(val n T g a == val n T g b)) (Γ1 := [.dat (algD n T), .dat (rulD ρ), .dat (tD g), .dat (patD a), .dat (patD b)]) (by simp [v1, v2, hne]) (fun hb => ?_) fun hb => ?_
    · have hkept : kept n T ρ g = true := by
        unfold kept
        have : ρ.c.all (keptC n T g) = false := by
          rw [List.all_eq_false]
          exact ⟨(a, b), hm, by simpa [keptC] using hb⟩
        rw [this]; rfl
      exact rn (o := .rt (.dat (.bool true)) [.dat (algD n T), .dat (rulD ρ), .dat (tD g), .dat (patD a), .dat (patD b)]) (by simp) ⟨_, by rw [hkept], rfl⟩
    · refine rn (o := .nx [.dat (algD n T), .dat (rulD ρ), .dat (tD g), .dat (patD a), .dat (patD b)]) (by simp) ⟨_, _, fun c hc => ?_, rfl⟩
      rcases List.mem_append.mp hc with hc | hc
      · exact hk c hc
      · rw [List.mem_singleton.mp hc]; simpa [keptC] using hb
  · rintro G ⟨c3, c4, hk, rfl⟩
    have v1 := hv ρ.l (by have := hρ.lz; omega) hρ.lo
    have v2 := hv ρ.r (by have := hρ.rz; omega) hρ.ro
    have heq := v_eqN (i := val n T g ρ.l) (j := val n T g ρ.r)
    have hkept : kept n T ρ g = (val n T g ρ.l == val n T g ρ.r) := by
      unfold kept
      rw [List.all_eq_true.mpr hk]
      rfl
    exact rn (o := .rt (.dat (.bool (kept n T ρ g))) [.dat (algD n T), .dat (rulD ρ), .dat (tD g), c3, c4]) (by rw [hkept]; simp [e0, e1, v1, v2, heq]) ⟨_, rfl, rfl⟩
theorem does_break_ok (hT : TabOk sig n T) (hs3 : ∀ a ∈ sig, a ≤ 3) (hn : n ≤ 61) (hg : ∀ x ∈ g, x < n) (hgl : g.length = vc ρ.l) (hρ : RulOk sig ρ) :
    m_does_break [.dat (algD n T), .dat (rulD ρ), .dat (tD g)] = some (.dat (.bool (!kept n T ρ g)), [.dat (algD n T), .dat (rulD ρ), .dat (tD g)]) := by
  have hv : ∀ p : Pat, psz p ≤ 12 → PatOk sig (· < vc ρ.l) p → m_valued 12 [.dat (algD n T), .dat (patD p), .dat (tD g)] = some (.dat (nD (val n T g p)), [.dat (algD n T), .dat (patD p), .dat (tD g)]) := fun p hz hp => valued_ok hT hs3 hn hg 12 p hz (by rw [hgl]; exact hp)
  refine okOnly_of (fn_of (Γ0 := [.dat (algD n T), .dat (rulD ρ), .dat (tD g), .any, .any, .any, .any, .any]) (mb := b_does_break) ?_)
  unfold b_does_break
  refine rn_nx (Γ1 := [.dat (algD n T), .dat (rulD ρ), .dat (tD g), .dat (patD ρ.l), .dat (patD ρ.r), .dat (.tuple (ρ.c.map conD)), .any, .any]) (by simp [rulD]) ?_
  have hlc := lc_mapA (own := [6, 7]) (mg := mgT 2 (mgsC (mgN 6) (mgsC (mgN 7) mgsN))) (me := mApp fEq (mlC (mpE (mApp (m_valued 12) (mlC (mpV 0) (mlC (mpV 6) (mlC (mpV 2) mlN))))) (mlC (mpE (mApp (m_valued 12) (mlC (mpV 0) (mlC (mpV 7) (mlC (mpV 2) mlN))))) mlN))) (Γ := [.dat (algD n T), .dat (rulD ρ), .dat (tD g), .dat (patD ρ.l), .dat (patD ρ.r), .dat (.tuple (ρ.c.map conD)), .any, .any]) ρ.c conD (fun c => .bool (keptC n T g c)) (fun c hm => by
    obtain ⟨z1, z2⟩ := hρ.cz _ hm
    obtain ⟨o1, o2⟩ := hρ.co _ hm
    have v1 := hv c.1 (by omega) o1
    have v2 := hv c.2 (by omega) o2
    have heq := v_eqN (i := val n T g c.1) (j := val n T g c.2)
    refine ⟨_, [.dat (algD n T), .dat (rulD ρ), .dat (tD g), .dat (patD ρ.l), .dat (patD ρ.r), .dat (.tuple (ρ.c.map conD)), .dat (patD c.1), .dat (patD c.2)], rfl, ?_, rfl⟩
    simp [v1, v2, heq, keptC]) (by have := hρ.cl; rw [sizeLine_eq]; omega)
  have hall := v_allB (keptC n T g) ρ.c
  refine rn_seq (rn_if (b := !(ρ.c.all (keptC n T g))) (Γ1 := [.dat (algD n T), .dat (rulD ρ), .dat (tD g), .dat (patD ρ.l), .dat (patD ρ.r), .dat (.tuple (ρ.c.map conD)), .any, .any]) (by simp [-List.map_map, o0_does_break, hlc, hall]) (fun hb => ?_) fun hb => ?_)
  · have hkept : kept n T ρ g = true := by unfold kept; rw [hb]; rfl
    exact rn (o := .rt (.dat (.bool false)) [.dat (algD n T), .dat (rulD ρ), .dat (tD g), .dat (patD ρ.l), .dat (patD ρ.r), .dat (.tuple (ρ.c.map conD)), .any, .any]) (by simp) ⟨_, by rw [hkept]; rfl, rfl⟩
  · refine rn (o := .nx [.dat (algD n T), .dat (rulD ρ), .dat (tD g), .dat (patD ρ.l), .dat (patD ρ.r), .dat (.tuple (ρ.c.map conD)), .any, .any]) (by simp) ?_
    have v1 := hv ρ.l (by have := hρ.lz; omega) hρ.lo
    have v2 := hv ρ.r (by have := hρ.rz; omega) hρ.ro
    have hne := v_neN (i := val n T g ρ.l) (j := val n T g ρ.r)
    have hkept : kept n T ρ g = (val n T g ρ.l == val n T g ρ.r) := by unfold kept; rw [hb]; rfl
    exact rn (o := .rt (.dat (.bool (!kept n T ρ g))) [.dat (algD n T), .dat (rulD ρ), .dat (tD g), .dat (patD ρ.l), .dat (patD ρ.r), .dat (.tuple (ρ.c.map conD)), .any, .any]) (by rw [hkept]; simp [v1, v2, hne]) ⟨_, rfl, rfl⟩
theorem alg0 (n : Nat) (T : List (List Nat)) : fIx [.dat (algD n T), .dat (.int 0)] = some (.dat (.int (n : Nat)), [.dat (algD n T), .dat (.int 0)]) := v_ixT (xs := [.int (n : Nat), .tuple (T.map tD)]) (i := 0) rfl
theorem pow2 {n k : Nat} (hn : n ≤ 61) (hk : k ≤ 2) : n ^ k ≤ 3721 := by
  by_cases h : n = 0
  · subst h
    match k, hk with
    | 0, _ => decide
    | 1, _ => decide
    | 2, _ => decide
  · calc n ^ k ≤ n ^ 2 := Nat.pow_le_pow_right (by omega) hk
      _ ≤ 61 ^ 2 := Nat.pow_le_pow_left hn 2
theorem broken_ok (hT : TabOk sig n T) (hs3 : ∀ a ∈ sig, a ≤ 3) (hn0 : 0 < n) (hn : n ≤ 61) (hρ : RulOk sig ρ) :
    m__law_broken [.dat (algD n T), .dat (rulD ρ)] = some (.dat (brkD (brk n T ρ)), [.dat (algD n T), .dat (rulD ρ)]) := by
  obtain ⟨vs, hvl, ev⟩ := lvc_ok (p := ρ.l) (by have := hρ.lz; omega)
  have e0 := ru0 ρ
  have a0 := alg0 n T
  have hv2 := hρ.v2
  have epow := mpow_small (n := n) (a := vc ρ.l) (by omega) (by omega)
  have hp := pow2 hn hv2
  refine okOnly_of (fn_of (Γ0 := [.dat (algD n T), .dat (rulD ρ), .any, .any, .any]) (mb := b__law_broken) ?_)
  unfold b__law_broken
  refine rn_nx (Γ1 := [.dat (algD n T), .dat (rulD ρ), .dat (.int ((vc ρ.l : Nat) : Int)), .any, .any]) (by simp [e0, ev, hvl]) ?_
  refine rn_seq (rn_forE (c := .dat (.int ((n ^ vc ρ.l : Nat) : Int))) (List.range (n ^ vc ρ.l)) (fun i => .int ((i : Nat) : Int)) (fun l G => ∃ c3 c4, (∀ i ∈ l, kept n T ρ (giv n (vc ρ.l) i) = true) ∧ G = [.dat (algD n T), .dat (rulD ρ), .dat (.int ((vc ρ.l : Nat) : Int)), c3, c4]) (by simp only [v_app, v_lC, v_pE, v_pV, v_c, v_lN, List.getElem?_cons_zero, List.getElem?_cons_succ, takeO, c_dat, if_true, a0, epow, giveO]) (gRng1_map (by omega)) ⟨.any, .any, by simp, rfl⟩ ?_ ?_)
  · rintro l i r G e ⟨c3, c4, hk, rfl⟩
    have eg := given_ok (N := n) (k := vc ρ.l) (i := i) hn0 (by omega) (by omega)
    have ek := is_kept_ok (g := giv n (vc ρ.l) i) hT hs3 hn (giv_lt hn0 _ _) (giv_len _ _) hρ
    refine ⟨[.dat (algD n T), .dat (rulD ρ), .dat (.int ((vc ρ.l : Nat) : Int)), .dat (.int (i : Nat)), c4], rfl, ?_⟩
    refine rn_nx (Γ1 := [.dat (algD n T), .dat (rulD ρ), .dat (.int ((vc ρ.l : Nat) : Int)), .dat (.int (i : Nat)), .dat (tD (giv n (vc ρ.l) i))]) (by simp [a0, eg]) ?_
    refine rn_if (b := !kept n T ρ (giv n (vc ρ.l) i)) (Γ1 := [.dat (algD n T), .dat (rulD ρ), .dat (.int ((vc ρ.l : Nat) : Int)), .dat (.int (i : Nat)), .dat (tD (giv n (vc ρ.l) i))]) (by simp [ek]) (fun hb => ?_) fun hb => ?_
    · have hbrk : brk n T ρ = some (giv n (vc ρ.l) i) := by
        unfold brk
        rw [tups_giv hn0, e, List.map_append, List.map_cons]
        refine find_fst (fun y hy => ?_) hb
        obtain ⟨j, hj, rfl⟩ := List.mem_map.mp hy
        rw [hk j hj]; rfl
      exact rn (o := .rt (.dat (tD (giv n (vc ρ.l) i))) [.dat (algD n T), .dat (rulD ρ), .dat (.int ((vc ρ.l : Nat) : Int)), .dat (.int (i : Nat)), .dat (tD (giv n (vc ρ.l) i))]) (by simp) ⟨_, by rw [hbrk]; rfl, rfl⟩
    · refine rn (o := .nx [.dat (algD n T), .dat (rulD ρ), .dat (.int ((vc ρ.l : Nat) : Int)), .dat (.int (i : Nat)), .dat (tD (giv n (vc ρ.l) i))]) (by simp) ⟨_, _, fun j hj => ?_, rfl⟩
      rcases List.mem_append.mp hj with hj | hj
      · exact hk j hj
      · rw [List.mem_singleton.mp hj]; simpa using hb
  · rintro G ⟨c3, c4, hk, rfl⟩
    have hbrk : brk n T ρ = none := by
      unfold brk
      rw [tups_giv hn0]
      refine find_non fun y hy => ?_
      obtain ⟨j, hj, rfl⟩ := List.mem_map.mp hy
      rw [hk j hj]; rfl
    exact rn (o := .rt (.dat .none) [.dat (algD n T), .dat (rulD ρ), .dat (.int ((vc ρ.l : Nat) : Int)), c3, c4]) (by simp) ⟨_, by rw [hbrk]; rfl, rfl⟩
theorem first_break_ok (hT : TabOk sig n T) (hs3 : ∀ a ∈ sig, a ≤ 3) (hn0 : 0 < n) (hn : n ≤ 61) (hρ : RulOk sig ρ) :
    m_first_break [.dat (algD n T), .dat (rulD ρ)] = some (.dat (brkD (brk n T ρ)), [.dat (algD n T), .dat (rulD ρ)]) := by
  have ev := variables_ok (p := ρ.l) (by have := hρ.lz; omega)
  have e0 := ru0 ρ
  have a0 := alg0 n T
  have hv2 := hρ.v2
  have htu := tuples_ok (N := n) (a := vc ρ.l) hn (by omega)
  have el : fLRg [.dat (.int ((n : Nat) : Int))] = some (.lst ((List.range n).map nD), [.dat (.int ((n : Nat) : Int))]) := by
    have := v_lrg (n := n) (by omega)
    rw [rg_map] at this
    exact this
  refine okOnly_of (fn_of (Γ0 := [.dat (algD n T), .dat (rulD ρ), .any]) (mb := b_first_break) ?_)
  unfold b_first_break
  refine rn_seq (rn_forE (c := .lst ((tups n (vc ρ.l)).map tD)) (Γ1 := [.dat (algD n T), .dat (rulD ρ), .any]) (tups n (vc ρ.l)) tD (fun l G => ∃ c2, (∀ g ∈ l, kept n T ρ g = true) ∧ G = [.dat (algD n T), .dat (rulD ρ), c2]) (by
    have : ((sv ρ.l).map PyData.int).length = vc ρ.l := by rw [List.length_map]; rfl
    simp [a0, e0, ev, el]
    rw [show (((sv ρ.l).length : Nat) : Int) = ((vc ρ.l : Nat) : Int) from rfl, htu]; rfl) gSeq_lst ⟨.any, by simp, rfl⟩ ?_ ?_)
  · rintro l g r G e ⟨c2, hk, rfl⟩
    obtain ⟨hgl, hg⟩ := tups_row (N := n) (vc ρ.l) g (by rw [e]; simp)
    have ek := does_break_ok hT hs3 hn hg hgl hρ
    refine ⟨[.dat (algD n T), .dat (rulD ρ), .dat (tD g)], rfl, ?_⟩
    refine rn_if (b := !kept n T ρ g) (Γ1 := [.dat (algD n T), .dat (rulD ρ), .dat (tD g)]) (by simp [ek]) (fun hb => ?_) fun hb => ?_
    · have hbrk : brk n T ρ = some g := by
        unfold brk
        rw [e]
        exact find_fst (fun y hy => by rw [hk y hy]; rfl) hb
      exact rn (o := .rt (.dat (tD g)) [.dat (algD n T), .dat (rulD ρ), .dat (tD g)]) (by simp) ⟨_, by rw [hbrk]; rfl, rfl⟩
    · refine rn (o := .nx [.dat (algD n T), .dat (rulD ρ), .dat (tD g)]) (by simp) ⟨_, fun j hj => ?_, rfl⟩
      rcases List.mem_append.mp hj with hj | hj
      · exact hk j hj
      · rw [List.mem_singleton.mp hj]; simpa using hb
  · rintro G ⟨c2, hk, rfl⟩
    have hbrk : brk n T ρ = none := by
      unfold brk
      exact find_non fun y hy => by rw [hk y hy]; rfl
    exact rn (o := .rt (.dat .none) [.dat (algD n T), .dat (rulD ρ), c2]) (by simp) ⟨_, by rw [hbrk]; rfl, rfl⟩
theorem breaks_ok (hT : TabOk sig n T) (hs3 : ∀ a ∈ sig, a ≤ 3) (hn0 : 0 < n) (hn : n ≤ 61) (hρ : RulOk sig ρ) (hw : n ^ vc ρ.l * rwid ρ ≤ 450) :
    m_breaks [.dat (algD n T), .dat (rulD ρ)] = some (.dat (brkD (brk n T ρ)), [.dat (algD n T), .dat (rulD ρ)]) := by
  have ev := variables_ok (p := ρ.l) (by have := hρ.lz; omega)
  have e0 := ru0 ρ
  have a0 := alg0 n T
  have hv2 := hρ.v2
  have epow := ppow_small (n := n) (a := vc ρ.l) (by omega) (by omega)
  have hp := pow2 hn hv2
  have esz := sizes_ok hρ
  have ef := first_break_ok hT hs3 hn0 hn hρ
  have hwz : rwid ρ < 4294967296 := by
    have := Nat.le_mul_of_pos_left (rwid ρ) (Nat.pow_pos (n := vc ρ.l) hn0)
    omega
  have em := v_mul31 (i := ((n ^ vc ρ.l : Nat) : Int)) (j := ((rwid ρ : Nat) : Int)) (by omega) (by omega) (by omega) (by omega)
  have hlt : ¬ (60000 : Int) < ((n ^ vc ρ.l : Nat) : Int) * ((rwid ρ : Nat) : Int) := by
    rw [← Int.natCast_mul]
    omega
  refine okOnly_of (fn_of (Γ0 := [.dat (algD n T), .dat (rulD ρ)]) (mb := b_breaks) ?_)
  unfold b_breaks
  generalize hP : n ^ vc ρ.l = P at *
  refine rn_seq (rn_if (b := false) (Γ1 := [.dat (algD n T), .dat (rulD ρ)]) ?_ (fun hb => by cases hb) fun _ => ?_)
  · simp [a0, e0, ev]
    rw [show (((sv ρ.l).length : Nat) : Int) = ((vc ρ.l : Nat) : Int) from rfl, epow]
    simp [esz, em, hlt]
  · refine rn (o := .nx [.dat (algD n T), .dat (rulD ρ)]) (by simp) ?_
    exact rn (o := .rt (.dat (brkD (brk n T ρ))) [.dat (algD n T), .dat (rulD ρ)]) (by simp [ef]) ⟨_, rfl, rfl⟩
end
end K73
/-! M34: values and rules in the product. -/
namespace K73
open PySem L2 JJ
section
variable {sig : List Nat} {n m : Nat} {S T : List (List Nat)}
theorem getD_lt {t : List Nat} {b i : Nat} (hb : 0 < b) (h : ∀ x ∈ t, x < b) : t.getD i 0 < b := by
  rw [List.getD_eq_getElem?_getD]
  cases e : t[i]? with
  | none => exact hb
  | some x => exact h x (List.mem_of_getElem? e)
theorem tab_lt {N : Nat} {U : List (List Nat)} (hN : 0 < N) (hU : TabOk sig N U) (i : Nat) : ∀ x ∈ U.getD i [], x < N := fun x hx => by
  rw [List.getD_eq_getElem?_getD] at hx
  cases e : U[i]? with
  | none => rw [e] at hx; cases hx
  | some t =>
    rw [e, Option.getD_some] at hx
    have hl : i < sig.length := by rw [← hU.1]; exact (List.getElem?_eq_some_iff.mp e).1
    exact (hU.2 i _ t (List.getElem?_eq_getElem hl) e).2 x hx
theorem pair_lt {a b : Nat} (ha : a < n) (hb : b < m) : a * m + b < n * m := by
  have : (a + 1) * m ≤ n * m := Nat.mul_le_mul_right m ha
  rw [Nat.add_mul, Nat.one_mul] at this
  omega
theorem pair_div {a b : Nat} (hb : b < m) : (a * m + b) / m = a := by
  rw [Nat.add_comm, Nat.add_mul_div_right _ _ (by omega), Nat.div_eq_of_lt hb, Nat.zero_add]
theorem pair_mod {a b : Nat} (hb : b < m) : (a * m + b) % m = b := by
  rw [Nat.add_comm, Nat.add_mul_mod_self_right, Nat.mod_eq_of_lt hb]
theorem prod_tab (hn : 0 < n) (hm : 0 < m) (hS : TabOk sig n S) (hT : TabOk sig m T) : TabOk sig (n * m) (prodT sig n m S T) := by
  refine ⟨by simp [prodT], fun i a t ha ht => ?_⟩
  unfold prodT at ht
  rw [List.getElem?_map] at ht
  obtain ⟨j, hj, rfl⟩ := Option.map_eq_some_iff.mp ht
  obtain ⟨hj1, hj2⟩ := List.getElem?_eq_some_iff.mp hj
  rw [List.getElem_range] at hj2
  subst hj2
  have hsig : sig.getD i 0 = a := by rw [List.getD_eq_getElem?_getD, ha]; rfl
  unfold tabP
  rw [hsig]
  refine ⟨by rw [List.length_map, tups_len], fun x hx => ?_⟩
  obtain ⟨r, hr, rfl⟩ := List.mem_map.mp hx
  unfold ent
  exact pair_lt (getD_lt hn (tab_lt hn hS i)) (getD_lt hm (tab_lt hm hT i))
theorem prod_at (hn : 0 < n) (hm : 0 < m) {s a : Nat} (hs : sig[s]? = some a) {r : List Nat} (hl : r.length = a) (hr : ∀ x ∈ r, x < n * m) :
    ((prodT sig n m S T).getD s []).getD (plc (n * m) r) 0 = (S.getD s []).getD (plc n (r.map (· / m))) 0 * m + (T.getD s []).getD (plc m (r.map (· % m))) 0 := by
  have hsl : s < sig.length := (List.getElem?_eq_some_iff.mp hs).1
  have h1 : (prodT sig n m S T).getD s [] = tabP sig n m S T s := by
    unfold prodT
    rw [List.getD_eq_getElem?_getD, List.getElem?_map, List.getElem?_range hsl]
    rfl
  have h2 : sig.getD s 0 = a := by rw [List.getD_eq_getElem?_getD, hs]; rfl
  rw [h1]
  unfold tabP
  rw [h2, List.getD_eq_getElem?_getD, List.getElem?_map, tups_at (Nat.mul_pos hn hm) hl hr]
  rfl
mutual
theorem prod_val (hn : 0 < n) (hm : 0 < m) (hS : TabOk sig n S) (hT : TabOk sig m T) {g : List Nat} (hg : ∀ x ∈ g, x < n * m) : ∀ p : Pat, PatOk sig (· < g.length) p →
    val (n * m) (prodT sig n m S T) g p = val n S (g.map (· / m)) p * m + val m T (g.map (· % m)) p
  | .v k, h => by
    simp only [PatOk] at h
    simp only [val, List.getD_eq_getElem?_getD, List.getElem?_map, List.getElem?_eq_getElem h, Option.map_some, Option.getD_some]
    have := Nat.div_add_mod g[k] m
    rw [Nat.mul_comm]
    omega
  | .a s ps, h => by
    simp only [PatOk] at h
    have hv := prod_vals hn hm hS hT hg ps h.2
    have hP := prod_tab hn hm hS hT
    have hr : ∀ x ∈ vals (n * m) (prodT sig n m S T) g ps, x < n * m := vals_lt hP hg ps h.2
    have hl : (vals (n * m) (prodT sig n m S T) g ps).length = ps.length := by rw [vals_map, List.length_map]
    have h1 := prod_at (S := S) (T := T) hn hm h.1 hl hr
    rw [hv.1, hv.2] at h1
    simp only [val]
    exact h1
theorem prod_vals (hn : 0 < n) (hm : 0 < m) (hS : TabOk sig n S) (hT : TabOk sig m T) {g : List Nat} (hg : ∀ x ∈ g, x < n * m) : ∀ l : List Pat, PatsOk sig (· < g.length) l →
    (vals (n * m) (prodT sig n m S T) g l).map (· / m) = vals n S (g.map (· / m)) l ∧ (vals (n * m) (prodT sig n m S T) g l).map (· % m) = vals m T (g.map (· % m)) l
  | [], _ => by simp [vals]
  | p :: r, h => by
    simp only [PatsOk] at h
    have h1 := prod_val hn hm hS hT hg p h.1
    obtain ⟨h2, h3⟩ := prod_vals hn hm hS hT hg r h.2
    have hb : val m T (g.map (· % m)) p < m := val_lt hT (fun x hx => by
      obtain ⟨y, _, rfl⟩ := List.mem_map.mp hx
      exact Nat.mod_lt _ hm) p (by simpa using h.1)
    simp only [vals, List.map_cons, h2, h3, h1, pair_div hb, pair_mod hb, and_self]
end
theorem prod_kept (hn : 0 < n) (hm : 0 < m) (hS : TabOk sig n S) (hT : TabOk sig m T) {g : List Nat} (hg : ∀ x ∈ g, x < n * m) {c : Pat × Pat} (h1 : PatOk sig (· < g.length) c.1) (h2 : PatOk sig (· < g.length) c.2) :
    keptC (n * m) (prodT sig n m S T) g c = (keptC n S (g.map (· / m)) c && keptC m T (g.map (· % m)) c) := by
  have hb : ∀ p, PatOk sig (· < g.length) p → val m T (g.map (· % m)) p < m := fun p hp => val_lt hT (fun x hx => by
      obtain ⟨y, _, rfl⟩ := List.mem_map.mp hx
      exact Nat.mod_lt _ hm) p (by simpa using hp)
  have b1 := hb _ h1
  have b2 := hb _ h2
  unfold keptC
  rw [prod_val hn hm hS hT hg _ h1, prod_val hn hm hS hT hg _ h2]
  refine Bool.eq_iff_iff.mpr ?_
  simp only [beq_iff_eq, Bool.and_eq_true]
  constructor
  · intro e
    have e1 := congrArg (· / m) e
    have e2 := congrArg (· % m) e
    simp only [pair_div b1, pair_div b2, pair_mod b1, pair_mod b2] at e1 e2
    exact ⟨e1, e2⟩
  · rintro ⟨e1, e2⟩
    rw [e1, e2]
theorem brk_none {N : Nat} {U : List (List Nat)} {ρ : Rul} (hN : 0 < N) : brk N U ρ = none ↔ ∀ g : List Nat, g.length = vc ρ.l → (∀ x ∈ g, x < N) → kept N U ρ g = true := by
  unfold brk
  rw [List.find?_eq_none]
  constructor
  · intro h g hl hx
    have := h g (tups_mem hN hl hx)
    simpa using this
  · intro h g hg
    obtain ⟨h1, h2⟩ := tups_row _ g hg
    simp [h g h1 h2]
theorem half_lt (hm : 0 < m) {g : List Nat} (hg : ∀ x ∈ g, x < n * m) : (∀ x ∈ g.map (· / m), x < n) ∧ ∀ x ∈ g.map (· % m), x < m := by
  refine ⟨fun x hx => ?_, fun x hx => ?_⟩
  · obtain ⟨y, hy, rfl⟩ := List.mem_map.mp hx
    exact (Nat.div_lt_iff_lt_mul hm).mpr (hg y hy)
  · obtain ⟨y, hy, rfl⟩ := List.mem_map.mp hx
    exact Nat.mod_lt _ hm
theorem kept_iff {N : Nat} {U : List (List Nat)} {ρ : Rul} {g : List Nat} : kept N U ρ g = true ↔ ((∀ c ∈ ρ.c, keptC N U g c = true) → keptC N U g (ρ.l, ρ.r) = true) := by
  unfold kept
  cases h : ρ.c.all (keptC N U g) with
  | true =>
    rw [List.all_eq_true] at h
    simp only [Bool.not_true, Bool.false_or]
    exact ⟨fun e _ => e, fun e => e h⟩
  | false =>
    rw [List.all_eq_false] at h
    obtain ⟨c, hc, hk⟩ := h
    simp only [Bool.not_false, Bool.true_or, true_iff]
    intro e
    exact absurd (e c hc) hk
theorem both_holds (hn : 0 < n) (hm : 0 < m) (hS : TabOk sig n S) (hT : TabOk sig m T) {ρ : Rul} (hρ : RulOk sig ρ) (h1 : brk n S ρ = none) (h2 : brk m T ρ = none) : brk (n * m) (prodT sig n m S T) ρ = none := by
  rw [brk_none (Nat.mul_pos hn hm)]
  rw [brk_none hn] at h1
  rw [brk_none hm] at h2
  intro g hl hx
  obtain ⟨hx1, hx2⟩ := half_lt hm hx
  have k1 := kept_iff.mp (h1 _ (by rw [List.length_map]; exact hl) hx1)
  have k2 := kept_iff.mp (h2 _ (by rw [List.length_map]; exact hl) hx2)
  rw [kept_iff]
  have hlo := hρ.lo
  have hro := hρ.ro
  rw [← hl] at hlo hro
  have hc : ∀ c ∈ ρ.c, keptC (n * m) (prodT sig n m S T) g c = (keptC n S (g.map (· / m)) c && keptC m T (g.map (· % m)) c) := fun c hcm => by
    obtain ⟨o1, o2⟩ := hρ.co c hcm
    rw [← hl] at o1 o2
    exact prod_kept hn hm hS hT hx o1 o2
  rw [prod_kept hn hm hS hT hx hlo hro]
  intro hall
  have hall2 : ∀ c ∈ ρ.c, keptC n S (g.map (· / m)) c = true ∧ keptC m T (g.map (· % m)) c = true := fun c hcm => by
    have := hall c hcm
    rw [hc c hcm, Bool.and_eq_true] at this
    exact this
  rw [k1 fun c hcm => (hall2 c hcm).1, k2 fun c hcm => (hall2 c hcm).2]
  rfl
theorem prod_holds (hn : 0 < n) (hm : 0 < m) (hS : TabOk sig n S) (hT : TabOk sig m T) {ρ : Rul} (hρ : RulOk sig ρ) (hc : ρ.c = []) (h : brk (n * m) (prodT sig n m S T) ρ = none) : brk n S ρ = none ∧ brk m T ρ = none := by
  rw [brk_none (Nat.mul_pos hn hm)] at h
  have key : ∀ g : List Nat, g.length = vc ρ.l → (∀ x ∈ g, x < n * m) → keptC n S (g.map (· / m)) (ρ.l, ρ.r) = true ∧ keptC m T (g.map (· % m)) (ρ.l, ρ.r) = true := fun g hl hx => by
    have hlo := hρ.lo
    have hro := hρ.ro
    rw [← hl] at hlo hro
    have k := kept_iff.mp (h g hl hx) (by rw [hc]; simp)
    rw [prod_kept hn hm hS hT hx hlo hro, Bool.and_eq_true] at k
    exact k
  constructor
  · rw [brk_none hn]
    intro g hl hx
    have := (key (g.map (· * m)) (by rw [List.length_map]; exact hl) (fun x hx' => by
      obtain ⟨y, hy, rfl⟩ := List.mem_map.mp hx'
      exact Nat.mul_lt_mul_of_pos_right (hx y hy) hm)).1
    rw [List.map_map] at this
    have e : g.map ((· / m) ∘ (· * m)) = g := by
      have : g.map ((· / m) ∘ (· * m)) = g.map id := List.map_congr_left fun x _ => Nat.mul_div_cancel x hm
      rw [this, List.map_id]
    rw [e] at this
    exact kept_iff.mpr fun _ => this
  · rw [brk_none hm]
    intro g hl hx
    have := (key g hl (fun x hx' => Nat.lt_of_lt_of_le (hx x hx') (Nat.le_mul_of_pos_left m hn))).2
    have e : g.map (· % m) = g := by
      have : g.map (· % m) = g.map id := List.map_congr_left fun x hx' => Nat.mod_eq_of_lt (hx x hx')
      rw [this, List.map_id]
    rw [e] at this
    exact kept_iff.mpr fun _ => this
end
end K73
/-! M35: values and rules are right. -/
namespace K73
open PySem L2 JJ
theorem v_isD (o : Option (List Nat)) : fIs [.dat (brkD o), .dat .none] = some (.dat (.bool o.isNone), [.dat (brkD o), .dat .none]) := by
  cases o <;> simp [fIs, mR, gIs, brkD, tD, JJ.isNon]
theorem v_isND (o : Option (List Nat)) : fIsN [.dat (brkD o), .dat .none] = some (.dat (.bool (!o.isNone)), [.dat (brkD o), .dat .none]) := by
  cases o <;> simp [fIsN, mR, gIs, brkD, tD, JJ.isNon]
theorem like_none (k : Nat) : m__law_like (k + 1) [.dat .none, .dat .none] = some (.dat (.bool true), [.dat .none, .dat .none]) := by
  rw [m__law_like, mFn]
  refine okOnly_of (fn_rt (cs := [.dat .none, .dat .none]) (Γ0 := [.dat .none, .dat .none, .any, .any]) (Γ := [.dat .none, .dat .none, .any, .any]) ?_)
  have i1 : mIsi "tuple" (mpV 1) [.dat .none, .dat .none, .any, .any] = some (.dat (.bool false), [.dat .none, .dat .none, .any, .any]) := by
    simp [mIsi, mR, tyC, tyD, show kitB "NoneType" "tuple" = some false by decide +kernel]
  simp [b__law_like, i1, fIs, mR, gIs, JJ.isNon]
theorem like_brk (o : Option (List Nat)) (h : ∀ g, o = some g → g.length ≤ 1000) : m__law_like 6 [.dat (brkD o), .dat (brkD o)] = some (.dat (.bool true), [.dat (brkD o), .dat (brkD o)]) := by
  cases o with
  | none => exact like_none 5
  | some g => exact like_row 4 g (by rw [sizeLine_eq]; have := h g rfl; omega)
section
variable {sig : List Nat} {n m : Nat} {S T : List (List Nat)}
theorem values_ok {cs : List Int} {dg mx : Int} (hB : BagOk cs dg mx) (hs3 : ∀ a ∈ sig, a ≤ 3) (h0 : 0 ∈ sig) (hl : sig.length ≤ 100) (hn0 : 0 < n) (hm0 : 0 < m) (h61 : n * m ≤ 61) (hS : TabOk sig n S) (hT : TabOk sig m T) :
    ∃ (cs' : List Int) (dg' mx' : Int), BagOk cs' dg' mx' ∧ m__law_are_values_right [.bag cs dg mx, .dat (tD sig), .dat (algD n S), .dat (algD m T), .dat (algD (n * m) (prodT sig n m S T))] = some (.dat (.bool true), [.bag cs' dg' mx', .dat (tD sig), .dat (algD n S), .dat (algD m T), .dat (algD (n * m) (prodT sig n m S T))]) := by
  have hn : n ≤ 61 := Nat.le_trans (Nat.le_mul_of_pos_right n hm0) h61
  have hm : m ≤ 61 := Nat.le_trans (Nat.le_mul_of_pos_left m hn0) h61
  have hP := prod_tab hn0 hm0 hS hT
  generalize hPe : prodT sig n m S T = P at *
  obtain ⟨acc, G, hG, cs2, dg2, mx2, l, hB2, rfl, hll, hlp, rfl⟩ := lc_inv (own := [6]) (mg := mgN 6) (mt := mYes) (me := mApp (m__law_pattern 12) (mlC (mpV 0) (mlC (mpV 1) (mlC (mpE (mApp fLst mlN)) (mlC (mpE (mApp fAdd (mlC (mpE (mC (.int 1))) (mlC (mpE (mApp m__law_draw (mlC (mpV 0) (mlC (mpE (mC (.int 8))) mlN)))) mlN)))) mlN)))))
    (fun i acc G => ∃ (cs : List Int) (dg mx : Int) (l : List Pat), BagOk cs dg mx ∧ acc = l.map patD ∧ l.length = i ∧ (∀ p ∈ l, psz p ≤ 8 ∧ PatOk sig (fun _ => False) p) ∧ G = [.bag cs dg mx, .dat (tD sig), .dat (algD n S), .dat (algD m T), .dat (algD (n * m) P), .any, .any, .any, .any, .any]) (items := rgD 0 4) (j := 0) (acc := []) (Γ := [.bag cs dg mx, .dat (tD sig), .dat (algD n S), .dat (algD m T), .dat (algD (n * m) P), .any, .any, .any, .any, .any]) (fun i d acc G hi hI => by
      obtain ⟨cs, dg, mx, l, hB, rfl, hl1, hl2, rfl⟩ := hI
      obtain ⟨hi1, rfl⟩ := rg_at hi
      obtain ⟨r, cs1, dg1, mx1, hr, hB1, e1⟩ := mdraw_ok (below := 8) hB (by decide) (by decide)
      obtain ⟨k, hk⟩ : ∃ k, k = 1 + r := ⟨_, rfl⟩
      obtain ⟨p, cs2, dg2, mx2, hB2, hp, hz, e2⟩ := pattern_ok (sig := sig) (nms := []) hs3 h0 hl (by simp) 12 k cs1 dg1 mx1 hB1 (by omega) (by omega) (by omega)
      have e1' : m__law_draw [.bag cs dg mx, .dat (.int 8)] = some (.dat (.int (r : Nat)), [.bag cs1 dg1 mx1, .dat (.int 8)]) := e1
      have er : (1 : Int) + ((r : Nat) : Int) = ((k : Nat) : Int) := by omega
      simp only [List.map_nil] at e2
      refine .inl ⟨_, _, patD p, [.bag cs2 dg2 mx2, .dat (tD sig), .dat (algD n S), .dat (algD m T), .dat (algD (n * m) P), .any, .dat (.int (0 + (i : Nat))), .any, .any, .any], rfl, rfl, ?_, by rw [sizeLine_eq, List.length_map]; omega, ⟨cs2, dg2, mx2, l ++ [p], hB2, by simp, by simp [hl1], fun q hq => ?_, rfl⟩⟩
      · simp [e1', er, e2]
      · rcases List.mem_append.mp hq with hq | hq
        · exact hl2 q hq
        · rw [List.mem_singleton.mp hq]
          exact ⟨by omega, pat_mono (fun k hk => by cases hk) p hp⟩) ⟨cs, dg, mx, [], hB, rfl, rfl, by simp, rfl⟩
  rw [rg_len, Nat.zero_add] at hll
  refine ⟨cs2, dg2, mx2, hB2, okOnly_of (fn_of (Γ0 := [.bag cs dg mx, .dat (tD sig), .dat (algD n S), .dat (algD m T), .dat (algD (n * m) P), .any, .any, .any, .any, .any]) (mb := b__law_are_values_right) ?_)⟩
  unfold b__law_are_values_right
  have hrng := v_rng1 (k := 4) (by decide)
  have hrng' : gRng1 [.dat (.int 4)] = some (rgD 0 4) := hrng
  refine rn_nx (Γ1 := [.bag cs2 dg2 mx2, .dat (tD sig), .dat (algD n S), .dat (algD m T), .dat (algD (n * m) P), .lst (l.map patD), .any, .any, .any, .any]) (by simp [o0__law_are_values_right, hrng', hG]) ?_
  have hlc := lc_mapA (own := [8]) (mg := mgN 8) (me := mApp m_value_of (mlC (mpV 4) (mlC (mpV 8) mlN))) (Γ := [.bag cs2 dg2 mx2, .dat (tD sig), .dat (algD n S), .dat (algD m T), .dat (algD (n * m) P), .any, .any, .any, .any, .any]) l patD (fun p => nD (val (n * m) P [] p)) (fun p hp => by
    obtain ⟨hz, ho⟩ := hlp p hp
    have e := value_of_ok hP hs3 h61 (p := p) (by omega) ho
    refine ⟨_, [.bag cs2 dg2 mx2, .dat (tD sig), .dat (algD n S), .dat (algD m T), .dat (algD (n * m) P), .any, .any, .any, .dat (patD p), .any], rfl, ?_, rfl⟩
    simp [e]) (by rw [sizeLine_eq]; omega)
  refine rn_nx (Γ1 := [.bag cs2 dg2 mx2, .dat (tD sig), .dat (algD n S), .dat (algD m T), .dat (algD (n * m) P), .lst (l.map patD), .any, .lst (l.map fun p => nD (val (n * m) P [] p)), .any, .any]) (by simp [-List.map_map, o1__law_are_values_right, hlc]) ?_
  refine rn_seq (rn_for (ops := [.inr 5, .inr 7]) (cs := [.lst (l.map patD), .lst (l.map fun p => nD (val (n * m) P [] p))]) (Γ1 := [.bag cs2 dg2 mx2, .dat (tD sig), .dat (algD n S), .dat (algD m T), .dat (algD (n * m) P), .any, .any, .any, .any, .any]) l (fun p => .tuple [patD p, nD (val (n * m) P [] p)]) (fun l G => ∃ c8 c9, G = [.bag cs2 dg2 mx2, .dat (tD sig), .dat (algD n S), .dat (algD m T), .dat (algD (n * m) P), .any, .any, .any, c8, c9]) (by simp) (zip_map _ _ l) ⟨.any, .any, rfl⟩ ?_ ?_)
  · rintro l1 p r G e ⟨c8, c9, rfl⟩
    obtain ⟨hz, ho⟩ := hlp p (by rw [e]; simp)
    have ho' : PatOk sig (· < ([] : List Nat).length) p := pat_mono (fun k hk => by cases hk) p ho
    have ev1 := lvalue_ok (g := []) hS hs3 hn (by simp) 12 p (by omega) ho'
    have ev2 := lvalue_ok (g := []) hT hs3 hm (by simp) 12 p (by omega) ho'
    have hv := prod_val (g := []) hn0 hm0 hS hT (by simp) p ho'
    rw [hPe] at hv
    have b1 := val_lt (g := []) hS (by simp) p ho'
    have b2 := val_lt (g := []) hT (by simp) p ho'
    simp only [List.map_nil] at hv
    have a0 := alg0 m T
    have hmul := v_mul31 (i := ((val n S [] p : Nat) : Int)) (j := ((m : Nat) : Int)) (by omega) (by omega) (by omega) (by omega)
    have hlk := like_int 5 (val (n * m) P [] p)
    have hsum : ((val n S [] p : Nat) : Int) * ((m : Nat) : Int) + ((val m T [] p : Nat) : Int) = ((val (n * m) P [] p : Nat) : Int) := by rw [hv]; simp
    refine ⟨[.bag cs2 dg2 mx2, .dat (tD sig), .dat (algD n S), .dat (algD m T), .dat (algD (n * m) P), .any, .any, .any, .dat (patD p), .dat (nD (val (n * m) P [] p))], rfl, ?_⟩
    simp only [tD, List.map_nil, nD] at ev1 ev2 hlk
    refine rn_if (b := false) (Γ1 := [.bag cs2 dg2 mx2, .dat (tD sig), .dat (algD n S), .dat (algD m T), .dat (algD (n * m) P), .any, .any, .any, .dat (patD p), .dat (nD (val (n * m) P [] p))]) (by simp [ev1, ev2, a0, hmul, hsum, hlk, nD]) (fun hb => by cases hb) fun _ => ?_
    exact rn (o := .nx [.bag cs2 dg2 mx2, .dat (tD sig), .dat (algD n S), .dat (algD m T), .dat (algD (n * m) P), .any, .any, .any, .dat (patD p), .dat (nD (val (n * m) P [] p))]) (by simp) ⟨_, _, rfl⟩
  · rintro G ⟨c8, c9, rfl⟩
    exact rn (o := .rt (.dat (.bool true)) [.bag cs2 dg2 mx2, .dat (tD sig), .dat (algD n S), .dat (algD m T), .dat (algD (n * m) P), .lst (l.map patD), .any, .lst (l.map fun p => nD (val (n * m) P [] p)), c8, c9]) (by simp) ⟨_, rfl, rfl⟩
theorem shapedPat {p : Pat} (h : psz p ≤ 60) : SeqAt.shaped (patD p) = true := by
  have := pat_depth p
  simp [SeqAt.shaped, pat_lay]
  omega
theorem both_rule_ok {cs : List Int} {dg mx : Int} (hB : BagOk cs dg mx) (hs3 : ∀ a ∈ sig, a ≤ 3) (h0 : 0 ∈ sig) (hl : sig.length ≤ 100) (hn0 : 0 < n) (hm0 : 0 < m) (hn : n ≤ 61) (hm : m ≤ 61) (hS : TabOk sig n S) (hT : TabOk sig m T) :
    ∃ (ρ : Rul) (cs' : List Int) (dg' mx' : Int), RulOk sig ρ ∧ BagOk cs' dg' mx' ∧ m__law_both_rule [.bag cs dg mx, .dat (tD sig), .dat (algD n S), .dat (algD m T)] = some (.dat (rulD ρ), [.bag cs' dg' mx', .dat (tD sig), .dat (algD n S), .dat (algD m T)]) := by
  obtain ⟨ρ0, cs1, dg1, mx1, hρ0, hB1, e1⟩ := rule_ok (sig := sig) hs3 h0 hl hB
  obtain ⟨c, cs', e, ρ, cs9, dg9, mx9, rfl, rfl, h1, h2⟩ := fn_ofR (n := 4) (N := 6) (W := ([4] ++ (([5] ++ ([4] ++ [])) ++ []))) (mb := b__law_both_rule) (Γ0 := [.bag cs dg mx, .dat (tD sig), .dat (algD n S), .dat (algD m T), .any, .any]) (cs := [.bag cs dg mx, .dat (tD sig), .dat (algD n S), .dat (algD m T)])
    (R := fun c cs' => ∃ (ρ : Rul) (cs9 : List Int) (dg9 mx9 : Int), c = .dat (rulD ρ) ∧ cs' = [.bag cs9 dg9 mx9, .dat (tD sig), .dat (algD n S), .dat (algD m T)] ∧ RulOk sig ρ ∧ BagOk cs9 dg9 mx9) (h3 := by
      unfold b__law_both_rule
      refine rn_nx (Γ1 := [.bag cs1 dg1 mx1, .dat (tD sig), .dat (algD n S), .dat (algD m T), .dat (rulD ρ0), .any]) (by simp [e1]) ?_
      refine rn_seq (rn_forE (c := .dat (.int 6)) (Γ1 := [.bag cs1 dg1 mx1, .dat (tD sig), .dat (algD n S), .dat (algD m T), .dat (rulD ρ0), .any]) (List.range 6) (fun i => .int ((i : Nat) : Int)) (fun l G => ∃ (ρ : Rul) (cs : List Int) (dg mx : Int) (c5 : CD), RulOk sig ρ ∧ BagOk cs dg mx ∧ G = [.bag cs dg mx, .dat (tD sig), .dat (algD n S), .dat (algD m T), .dat (rulD ρ), c5]) (by simp) (gRng1_map (k := 6) (by decide)) ⟨ρ0, cs1, dg1, mx1, .any, hρ0, hB1, rfl⟩ ?_ ?_)
      · rintro l i r G ex ⟨ρ, cs2, dg2, mx2, c5, hρ, hB2, rfl⟩
        refine ⟨[.bag cs2 dg2 mx2, .dat (tD sig), .dat (algD n S), .dat (algD m T), .dat (rulD ρ), .dat (.int (i : Nat))], rfl, ?_⟩
        have r0 := ru0 ρ
        have r1 := ru1 ρ
        have b1 := broken_ok hS hs3 hn0 hn hρ
        have b2 := broken_ok hT hs3 hm0 hm hρ
        have i1 := v_isND (brk n S ρ)
        have i2 := v_isND (brk m T ρ)
        have sh1 := shapedPat (p := ρ.l) (by have := hρ.lz; omega)
        have sh2 := shapedPat (p := ρ.r) (by have := hρ.rz; omega)
        have heq : fEq [.dat (patD ρ.l), .dat (patD ρ.r)] = some (.dat (.bool (PyData.eqv (patD ρ.l) (patD ρ.r))), [.dat (patD ρ.l), .dat (patD ρ.r)]) := by
          simp [fEq, mR, gEq, pyOf, sh1, sh2]
        refine rn_if (b := PyData.eqv (patD ρ.l) (patD ρ.r) || !(brk n S ρ).isNone || !(brk m T ρ).isNone) (Γ1 := [.bag cs2 dg2 mx2, .dat (tD sig), .dat (algD n S), .dat (algD m T), .dat (rulD ρ), .dat (.int (i : Nat))]) ?_ (fun hb => ?_) fun hb => ?_
        · cases hq : PyData.eqv (patD ρ.l) (patD ρ.r) <;> cases hs : (brk n S ρ).isNone <;> rw [hq] at heq <;> rw [hs] at i1 <;> simp [r0, r1, heq, b1, b2, i1, i2]
        · obtain ⟨ρ2, cs3, dg3, mx3, hρ2, hB3, e3⟩ := rule_ok (sig := sig) hs3 h0 hl hB2
          exact rn (o := .nx [.bag cs3 dg3 mx3, .dat (tD sig), .dat (algD n S), .dat (algD m T), .dat (rulD ρ2), .dat (.int (i : Nat))]) (by simp [e3]) ⟨ρ2, cs3, dg3, mx3, _, hρ2, hB3, rfl⟩
        · exact rn (o := .nx [.bag cs2 dg2 mx2, .dat (tD sig), .dat (algD n S), .dat (algD m T), .dat (rulD ρ), .dat (.int (i : Nat))]) (by simp) ⟨ρ, cs2, dg2, mx2, _, hρ, hB2, rfl⟩
      · rintro G ⟨ρ, cs2, dg2, mx2, c5, hρ, hB2, rfl⟩
        exact rn (o := .rt (.dat (rulD ρ)) [.bag cs2 dg2 mx2, .dat (tD sig), .dat (algD n S), .dat (algD m T), .dat (rulD ρ), c5]) (by simp) ⟨_, _, rfl, ρ, cs2, dg2, mx2, rfl, rfl, hρ, hB2⟩)
  exact ⟨ρ, cs9, dg9, mx9, h1, h2, okOnly_of e⟩
end
end K73
/-! M36: rules and limits are right. -/
namespace K73
open PySem L2 JJ
theorem v_neBB (a b : Bool) : fNe [.dat (.bool a), .dat (.bool b)] = some (.dat (.bool (a != b)), [.dat (.bool a), .dat (.bool b)]) := by
  cases a <;> cases b <;> rfl
section
variable {sig : List Nat} {n m : Nat} {S T : List (List Nat)}
mutual
theorem con_depth (c : Pat × Pat) (h : psz c.1 ≤ 3 ∧ psz c.2 ≤ 3) : (conD c).depth ≤ 4 ∧ (conD c).canLay0 = true := by
  have h1 := pat_depth c.1
  have h2 := pat_depth c.2
  refine ⟨?_, ?_⟩
  · simp only [conD, PyData.depth, PyData.depthAll]
    omega
  · simp only [conD, PyData.canLay0, PyData.canLayAll0, pat_lay, Bool.and_self]
end
theorem canLay_all : ∀ xs : List Da, (∀ x ∈ xs, x.canLay0 = true) → PyData.canLayAll0 xs = true
  | [], _ => rfl
  | x :: r, h => by rw [PyData.canLayAll0, h x List.mem_cons_self, canLay_all r (fun y hy => h y (List.mem_cons_of_mem _ hy))]; rfl
theorem eq_nil {ρ : Rul} (hρ : RulOk sig ρ) : fEq [.dat (.tuple (ρ.c.map conD)), .dat (.tuple [])] = some (.dat (.bool ρ.c.isEmpty), [.dat (.tuple (ρ.c.map conD)), .dat (.tuple [])]) := by
  have h1 : (PyData.tuple (ρ.c.map conD)).canLay0 = true := by
    simp only [PyData.canLay0]
    exact canLay_all _ fun x hx => by
      obtain ⟨c, hc, rfl⟩ := List.mem_map.mp hx
      exact (con_depth c (hρ.cz c hc)).2
  have h2 : (PyData.tuple (ρ.c.map conD)).depth ≤ 64 := by
    have := depth_all 4 (ρ.c.map conD) fun x hx => by
      obtain ⟨c, hc, rfl⟩ := List.mem_map.mp hx
      exact (con_depth c (hρ.cz c hc)).1
    simp only [PyData.depth]
    omega
  have h3 : SeqAt.shaped (.tuple []) = true := by decide +kernel
  have h4 : SeqAt.shaped (.tuple (ρ.c.map conD)) = true := by simp [SeqAt.shaped, h1, h2]
  have h5 : PyData.eqv (.tuple (ρ.c.map conD)) (.tuple []) = ρ.c.isEmpty := by
    cases ρ.c with
    | nil => rfl
    | cons a r => rfl
  simp [fEq, mR, gEq, pyOf, h3, h4, h5]
theorem brk_len {N : Nat} {U : List (List Nat)} {ρ : Rul} (hρ : RulOk sig ρ) : ∀ g, brk N U ρ = some g → g.length ≤ 1000 := fun g h => by
  have := List.mem_of_find?_eq_some h
  have := (tups_row _ g this).1
  have := hρ.v2
  omega
theorem rules_ok {cs : List Int} {dg mx : Int} (hB : BagOk cs dg mx) (hs3 : ∀ a ∈ sig, a ≤ 3) (h0 : 0 ∈ sig) (hl : sig.length ≤ 100) (hn0 : 0 < n) (hm0 : 0 < m) (h61 : n * m ≤ 61) (hS : TabOk sig n S) (hT : TabOk sig m T) :
    ∃ (cs' : List Int) (dg' mx' : Int), BagOk cs' dg' mx' ∧ m__law_are_rules_right [.bag cs dg mx, .dat (tD sig), .dat (algD n S), .dat (algD m T), .dat (algD (n * m) (prodT sig n m S T)), .dat (algD (n * m) (prodT sig n m S T))] = some (.dat (.bool true), [.bag cs' dg' mx', .dat (tD sig), .dat (algD n S), .dat (algD m T), .dat (algD (n * m) (prodT sig n m S T)), .dat (algD (n * m) (prodT sig n m S T))]) := by
  have hn : n ≤ 61 := Nat.le_trans (Nat.le_mul_of_pos_right n hm0) h61
  have hm : m ≤ 61 := Nat.le_trans (Nat.le_mul_of_pos_left m hn0) h61
  have hnm : 0 < n * m := Nat.mul_pos hn0 hm0
  have hP := prod_tab hn0 hm0 hS hT
  have hbo := fun ρ (hρ : RulOk sig ρ) => both_holds hn0 hm0 hS hT hρ
  have hpo := fun ρ (hρ : RulOk sig ρ) => prod_holds hn0 hm0 hS hT hρ
  generalize hPe : prodT sig n m S T = P at *
  obtain ⟨c, cs', e, cs9, dg9, mx9, rfl, rfl, h1⟩ := fn_ofR (n := 6) (N := 10) (W := (([6] ++ ([7] ++ (([7] ++ []) ++ (([8] ++ ([9] ++ (([] ++ []) ++ (([] ++ []) ++ ([] ++ []))))) ++ [])))) ++ [])) (mb := b__law_are_rules_right) (Γ0 := [.bag cs dg mx, .dat (tD sig), .dat (algD n S), .dat (algD m T), .dat (algD (n * m) P), .dat (algD (n * m) P), .any, .any, .any, .any]) (cs := [.bag cs dg mx, .dat (tD sig), .dat (algD n S), .dat (algD m T), .dat (algD (n * m) P), .dat (algD (n * m) P)])
    (R := fun c cs' => ∃ (cs9 : List Int) (dg9 mx9 : Int), c = .dat (.bool true) ∧ cs' = [.bag cs9 dg9 mx9, .dat (tD sig), .dat (algD n S), .dat (algD m T), .dat (algD (n * m) P), .dat (algD (n * m) P)] ∧ BagOk cs9 dg9 mx9) (h3 := by
      unfold b__law_are_rules_right
      refine rn_seq (rn_forE (c := .dat (.int 4)) (Γ1 := [.bag cs dg mx, .dat (tD sig), .dat (algD n S), .dat (algD m T), .dat (algD (n * m) P), .dat (algD (n * m) P), .any, .any, .any, .any]) (List.range 4) (fun i => .int ((i : Nat) : Int)) (fun l G => ∃ (cs : List Int) (dg mx : Int) (c6 c7 c8 c9 : CD), BagOk cs dg mx ∧ G = [.bag cs dg mx, .dat (tD sig), .dat (algD n S), .dat (algD m T), .dat (algD (n * m) P), .dat (algD (n * m) P), c6, c7, c8, c9]) (by simp) (gRng1_map (k := 4) (by decide)) ⟨cs, dg, mx, .any, .any, .any, .any, hB, rfl⟩ ?_ ?_)
      · rintro l i r G ex ⟨cs1, dg1, mx1, c6, c7, c8, c9, hB1, rfl⟩
        obtain ⟨ρ0, cs2, dg2, mx2, hρ0, hB2, e2⟩ := rule_ok (sig := sig) hs3 h0 hl hB1
        obtain ⟨ρ1, cs3, dg3, mx3, hρ1, hB3, e3⟩ := both_rule_ok (sig := sig) hB2 hs3 h0 hl hn0 hm0 hn hm hS hT
        refine ⟨[.bag cs1 dg1 mx1, .dat (tD sig), .dat (algD n S), .dat (algD m T), .dat (algD (n * m) P), .dat (algD (n * m) P), .dat (.int (i : Nat)), c7, c8, c9], rfl, ?_⟩
        refine rn_nx (Γ1 := [.bag cs2 dg2 mx2, .dat (tD sig), .dat (algD n S), .dat (algD m T), .dat (algD (n * m) P), .dat (algD (n * m) P), .dat (.int (i : Nat)), .dat (rulD ρ0), c8, c9]) (by simp [e2]) ?_
        have key : ∀ (ρ : Rul) (cs : List Int) (dg mx : Int), RulOk sig ρ → BagOk cs dg mx → Rn (mIf (mTst (mApp fLe (mlC (mpE (mApp fMul (mlC (mpE (mApp m__law_power (mlC (mpE (mApp fIx (mlC (mpV 5) (mlC (mpE (mC (.int 0))) mlN)))) (mlC (mpE (mApp fLen (mlC (mpE (mApp m__law_variables (mlC (mpE (mApp fIx (mlC (mpV 7) (mlC (mpE (mC (.int 0))) mlN)))) mlN))) mlN))) mlN)))) (mlC (mpE (mApp m__law_width (mlC (mpV 7) mlN))) mlN)))) (mlC (mpE (mC (.int 450))) mlN)))) (mSeq (mAsg 8 (mApp m__law_broken (mlC (mpV 5) (mlC (mpV 7) mlN))))
    (mSeq (mAsg 9 (mAndV (mApp fIs (mlC (mpE (mApp m__law_broken (mlC (mpV 2) (mlC (mpV 7) mlN)))) (mlC (mpE (mC .none)) mlN))) (mApp fIs (mlC (mpE (mApp m__law_broken (mlC (mpV 3) (mlC (mpV 7) mlN)))) (mlC (mpE (mC .none)) mlN)))))
    (mSeq (mIf (mAnd (mTst (mTk 9)) (mTst (mApp fIsN (mlC (mpV 8) (mlC (mpE (mC .none)) mlN))))) (mRet (mC (.bool false))) mSkip)
    (mSeq (mIf (mAnd (mTst (mApp fEq (mlC (mpE (mApp fIx (mlC (mpV 7) (mlC (mpE (mC (.int 2))) mlN)))) (mlC (mpE (mApp fTup mlN)) mlN)))) (mTst (mApp fNe (mlC (mpV 9) (mlC (mpE (mApp fIs (mlC (mpV 8) (mlC (mpE (mC .none)) mlN)))) mlN))))) (mRet (mC (.bool false))) mSkip)
    (mIf (mNot (mTst (mApp (m__law_like 6) (mlC (mpE (mApp m_breaks (mlC (mpV 4) (mlC (mpV 7) mlN)))) (mlC (mpV 8) mlN))))) (mRet (mC (.bool false))) mSkip))))) mSkip) [.bag cs dg mx, .dat (tD sig), .dat (algD n S), .dat (algD m T), .dat (algD (n * m) P), .dat (algD (n * m) P), .dat (.int (i : Nat)), .dat (rulD ρ), c8, c9]
          (fun o => ∃ c8 c9, o = .nx [.bag cs dg mx, .dat (tD sig), .dat (algD n S), .dat (algD m T), .dat (algD (n * m) P), .dat (algD (n * m) P), .dat (.int (i : Nat)), .dat (rulD ρ), c8, c9]) := fun ρ cs dg mx hρ hB => by
          obtain ⟨vs, hvl, ev⟩ := lvc_ok (p := ρ.l) (by have := hρ.lz; omega)
          have r0 := ru0 ρ
          have r2 := ru2 ρ
          have a0 := alg0 (n * m) P
          have hv2 := hρ.v2
          have hp := pow2 h61 hv2
          have epow := mpow_small (n := n * m) (a := vc ρ.l) (by omega) (by omega)
          have ew := width_ok hρ
          have hcz : consz ρ.c ≤ 12 := by
            have h := hρ.cz
            have hl := hρ.cl
            have := sum_le (fun c : Pat × Pat => psz c.1 + psz c.2) 6 ρ.c fun c hc => by have := h c hc; omega
            unfold consz
            omega
          have hwz : rwid ρ ≤ 22 := by
            have := hρ.lz
            have := hρ.rz
            unfold rwid
            omega
          have em := v_mul31 (i := (((n * m) ^ vc ρ.l : Nat) : Int)) (j := ((rwid ρ : Nat) : Int)) (by omega) (by omega) (by omega) (by omega)
          have b0 := broken_ok hP hs3 hnm h61 hρ
          have b1 := broken_ok hS hs3 hn0 hn hρ
          have b2 := broken_ok hT hs3 hm0 hm hρ
          have i0 := v_isD (brk (n * m) P ρ)
          have i0n := v_isND (brk (n * m) P ρ)
          have i1 := v_isD (brk n S ρ)
          have i2 := v_isD (brk m T ρ)
          have hen := eq_nil hρ
          have hlk := like_brk (brk (n * m) P ρ) (brk_len hρ)
          have hbo' := hbo ρ hρ
          have hpo' := hpo ρ hρ
          have hbr := breaks_ok (n := n * m) (T := P) hP hs3 hnm h61 hρ
          have hcast : (((n * m) ^ vc ρ.l : Nat) : Int) * ((rwid ρ : Nat) : Int) = (((n * m) ^ vc ρ.l * rwid ρ : Nat) : Int) := by rw [Int.natCast_mul]
          rw [hcast] at em
          generalize hW : (n * m) ^ vc ρ.l * rwid ρ = W at em hbr
          generalize hN : (n * m) = N at *
          have hc1 : mTst (mApp fLe (mlC (mpE (mApp fMul (mlC (mpE (mApp m__law_power (mlC (mpE (mApp fIx (mlC (mpV 5) (mlC (mpE (mC (.int 0))) mlN)))) (mlC (mpE (mApp fLen (mlC (mpE (mApp m__law_variables (mlC (mpE (mApp fIx (mlC (mpV 7) (mlC (mpE (mC (.int 0))) mlN)))) mlN))) mlN))) mlN)))) (mlC (mpE (mApp m__law_width (mlC (mpV 7) mlN))) mlN)))) (mlC (mpE (mC (.int 450))) mlN))) [.bag cs dg mx, .dat (tD sig), .dat (algD n S), .dat (algD m T), .dat (algD N P), .dat (algD N P), .dat (.int (i : Nat)), .dat (rulD ρ), c8, c9] = some (decide (((W : Nat) : Int) ≤ 450), [.bag cs dg mx, .dat (tD sig), .dat (algD n S), .dat (algD m T), .dat (algD N P), .dat (algD N P), .dat (.int (i : Nat)), .dat (rulD ρ), c8, c9]) := by
            generalize hPw : N ^ vc ρ.l = Pw at *
            simp [a0, r0, ev, hvl, epow, ew, em]
          refine rn_if hc1 (fun hb => ?_) fun hb => ?_
          · have hW450 : W ≤ 450 := by
              have := of_decide_eq_true hb
              omega
            have hbr := hbr hW450
            cases q0 : (brk N P ρ).isNone <;> cases q1 : (brk n S ρ).isNone <;> cases q2 : (brk m T ρ).isNone <;> cases q3 : ρ.c.isEmpty <;> rw [q0] at i0 i0n <;> rw [q1] at i1 <;> rw [q2] at i2 <;> rw [q3] at hen <;> first
              | (exfalso
                 rw [Option.isNone_iff_eq_none] at q1 q2
                 rw [hbo' q1 q2] at q0
                 simp at q0
                 done)
              | (exfalso
                 rw [Option.isNone_iff_eq_none] at q0
                 rw [List.isEmpty_iff] at q3
                 obtain ⟨z1, z2⟩ := hpo' q3 q0
                 first
                 | (rw [z1] at q1; simp at q1; done)
                 | (rw [z2] at q2; simp at q2; done))
              | exact rn (o := .nx [.bag cs dg mx, .dat (tD sig), .dat (algD n S), .dat (algD m T), .dat (algD N P), .dat (algD N P), .dat (.int (i : Nat)), .dat (rulD ρ), .dat (brkD (brk N P ρ)), .dat (.bool ((brk n S ρ).isNone && (brk m T ρ).isNone))]) (by simp [b0, b1, b2, i0, i0n, i1, i2, r2, hen, v_neBB, hbr, hlk, q1, q2]) ⟨_, _, rfl⟩
          · exact rn (o := .nx [.bag cs dg mx, .dat (tD sig), .dat (algD n S), .dat (algD m T), .dat (algD N P), .dat (algD N P), .dat (.int (i : Nat)), .dat (rulD ρ), c8, c9]) (by simp) ⟨_, _, rfl⟩
        by_cases hi : i < 2
        · have hi' : decide (((i : Nat) : Int) < 2) = true := decide_eq_true (by omega)
          refine rn_nx (Γ1 := [.bag cs3 dg3 mx3, .dat (tD sig), .dat (algD n S), .dat (algD m T), .dat (algD (n * m) P), .dat (algD (n * m) P), .dat (.int (i : Nat)), .dat (rulD ρ1), c8, c9]) (by rw [v_if]; simp [hi', e3]) ?_
          refine rn_mono (key ρ1 cs3 dg3 mx3 hρ1 hB3) ?_
          rintro o ⟨d8, d9, rfl⟩
          exact ⟨cs3, dg3, mx3, _, _, _, _, hB3, rfl⟩
        · have hi' : decide (((i : Nat) : Int) < 2) = false := decide_eq_false (by omega)
          refine rn_nx (Γ1 := [.bag cs2 dg2 mx2, .dat (tD sig), .dat (algD n S), .dat (algD m T), .dat (algD (n * m) P), .dat (algD (n * m) P), .dat (.int (i : Nat)), .dat (rulD ρ0), c8, c9]) (by rw [v_if]; simp [hi']) ?_
          refine rn_mono (key ρ0 cs2 dg2 mx2 hρ0 hB2) ?_
          rintro o ⟨d8, d9, rfl⟩
          exact ⟨cs2, dg2, mx2, _, _, _, _, hB2, rfl⟩
      · rintro G ⟨cs1, dg1, mx1, c6, c7, c8, c9, hB1, rfl⟩
        exact rn (o := .rt (.dat (.bool true)) [.bag cs1 dg1 mx1, .dat (tD sig), .dat (algD n S), .dat (algD m T), .dat (algD (n * m) P), .dat (algD (n * m) P), c6, c7, c8, c9]) (by simp) ⟨_, _, rfl, cs1, dg1, mx1, rfl, rfl, hB1⟩)
  exact ⟨cs9, dg9, mx9, h1, okOnly_of e⟩
end
end K73
/-! M37: limits are right; the law. -/
namespace K73
open PySem L2 JJ
structure LimOk (d : Da) (sig : List Nat) (n m : Nat) : Prop where
  e : d = .tuple [tD sig, .int (n : Nat), .int (m : Nat)]
  l : sig.length ≤ 6
  z : sig ≠ []
  a : ∀ a ∈ sig, a ≤ 3
  n0 : 0 < n
  n1 : n ≤ 61
  m0 : 0 < m
  m1 : m ≤ 61
def lit (sig : List Nat) (n m : Nat) : Da := .tuple [tD sig, .int (n : Nat), .int (m : Nat)]
theorem lit_ok {sig : List Nat} {n m : Nat} (h : sig.length ≤ 6 ∧ sig ≠ [] ∧ (∀ a ∈ sig, a ≤ 3) ∧ 0 < n ∧ n ≤ 61 ∧ 0 < m ∧ m ≤ 61) : ∃ sig' n' m', LimOk (lit sig n m) sig' n' m' :=
  ⟨sig, n, m, rfl, h.1, h.2.1, h.2.2.1, h.2.2.2.1, h.2.2.2.2.1, h.2.2.2.2.2.1, h.2.2.2.2.2.2⟩
theorem sl_from {i k : Nat} {xs : List Da} {Γ Γ' : List CD} {me : ME} (h : Γ[i]? = some (.dat (.tuple xs))) (hm : me Γ = some (.dat (.int (k : Nat)), Γ')) (hk : k ≤ xs.length) (h2 : Γ'[i]? = some (.dat (.tuple xs)) := by rfl) : mSl (mpV i) (moS me) moN Γ = some (.dat (.tuple (xs.drop k)), Γ') := by
  have e : cutD xs (some ((k : Nat) : Int)) none = xs.drop k := by
    unfold cutD
    rw [HT.sIx_nat, HT.sIx_none, Nat.min_eq_left hk]
    exact List.take_of_length_le (by rw [List.length_drop]; omega)
  simp [mSl, moS, moN, h, h2, hm, sliceC, e]
theorem sl_to {i k : Nat} {xs : List Da} {Γ Γ' : List CD} {me : ME} (h : Γ[i]? = some (.dat (.tuple xs))) (hm : me Γ = some (.dat (.int (k : Nat)), Γ')) (hk : k ≤ xs.length) (h2 : Γ'[i]? = some (.dat (.tuple xs)) := by rfl) : mSl (mpV i) moN (moS me) Γ = some (.dat (.tuple (xs.take k)), Γ') := by
  have e : cutD xs none (some ((k : Nat) : Int)) = xs.take k := by
    unfold cutD
    rw [HT.sIx_nat, HT.sIx_none, Nat.min_eq_left hk]
    simp
  simp [mSl, moS, moN, h, h2, hm, sliceC, e]
abbrev limB : MS := (mSeq (mAsgG (mApp m__law_pick (mlC (mpV 0) (mlC (mpV 3) mlN))) (mgT 3 (mgsC (mgN 4) (mgsC (mgN 5) (mgsC (mgN 6) mgsN)))))
    (mSeq (mAsg 7 (mApp m__law_draw (mlC (mpV 0) (mlC (mpE (mApp fLen (mlC (mpV 4) mlN))) mlN))))
    (mSeq (mAsg 4 (mApp fAdd (mlC (mpE (mSl (mpV 4) (moS (mTk 7)) moN)) (mlC (mpE (mSl (mpV 4) moN (moS (mTk 7)))) mlN))))
    (mSeq (mIf (mTst (mApp fEq (mlC (mpE (mApp m__law_draw (mlC (mpV 0) (mlC (mpE (mC (.int 2))) mlN)))) (mlC (mpE (mC (.int 0))) mlN)))) (mPar [5, 6] (mlC (mpV 6) (mlC (mpV 5) mlN))) mSkip)
    (mSeq (mPar [8, 9] (mlC (mpE (mApp m__law_great (mlC (mpV 0) (mlC (mpV 4) (mlC (mpV 5) mlN))))) (mlC (mpE (mApp m__law_great (mlC (mpV 0) (mlC (mpV 4) (mlC (mpV 6) mlN))))) mlN)))
    (mIf (mNot (mTst (mApp m__law_is_product_right (mlC (mpV 4) (mlC (mpV 8) (mlC (mpV 9) (mlC (mpE (mApp fEq (mlC (mpE (mApp m__law_draw (mlC (mpV 0) (mlC (mpE (mC (.int 2))) mlN)))) (mlC (mpE (mC (.int 0))) mlN)))) mlN))))))) (mRet (mC (.bool false))) mSkip))))))
theorem lim_body {cs : List Int} {dg mx : Int} {ds : List Da} {c4 c5 c6 c7 c8 c9 : CD} (hB : BagOk cs dg mx) (hd : ds ≠ []) (hl : ds.length ≤ 100) (h : ∀ d ∈ ds, ∃ sig n m, LimOk d sig n m) :
    Rn limB [.bag cs dg mx, .any, .any, .lst ds, c4, c5, c6, c7, c8, c9] (fun o => ∃ (cs' : List Int) (dg' mx' : Int) (d4 d5 d6 d7 d8 d9 : CD), BagOk cs' dg' mx' ∧ o = .nx [.bag cs' dg' mx', .any, .any, .lst ds, d4, d5, d6, d7, d8, d9]) := by
  obtain ⟨d, hdm, cs1, dg1, mx1, hB1, e1⟩ := pick_ok hB hd (by omega)
  obtain ⟨sig, n, m, hL⟩ := h d hdm
  have hlz : 0 < sig.length := List.length_pos_iff.mpr hL.z
  have hl6 := hL.l
  obtain ⟨r, cs2, dg2, mx2, hr, hB2, e2⟩ := mdraw_ok (below := sig.length) hB1 hlz (by omega)
  obtain ⟨q, cs3, dg3, mx3, hq, hB3, e3⟩ := mdraw_ok (below := 2) hB2 (by decide) (by decide)
  have e3' : m__law_draw [.bag cs2 dg2 mx2, .dat (.int 2)] = some (.dat (.int (q : Nat)), [.bag cs3 dg3 mx3, .dat (.int 2)]) := e3
  refine rn_nx (Γ1 := [.bag cs1 dg1 mx1, .any, .any, .lst ds, .dat (tD sig), .dat (.int (n : Nat)), .dat (.int (m : Nat)), c7, c8, c9]) (by simp [e1, hL.e]) ?_
  refine rn_nx (Γ1 := [.bag cs2 dg2 mx2, .any, .any, .lst ds, .dat (tD sig), .dat (.int (n : Nat)), .dat (.int (m : Nat)), .dat (.int (r : Nat)), c8, c9]) (by simp [tD, e2]) ?_
  have hs1 := sl_from (i := 4) (k := r) (xs := sig.map nD) (Γ := [.bag cs2 dg2 mx2, .any, .any, .lst ds, .dat (tD sig), .dat (.int (n : Nat)), .dat (.int (m : Nat)), .dat (.int (r : Nat)), c8, c9]) (Γ' := [.bag cs2 dg2 mx2, .any, .any, .lst ds, .dat (tD sig), .dat (.int (n : Nat)), .dat (.int (m : Nat)), .dat (.int (r : Nat)), c8, c9]) (me := mTk 7) rfl (by simp) (by rw [List.length_map]; omega)
  have hs2 := sl_to (i := 4) (k := r) (xs := sig.map nD) (Γ := [.bag cs2 dg2 mx2, .any, .any, .lst ds, .dat (tD sig), .dat (.int (n : Nat)), .dat (.int (m : Nat)), .dat (.int (r : Nat)), c8, c9]) (Γ' := [.bag cs2 dg2 mx2, .any, .any, .lst ds, .dat (tD sig), .dat (.int (n : Nat)), .dat (.int (m : Nat)), .dat (.int (r : Nat)), c8, c9]) (me := mTk 7) rfl (by simp) (by rw [List.length_map]; omega)
  have hcat := v_catT (xs := (sig.map nD).drop r) (ys := (sig.map nD).take r) (by simp; omega)
  obtain ⟨sg, hsg⟩ : ∃ sg, sg = sig.drop r ++ sig.take r := ⟨_, rfl⟩
  have hsgm : ∀ a ∈ sg, a ≤ 3 := fun a ha => by
    rw [hsg] at ha
    rcases List.mem_append.mp ha with ha | ha
    · exact hL.a a (List.mem_of_mem_drop ha)
    · exact hL.a a (List.mem_of_mem_take ha)
  have hsgl : sg.length ≤ 6 := by rw [hsg]; simp; omega
  have hsgD : PyData.tuple ((sig.map nD).drop r ++ (sig.map nD).take r) = tD sg := by rw [hsg]; simp [tD]
  rw [hsgD] at hcat
  refine rn_nx (Γ1 := [.bag cs2 dg2 mx2, .any, .any, .lst ds, .dat (tD sg), .dat (.int (n : Nat)), .dat (.int (m : Nat)), .dat (.int (r : Nat)), c8, c9]) (by simp [-List.map_drop, -List.map_take, hs1, hs2, hcat]) ?_
  have key : ∀ (x y : Nat), 0 < x → x ≤ 61 → 0 < y → y ≤ 61 → Rn (mSeq (mPar [8, 9] (mlC (mpE (mApp m__law_great (mlC (mpV 0) (mlC (mpV 4) (mlC (mpV 5) mlN))))) (mlC (mpE (mApp m__law_great (mlC (mpV 0) (mlC (mpV 4) (mlC (mpV 6) mlN))))) mlN)))
    (mIf (mNot (mTst (mApp m__law_is_product_right (mlC (mpV 4) (mlC (mpV 8) (mlC (mpV 9) (mlC (mpE (mApp fEq (mlC (mpE (mApp m__law_draw (mlC (mpV 0) (mlC (mpE (mC (.int 2))) mlN)))) (mlC (mpE (mC (.int 0))) mlN)))) mlN))))))) (mRet (mC (.bool false))) mSkip)) [.bag cs3 dg3 mx3, .any, .any, .lst ds, .dat (tD sg), .dat (.int (x : Nat)), .dat (.int (y : Nat)), .dat (.int (r : Nat)), c8, c9]
    (fun o => ∃ (cs' : List Int) (dg' mx' : Int) (d4 d5 d6 d7 d8 d9 : CD), BagOk cs' dg' mx' ∧ o = .nx [.bag cs' dg' mx', .any, .any, .lst ds, d4, d5, d6, d7, d8, d9]) := fun x y hx0 hx hy0 hy => by
    obtain ⟨A, cs4, dg4, mx4, hB4, hA, e4⟩ := great_ok (sig := sg) (n := x) hB3 hsgm (by omega) hx0 hx
    obtain ⟨B, cs5, dg5, mx5, hB5, hBt, e5⟩ := great_ok (sig := sg) (n := y) hB4 hsgm (by omega) hy0 hy
    obtain ⟨w, cs6, dg6, mx6, hw, hB6, e6⟩ := mdraw_ok (below := 2) hB5 (by decide) (by decide)
    have e6' : m__law_draw [.bag cs5 dg5 mx5, .dat (.int 2)] = some (.dat (.int (w : Nat)), [.bag cs6 dg6 mx6, .dat (.int 2)]) := e6
    have er := right_ok (n := x) (m := y) hsgm hsgl hx0 hy0 hx hy hA hBt
    refine rn_nx (Γ1 := [.bag cs5 dg5 mx5, .any, .any, .lst ds, .dat (tD sg), .dat (.int (x : Nat)), .dat (.int (y : Nat)), .dat (.int (r : Nat)), .dat (algD x A), .dat (algD y B)]) (by simp [e4, e5]) ?_
    refine rn_if (b := false) (Γ1 := [.bag cs6 dg6 mx6, .any, .any, .lst ds, .dat (tD sg), .dat (.int (x : Nat)), .dat (.int (y : Nat)), .dat (.int (r : Nat)), .dat (algD x A), .dat (algD y B)]) (by simp [e6', er]) (fun hb => by cases hb) fun _ => ?_
    exact rn (o := .nx [.bag cs6 dg6 mx6, .any, .any, .lst ds, .dat (tD sg), .dat (.int (x : Nat)), .dat (.int (y : Nat)), .dat (.int (r : Nat)), .dat (algD x A), .dat (algD y B)]) (by simp) ⟨cs6, dg6, mx6, _, _, _, _, _, _, hB6, rfl⟩
  by_cases hq0 : q = 0
  · subst hq0
    refine rn_nx (Γ1 := [.bag cs3 dg3 mx3, .any, .any, .lst ds, .dat (tD sg), .dat (.int (m : Nat)), .dat (.int (n : Nat)), .dat (.int (r : Nat)), c8, c9]) (by rw [v_if]; simp [e3']) ?_
    exact key m n hL.m0 hL.m1 hL.n0 hL.n1
  · have hq1 : (((q : Nat) : Int) == 0) = false := by simpa using hq0
    refine rn_nx (Γ1 := [.bag cs3 dg3 mx3, .any, .any, .lst ds, .dat (tD sg), .dat (.int (n : Nat)), .dat (.int (m : Nat)), .dat (.int (r : Nat)), c8, c9]) (by rw [v_if]; simp [e3', hq1]) ?_
    exact key n m hL.n0 hL.n1 hL.m0 hL.m1
theorem for2_nx {i a b : Nat} {mb : MS} {Γ Γ1 Γ2 : List CD} {xs ys : List Da} (ha : Γ[a]? = some (.lst xs)) (hb : Γ[b]? = some (.lst ys)) (hc : a ≠ b ∧ i ≠ b ∧ i < Γ.length) (e1 : mb (((Γ.set a .any).set b .any).set i (.lst xs)) = some (.nx Γ1)) (e2 : mb (Γ1.set i (.lst ys)) = some (.nx Γ2)) : mFor2 i a b mb Γ = some (.nx Γ2) := by
  unfold mFor2
  rw [ha, hb]
  dsimp only
  rw [if_pos hc, e1]
  dsimp only
  rw [e2]
theorem mTup2 (a b : Int) : fTup [.dat (.int a), .dat (.int b)] = some (.dat (.tuple [.int a, .int b]), [.dat (.int a), .dat (.int b)]) := v_tup2
theorem v_tup6 {a b c d e f : Da} : fTup [.dat a, .dat b, .dat c, .dat d, .dat e, .dat f] = some (.dat (.tuple [a, b, c, d, e, f]), [.dat a, .dat b, .dat c, .dat d, .dat e, .dat f]) := v_tupN rfl (by show 6 ≤ 16777216; decide)
theorem v_lst11 {a b c d e f g h i j k : Da} : fLst [.dat a, .dat b, .dat c, .dat d, .dat e, .dat f, .dat g, .dat h, .dat i, .dat j, .dat k] = some (.lst [a, b, c, d, e, f, g, h, i, j, k], [.dat a, .dat b, .dat c, .dat d, .dat e, .dat f, .dat g, .dat h, .dat i, .dat j, .dat k]) := v_lstN rfl (by show 11 ≤ 16777216; decide)
theorem v_lst13 {a b c d e f g h i j k l m : Da} : fLst [.dat a, .dat b, .dat c, .dat d, .dat e, .dat f, .dat g, .dat h, .dat i, .dat j, .dat k, .dat l, .dat m] = some (.lst [a, b, c, d, e, f, g, h, i, j, k, l, m], [.dat a, .dat b, .dat c, .dat d, .dat e, .dat f, .dat g, .dat h, .dat i, .dat j, .dat k, .dat l, .dat m]) := v_lstN rfl (by show 13 ≤ 16777216; decide)
theorem limits_ok {cs : List Int} {dg mx : Int} (hB : BagOk cs dg mx) : ∃ (cs' : List Int) (dg' mx' : Int), BagOk cs' dg' mx' ∧ m__law_are_limits_right [.bag cs dg mx] = some (.dat (.bool true), [.bag cs' dg' mx']) := by
  obtain ⟨s1, n1, m1, cs1, dg1, mx1, hB1, a1, a2, a3, a4, a5, a6, a7, e1⟩ := any_pair_ok hB
  obtain ⟨s2, n2, m2, cs2, dg2, mx2, hB2, b1, b2, b3, b4, b5, b6, b7, e2⟩ := any_pair_ok hB1
  have hA : s1.length ≤ 6 ∧ s1 ≠ [] ∧ (∀ a ∈ s1, a ≤ 3) ∧ 0 < n1 ∧ n1 ≤ 61 ∧ 0 < m1 ∧ m1 ≤ 61 := ⟨a1, a3, a2, a4, by omega, a6, a7⟩
  have hB' : s2.length ≤ 6 ∧ s2 ≠ [] ∧ (∀ a ∈ s2, a ≤ 3) ∧ 0 < n2 ∧ n2 ≤ 61 ∧ 0 < m2 ∧ m2 ≤ 61 := ⟨b1, b3, b2, b4, by omega, b6, b7⟩
  have l1 : ∀ d ∈ [lit [0, 1, 2] 4 11, lit [0, 2] 2 22, lit [0, 1, 2] 1 44, lit [0, 1] 1 61, lit [0, 1, 1] 1 61, lit [0, 0, 1] 6 10, lit [0, 3] 3 4, lit [0, 0, 1, 1, 2, 2] 1 31, lit [0, 1] 5 12, lit [0, 0, 1, 1, 1, 1] 1 61, lit s1 n1 m1], ∃ sig n m, LimOk d sig n m := fun d hd => by
    simp only [List.mem_cons, List.mem_nil_iff, or_false] at hd
    rcases hd with rfl | rfl | rfl | rfl | rfl | rfl | rfl | rfl | rfl | rfl | rfl
    all_goals first
      | exact lit_ok hA
      | exact lit_ok (by decide)
  have l2 : ∀ d ∈ [lit [0, 1] 2 31, lit [0, 1, 1] 2 31, lit [0, 0, 1] 7 9, lit [0, 1] 8 8, lit [0, 2] 8 8, lit [0, 1, 2] 7 10, lit [0, 2] 5 9, lit [0, 0, 2] 3 15, lit [0, 3, 3] 2 5, lit [0, 2, 2, 2, 2, 2] 4 5, lit [0, 2, 2] 4 8, lit [0, 3] 2 7, lit s2 n2 m2], ∃ sig n m, LimOk d sig n m := fun d hd => by
    simp only [List.mem_cons, List.mem_nil_iff, or_false] at hd
    rcases hd with rfl | rfl | rfl | rfl | rfl | rfl | rfl | rfl | rfl | rfl | rfl | rfl | rfl
    all_goals first
      | exact lit_ok hB'
      | exact lit_ok (by decide)
  obtain ⟨xs, hxs⟩ : ∃ xs, xs = [lit [0, 1, 2] 4 11, lit [0, 2] 2 22, lit [0, 1, 2] 1 44, lit [0, 1] 1 61, lit [0, 1, 1] 1 61, lit [0, 0, 1] 6 10, lit [0, 3] 3 4, lit [0, 0, 1, 1, 2, 2] 1 31, lit [0, 1] 5 12, lit [0, 0, 1, 1, 1, 1] 1 61, lit s1 n1 m1] := ⟨_, rfl⟩
  obtain ⟨ys, hys⟩ : ∃ ys, ys = [lit [0, 1] 2 31, lit [0, 1, 1] 2 31, lit [0, 0, 1] 7 9, lit [0, 1] 8 8, lit [0, 2] 8 8, lit [0, 1, 2] 7 10, lit [0, 2] 5 9, lit [0, 0, 2] 3 15, lit [0, 3, 3] 2 5, lit [0, 2, 2, 2, 2, 2] 4 5, lit [0, 2, 2] 4 8, lit [0, 3] 2 7, lit s2 n2 m2] := ⟨_, rfl⟩
  have x0 : xs ≠ [] := by rw [hxs]; simp
  have x1 : xs.length ≤ 100 := by rw [hxs]; simp
  have y0 : ys ≠ [] := by rw [hys]; simp
  have y1 : ys.length ≤ 100 := by rw [hys]; simp
  rw [← hxs] at l1
  rw [← hys] at l2
  obtain ⟨c, cs', e, cs9, dg9, mx9, rfl, rfl, h1⟩ := fn_ofR (n := 1) (N := 10) (W := ([1] ++ ([2] ++ (([3] ++ (([4] ++ ([5] ++ ([6] ++ []))) ++ ([7] ++ ([4] ++ (([5, 6] ++ []) ++ ([8, 9] ++ ([] ++ []))))))) ++ [])))) (mb := b__law_are_limits_right) (Γ0 := [.bag cs dg mx, .any, .any, .any, .any, .any, .any, .any, .any, .any]) (cs := [.bag cs dg mx])
    (R := fun c cs' => ∃ (cs9 : List Int) (dg9 mx9 : Int), c = .dat (.bool true) ∧ cs' = [.bag cs9 dg9 mx9] ∧ BagOk cs9 dg9 mx9) (h3 := by
      unfold b__law_are_limits_right
      refine rn_nx (Γ1 := [.bag cs1 dg1 mx1, .lst xs, .any, .any, .any, .any, .any, .any, .any, .any]) (by rw [hxs]; simp [v_tup6, v_lst11, e1, lit, tD, nD]) ?_
      refine rn_nx (Γ1 := [.bag cs2 dg2 mx2, .lst xs, .lst ys, .any, .any, .any, .any, .any, .any, .any]) (by rw [hys]; simp [v_tup6, v_lst13, e2, lit, tD, nD]) ?_
      obtain ⟨o, eo, cs3, dg3, mx3, d4, d5, d6, d7, d8, d9, hB3, rfl⟩ := lim_body (c4 := .any) (c5 := .any) (c6 := .any) (c7 := .any) (c8 := .any) (c9 := .any) hB2 x0 x1 l1
      obtain ⟨o, eo2, cs4, dg4, mx4, f4, f5, f6, f7, f8, f9, hB4, rfl⟩ := lim_body (c4 := d4) (c5 := d5) (c6 := d6) (c7 := d7) (c8 := d8) (c9 := d9) hB3 y0 y1 l2
      refine rn_nx (Γ1 := [.bag cs4 dg4 mx4, .any, .any, .lst ys, f4, f5, f6, f7, f8, f9]) (for2_nx (xs := xs) (ys := ys) rfl rfl ⟨by decide, by decide, by simp⟩ eo eo2) ?_
      exact rn (o := .rt (.dat (.bool true)) [.bag cs4 dg4 mx4, .any, .any, .lst ys, f4, f5, f6, f7, f8, f9]) (by simp) ⟨_, _, rfl, cs4, dg4, mx4, rfl, rfl, hB4⟩)
  exact ⟨cs9, dg9, mx9, h1, okOnly_of e⟩
theorem law_true (ns : List Int) (hns : ns.length ≤ 63) : ∃ cs', x_law [.scr ns] = some (.ok (.dat (.bool true)), cs') := by
  obtain ⟨cs0, dg0, mx0, e0, hB0⟩ := own_bag_ok hns
  obtain ⟨d, hd, cs1, dg1, mx1, hB1, e1⟩ := pick_ok (xs := [.int 1, .int 2, .int 2, .int 3]) hB0 (by simp) (by simp)
  obtain ⟨most, hm, rfl⟩ : ∃ most : Nat, most ≤ 3 ∧ d = .int (most : Nat) := by
    simp only [List.mem_cons, List.mem_nil_iff, or_false] at hd
    rcases hd with rfl | rfl | rfl | rfl
    · exact ⟨1, by decide, rfl⟩
    · exact ⟨2, by decide, rfl⟩
    · exact ⟨2, by decide, rfl⟩
    · exact ⟨3, by decide, rfl⟩
  obtain ⟨sig, cs2, dg2, mx2, hB2, hsl, hs0, hsm, e2⟩ := signature_ok hB1 hm
  have hs3 : ∀ a ∈ sig, a ≤ 3 := fun a ha => by have := hsm a ha; omega
  obtain ⟨n, m, S, T, cs3, dg3, mx3, hB3, hn0, hn4, hm0, hm4, hit, hS, hT, e3⟩ := small_ok hB2 hs3 (by omega)
  have hnm : n * m ≤ 61 := by
    have : n * m ≤ 4 * 4 := Nat.mul_le_mul hn4 hm4
    omega
  obtain ⟨q, cs4, dg4, mx4, hq, hB4, e4⟩ := mdraw_ok (below := 2) hB3 (by decide) (by decide)
  have e4' : m__law_draw [.bag cs3 dg3 mx3, .dat (.int 2)] = some (.dat (.int (q : Nat)), [.bag cs4 dg4 mx4, .dat (.int 2)]) := e4
  obtain ⟨nm, hnm2⟩ : ∃ b, b = (((q : Nat) : Int) == 0) := ⟨_, rfl⟩
  have r1 := right_ok hs3 hsl hn0 hm0 (by omega) (by omega) hS hT nm
  have r2 := right_ok hs3 hsl hm0 hn0 (by omega) (by omega) hT hS (!nm)
  have r3 := right_ok hs3 hsl hn0 hm0 (by omega) (by omega) hS hT (!nm)
  have p1 := okOnly_of (product_ok hs3 (by omega) hn0 hm0 hnm (by omega) hS hT)
  have p2 := due_ok hs3 (by omega) hn0 hm0 hnm (by omega) hS hT
  obtain ⟨cs5, dg5, mx5, hB5, e5⟩ := values_ok hB4 hs3 hs0 (by omega) hn0 hm0 hnm hS hT
  obtain ⟨cs6, dg6, mx6, hB6, e6⟩ := rules_ok hB5 hs3 hs0 (by omega) hn0 hm0 hnm hS hT
  obtain ⟨cs7, dg7, mx7, hB7, e7⟩ := limits_ok hB6
  have p1' : m_product [.dat (tD sig), .dat (algD n S), .dat (algD m T)] = _ := p1
  have e0' : m__law_own_bag [.scr ns] = some (.bag cs0 dg0 mx0, [.scr ns]) := okOnly_of e0
  obtain ⟨c, cs', e, cs9, dg9, mx9, rfl⟩ := fn_ofR (n := 1) (N := 8) (W := ([1] ++ ([2] ++ (([3] ++ ([4] ++ [])) ++ ([5] ++ (([] ++ []) ++ (([] ++ []) ++ ([6, 7] ++ (([] ++ []) ++ (([] ++ []) ++ [])))))))))) (mb := b_law) (Γ0 := [.scr ns, .any, .any, .any, .any, .any, .any, .any]) (cs := [.scr ns])
    (R := fun c cs' => ∃ (cs9 : List Int) (dg9 mx9 : Int), c = .dat (.bool true)) (h3 := by
      unfold b_law
      refine rn_nx (Γ1 := [.scr ns, .bag cs0 dg0 mx0, .any, .any, .any, .any, .any, .any]) (by simp [e0']) ?_
      refine rn_nx (Γ1 := [.scr ns, .bag cs2 dg2 mx2, .dat (tD sig), .any, .any, .any, .any, .any]) (by simp [e1, e2]) ?_
      refine rn_nx (Γ1 := [.scr ns, .bag cs3 dg3 mx3, .dat (tD sig), .dat (algD n S), .dat (algD m T), .any, .any, .any]) (by simp [mAsgL, e3]) ?_
      refine rn_nx (Γ1 := [.scr ns, .bag cs4 dg4 mx4, .dat (tD sig), .dat (algD n S), .dat (algD m T), .dat (.bool nm), .any, .any]) (by rw [hnm2]; simp [e4']) ?_
      refine rn_nx (Γ1 := [.scr ns, .bag cs4 dg4 mx4, .dat (tD sig), .dat (algD n S), .dat (algD m T), .dat (.bool nm), .any, .any]) (by simp [r1]) ?_
      refine rn_nx (Γ1 := [.scr ns, .bag cs4 dg4 mx4, .dat (tD sig), .dat (algD n S), .dat (algD m T), .dat (.bool nm), .any, .any]) (by simp [r2]) ?_
      refine rn_nx (Γ1 := [.scr ns, .bag cs4 dg4 mx4, .dat (tD sig), .dat (algD n S), .dat (algD m T), .dat (.bool nm), .dat (algD (n * m) (prodT sig n m S T)), .dat (algD (n * m) (prodT sig n m S T))]) (by simp [p1', p2]) ?_
      refine rn_nx (Γ1 := [.scr ns, .bag cs5 dg5 mx5, .dat (tD sig), .dat (algD n S), .dat (algD m T), .dat (.bool nm), .dat (algD (n * m) (prodT sig n m S T)), .dat (algD (n * m) (prodT sig n m S T))]) (by simp [e5]) ?_
      refine rn_nx (Γ1 := [.scr ns, .bag cs6 dg6 mx6, .dat (tD sig), .dat (algD n S), .dat (algD m T), .dat (.bool nm), .dat (algD (n * m) (prodT sig n m S T)), .dat (algD (n * m) (prodT sig n m S T))]) (by simp [e6]) ?_
      exact rn (o := .rt (.dat (.bool true)) [.scr ns, .bag cs7 dg7 mx7, .dat (tD sig), .dat (algD n S), .dat (algD m T), .dat (.bool nm), .dat (algD (n * m) (prodT sig n m S T)), .dat (algD (n * m) (prodT sig n m S T))]) (by simp [e7, r3]) ⟨_, _, rfl, cs7, dg7, mx7, rfl⟩)
  exact ⟨cs', e⟩
end K73
/-! the walks of k73 -/
namespace K73
open PySem L2 JJ
abbrev top (i : Nat) : Stmt := PySem.Challenge.pw_fencedterms_k73_whole_products.main.body.getD i (.Pass ⟨0, 0, 0, 0⟩)
structure Blt (mg : Str → Option Value) : Prop where
  abs_ : mg "abs" = none
  all_ : mg "all" = none
  bool_ : mg "bool" = none
  enumerate_ : mg "enumerate" = none
  int_ : mg "int" = none
  isinstance_ : mg "isinstance" = none
  len_ : mg "len" = none
  list_ : mg "list" = none
  max_ : mg "max" = none
  min_ : mg "min" = none
  range_ : mg "range" = none
  repr_ : mg "repr" = none
  reversed_ : mg "reversed" = none
  set_ : mg "set" = none
  sorted_ : mg "sorted" = none
  str_ : mg "str" = none
  sum_ : mg "sum" = none
  tuple_ : mg "tuple" = none
  zip_ : mg "zip" = none
theorem sc_row_of : FnScope N_row_of ["pattern"] (defScope (top 9)) := ⟨rfl, rfl, rfl, by decide +kernel, rfl, by decide +kernel, by decide +kernel⟩
theorem w_row_of {P : Program} {w : World} {K : PySem.W.Frag} {mg : Str → Option Value} {base : Heap} {k : Nat} (hk : 1 ≤ k) (B : Blt mg) :
    Wk P w K mg base N_row_of "row_of" (top 9) k b_row_of ([1, 2] ++ (([3] ++ (([] ++ []) ++ [])) ++ [])) := fun f nd cdv A outer s H E hg hr =>
    (jb_cons (js_par 1 2 (ja_cons (jp_e (je_lst ja_nil)) (ja_cons (jp_e (je_lst (ja_cons (jp_v 0) ja_nil))) ja_nil)))
    (jb_cons (js_while (jt_ne (jp_v 2) (jp_e (je_lst ja_nil))) (jb_cons (js_set 3 (je_pop 2))
    (jb_one (js_if (jt_val (je_isi (p3 := ⟨0, 0, 0, 0⟩) (jp_v 3) B.isinstance_ B.tuple_ (by decide +kernel))) (jb_cons (js_expr (je_append (name := "append") 1 (ja_cons (jp_e (je_ix (jp_v 3) (jp_e je_int))) ja_nil)))
    (jb_one (js_expr (je_extend 2 (ja_cons (jp_e (je_back (jp_v 3))) ja_nil))))) (jb_one (js_expr (je_append (name := "append") 1 (ja_cons (jp_v 3) ja_nil))))))) pw_fn)
    (jb_one (js_ret (je_tuple (ja_cons (jp_v 1) ja_nil) B.tuple_)))))
theorem sc_size : FnScope N_size ["term"] (defScope (top 10)) := ⟨rfl, rfl, rfl, by decide +kernel, rfl, by decide +kernel, by decide +kernel⟩
theorem w_size {P : Program} {w : World} {K : PySem.W.Frag} {mg : Str → Option Value} {base : Heap} {k : Nat} (hk : 2 ≤ k) (B : Blt mg) (c_row_of : Cl P w K mg base "row_of" 1 2 m_row_of) :
    Wk P w K mg base N_size "size" (top 10) k b_size [] := fun f nd cdv A outer s H E hg hr =>
    (jb_one (js_ret (je_len (ja_cons (jp_e (je_call c_row_of (Nat.le_trans (show 2 ≤ 2 by decide) hk) ar_row_of (ja_cons (jp_v 0) ja_nil))) ja_nil) B.len_)))
theorem sc_spots_of : FnScope N_spots_of ["pattern"] (defScope (top 12)) := ⟨rfl, rfl, rfl, by decide +kernel, rfl, by decide +kernel, by decide +kernel⟩
theorem w_spots_of {P : Program} {w : World} {K : PySem.W.Frag} {mg : Str → Option Value} {base : Heap} {k : Nat} (hk : 1 ≤ k) (B : Blt mg) :
    Wk P w K mg base N_spots_of "spots_of" (top 12) k b_spots_of ([1, 2] ++ (([3] ++ ([] ++ [])) ++ [])) := fun f nd cdv A outer s H E hg hr =>
    (jb_cons (js_par 1 2 (ja_cons (jp_e (je_lst ja_nil)) (ja_cons (jp_e (je_lst (ja_cons (jp_v 0) ja_nil))) ja_nil)))
    (jb_cons (js_while (jt_ne (jp_v 2) (jp_e (je_lst ja_nil))) (jb_cons (js_set 3 (je_pop 2))
    (jb_one (js_if (jt_val (je_isi (p3 := ⟨0, 0, 0, 0⟩) (jp_v 3) B.isinstance_ B.tuple_ (by decide +kernel))) (jb_one (js_expr (je_extend 2 (ja_cons (jp_e (je_back (jp_v 3))) ja_nil)))) (jb_one (js_expr (je_append (name := "append") 1 (ja_cons (jp_v 3) ja_nil))))))) pw_fn)
    (jb_one (js_ret (je_tk 1)))))
theorem sc_variables : FnScope N_variables ["pattern"] (defScope (top 13)) := ⟨rfl, rfl, rfl, by decide +kernel, rfl, by decide +kernel, by decide +kernel⟩
theorem w_variables {P : Program} {w : World} {K : PySem.W.Frag} {mg : Str → Option Value} {base : Heap} {k : Nat} (hk : 2 ≤ k) (B : Blt mg) (c_spots_of : Cl P w K mg base "spots_of" 1 2 m_spots_of) :
    Wk P w K mg base N_variables "variables" (top 13) k b_variables [] := fun f nd cdv A outer s H E hg hr =>
    (jb_one (js_ret (je_tuple (ja_cons (jp_e (je_sset (je_call c_spots_of (Nat.le_trans (show 2 ≤ 2 by decide) hk) ar_spots_of (ja_cons (jp_v 0) ja_nil)) B.sorted_ B.set_)) ja_nil) B.tuple_)))
theorem sc_sizes_of : FnScope N_sizes_of ["rules"] (defScope (top 15)) := ⟨rfl, rfl, rfl, by decide +kernel, rfl, by decide +kernel, by decide +kernel⟩
theorem w_sizes_of {P : Program} {w : World} {K : PySem.W.Frag} {mg : Str → Option Value} {base : Heap} {k : Nat} (hk : 3 ≤ k) (B : Blt mg) (c_size : Cl P w K mg base "size" 1 3 m_size) :
    Wk P w K mg base N_sizes_of "sizes_of" (top 15) k b_sizes_of ([1] ++ ((([2] ++ ([3] ++ ([4] ++ []))) ++ [1]) ++ [])) := fun f nd cdv A outer s H E hg hr =>
    (jb_cons (js_set 1 je_int)
    (jb_cons (js_for (ji_seq (jp_v 0)) (jg_tup (jgs_cons (jg_name 2) (jgs_cons (jg_name 3) (jgs_cons (jg_name 4) jgs_nil)))) (jb_one (js_set 1 (je_add (jp_e (je_add (jp_e (je_add (jp_v 1) (jp_e (je_call c_size (Nat.le_trans (show 3 ≤ 3 by decide) hk) ar_size (ja_cons (jp_v 2) ja_nil))))) (jp_e (je_call c_size (Nat.le_trans (show 3 ≤ 3 by decide) hk) ar_size (ja_cons (jp_v 3) ja_nil))))) (jp_e (je_sum (ja_cons (jp_e (je_lc (own := o0_sizes_of) (ji_seq (jp_v 4)) (fun _ => blkOk_by (by kernel_rfl)) (jg_tup (jgs_cons (jg_name 5) (jgs_cons (jg_name 6) jgs_nil))) jts_nil (je_add (jp_e (je_call c_size (Nat.le_trans (show 3 ≤ 3 by decide) hk) ar_size (ja_cons (jp_v 5) ja_nil))) (jp_e (je_call c_size (Nat.le_trans (show 3 ≤ 3 by decide) hk) ar_size (ja_cons (jp_v 6) ja_nil)))) (by decide))) ja_nil) B.sum_))))) pw_fn)
    (jb_one (js_ret (je_tk 1)))))
theorem sc_power : FnScope N_power ["base", "many"] (defScope (top 17)) := ⟨rfl, rfl, rfl, by decide +kernel, rfl, by decide +kernel, by decide +kernel⟩
theorem w_power {P : Program} {w : World} {K : PySem.W.Frag} {mg : Str → Option Value} {base : Heap} {k : Nat} (hk : 1 ≤ k) (B : Blt mg) :
    Wk P w K mg base N_power "power" (top 17) k b_power ([2] ++ (([3] ++ [2]) ++ [])) := fun f nd cdv A outer s H E hg hr =>
    (jb_cons (js_set 2 je_int)
    (jb_cons (js_for (ji_range1 (ja_cons (jp_v 1) ja_nil) B.range_) (jg_name 3) (jb_one (js_set 2 (je_mul (jp_v 2) (jp_v 0)))) pw_fn)
    (jb_one (js_ret (je_tk 2)))))
theorem sc_tuples_of : FnScope N_tuples_of ["items", "many"] (defScope (top 18)) := ⟨rfl, rfl, rfl, by decide +kernel, rfl, by decide +kernel, by decide +kernel⟩
theorem w_tuples_of {P : Program} {w : World} {K : PySem.W.Frag} {mg : Str → Option Value} {base : Heap} {k : Nat} (hk : 1 ≤ k) (B : Blt mg) :
    Wk P w K mg base N_tuples_of "tuples_of" (top 18) k b_tuples_of ([2] ++ (([3] ++ ([4] ++ (([5] ++ []) ++ [2]))) ++ [])) := fun f nd cdv A outer s H E hg hr =>
    (jb_cons (js_set 2 (je_lst (ja_cons (jp_e (je_tup ja_nil)) ja_nil)))
    (jb_cons (js_for (ji_range1 (ja_cons (jp_v 1) ja_nil) B.range_) (jg_name 3) (jb_cons (js_set 4 (je_lst ja_nil))
    (jb_cons (js_for (ji_seq (jp_v 2)) (jg_name 5) (jb_one (js_expr (je_extend 4 (ja_cons (jp_e (je_lc (own := o0_tuples_of) (ji_seq (jp_v 0)) (fun _ => blkOk_by (by kernel_rfl)) (jg_name 6) jts_nil (je_add (jp_v 5) (jp_e (je_tup (ja_cons (jp_v 6) ja_nil)))) (by decide))) ja_nil)))) pw_fn)
    (jb_one (js_set 2 (je_tk 4))))) pw_fn)
    (jb_one (js_ret (je_tk 2)))))
theorem sc_entries : FnScope N_entries ["signature", "many"] (defScope (top 19)) := ⟨rfl, rfl, rfl, by decide +kernel, rfl, by decide +kernel, by decide +kernel⟩
theorem w_entries {P : Program} {w : World} {K : PySem.W.Frag} {mg : Str → Option Value} {base : Heap} {k : Nat} (hk : 2 ≤ k) (B : Blt mg) (c_power : Cl P w K mg base "power" 2 2 m_power) :
    Wk P w K mg base N_entries "entries" (top 19) k b_entries [] := fun f nd cdv A outer s H E hg hr =>
    (jb_one (js_ret (je_sum (ja_cons (jp_e (je_lc (own := o0_entries) (ji_seq (jp_v 0)) (fun _ => blkOk_by (by kernel_rfl)) (jg_name 2) jts_nil (je_call c_power (Nat.le_trans (show 2 ≤ 2 by decide) hk) ar_power (ja_cons (jp_v 1) (ja_cons (jp_v 2) ja_nil))) (by decide))) ja_nil) B.sum_)))
theorem sc_place_of : FnScope N_place_of ["many", "row"] (defScope (top 20)) := ⟨rfl, rfl, rfl, by decide +kernel, rfl, by decide +kernel, by decide +kernel⟩
theorem w_place_of {P : Program} {w : World} {K : PySem.W.Frag} {mg : Str → Option Value} {base : Heap} {k : Nat} (hk : 1 ≤ k) (B : Blt mg) :
    Wk P w K mg base N_place_of "place_of" (top 20) k b_place_of ([2] ++ (([3] ++ [2]) ++ [])) := fun f nd cdv A outer s H E hg hr =>
    (jb_cons (js_set 2 je_int)
    (jb_cons (js_for (ji_seq (jp_v 1)) (jg_name 3) (jb_one (js_set 2 (je_add (jp_e (je_mul (jp_v 2) (jp_v 0))) (jp_v 3)))) pw_fn)
    (jb_one (js_ret (je_tk 2)))))
theorem sc_valued : FnScope N_valued ["algebra", "pattern", "given"] (defScope (top 21)) := ⟨rfl, rfl, rfl, by decide +kernel, rfl, by decide +kernel, by decide +kernel⟩
theorem w_valued {P : Program} {w : World} {K : PySem.W.Frag} {mg : Str → Option Value} {base : Heap} {k : Nat} {self : MF} (hk : 2 ≤ k) (B : Blt mg) (c_place_of : Cl P w K mg base "place_of" 2 2 m_place_of) (ar_self : Ar 3 self) (c_valued : Cl P w K mg base "valued" 3 k self) :
    Wk P w K mg base N_valued "valued" (top 21) k (b_valued self) (([] ++ []) ++ (([3] ++ ([4] ++ [])) ++ [])) := fun f nd cdv A outer s H E hg hr =>
    (jb_cons (js_if (jt_not (jt_val (je_isi (p3 := ⟨0, 0, 0, 0⟩) (jp_v 1) B.isinstance_ B.tuple_ (by decide +kernel)))) (jb_one (js_ret (je_ix (jp_v 2) (jp_v 1)))) jb_nil)
    (jb_cons (js_asg (je_tk 0) (jg_tup (jgs_cons (jg_name 3) (jgs_cons (jg_name 4) jgs_nil))))
    (jb_one (js_ret (je_ix (jp_e (je_ix (jp_v 4) (jp_e (je_ix (jp_v 1) (jp_e je_int))))) (jp_e (je_call c_place_of (Nat.le_trans (show 2 ≤ 2 by decide) hk) ar_place_of (ja_cons (jp_v 3) (ja_cons (jp_e (je_lc (own := o0_valued) (ji_seq (jp_e (je_sl (jp_v 1) (jo_s je_int) jo_n))) (fun _ => blkOk_by (by kernel_rfl)) (jg_name 5) jts_nil (je_call c_valued (Nat.le_refl _) ar_self (ja_cons (jp_v 0) (ja_cons (jp_v 5) (ja_cons (jp_v 2) ja_nil)))) (by decide))) ja_nil)))))))))
theorem sc_value_of : FnScope N_value_of ["algebra", "term"] (defScope (top 22)) := ⟨rfl, rfl, rfl, by decide +kernel, rfl, by decide +kernel, by decide +kernel⟩
theorem w_value_of {P : Program} {w : World} {K : PySem.W.Frag} {mg : Str → Option Value} {base : Heap} {k : Nat} (hk : 15 ≤ k) (B : Blt mg) (c_valued : Cl P w K mg base "valued" 3 15 (m_valued 12)) :
    Wk P w K mg base N_value_of "value_of" (top 22) k b_value_of [] := fun f nd cdv A outer s H E hg hr =>
    (jb_one (js_ret (je_call c_valued (Nat.le_trans (show 15 ≤ 15 by decide) hk) (ar_valued _) (ja_cons (jp_v 0) (ja_cons (jp_v 1) (ja_cons (jp_e (je_tup ja_nil)) ja_nil))))))
theorem sc_does_break : FnScope N_does_break ["algebra", "rule", "given"] (defScope (top 23)) := ⟨rfl, rfl, rfl, by decide +kernel, rfl, by decide +kernel, by decide +kernel⟩
theorem w_does_break {P : Program} {w : World} {K : PySem.W.Frag} {mg : Str → Option Value} {base : Heap} {k : Nat} (hk : 15 ≤ k) (B : Blt mg) (c_valued : Cl P w K mg base "valued" 3 15 (m_valued 12)) :
    Wk P w K mg base N_does_break "does_break" (top 23) k b_does_break (([3] ++ ([4] ++ ([5] ++ []))) ++ (([] ++ []) ++ [])) := fun f nd cdv A outer s H E hg hr =>
    (jb_cons (js_asg (je_tk 1) (jg_tup (jgs_cons (jg_name 3) (jgs_cons (jg_name 4) (jgs_cons (jg_name 5) jgs_nil)))))
    (jb_cons (js_if (jt_not (jt_val (je_all (ja_cons (jp_e (je_lc (own := o0_does_break) (ji_seq (jp_v 5)) (fun _ => blkOk_by (by kernel_rfl)) (jg_tup (jgs_cons (jg_name 6) (jgs_cons (jg_name 7) jgs_nil))) jts_nil (je_eq (jp_e (je_call c_valued (Nat.le_trans (show 15 ≤ 15 by decide) hk) (ar_valued _) (ja_cons (jp_v 0) (ja_cons (jp_v 6) (ja_cons (jp_v 2) ja_nil))))) (jp_e (je_call c_valued (Nat.le_trans (show 15 ≤ 15 by decide) hk) (ar_valued _) (ja_cons (jp_v 0) (ja_cons (jp_v 7) (ja_cons (jp_v 2) ja_nil)))))) (by decide))) ja_nil) B.all_))) (jb_one (js_ret je_bl)) jb_nil)
    (jb_one (js_ret (je_ne (jp_e (je_call c_valued (Nat.le_trans (show 15 ≤ 15 by decide) hk) (ar_valued _) (ja_cons (jp_v 0) (ja_cons (jp_v 3) (ja_cons (jp_v 2) ja_nil))))) (jp_e (je_call c_valued (Nat.le_trans (show 15 ≤ 15 by decide) hk) (ar_valued _) (ja_cons (jp_v 0) (ja_cons (jp_v 4) (ja_cons (jp_v 2) ja_nil))))))))))
theorem sc_first_break : FnScope N_first_break ["algebra", "rule"] (defScope (top 24)) := ⟨rfl, rfl, rfl, by decide +kernel, rfl, by decide +kernel, by decide +kernel⟩
theorem w_first_break {P : Program} {w : World} {K : PySem.W.Frag} {mg : Str → Option Value} {base : Heap} {k : Nat} (hk : 16 ≤ k) (B : Blt mg) (c_does_break : Cl P w K mg base "does_break" 3 16 m_does_break) (c_tuples_of : Cl P w K mg base "tuples_of" 2 2 m_tuples_of) (c_variables : Cl P w K mg base "variables" 1 3 m_variables) :
    Wk P w K mg base N_first_break "first_break" (top 24) k b_first_break (([2] ++ ([] ++ [])) ++ []) := fun f nd cdv A outer s H E hg hr =>
    (jb_cons (js_for (ji_seq (jp_e (je_call c_tuples_of (Nat.le_trans (show 2 ≤ 16 by decide) hk) ar_tuples_of (ja_cons (jp_e (je_lrange (jp_e (je_ix (jp_v 0) (jp_e je_int))) B.list_ B.range_)) (ja_cons (jp_e (je_len (ja_cons (jp_e (je_call c_variables (Nat.le_trans (show 3 ≤ 16 by decide) hk) ar_variables (ja_cons (jp_e (je_ix (jp_v 1) (jp_e je_int))) ja_nil))) ja_nil) B.len_)) ja_nil))))) (jg_name 2) (jb_one (js_if (jt_val (je_call c_does_break (Nat.le_trans (show 16 ≤ 16 by decide) hk) ar_does_break (ja_cons (jp_v 0) (ja_cons (jp_v 1) (ja_cons (jp_v 2) ja_nil))))) (jb_one (js_ret (je_tk 2))) jb_nil)) pw_fn)
    (jb_one (js_ret je_non)))
theorem sc_breaks : FnScope N_breaks ["algebra", "rule"] (defScope (top 25)) := ⟨rfl, rfl, rfl, by decide +kernel, rfl, by decide +kernel, by decide +kernel⟩
theorem w_breaks {P : Program} {w : World} {K : PySem.W.Frag} {mg : Str → Option Value} {base : Heap} {k : Nat} (hk : 17 ≤ k) (B : Blt mg) (c_first_break : Cl P w K mg base "first_break" 2 17 m_first_break) (c_power : Cl P w K mg base "power" 2 2 m_power) (c_sizes_of : Cl P w K mg base "sizes_of" 1 4 m_sizes_of) (c_variables : Cl P w K mg base "variables" 1 3 m_variables) (g_MAX_WORK : ∃ t, mg "MAX_WORK" = some (.int 60000 t)) :
    Wk P w K mg base N_breaks "breaks" (top 25) k b_breaks (([] ++ []) ++ []) := fun f nd cdv A outer s H E hg hr =>
    (jb_cons (js_if (jt_gt (jp_e (je_mul (jp_e (je_call c_power (Nat.le_trans (show 2 ≤ 17 by decide) hk) ar_power (ja_cons (jp_e (je_ix (jp_v 0) (jp_e je_int))) (ja_cons (jp_e (je_len (ja_cons (jp_e (je_call c_variables (Nat.le_trans (show 3 ≤ 17 by decide) hk) ar_variables (ja_cons (jp_e (je_ix (jp_v 1) (jp_e je_int))) ja_nil))) ja_nil) B.len_)) ja_nil)))) (jp_e (je_call c_sizes_of (Nat.le_trans (show 4 ≤ 17 by decide) hk) ar_sizes_of (ja_cons (jp_e (je_tup (ja_cons (jp_v 1) ja_nil))) ja_nil))))) (jp_e (je_gint g_MAX_WORK.choose_spec))) (jb_one js_never) jb_nil)
    (jb_one (js_ret (je_call c_first_break (Nat.le_trans (show 17 ≤ 17 by decide) hk) ar_first_break (ja_cons (jp_v 0) (ja_cons (jp_v 1) ja_nil))))))
theorem sc_product : FnScope N_product ["signature", "one", "other"] (defScope (top 26)) := ⟨rfl, rfl, rfl, by decide +kernel, rfl, by decide +kernel, by decide +kernel⟩
theorem w_product {P : Program} {w : World} {K : PySem.W.Frag} {mg : Str → Option Value} {base : Heap} {k : Nat} (hk : 3 ≤ k) (B : Blt mg) (c_entries : Cl P w K mg base "entries" 2 3 m_entries) (c_place_of : Cl P w K mg base "place_of" 2 2 m_place_of) (c_tuples_of : Cl P w K mg base "tuples_of" 2 2 m_tuples_of) (g_MAX_ELEMENTS : ∃ t, mg "MAX_ELEMENTS" = some (.int 61 t)) (g_MAX_ENTRIES : ∃ t, mg "MAX_ENTRIES" = some (.int 2000 t)) {C_TooMany I_TooMany : Addr} (x_TooMany : PySem.JX.ExTxt P K mg "TooMany" C_TooMany I_TooMany) :
    Wk P w K mg base N_product "product" (top 26) k b_product ([3] ++ (([] ++ []) ++ (([] ++ []) ++ ([4] ++ ((([5] ++ ([6] ++ [])) ++ ([7] ++ (([8] ++ ([9] ++ ([11] ++ []))) ++ []))) ++ []))))) := fun f nd cdv A outer s H E hg hr =>
    (jb_cons (js_set 3 (je_ix (jp_v 2) (jp_e je_int)))
    (jb_cons (js_if (jt_gt (jp_e (je_mul (jp_e (je_ix (jp_v 1) (jp_e je_int))) (jp_v 3))) (jp_e (je_gint g_MAX_ELEMENTS.choose_spec))) (jb_one (js_raise x_TooMany tk_fn (Nat.le_trans (show 1 ≤ 3 by decide) hk) (je_gint g_MAX_ELEMENTS.choose_spec))) jb_nil)
    (jb_cons (js_if (jt_gt (jp_e (je_call c_entries (Nat.le_trans (show 3 ≤ 3 by decide) hk) ar_entries (ja_cons (jp_v 0) (ja_cons (jp_e (je_mul (jp_e (je_ix (jp_v 1) (jp_e je_int))) (jp_v 3))) ja_nil)))) (jp_e (je_gint g_MAX_ENTRIES.choose_spec))) (jb_one (js_raise x_TooMany tk_fn (Nat.le_trans (show 1 ≤ 3 by decide) hk) (je_gint g_MAX_ENTRIES.choose_spec))) jb_nil)
    (jb_cons (js_set 4 (je_lst ja_nil))
    (jb_cons (js_for (ji_en (ja_cons (jp_v 0) ja_nil) B.enumerate_) (jg_tup (jgs_cons (jg_name 5) (jgs_cons (jg_name 6) jgs_nil))) (jb_cons (js_set 7 (je_lst ja_nil))
    (jb_cons (js_for (ji_seq (jp_e (je_call c_tuples_of (Nat.le_trans (show 2 ≤ 3 by decide) hk) ar_tuples_of (ja_cons (jp_e (je_lrange (jp_e (je_mul (jp_e (je_ix (jp_v 1) (jp_e je_int))) (jp_v 3))) B.list_ B.range_)) (ja_cons (jp_v 6) ja_nil))))) (jg_name 8) (jb_cons (js_set 9 (je_ix (jp_e (je_ix (jp_e (je_ix (jp_v 1) (jp_e je_int))) (jp_v 5))) (jp_e (je_call c_place_of (Nat.le_trans (show 2 ≤ 3 by decide) hk) ar_place_of (ja_cons (jp_e (je_ix (jp_v 1) (jp_e je_int))) (ja_cons (jp_e (je_lc (own := o0_product) (ji_seq (jp_v 8)) (fun _ => blkOk_by (by kernel_rfl)) (jg_name 10) jts_nil (je_div (jp_v 10) (jp_v 3)) (by decide))) ja_nil))))))
    (jb_cons (js_set 11 (je_ix (jp_e (je_ix (jp_e (je_ix (jp_v 2) (jp_e je_int))) (jp_v 5))) (jp_e (je_call c_place_of (Nat.le_trans (show 2 ≤ 3 by decide) hk) ar_place_of (ja_cons (jp_v 3) (ja_cons (jp_e (je_lc (own := o0_product) (ji_seq (jp_v 8)) (fun _ => blkOk_by (by kernel_rfl)) (jg_name 10) jts_nil (je_mod (jp_v 10) (jp_v 3)) (by decide))) ja_nil))))))
    (jb_one (js_expr (je_append (name := "append") 7 (ja_cons (jp_e (je_add (jp_e (je_mul (jp_v 9) (jp_v 3))) (jp_v 11))) ja_nil)))))) pw_fn)
    (jb_one (js_expr (je_append (name := "append") 4 (ja_cons (jp_e (je_tuple (ja_cons (jp_v 7) ja_nil) B.tuple_)) ja_nil)))))) pw_fn)
    (jb_one (js_ret (je_tup (ja_cons (jp_e (je_mul (jp_e (je_ix (jp_v 1) (jp_e je_int))) (jp_v 3))) (ja_cons (jp_e (je_tuple (ja_cons (jp_v 4) ja_nil) B.tuple_)) ja_nil))))))))))
theorem sc__law_own_bag : FnScope N__law_own_bag ["script"] (defScope (top 28)) := ⟨rfl, rfl, rfl, by decide +kernel, rfl, by decide +kernel, by decide +kernel⟩
theorem w__law_own_bag {P : Program} {w : World} {K : PySem.W.Frag} {mg : Str → Option Value} {base : Heap} {k : Nat} (hk : 1 ≤ k) (B : Blt mg) :
    Wk P w K mg base N__law_own_bag "_law_own_bag" (top 28) k b__law_own_bag ([1] ++ ([3] ++ (([2] ++ [3]) ++ []))) := fun f nd cdv A outer s H E hg hr =>
    (jb_cons (js_setLc (own := o0__law_own_bag) 1 (ji_seq (jp_e (je_sl (jp_v 0) jo_n (jo_s je_int)))) (fun _ => blkOk_by (by kernel_rfl)) (jg_name 2) jts_nil (je_abs (ja_cons (jp_v 2) ja_nil) B.abs_) (by decide))
    (jb_cons (js_set 3 (je_add (jp_e je_int) (jp_e (je_len (ja_cons (jp_v 1) ja_nil) B.len_))))
    (jb_cons (js_for (ji_seq (jp_v 1)) (jg_name 2) (jb_one (js_set 3 (je_mod (jp_e (je_intc (ja_cons (jp_e (je_add (jp_e (je_add (jp_e (je_mul (jp_v 3) (jp_e je_int))) (jp_e (je_mod (jp_e (je_intc (ja_cons (jp_v 2) ja_nil) B.int_)) (jp_e je_int))))) (jp_e je_int))) ja_nil) B.int_)) (jp_e je_int)))) pw_fn)
    (jb_one (js_ret (je_bagnew (ja_cons (jp_e (je_lback (jp_v 1) B.list_ B.reversed_)) (ja_cons (jp_e je_int) (ja_cons (jp_v 3) ja_nil)))))))))
theorem sc__law_draw : FnScope N__law_draw ["bag", "below"] (defScope (top 29)) := ⟨rfl, rfl, rfl, by decide +kernel, rfl, by decide +kernel, by decide +kernel⟩
theorem w__law_draw {P : Program} {w : World} {K : PySem.W.Frag} {mg : Str → Option Value} {base : Heap} {k : Nat} (hk : 1 ≤ k) (B : Blt mg) :
    Wk P w K mg base N__law_draw "_law_draw" (top 29) k b__law_draw (([2] ++ []) ++ ((([3] ++ ([] ++ [])) ++ []) ++ ([] ++ []))) := fun f nd cdv A outer s H E hg hr =>
    (jb_cons (js_while (jw_pt (jw_and (jt_eq (jp_e (je_bagI 1 0)) (jp_e je_int)) (jw_and1 (jt_bagne (q0 := 0) (q1 := 0) 0)))) (jb_cons (js_set 2 (je_bagpop 0))
    (jb_one (js_bagset 1 0 (je_ifE (jt_gt (jp_v 2) (jp_e (je_pow (jp_e je_int) (jp_e je_int)))) (je_tk 2) je_int)))) pw_fn)
    (jb_cons (js_if (jt_gt (jp_e (je_bagI 1 0)) (jp_e je_int)) (jb_cons (js_set 3 (je_mod (jp_e (je_intc (ja_cons (jp_e (je_bagI 1 0)) ja_nil) B.int_)) (jp_v 1)))
    (jb_cons (js_bagset 1 0 (je_div (jp_e (je_bagI 1 0)) (jp_v 1)))
    (jb_one (js_ret (je_tk 3))))) jb_nil)
    (jb_cons (js_bagset 2 0 (je_mod (jp_e (je_intc (ja_cons (jp_e (je_add (jp_e (je_mul (jp_e (je_bagI 2 0)) (jp_e je_int))) (jp_e je_int))) ja_nil) B.int_)) (jp_e je_int)))
    (jb_one (js_ret (je_mod (jp_e (je_intc (ja_cons (jp_e (je_div (jp_e (je_mod (jp_e (je_intc (ja_cons (jp_e (je_mul (jp_e (je_bagI 2 0)) (jp_e (je_bagI 2 0)))) ja_nil) B.int_)) (jp_e je_int))) (jp_e je_int))) ja_nil) B.int_)) (jp_v 1)))))))
theorem sc__law_pick : FnScope N__law_pick ["bag", "some"] (defScope (top 30)) := ⟨rfl, rfl, rfl, by decide +kernel, rfl, by decide +kernel, by decide +kernel⟩
theorem w__law_pick {P : Program} {w : World} {K : PySem.W.Frag} {mg : Str → Option Value} {base : Heap} {k : Nat} (hk : 2 ≤ k) (B : Blt mg) (c__law_draw : Cl P w K mg base "_law_draw" 2 2 m__law_draw) :
    Wk P w K mg base N__law_pick "_law_pick" (top 30) k b__law_pick [] := fun f nd cdv A outer s H E hg hr =>
    (jb_one (js_ret (je_ix (jp_v 1) (jp_e (je_call c__law_draw (Nat.le_trans (show 2 ≤ 2 by decide) hk) ar__law_draw (ja_cons (jp_v 0) (ja_cons (jp_e (je_len (ja_cons (jp_v 1) ja_nil) B.len_)) ja_nil)))))))
theorem sc__law_power : FnScope N__law_power ["number", "many"] (defScope (top 31)) := ⟨rfl, rfl, rfl, by decide +kernel, rfl, by decide +kernel, by decide +kernel⟩
theorem w__law_power {P : Program} {w : World} {K : PySem.W.Frag} {mg : Str → Option Value} {base : Heap} {k : Nat} (hk : 1 ≤ k) (B : Blt mg) :
    Wk P w K mg base N__law_power "_law_power" (top 31) k b__law_power ([2] ++ (([3] ++ [2]) ++ [])) := fun f nd cdv A outer s H E hg hr =>
    (jb_cons (js_set 2 je_int)
    (jb_cons (js_for (ji_range1 (ja_cons (jp_v 1) ja_nil) B.range_) (jg_name 3) (jb_one (js_set 2 (je_mul (jp_v 2) (jp_v 0)))) pw_fn)
    (jb_one (js_ret (je_tk 2)))))
theorem sc__law_like : FnScope N__law_like ["told", "due"] (defScope (top 32)) := ⟨rfl, rfl, rfl, by decide +kernel, rfl, by decide +kernel, by decide +kernel⟩
theorem w__law_like {P : Program} {w : World} {K : PySem.W.Frag} {mg : Str → Option Value} {base : Heap} {k : Nat} {self : MF} (hk : 1 ≤ k) (B : Blt mg) (ar_self : Ar 2 self) (c__law_like : Cl P w K mg base "_law_like" 2 k self) :
    Wk P w K mg base N__law_like "_law_like" (top 32) k (b__law_like self) (((([] ++ []) ++ []) ++ []) ++ (([] ++ []) ++ (([] ++ []) ++ []))) := fun f nd cdv A outer s H E hg hr =>
    (jb_cons (js_if (jt_val (je_isi (p3 := ⟨0, 0, 0, 0⟩) (jp_v 1) B.isinstance_ B.tuple_ (by decide +kernel))) (jb_cons (js_if (jw_pt (jw_or (jt_not (jt_val (je_isi (p3 := ⟨0, 0, 0, 0⟩) (jp_v 0) B.isinstance_ B.tuple_ (by decide +kernel)))) (jw_or1 (jt_ne (jp_e (je_len (ja_cons (jp_v 0) ja_nil) B.len_)) (jp_e (je_len (ja_cons (jp_v 1) ja_nil) B.len_)))))) (jb_one (js_ret je_bl)) jb_nil)
    (jb_one (js_ret (je_all (ja_cons (jp_e (je_lc (own := o0__law_like) (ji_zip (ja_cons (jp_v 0) (ja_cons (jp_v 1) ja_nil)) B.zip_) (fun _ => blkOk_by (by kernel_rfl)) (jg_tup (jgs_cons (jg_name 2) (jgs_cons (jg_name 3) jgs_nil))) jts_nil (je_call c__law_like (Nat.le_refl _) ar_self (ja_cons (jp_v 2) (ja_cons (jp_v 3) ja_nil))) (by decide))) ja_nil) B.all_)))) jb_nil)
    (jb_cons (js_if (jt_is (jp_v 1) (jp_e je_non)) (jb_one (js_ret (je_is (jp_v 0) (jp_e je_non)))) jb_nil)
    (jb_cons (js_if (jw_pt (jw_or (jt_ne (jp_e (je_isi (p3 := ⟨0, 0, 0, 0⟩) (jp_v 0) B.isinstance_ B.int_ (by decide +kernel))) (jp_e (je_isi (p3 := ⟨0, 0, 0, 0⟩) (jp_v 1) B.isinstance_ B.int_ (by decide +kernel)))) (jw_or1 (jt_ne (jp_e (je_isi (p3 := ⟨0, 0, 0, 0⟩) (jp_v 0) B.isinstance_ B.bool_ (by decide +kernel))) (jp_e (je_isi (p3 := ⟨0, 0, 0, 0⟩) (jp_v 1) B.isinstance_ B.bool_ (by decide +kernel))))))) (jb_one (js_ret je_bl)) jb_nil)
    (jb_one (js_ret (je_and (je_eq (jp_e (je_isi (p3 := ⟨0, 0, 0, 0⟩) (jp_v 0) B.isinstance_ B.str_ (by decide +kernel))) (jp_e (je_isi (p3 := ⟨0, 0, 0, 0⟩) (jp_v 1) B.isinstance_ B.str_ (by decide +kernel)))) (je_one (je_eq (jp_v 0) (jp_v 1)))))))))
theorem sc__law_value : FnScope N__law_value ["algebra", "pattern", "given"] (defScope (top 33)) := ⟨rfl, rfl, rfl, by decide +kernel, rfl, by decide +kernel, by decide +kernel⟩
theorem w__law_value {P : Program} {w : World} {K : PySem.W.Frag} {mg : Str → Option Value} {base : Heap} {k : Nat} {self : MF} (hk : 1 ≤ k) (B : Blt mg) (ar_self : Ar 3 self) (c__law_value : Cl P w K mg base "_law_value" 3 k self) :
    Wk P w K mg base N__law_value "_law_value" (top 33) k (b__law_value self) (([] ++ []) ++ ([3] ++ (([4] ++ [3]) ++ []))) := fun f nd cdv A outer s H E hg hr =>
    (jb_cons (js_if (jt_val (je_isi (p3 := ⟨0, 0, 0, 0⟩) (jp_v 1) B.isinstance_ B.int_ (by decide +kernel))) (jb_one (js_ret (je_ix (jp_v 2) (jp_v 1)))) jb_nil)
    (jb_cons (js_set 3 je_int)
    (jb_cons (js_for (ji_seq (jp_e (je_sl (jp_v 1) (jo_s je_int) jo_n))) (jg_name 4) (jb_one (js_set 3 (je_add (jp_e (je_mul (jp_v 3) (jp_e (je_ix (jp_v 0) (jp_e je_int))))) (jp_e (je_call c__law_value (Nat.le_refl _) ar_self (ja_cons (jp_v 0) (ja_cons (jp_v 4) (ja_cons (jp_v 2) ja_nil)))))))) pw_fn)
    (jb_one (js_ret (je_ix (jp_e (je_ix (jp_e (je_ix (jp_v 0) (jp_e je_int))) (jp_e (je_ix (jp_v 1) (jp_e je_int))))) (jp_v 3)))))))
theorem sc__law_many : FnScope N__law_many ["pattern"] (defScope (top 34)) := ⟨rfl, rfl, rfl, by decide +kernel, rfl, by decide +kernel, by decide +kernel⟩
theorem w__law_many {P : Program} {w : World} {K : PySem.W.Frag} {mg : Str → Option Value} {base : Heap} {k : Nat} (hk : 1 ≤ k) (B : Blt mg) :
    Wk P w K mg base N__law_many "_law_many" (top 34) k b__law_many ([1, 2] ++ (([3] ++ ([1] ++ ([] ++ []))) ++ [])) := fun f nd cdv A outer s H E hg hr =>
    (jb_cons (js_par 1 2 (ja_cons (jp_e je_int) (ja_cons (jp_e (je_lst (ja_cons (jp_v 0) ja_nil))) ja_nil)))
    (jb_cons (js_while (jt_ne (jp_v 2) (jp_e (je_lst ja_nil))) (jb_cons (js_set 3 (je_pop 2))
    (jb_cons (js_set 1 (je_add (jp_v 1) (jp_e je_int)))
    (jb_one (js_if (jt_val (je_isi (p3 := ⟨0, 0, 0, 0⟩) (jp_v 3) B.isinstance_ B.tuple_ (by decide +kernel))) (jb_one (js_expr (je_extend 2 (ja_cons (jp_e (je_sl (jp_v 3) (jo_s je_int) jo_n)) ja_nil)))) jb_nil)))) pw_fn)
    (jb_one (js_ret (je_tk 1)))))
theorem sc__law_items : FnScope N__law_items ["signature", "many"] (defScope (top 35)) := ⟨rfl, rfl, rfl, by decide +kernel, rfl, by decide +kernel, by decide +kernel⟩
theorem w__law_items {P : Program} {w : World} {K : PySem.W.Frag} {mg : Str → Option Value} {base : Heap} {k : Nat} (hk : 2 ≤ k) (B : Blt mg) (c__law_power : Cl P w K mg base "_law_power" 2 2 m__law_power) :
    Wk P w K mg base N__law_items "_law_items" (top 35) k b__law_items ([2] ++ (([3] ++ [2]) ++ [])) := fun f nd cdv A outer s H E hg hr =>
    (jb_cons (js_set 2 je_int)
    (jb_cons (js_for (ji_seq (jp_v 0)) (jg_name 3) (jb_one (js_set 2 (je_add (jp_v 2) (jp_e (je_call c__law_power (Nat.le_trans (show 2 ≤ 2 by decide) hk) ar__law_power (ja_cons (jp_v 1) (ja_cons (jp_v 3) ja_nil))))))) pw_fn)
    (jb_one (js_ret (je_tk 2)))))
theorem sc__law_pattern : FnScope N__law_pattern ["bag", "signature", "names", "room"] (defScope (top 36)) := ⟨rfl, rfl, rfl, by decide +kernel, rfl, by decide +kernel, by decide +kernel⟩
theorem w__law_pattern {P : Program} {w : World} {K : PySem.W.Frag} {mg : Str → Option Value} {base : Heap} {k : Nat} {self : MF} (hk : 3 ≤ k) (B : Blt mg) (c__law_draw : Cl P w K mg base "_law_draw" 2 2 m__law_draw) (c__law_many : Cl P w K mg base "_law_many" 1 2 m__law_many) (ar_self : Ar 4 self) (c__law_pattern : Cl P w K mg base "_law_pattern" 4 k self) (c__law_pick : Cl P w K mg base "_law_pick" 2 3 m__law_pick) :
    Wk P w K mg base N__law_pattern "_law_pattern" (top 36) k (b__law_pattern self) (([] ++ []) ++ ([4] ++ ((([7] ++ [4]) ++ []) ++ ([5, 8] ++ ([9] ++ (([10] ++ ([11] ++ ([9] ++ []))) ++ [])))))) := fun f nd cdv A outer s H E hg hr =>
    (jb_cons (js_if (jw_pt (jw_and (jt_ne (jp_v 2) (jp_e (je_lst ja_nil))) (jw_and1 (jw_pt (jw_or (jt_eq (jp_v 3) (jp_e je_int)) (jw_or1 (jt_eq (jp_e (je_call c__law_draw (Nat.le_trans (show 2 ≤ 3 by decide) hk) ar__law_draw (ja_cons (jp_v 0) (ja_cons (jp_e je_int) ja_nil)))) (jp_e je_int)))))))) (jb_one (js_ret (je_call c__law_pick (Nat.le_trans (show 3 ≤ 3 by decide) hk) ar__law_pick (ja_cons (jp_v 0) (ja_cons (jp_v 2) ja_nil))))) jb_nil)
    (jb_cons (js_setLc (own := o0__law_pattern) 4 (ji_en (ja_cons (jp_v 1) ja_nil) B.enumerate_) (fun _ => blkOk_by (by kernel_rfl)) (jg_tup (jgs_cons (jg_name 5) (jgs_cons (jg_name 6) jgs_nil))) (jts_one (jt_lt (jp_v 6) (jp_v 3))) (je_tk 5) (by decide))
    (jb_cons (js_if (jw_pt (jw_and (jt_gt (jp_v 3) (jp_e je_int)) (jw_and1 (jt_gt (jp_e (je_call c__law_draw (Nat.le_trans (show 2 ≤ 3 by decide) hk) ar__law_draw (ja_cons (jp_v 0) (ja_cons (jp_e je_int) ja_nil)))) (jp_e je_int))))) (jb_cons (js_setLc (own := o1__law_pattern) 7 (ji_seq (jp_v 4)) (fun _ => blkOk_by (by kernel_rfl)) (jg_name 5) (jts_one (jt_gt (jp_e (je_ix (jp_v 1) (jp_v 5))) (jp_e je_int))) (je_tk 5) (by decide))
    (jb_one (js_set 4 (je_ifE (jt_ne (jp_v 7) (jp_e (je_lst ja_nil))) (je_tk 7) (je_tk 4))))) jb_nil)
    (jb_cons (js_par 5 8 (ja_cons (jp_e (je_call c__law_pick (Nat.le_trans (show 3 ≤ 3 by decide) hk) ar__law_pick (ja_cons (jp_v 0) (ja_cons (jp_v 4) ja_nil)))) (ja_cons (jp_e (je_lst ja_nil)) ja_nil)))
    (jb_cons (js_set 9 (je_sub (jp_v 3) (jp_e je_int)))
    (jb_cons (js_for (ji_range1 (ja_cons (jp_e (je_ix (jp_v 1) (jp_v 5))) ja_nil) B.range_) (jg_name 10) (jb_cons (js_set 11 (je_call c__law_pattern (Nat.le_refl _) ar_self (ja_cons (jp_v 0) (ja_cons (jp_v 1) (ja_cons (jp_v 2) (ja_cons (jp_e (je_sub (jp_v 9) (jp_e (je_sub (jp_e (je_sub (jp_e (je_ix (jp_v 1) (jp_v 5))) (jp_v 10))) (jp_e je_int))))) ja_nil))))))
    (jb_cons (js_set 9 (je_sub (jp_v 9) (jp_e (je_call c__law_many (Nat.le_trans (show 2 ≤ 3 by decide) hk) ar__law_many (ja_cons (jp_v 11) ja_nil)))))
    (jb_one (js_expr (je_append (name := "append") 8 (ja_cons (jp_v 11) ja_nil)))))) pw_fn)
    (jb_one (js_ret (je_add (jp_e (je_tup (ja_cons (jp_v 5) ja_nil))) (jp_e (je_tuple (ja_cons (jp_v 8) ja_nil) B.tuple_)))))))))))
theorem sc__law_called : FnScope N__law_called ["pattern", "names"] (defScope (top 37)) := ⟨rfl, rfl, rfl, by decide +kernel, rfl, by decide +kernel, by decide +kernel⟩
theorem w__law_called {P : Program} {w : World} {K : PySem.W.Frag} {mg : Str → Option Value} {base : Heap} {k : Nat} {self : MF} (hk : 1 ≤ k) (B : Blt mg) (ar_self : Ar 2 self) (c__law_called : Cl P w K mg base "_law_called" 2 k self) :
    Wk P w K mg base N__law_called "_law_called" (top 37) k (b__law_called self) (([] ++ []) ++ []) := fun f nd cdv A outer s H E hg hr =>
    (jb_cons (js_if (jt_val (je_isi (p3 := ⟨0, 0, 0, 0⟩) (jp_v 0) B.isinstance_ B.int_ (by decide +kernel))) (jb_one (js_ret (je_ixD 1 (je_tk 0)))) jb_nil)
    (jb_one (js_ret (je_add (jp_e (je_sl (jp_v 0) jo_n (jo_s je_int))) (jp_e (je_tuple (ja_cons (jp_e (je_lc (own := o0__law_called) (ji_seq (jp_e (je_sl (jp_v 0) (jo_s je_int) jo_n))) (fun _ => blkOk_by (by kernel_rfl)) (jg_name 2) jts_nil (je_call c__law_called (Nat.le_refl _) ar_self (ja_cons (jp_v 2) (ja_cons (jp_v 1) ja_nil))) (by decide))) ja_nil) B.tuple_))))))
theorem sc__law_variables : FnScope N__law_variables ["pattern"] (defScope (top 38)) := ⟨rfl, rfl, rfl, by decide +kernel, rfl, by decide +kernel, by decide +kernel⟩
theorem w__law_variables {P : Program} {w : World} {K : PySem.W.Frag} {mg : Str → Option Value} {base : Heap} {k : Nat} (hk : 1 ≤ k) (B : Blt mg) :
    Wk P w K mg base N__law_variables "_law_variables" (top 38) k b__law_variables ([1, 2] ++ (([3] ++ ([] ++ ([] ++ []))) ++ [])) := fun f nd cdv A outer s H E hg hr =>
    (jb_cons (js_par 1 2 (ja_cons (jp_e (je_lst ja_nil)) (ja_cons (jp_e (je_lst (ja_cons (jp_v 0) ja_nil))) ja_nil)))
    (jb_cons (js_while (jt_ne (jp_v 2) (jp_e (je_lst ja_nil))) (jb_cons (js_set 3 (je_pop 2))
    (jb_one (js_if (jt_val (je_isi (p3 := ⟨0, 0, 0, 0⟩) (jp_v 3) B.isinstance_ B.tuple_ (by decide +kernel))) (jb_one (js_expr (je_extend 2 (ja_cons (jp_e (je_sl (jp_v 3) (jo_s je_int) jo_n)) ja_nil)))) (jb_one (js_if (jt_notIn (jp_v 3) (jp_v 1)) (jb_one (js_expr (je_append (name := "append") 1 (ja_cons (jp_v 3) ja_nil)))) jb_nil))))) pw_fn)
    (jb_one (js_ret (je_tk 1)))))
theorem sc__law_rule : FnScope N__law_rule ["bag", "signature", "most", "room"] (defScope (top 39)) := ⟨rfl, rfl, rfl, by decide +kernel, rfl, by decide +kernel, by decide +kernel⟩
theorem w__law_rule {P : Program} {w : World} {K : PySem.W.Frag} {mg : Str → Option Value} {base : Heap} {k : Nat} (hk : 16 ≤ k) (B : Blt mg) (c__law_called : Cl P w K mg base "_law_called" 2 14 (m__law_called 12)) (c__law_pattern : Cl P w K mg base "_law_pattern" 4 16 (m__law_pattern 12)) (c__law_pick : Cl P w K mg base "_law_pick" 2 3 m__law_pick) (c__law_variables : Cl P w K mg base "_law_variables" 1 2 m__law_variables) :
    Wk P w K mg base N__law_rule "_law_rule" (top 39) k b__law_rule ([4] ++ ([5] ++ ([6] ++ ((([7] ++ ([8] ++ [])) ++ []) ++ ([4, 9, 10] ++ (([7] ++ []) ++ [])))))) := fun f nd cdv A outer s H E hg hr =>
    (jb_cons (js_set 4 (je_call c__law_pattern (Nat.le_trans (show 16 ≤ 16 by decide) hk) (ar__law_pattern _) (ja_cons (jp_v 0) (ja_cons (jp_v 1) (ja_cons (jp_e (je_lrange (jp_v 2) B.list_ B.range_)) (ja_cons (jp_v 3) ja_nil))))))
    (jb_cons (js_set 5 (je_call c__law_variables (Nat.le_trans (show 2 ≤ 16 by decide) hk) ar__law_variables (ja_cons (jp_v 4) ja_nil)))
    (jb_cons (js_set 6 je_dnew)
    (jb_cons (js_for (ji_en (ja_cons (jp_v 5) ja_nil) B.enumerate_) (jg_tup (jgs_cons (jg_name 7) (jgs_cons (jg_name 8) jgs_nil))) (jb_one (js_setD 6 (je_tk 7) (je_tk 8))) pw_fn)
    (jb_cons (js_par3 4 9 10 (ja_cons (jp_e (je_call c__law_called (Nat.le_trans (show 14 ≤ 16 by decide) hk) (ar__law_called _) (ja_cons (jp_v 4) (ja_cons (jp_v 6) ja_nil)))) (ja_cons (jp_e (je_lrange (jp_e (je_len (ja_cons (jp_v 5) ja_nil) B.len_)) B.list_ B.range_)) (ja_cons (jp_e (je_lst ja_nil)) ja_nil))))
    (jb_cons (js_for (ji_range1 (ja_cons (jp_e (je_call c__law_pick (Nat.le_trans (show 3 ≤ 16 by decide) hk) ar__law_pick (ja_cons (jp_v 0) (ja_cons (jp_e (je_lst (ja_cons (jp_e je_int) (ja_cons (jp_e je_int) (ja_cons (jp_e je_int) (ja_cons (jp_e je_int) ja_nil)))))) ja_nil)))) ja_nil) B.range_) (jg_name 7) (jb_one (js_expr (je_append (name := "append") 10 (ja_cons (jp_e (je_tup (ja_cons (jp_e (je_call c__law_pattern (Nat.le_trans (show 16 ≤ 16 by decide) hk) (ar__law_pattern _) (ja_cons (jp_v 0) (ja_cons (jp_v 1) (ja_cons (jp_v 9) (ja_cons (jp_e je_int) ja_nil)))))) (ja_cons (jp_e (je_call c__law_pattern (Nat.le_trans (show 16 ≤ 16 by decide) hk) (ar__law_pattern _) (ja_cons (jp_v 0) (ja_cons (jp_v 1) (ja_cons (jp_v 9) (ja_cons (jp_e je_int) ja_nil)))))) ja_nil)))) ja_nil)))) pw_fn)
    (jb_one (js_ret (je_tup (ja_cons (jp_v 4) (ja_cons (jp_e (je_call c__law_pattern (Nat.le_trans (show 16 ≤ 16 by decide) hk) (ar__law_pattern _) (ja_cons (jp_v 0) (ja_cons (jp_v 1) (ja_cons (jp_v 9) (ja_cons (jp_v 3) ja_nil)))))) (ja_cons (jp_e (je_tuple (ja_cons (jp_v 10) ja_nil) B.tuple_)) ja_nil))))))))))))
theorem sc__law_width : FnScope N__law_width ["rule"] (defScope (top 40)) := ⟨rfl, rfl, rfl, by decide +kernel, rfl, by decide +kernel, by decide +kernel⟩
theorem w__law_width {P : Program} {w : World} {K : PySem.W.Frag} {mg : Str → Option Value} {base : Heap} {k : Nat} (hk : 2 ≤ k) (B : Blt mg) (c__law_many : Cl P w K mg base "_law_many" 1 2 m__law_many) :
    Wk P w K mg base N__law_width "_law_width" (top 40) k b__law_width ([1] ++ ((([2] ++ ([3] ++ [])) ++ [1]) ++ [])) := fun f nd cdv A outer s H E hg hr =>
    (jb_cons (js_set 1 (je_add (jp_e (je_call c__law_many (Nat.le_trans (show 2 ≤ 2 by decide) hk) ar__law_many (ja_cons (jp_e (je_ix (jp_v 0) (jp_e je_int))) ja_nil))) (jp_e (je_call c__law_many (Nat.le_trans (show 2 ≤ 2 by decide) hk) ar__law_many (ja_cons (jp_e (je_ix (jp_v 0) (jp_e je_int))) ja_nil)))))
    (jb_cons (js_for (ji_seq (jp_e (je_ix (jp_v 0) (jp_e je_int)))) (jg_tup (jgs_cons (jg_name 2) (jgs_cons (jg_name 3) jgs_nil))) (jb_one (js_set 1 (je_add (jp_e (je_add (jp_v 1) (jp_e (je_call c__law_many (Nat.le_trans (show 2 ≤ 2 by decide) hk) ar__law_many (ja_cons (jp_v 2) ja_nil))))) (jp_e (je_call c__law_many (Nat.le_trans (show 2 ≤ 2 by decide) hk) ar__law_many (ja_cons (jp_v 3) ja_nil)))))) pw_fn)
    (jb_one (js_ret (je_tk 1)))))
theorem sc__law_given : FnScope N__law_given ["number", "many", "at"] (defScope (top 41)) := ⟨rfl, rfl, rfl, by decide +kernel, rfl, by decide +kernel, by decide +kernel⟩
theorem w__law_given {P : Program} {w : World} {K : PySem.W.Frag} {mg : Str → Option Value} {base : Heap} {k : Nat} (hk : 1 ≤ k) (B : Blt mg) :
    Wk P w K mg base N__law_given "_law_given" (top 41) k b__law_given ([3] ++ (([4] ++ ([3] ++ [2])) ++ [])) := fun f nd cdv A outer s H E hg hr =>
    (jb_cons (js_set 3 (je_tup ja_nil))
    (jb_cons (js_for (ji_range1 (ja_cons (jp_v 1) ja_nil) B.range_) (jg_name 4) (jb_cons (js_set 3 (je_add (jp_e (je_tup (ja_cons (jp_e (je_mod (jp_e (je_intc (ja_cons (jp_v 2) ja_nil) B.int_)) (jp_v 0))) ja_nil))) (jp_v 3)))
    (jb_one (js_set 2 (je_div (jp_v 2) (jp_v 0))))) pw_fn)
    (jb_one (js_ret (je_tk 3)))))
theorem sc__law_is_kept : FnScope N__law_is_kept ["algebra", "rule", "given"] (defScope (top 42)) := ⟨rfl, rfl, rfl, by decide +kernel, rfl, by decide +kernel, by decide +kernel⟩
theorem w__law_is_kept {P : Program} {w : World} {K : PySem.W.Frag} {mg : Str → Option Value} {base : Heap} {k : Nat} (hk : 14 ≤ k) (B : Blt mg) (c__law_value : Cl P w K mg base "_law_value" 3 14 (m__law_value 12)) :
    Wk P w K mg base N__law_is_kept "_law_is_kept" (top 42) k b__law_is_kept ((([3] ++ ([4] ++ [])) ++ ([] ++ [])) ++ []) := fun f nd cdv A outer s H E hg hr =>
    (jb_cons (js_for (ji_seq (jp_e (je_ix (jp_v 1) (jp_e je_int)))) (jg_tup (jgs_cons (jg_name 3) (jgs_cons (jg_name 4) jgs_nil))) (jb_one (js_if (jt_ne (jp_e (je_call c__law_value (Nat.le_trans (show 14 ≤ 14 by decide) hk) (ar__law_value _) (ja_cons (jp_v 0) (ja_cons (jp_v 3) (ja_cons (jp_v 2) ja_nil))))) (jp_e (je_call c__law_value (Nat.le_trans (show 14 ≤ 14 by decide) hk) (ar__law_value _) (ja_cons (jp_v 0) (ja_cons (jp_v 4) (ja_cons (jp_v 2) ja_nil)))))) (jb_one (js_ret je_bl)) jb_nil)) pw_fn)
    (jb_one (js_ret (je_eq (jp_e (je_call c__law_value (Nat.le_trans (show 14 ≤ 14 by decide) hk) (ar__law_value _) (ja_cons (jp_v 0) (ja_cons (jp_e (je_ix (jp_v 1) (jp_e je_int))) (ja_cons (jp_v 2) ja_nil))))) (jp_e (je_call c__law_value (Nat.le_trans (show 14 ≤ 14 by decide) hk) (ar__law_value _) (ja_cons (jp_v 0) (ja_cons (jp_e (je_ix (jp_v 1) (jp_e je_int))) (ja_cons (jp_v 2) ja_nil)))))))))
theorem sc__law_broken : FnScope N__law_broken ["algebra", "rule"] (defScope (top 43)) := ⟨rfl, rfl, rfl, by decide +kernel, rfl, by decide +kernel, by decide +kernel⟩
theorem w__law_broken {P : Program} {w : World} {K : PySem.W.Frag} {mg : Str → Option Value} {base : Heap} {k : Nat} (hk : 15 ≤ k) (B : Blt mg) (c__law_given : Cl P w K mg base "_law_given" 3 2 m__law_given) (c__law_is_kept : Cl P w K mg base "_law_is_kept" 3 15 m__law_is_kept) (c__law_power : Cl P w K mg base "_law_power" 2 2 m__law_power) (c__law_variables : Cl P w K mg base "_law_variables" 1 2 m__law_variables) :
    Wk P w K mg base N__law_broken "_law_broken" (top 43) k b__law_broken ([2] ++ (([3] ++ ([4] ++ ([] ++ []))) ++ [])) := fun f nd cdv A outer s H E hg hr =>
    (jb_cons (js_set 2 (je_len (ja_cons (jp_e (je_call c__law_variables (Nat.le_trans (show 2 ≤ 15 by decide) hk) ar__law_variables (ja_cons (jp_e (je_ix (jp_v 1) (jp_e je_int))) ja_nil))) ja_nil) B.len_))
    (jb_cons (js_for (ji_range1 (ja_cons (jp_e (je_call c__law_power (Nat.le_trans (show 2 ≤ 15 by decide) hk) ar__law_power (ja_cons (jp_e (je_ix (jp_v 0) (jp_e je_int))) (ja_cons (jp_v 2) ja_nil)))) ja_nil) B.range_) (jg_name 3) (jb_cons (js_set 4 (je_call c__law_given (Nat.le_trans (show 2 ≤ 15 by decide) hk) ar__law_given (ja_cons (jp_e (je_ix (jp_v 0) (jp_e je_int))) (ja_cons (jp_v 2) (ja_cons (jp_v 3) ja_nil)))))
    (jb_one (js_if (jt_not (jt_val (je_call c__law_is_kept (Nat.le_trans (show 15 ≤ 15 by decide) hk) ar__law_is_kept (ja_cons (jp_v 0) (ja_cons (jp_v 1) (ja_cons (jp_v 4) ja_nil)))))) (jb_one (js_ret (je_tk 4))) jb_nil))) pw_fn)
    (jb_one (js_ret je_non))))
theorem sc__law_spots : FnScope N__law_spots ["number", "one", "times", "arity"] (defScope (top 44)) := ⟨rfl, rfl, rfl, by decide +kernel, rfl, by decide +kernel, by decide +kernel⟩
theorem w__law_spots {P : Program} {w : World} {K : PySem.W.Frag} {mg : Str → Option Value} {base : Heap} {k : Nat} (hk : 1 ≤ k) (B : Blt mg) :
    Wk P w K mg base N__law_spots "_law_spots" (top 44) k b__law_spots ([4] ++ (([5] ++ ([6] ++ (([7] ++ ([] ++ [])) ++ [4]))) ++ [])) := fun f nd cdv A outer s H E hg hr =>
    (jb_cons (js_set 4 (je_lst (ja_cons (jp_e je_int) ja_nil)))
    (jb_cons (js_for (ji_range1 (ja_cons (jp_v 3) ja_nil) B.range_) (jg_name 5) (jb_cons (js_set 6 (je_lst ja_nil))
    (jb_cons (js_for (ji_seq (jp_v 4)) (jg_name 7) (jb_one (js_if (jt_eq (jp_v 2) (jp_e je_int)) (jb_one (js_expr (je_extend 6 (ja_cons (jp_e (je_lc (own := o0__law_spots) (ji_range1 (ja_cons (jp_v 0) ja_nil) B.range_) (fun _ => blkOk_by (by kernel_rfl)) (jg_name 8) jts_nil (je_add (jp_e (je_mul (jp_v 7) (jp_v 1))) (jp_e (je_div (jp_v 8) (jp_e (je_div (jp_v 0) (jp_v 1)))))) (by decide))) ja_nil)))) (jb_one (js_expr (je_extend 6 (ja_cons (jp_e (je_lc (own := o0__law_spots) (ji_range1 (ja_cons (jp_v 0) ja_nil) B.range_) (fun _ => blkOk_by (by kernel_rfl)) (jg_name 8) jts_nil (je_add (jp_e (je_mul (jp_v 7) (jp_v 1))) (jp_e (je_mod (jp_e (je_intc (ja_cons (jp_v 8) ja_nil) B.int_)) (jp_v 1)))) (by decide))) ja_nil)))))) pw_fn)
    (jb_one (js_set 4 (je_tk 6))))) pw_fn)
    (jb_one (js_ret (je_tk 4)))))
theorem sc__law_due : FnScope N__law_due ["signature", "one", "other"] (defScope (top 45)) := ⟨rfl, rfl, rfl, by decide +kernel, rfl, by decide +kernel, by decide +kernel⟩
theorem w__law_due {P : Program} {w : World} {K : PySem.W.Frag} {mg : Str → Option Value} {base : Heap} {k : Nat} (hk : 3 ≤ k) (B : Blt mg) (c__law_items : Cl P w K mg base "_law_items" 2 3 m__law_items) (c__law_spots : Cl P w K mg base "_law_spots" 4 2 m__law_spots) :
    Wk P w K mg base N__law_due "_law_due" (top 45) k b__law_due (([3] ++ ([4] ++ [])) ++ (([] ++ []) ++ (([] ++ []) ++ ([5] ++ ((([6] ++ ([7] ++ [])) ++ ([8, 9] ++ (([10] ++ ([11] ++ [])) ++ []))) ++ []))))) := fun f nd cdv A outer s H E hg hr =>
    (jb_cons (js_asg (je_tup (ja_cons (jp_e (je_mul (jp_e (je_ix (jp_v 1) (jp_e je_int))) (jp_e (je_ix (jp_v 2) (jp_e je_int))))) (ja_cons (jp_e (je_ix (jp_v 2) (jp_e je_int))) ja_nil))) (jg_tup (jgs_cons (jg_name 3) (jgs_cons (jg_name 4) jgs_nil))))
    (jb_cons (js_if (jt_gt (jp_v 3) (jp_e je_int)) (jb_one (js_ret (je_lst (ja_cons (jp_e je_int) ja_nil)))) jb_nil)
    (jb_cons (js_if (jt_gt (jp_e (je_call c__law_items (Nat.le_trans (show 3 ≤ 3 by decide) hk) ar__law_items (ja_cons (jp_v 0) (ja_cons (jp_v 3) ja_nil)))) (jp_e je_int)) (jb_one (js_ret (je_lst (ja_cons (jp_e je_int) ja_nil)))) jb_nil)
    (jb_cons (js_set 5 (je_lst ja_nil))
    (jb_cons (js_for (ji_en (ja_cons (jp_v 0) ja_nil) B.enumerate_) (jg_tup (jgs_cons (jg_name 6) (jgs_cons (jg_name 7) jgs_nil))) (jb_cons (js_par 8 9 (ja_cons (jp_e (je_call c__law_spots (Nat.le_trans (show 2 ≤ 3 by decide) hk) ar__law_spots (ja_cons (jp_v 3) (ja_cons (jp_e (je_ix (jp_v 1) (jp_e je_int))) (ja_cons (jp_e je_int) (ja_cons (jp_v 7) ja_nil)))))) (ja_cons (jp_e (je_call c__law_spots (Nat.le_trans (show 2 ≤ 3 by decide) hk) ar__law_spots (ja_cons (jp_v 3) (ja_cons (jp_v 4) (ja_cons (jp_e je_int) (ja_cons (jp_v 7) ja_nil)))))) ja_nil)))
    (jb_cons (js_asg (je_tup (ja_cons (jp_e (je_ix (jp_e (je_ix (jp_v 1) (jp_e je_int))) (jp_v 6))) (ja_cons (jp_e (je_ix (jp_e (je_ix (jp_v 2) (jp_e je_int))) (jp_v 6))) ja_nil))) (jg_tup (jgs_cons (jg_name 10) (jgs_cons (jg_name 11) jgs_nil))))
    (jb_one (js_expr (je_append (name := "append") 5 (ja_cons (jp_e (je_tuple (ja_cons (jp_e (je_lc (own := o0__law_due) (ji_zip (ja_cons (jp_v 8) (ja_cons (jp_v 9) ja_nil)) B.zip_) (fun _ => blkOk_by (by kernel_rfl)) (jg_tup (jgs_cons (jg_name 12) (jgs_cons (jg_name 13) jgs_nil))) jts_nil (je_add (jp_e (je_mul (jp_e (je_ix (jp_v 10) (jp_v 12))) (jp_v 4))) (jp_e (je_ix (jp_v 11) (jp_v 13)))) (by decide))) ja_nil) B.tuple_)) ja_nil)))))) pw_fn)
    (jb_one (js_ret (je_tup (ja_cons (jp_v 3) (ja_cons (jp_e (je_tuple (ja_cons (jp_v 5) ja_nil) B.tuple_)) ja_nil))))))))))
theorem sc__law_told : FnScope N__law_told ["signature", "one", "other", "is_named"] (defScope (top 46)) := ⟨rfl, rfl, rfl, by decide +kernel, rfl, by decide +kernel, by decide +kernel⟩
theorem w__law_told {P : Program} {w : World} {K : PySem.W.Frag} {mg : Str → Option Value} {base : Heap} {k : Nat} (hk : 4 ≤ k) (B : Blt mg) (d_product : ClX P w K mg base "product" 3 4 x_product) (k_product : ClK3 P w K mg base "product" 4 "other" "one" "signature" x_product) {C : Addr} (t_gC : mg "TooMany" = some (.ref C)) (t_te : PySem.W.exmOne K (.ref C) (.ref C) = some true) (t_all : Told K mg "TooMany" C) :
    Wk P w K mg base N__law_told "_law_told" (top 46) k b__law_told ([] ++ [4]) := fun f nd cdv A outer s H E hg hr =>
    (jb_one (js_try 4 t_gC t_te tk_fn (fun Wx => have tkE := fun j => j.2.2.1; jb_one (js_retX (jx_ifE (jt_val (je_tk 3)) (jx_callK k_product (Nat.le_trans (show 4 ≤ 4 by decide) hk) arX_product tkE (jk_cons (jp_v 2) (jk_cons (jp_v 1) (jk_cons (jp_v 0) jk_nil)))) (jx_call d_product (Nat.le_trans (show 4 ≤ 4 by decide) hk) arX_product tkE (ja_cons (jp_v 0) (ja_cons (jp_v 1) (ja_cons (jp_v 2) ja_nil))))))) (t_all.su t_gC B.isinstance_)))
theorem sc__law_is_product_right : FnScope N__law_is_product_right ["signature", "one", "other", "is_named"] (defScope (top 47)) := ⟨rfl, rfl, rfl, by decide +kernel, rfl, by decide +kernel, by decide +kernel⟩
theorem w__law_is_product_right {P : Program} {w : World} {K : PySem.W.Frag} {mg : Str → Option Value} {base : Heap} {k : Nat} (hk : 8 ≤ k) (B : Blt mg) (c__law_due : Cl P w K mg base "_law_due" 3 4 m__law_due) (c__law_like : Cl P w K mg base "_law_like" 2 8 (m__law_like 6)) (c__law_told : Cl P w K mg base "_law_told" 4 5 m__law_told) :
    Wk P w K mg base N__law_is_product_right "_law_is_product_right" (top 47) k b__law_is_product_right ([4, 5] ++ ([6] ++ (([] ++ []) ++ (([] ++ []) ++ [])))) := fun f nd cdv A outer s H E hg hr =>
    (jb_cons (js_par 4 5 (ja_cons (jp_e (je_call c__law_due (Nat.le_trans (show 4 ≤ 8 by decide) hk) ar__law_due (ja_cons (jp_v 0) (ja_cons (jp_v 1) (ja_cons (jp_v 2) ja_nil))))) (ja_cons (jp_e (je_repr (ja_cons (jp_e (je_lst (ja_cons (jp_v 0) (ja_cons (jp_v 1) (ja_cons (jp_v 2) ja_nil))))) ja_nil) B.repr_)) ja_nil)))
    (jb_cons (js_set 6 (je_call c__law_told (Nat.le_trans (show 5 ≤ 8 by decide) hk) ar__law_told (ja_cons (jp_v 0) (ja_cons (jp_v 1) (ja_cons (jp_v 2) (ja_cons (jp_v 3) ja_nil))))))
    (jb_cons (js_if (jt_ne (jp_e (je_repr (ja_cons (jp_e (je_lst (ja_cons (jp_v 0) (ja_cons (jp_v 1) (ja_cons (jp_v 2) ja_nil))))) ja_nil) B.repr_)) (jp_v 5)) (jb_one (js_ret je_bl)) jb_nil)
    (jb_cons (js_if (jt_val (je_isi (p3 := ⟨0, 0, 0, 0⟩) (jp_v 4) B.isinstance_ B.list_ (by decide +kernel))) (jb_one (js_ret (je_and (je_isi (p3 := ⟨0, 0, 0, 0⟩) (jp_v 6) B.isinstance_ B.list_ (by decide +kernel)) (je_one (je_eq (jp_v 6) (jp_v 4)))))) jb_nil)
    (jb_one (js_ret (je_call c__law_like (Nat.le_trans (show 8 ≤ 8 by decide) hk) (ar__law_like _) (ja_cons (jp_v 6) (ja_cons (jp_v 4) ja_nil)))))))))
theorem sc__law_signature : FnScope N__law_signature ["bag", "most"] (defScope (top 48)) := ⟨rfl, rfl, rfl, by decide +kernel, rfl, by decide +kernel, by decide +kernel⟩
theorem w__law_signature {P : Program} {w : World} {K : PySem.W.Frag} {mg : Str → Option Value} {base : Heap} {k : Nat} (hk : 2 ≤ k) (B : Blt mg) (c__law_draw : Cl P w K mg base "_law_draw" 2 2 m__law_draw) :
    Wk P w K mg base N__law_signature "_law_signature" (top 48) k b__law_signature ([2] ++ ([3] ++ ([] ++ []))) := fun f nd cdv A outer s H E hg hr =>
    (jb_cons (js_set 2 (je_add (jp_e je_int) (jp_e (je_call c__law_draw (Nat.le_trans (show 2 ≤ 2 by decide) hk) ar__law_draw (ja_cons (jp_v 0) (ja_cons (jp_e je_int) ja_nil))))))
    (jb_cons (js_setLc (own := o0__law_signature) 3 (ji_range1 (ja_cons (jp_v 2) ja_nil) B.range_) (fun _ => blkOk_by (by kernel_rfl)) (jg_name 4) jts_nil (je_call c__law_draw (Nat.le_trans (show 2 ≤ 2 by decide) hk) ar__law_draw (ja_cons (jp_v 0) (ja_cons (jp_e (je_add (jp_v 1) (jp_e je_int))) ja_nil))) (by decide))
    (jb_cons (js_setL 3 je_int (je_call c__law_draw (Nat.le_trans (show 2 ≤ 2 by decide) hk) ar__law_draw (ja_cons (jp_v 0) (ja_cons (jp_v 2) ja_nil))))
    (jb_one (js_ret (je_tuple (ja_cons (jp_v 3) ja_nil) B.tuple_))))))
theorem sc__law_algebra : FnScope N__law_algebra ["bag", "signature", "number"] (defScope (top 49)) := ⟨rfl, rfl, rfl, by decide +kernel, rfl, by decide +kernel, by decide +kernel⟩
theorem w__law_algebra {P : Program} {w : World} {K : PySem.W.Frag} {mg : Str → Option Value} {base : Heap} {k : Nat} (hk : 2 ≤ k) (B : Blt mg) (c__law_draw : Cl P w K mg base "_law_draw" 2 2 m__law_draw) (c__law_power : Cl P w K mg base "_law_power" 2 2 m__law_power) :
    Wk P w K mg base N__law_algebra "_law_algebra" (top 49) k b__law_algebra ([3, 4] ++ (([5] ++ ([6] ++ ((([6] ++ []) ++ []) ++ []))) ++ [])) := fun f nd cdv A outer s H E hg hr =>
    (jb_cons (js_par 3 4 (ja_cons (jp_e (je_lst ja_nil)) (ja_cons (jp_e (je_call c__law_draw (Nat.le_trans (show 2 ≤ 2 by decide) hk) ar__law_draw (ja_cons (jp_v 0) (ja_cons (jp_e je_int) ja_nil)))) ja_nil)))
    (jb_cons (js_for (ji_seq (jp_v 1)) (jg_name 5) (jb_cons (js_set 6 (je_lc (own := o0__law_algebra) (ji_range1 (ja_cons (jp_e (je_call c__law_power (Nat.le_trans (show 2 ≤ 2 by decide) hk) ar__law_power (ja_cons (jp_v 2) (ja_cons (jp_v 5) ja_nil)))) ja_nil) B.range_) (fun _ => blkOk_by (by kernel_rfl)) (jg_name 7) jts_nil (je_call c__law_draw (Nat.le_trans (show 2 ≤ 2 by decide) hk) ar__law_draw (ja_cons (jp_v 0) (ja_cons (jp_v 2) ja_nil))) (by decide)))
    (jb_cons (js_if (jw_pt (jw_and (jt_eq (jp_v 4) (jp_e je_int)) (jw_and1 (jt_gt (jp_v 5) (jp_e je_int))))) (jb_cons (js_set 6 (je_lc (own := o1__law_algebra) (ji_range1 (ja_cons (jp_e (je_len (ja_cons (jp_v 6) ja_nil) B.len_)) ja_nil) B.range_) (fun _ => blkOk_by (by kernel_rfl)) (jg_name 8) jts_nil (je_div (jp_e (je_mul (jp_v 8) (jp_v 2))) (jp_e (je_len (ja_cons (jp_v 6) ja_nil) B.len_))) (by decide)))
    (jb_one (js_setL 6 (je_call c__law_draw (Nat.le_trans (show 2 ≤ 2 by decide) hk) ar__law_draw (ja_cons (jp_v 0) (ja_cons (jp_v 2) ja_nil))) (je_call c__law_draw (Nat.le_trans (show 2 ≤ 2 by decide) hk) ar__law_draw (ja_cons (jp_v 0) (ja_cons (jp_e (je_len (ja_cons (jp_v 6) ja_nil) B.len_)) ja_nil)))))) jb_nil)
    (jb_one (js_expr (je_append (name := "append") 3 (ja_cons (jp_e (je_tuple (ja_cons (jp_v 6) ja_nil) B.tuple_)) ja_nil)))))) pw_fn)
    (jb_one (js_ret (je_tup (ja_cons (jp_v 2) (ja_cons (jp_e (je_tuple (ja_cons (jp_v 3) ja_nil) B.tuple_)) ja_nil)))))))
theorem sc__law_small : FnScope N__law_small ["bag", "signature"] (defScope (top 50)) := ⟨rfl, rfl, rfl, by decide +kernel, rfl, by decide +kernel, by decide +kernel⟩
theorem w__law_small {P : Program} {w : World} {K : PySem.W.Frag} {mg : Str → Option Value} {base : Heap} {k : Nat} (hk : 3 ≤ k) (B : Blt mg) (c__law_algebra : Cl P w K mg base "_law_algebra" 3 3 m__law_algebra) (c__law_draw : Cl P w K mg base "_law_draw" 2 2 m__law_draw) (c__law_items : Cl P w K mg base "_law_items" 2 3 m__law_items) :
    Wk P w K mg base N__law_small "_law_small" (top 50) k b__law_small ([2, 3] ++ (([2] ++ [3]) ++ [])) := fun f nd cdv A outer s H E hg hr =>
    (jb_cons (js_par 2 3 (ja_cons (jp_e (je_add (jp_e je_int) (jp_e (je_call c__law_draw (Nat.le_trans (show 2 ≤ 3 by decide) hk) ar__law_draw (ja_cons (jp_v 0) (ja_cons (jp_e je_int) ja_nil)))))) (ja_cons (jp_e (je_add (jp_e je_int) (jp_e (je_call c__law_draw (Nat.le_trans (show 2 ≤ 3 by decide) hk) ar__law_draw (ja_cons (jp_v 0) (ja_cons (jp_e je_int) ja_nil)))))) ja_nil)))
    (jb_cons (js_while (jt_gt (jp_e (je_call c__law_items (Nat.le_trans (show 3 ≤ 3 by decide) hk) ar__law_items (ja_cons (jp_v 1) (ja_cons (jp_e (je_mul (jp_v 2) (jp_v 3))) ja_nil)))) (jp_e je_int)) (jb_one (js_if (jt_gt (jp_v 2) (jp_v 3)) (jb_one (js_set 2 (je_sub (jp_v 2) (jp_e je_int)))) (jb_one (js_set 3 (je_sub (jp_v 3) (jp_e je_int)))))) pw_fn)
    (jb_one (js_ret (je_lst (ja_cons (jp_e (je_call c__law_algebra (Nat.le_trans (show 3 ≤ 3 by decide) hk) ar__law_algebra (ja_cons (jp_v 0) (ja_cons (jp_v 1) (ja_cons (jp_v 2) ja_nil))))) (ja_cons (jp_e (je_call c__law_algebra (Nat.le_trans (show 3 ≤ 3 by decide) hk) ar__law_algebra (ja_cons (jp_v 0) (ja_cons (jp_v 1) (ja_cons (jp_v 3) ja_nil))))) ja_nil)))))))
theorem sc__law_great : FnScope N__law_great ["bag", "signature", "number"] (defScope (top 51)) := ⟨rfl, rfl, rfl, by decide +kernel, rfl, by decide +kernel, by decide +kernel⟩
theorem w__law_great {P : Program} {w : World} {K : PySem.W.Frag} {mg : Str → Option Value} {base : Heap} {k : Nat} (hk : 2 ≤ k) (B : Blt mg) (c__law_draw : Cl P w K mg base "_law_draw" 2 2 m__law_draw) (c__law_power : Cl P w K mg base "_law_power" 2 2 m__law_power) :
    Wk P w K mg base N__law_great "_law_great" (top 51) k b__law_great ([3] ++ (([4] ++ (([5] ++ ([6] ++ ([7] ++ []))) ++ ([8] ++ []))) ++ [])) := fun f nd cdv A outer s H E hg hr =>
    (jb_cons (js_set 3 (je_lst ja_nil))
    (jb_cons (js_for (ji_seq (jp_v 1)) (jg_name 4) (jb_cons (js_asg (je_tup (ja_cons (jp_e (je_call c__law_draw (Nat.le_trans (show 2 ≤ 2 by decide) hk) ar__law_draw (ja_cons (jp_v 0) (ja_cons (jp_v 2) ja_nil)))) (ja_cons (jp_e (je_call c__law_draw (Nat.le_trans (show 2 ≤ 2 by decide) hk) ar__law_draw (ja_cons (jp_v 0) (ja_cons (jp_e je_int) ja_nil)))) (ja_cons (jp_e (je_call c__law_draw (Nat.le_trans (show 2 ≤ 2 by decide) hk) ar__law_draw (ja_cons (jp_v 0) (ja_cons (jp_e je_int) ja_nil)))) ja_nil)))) (jg_tup (jgs_cons (jg_name 5) (jgs_cons (jg_name 6) (jgs_cons (jg_name 7) jgs_nil)))))
    (jb_cons (js_setLc (own := o0__law_great) 8 (ji_range1 (ja_cons (jp_e (je_call c__law_power (Nat.le_trans (show 2 ≤ 2 by decide) hk) ar__law_power (ja_cons (jp_v 2) (ja_cons (jp_v 4) ja_nil)))) ja_nil) B.range_) (fun _ => blkOk_by (by kernel_rfl)) (jg_name 9) jts_nil (je_mod (jp_e (je_intc (ja_cons (jp_e (je_add (jp_e (je_add (jp_v 5) (jp_e (je_mul (jp_v 9) (jp_v 6))))) (jp_e (je_mul (jp_e (je_div (jp_v 9) (jp_v 2))) (jp_v 7))))) ja_nil) B.int_)) (jp_v 2)) (by decide))
    (jb_one (js_expr (je_append (name := "append") 3 (ja_cons (jp_e (je_tuple (ja_cons (jp_v 8) ja_nil) B.tuple_)) ja_nil)))))) pw_fn)
    (jb_one (js_ret (je_tup (ja_cons (jp_v 2) (ja_cons (jp_e (je_tuple (ja_cons (jp_v 3) ja_nil) B.tuple_)) ja_nil)))))))
theorem sc__law_any_pair : FnScope N__law_any_pair ["bag"] (defScope (top 52)) := ⟨rfl, rfl, rfl, by decide +kernel, rfl, by decide +kernel, by decide +kernel⟩
theorem w__law_any_pair {P : Program} {w : World} {K : PySem.W.Frag} {mg : Str → Option Value} {base : Heap} {k : Nat} (hk : 3 ≤ k) (B : Blt mg) (c__law_draw : Cl P w K mg base "_law_draw" 2 2 m__law_draw) (c__law_items : Cl P w K mg base "_law_items" 2 3 m__law_items) (c__law_pick : Cl P w K mg base "_law_pick" 2 3 m__law_pick) (c__law_signature : Cl P w K mg base "_law_signature" 2 3 m__law_signature) :
    Wk P w K mg base N__law_any_pair "_law_any_pair" (top 52) k b__law_any_pair ([1] ++ ([2] ++ ([2] ++ ([3] ++ [])))) := fun f nd cdv A outer s H E hg hr =>
    (jb_cons (js_set 1 (je_call c__law_signature (Nat.le_trans (show 3 ≤ 3 by decide) hk) ar__law_signature (ja_cons (jp_v 0) (ja_cons (jp_e (je_call c__law_pick (Nat.le_trans (show 3 ≤ 3 by decide) hk) ar__law_pick (ja_cons (jp_v 0) (ja_cons (jp_e (je_lst (ja_cons (jp_e je_int) (ja_cons (jp_e je_int) (ja_cons (jp_e je_int) ja_nil))))) ja_nil)))) ja_nil))))
    (jb_cons (js_set 2 je_int)
    (jb_cons (js_while (jt_gt (jp_e (je_call c__law_items (Nat.le_trans (show 3 ≤ 3 by decide) hk) ar__law_items (ja_cons (jp_v 1) (ja_cons (jp_v 2) ja_nil)))) (jp_e je_int)) (jb_one (js_set 2 (je_sub (jp_v 2) (jp_e je_int)))) pw_fn)
    (jb_cons (js_set 3 (je_add (jp_e je_int) (jp_e (je_call c__law_draw (Nat.le_trans (show 2 ≤ 3 by decide) hk) ar__law_draw (ja_cons (jp_v 0) (ja_cons (jp_e (je_min2 (ja_cons (jp_e je_int) (ja_cons (jp_v 2) ja_nil)) B.min_)) ja_nil))))))
    (jb_one (js_ret (je_tup (ja_cons (jp_v 1) (ja_cons (jp_v 3) (ja_cons (jp_e (je_max2 (ja_cons (jp_e je_int) (ja_cons (jp_e (je_min2 (ja_cons (jp_v 2) (ja_cons (jp_e (je_add (jp_e (je_div (jp_v 2) (jp_v 3))) (jp_e (je_call c__law_pick (Nat.le_trans (show 3 ≤ 3 by decide) hk) ar__law_pick (ja_cons (jp_v 0) (ja_cons (jp_e (je_lst (ja_cons (jp_e je_int) (ja_cons (jp_e je_int) (ja_cons (jp_e je_int) (ja_cons (jp_e je_int) ja_nil)))))) ja_nil)))))) ja_nil)) B.min_)) ja_nil)) B.max_)) ja_nil))))))))))
theorem sc__law_are_limits_right : FnScope N__law_are_limits_right ["bag"] (defScope (top 53)) := ⟨rfl, rfl, rfl, by decide +kernel, rfl, by decide +kernel, by decide +kernel⟩
theorem w__law_are_limits_right {P : Program} {w : World} {K : PySem.W.Frag} {mg : Str → Option Value} {base : Heap} {k : Nat} (hk : 9 ≤ k) (B : Blt mg) (c__law_any_pair : Cl P w K mg base "_law_any_pair" 1 4 m__law_any_pair) (c__law_draw : Cl P w K mg base "_law_draw" 2 2 m__law_draw) (c__law_great : Cl P w K mg base "_law_great" 3 3 m__law_great) (c__law_is_product_right : Cl P w K mg base "_law_is_product_right" 4 9 m__law_is_product_right) (c__law_pick : Cl P w K mg base "_law_pick" 2 3 m__law_pick) :
    Wk P w K mg base N__law_are_limits_right "_law_are_limits_right" (top 53) k b__law_are_limits_right ([1] ++ ([2] ++ (([3] ++ (([4] ++ ([5] ++ ([6] ++ []))) ++ ([7] ++ ([4] ++ (([5, 6] ++ []) ++ ([8, 9] ++ ([] ++ []))))))) ++ []))) := fun f nd cdv A outer s H E hg hr =>
    (jb_cons (js_set 1 (je_lst (ja_cons (jp_e (je_tup (ja_cons (jp_e (je_tup (ja_cons (jp_e je_int) (ja_cons (jp_e je_int) (ja_cons (jp_e je_int) ja_nil))))) (ja_cons (jp_e je_int) (ja_cons (jp_e je_int) ja_nil))))) (ja_cons (jp_e (je_tup (ja_cons (jp_e (je_tup (ja_cons (jp_e je_int) (ja_cons (jp_e je_int) ja_nil)))) (ja_cons (jp_e je_int) (ja_cons (jp_e je_int) ja_nil))))) (ja_cons (jp_e (je_tup (ja_cons (jp_e (je_tup (ja_cons (jp_e je_int) (ja_cons (jp_e je_int) (ja_cons (jp_e je_int) ja_nil))))) (ja_cons (jp_e je_int) (ja_cons (jp_e je_int) ja_nil))))) (ja_cons (jp_e (je_tup (ja_cons (jp_e (je_tup (ja_cons (jp_e je_int) (ja_cons (jp_e je_int) ja_nil)))) (ja_cons (jp_e je_int) (ja_cons (jp_e je_int) ja_nil))))) (ja_cons (jp_e (je_tup (ja_cons (jp_e (je_tup (ja_cons (jp_e je_int) (ja_cons (jp_e je_int) (ja_cons (jp_e je_int) ja_nil))))) (ja_cons (jp_e je_int) (ja_cons (jp_e je_int) ja_nil))))) (ja_cons (jp_e (je_tup (ja_cons (jp_e (je_tup (ja_cons (jp_e je_int) (ja_cons (jp_e je_int) (ja_cons (jp_e je_int) ja_nil))))) (ja_cons (jp_e je_int) (ja_cons (jp_e je_int) ja_nil))))) (ja_cons (jp_e (je_tup (ja_cons (jp_e (je_tup (ja_cons (jp_e je_int) (ja_cons (jp_e je_int) ja_nil)))) (ja_cons (jp_e je_int) (ja_cons (jp_e je_int) ja_nil))))) (ja_cons (jp_e (je_tup (ja_cons (jp_e (je_tup (ja_cons (jp_e je_int) (ja_cons (jp_e je_int) (ja_cons (jp_e je_int) (ja_cons (jp_e je_int) (ja_cons (jp_e je_int) (ja_cons (jp_e je_int) ja_nil)))))))) (ja_cons (jp_e je_int) (ja_cons (jp_e je_int) ja_nil))))) (ja_cons (jp_e (je_tup (ja_cons (jp_e (je_tup (ja_cons (jp_e je_int) (ja_cons (jp_e je_int) ja_nil)))) (ja_cons (jp_e je_int) (ja_cons (jp_e je_int) ja_nil))))) (ja_cons (jp_e (je_tup (ja_cons (jp_e (je_tup (ja_cons (jp_e je_int) (ja_cons (jp_e je_int) (ja_cons (jp_e je_int) (ja_cons (jp_e je_int) (ja_cons (jp_e je_int) (ja_cons (jp_e je_int) ja_nil)))))))) (ja_cons (jp_e je_int) (ja_cons (jp_e je_int) ja_nil))))) (ja_cons (jp_e (je_call c__law_any_pair (Nat.le_trans (show 4 ≤ 9 by decide) hk) ar__law_any_pair (ja_cons (jp_v 0) ja_nil))) ja_nil)))))))))))))
    (jb_cons (js_set 2 (je_lst (ja_cons (jp_e (je_tup (ja_cons (jp_e (je_tup (ja_cons (jp_e je_int) (ja_cons (jp_e je_int) ja_nil)))) (ja_cons (jp_e je_int) (ja_cons (jp_e je_int) ja_nil))))) (ja_cons (jp_e (je_tup (ja_cons (jp_e (je_tup (ja_cons (jp_e je_int) (ja_cons (jp_e je_int) (ja_cons (jp_e je_int) ja_nil))))) (ja_cons (jp_e je_int) (ja_cons (jp_e je_int) ja_nil))))) (ja_cons (jp_e (je_tup (ja_cons (jp_e (je_tup (ja_cons (jp_e je_int) (ja_cons (jp_e je_int) (ja_cons (jp_e je_int) ja_nil))))) (ja_cons (jp_e je_int) (ja_cons (jp_e je_int) ja_nil))))) (ja_cons (jp_e (je_tup (ja_cons (jp_e (je_tup (ja_cons (jp_e je_int) (ja_cons (jp_e je_int) ja_nil)))) (ja_cons (jp_e je_int) (ja_cons (jp_e je_int) ja_nil))))) (ja_cons (jp_e (je_tup (ja_cons (jp_e (je_tup (ja_cons (jp_e je_int) (ja_cons (jp_e je_int) ja_nil)))) (ja_cons (jp_e je_int) (ja_cons (jp_e je_int) ja_nil))))) (ja_cons (jp_e (je_tup (ja_cons (jp_e (je_tup (ja_cons (jp_e je_int) (ja_cons (jp_e je_int) (ja_cons (jp_e je_int) ja_nil))))) (ja_cons (jp_e je_int) (ja_cons (jp_e je_int) ja_nil))))) (ja_cons (jp_e (je_tup (ja_cons (jp_e (je_tup (ja_cons (jp_e je_int) (ja_cons (jp_e je_int) ja_nil)))) (ja_cons (jp_e je_int) (ja_cons (jp_e je_int) ja_nil))))) (ja_cons (jp_e (je_tup (ja_cons (jp_e (je_tup (ja_cons (jp_e je_int) (ja_cons (jp_e je_int) (ja_cons (jp_e je_int) ja_nil))))) (ja_cons (jp_e je_int) (ja_cons (jp_e je_int) ja_nil))))) (ja_cons (jp_e (je_tup (ja_cons (jp_e (je_tup (ja_cons (jp_e je_int) (ja_cons (jp_e je_int) (ja_cons (jp_e je_int) ja_nil))))) (ja_cons (jp_e je_int) (ja_cons (jp_e je_int) ja_nil))))) (ja_cons (jp_e (je_tup (ja_cons (jp_e (je_tup (ja_cons (jp_e je_int) (ja_cons (jp_e je_int) (ja_cons (jp_e je_int) (ja_cons (jp_e je_int) (ja_cons (jp_e je_int) (ja_cons (jp_e je_int) ja_nil)))))))) (ja_cons (jp_e je_int) (ja_cons (jp_e je_int) ja_nil))))) (ja_cons (jp_e (je_tup (ja_cons (jp_e (je_tup (ja_cons (jp_e je_int) (ja_cons (jp_e je_int) (ja_cons (jp_e je_int) ja_nil))))) (ja_cons (jp_e je_int) (ja_cons (jp_e je_int) ja_nil))))) (ja_cons (jp_e (je_tup (ja_cons (jp_e (je_tup (ja_cons (jp_e je_int) (ja_cons (jp_e je_int) ja_nil)))) (ja_cons (jp_e je_int) (ja_cons (jp_e je_int) ja_nil))))) (ja_cons (jp_e (je_call c__law_any_pair (Nat.le_trans (show 4 ≤ 9 by decide) hk) ar__law_any_pair (ja_cons (jp_v 0) ja_nil))) ja_nil)))))))))))))))
    (jb_cons (js_for2 3 1 2 (jb_cons (js_asg (je_call c__law_pick (Nat.le_trans (show 3 ≤ 9 by decide) hk) ar__law_pick (ja_cons (jp_v 0) (ja_cons (jp_v 3) ja_nil))) (jg_tup (jgs_cons (jg_name 4) (jgs_cons (jg_name 5) (jgs_cons (jg_name 6) jgs_nil)))))
    (jb_cons (js_set 7 (je_call c__law_draw (Nat.le_trans (show 2 ≤ 9 by decide) hk) ar__law_draw (ja_cons (jp_v 0) (ja_cons (jp_e (je_len (ja_cons (jp_v 4) ja_nil) B.len_)) ja_nil))))
    (jb_cons (js_set 4 (je_add (jp_e (je_sl (jp_v 4) (jo_s (je_tk 7)) jo_n)) (jp_e (je_sl (jp_v 4) jo_n (jo_s (je_tk 7))))))
    (jb_cons (js_if (jt_eq (jp_e (je_call c__law_draw (Nat.le_trans (show 2 ≤ 9 by decide) hk) ar__law_draw (ja_cons (jp_v 0) (ja_cons (jp_e je_int) ja_nil)))) (jp_e je_int)) (jb_one (js_par 5 6 (ja_cons (jp_v 6) (ja_cons (jp_v 5) ja_nil)))) jb_nil)
    (jb_cons (js_par 8 9 (ja_cons (jp_e (je_call c__law_great (Nat.le_trans (show 3 ≤ 9 by decide) hk) ar__law_great (ja_cons (jp_v 0) (ja_cons (jp_v 4) (ja_cons (jp_v 5) ja_nil))))) (ja_cons (jp_e (je_call c__law_great (Nat.le_trans (show 3 ≤ 9 by decide) hk) ar__law_great (ja_cons (jp_v 0) (ja_cons (jp_v 4) (ja_cons (jp_v 6) ja_nil))))) ja_nil)))
    (jb_one (js_if (jt_not (jt_val (je_call c__law_is_product_right (Nat.le_trans (show 9 ≤ 9 by decide) hk) ar__law_is_product_right (ja_cons (jp_v 4) (ja_cons (jp_v 8) (ja_cons (jp_v 9) (ja_cons (jp_e (je_eq (jp_e (je_call c__law_draw (Nat.le_trans (show 2 ≤ 9 by decide) hk) ar__law_draw (ja_cons (jp_v 0) (ja_cons (jp_e je_int) ja_nil)))) (jp_e je_int))) ja_nil))))))) (jb_one (js_ret je_bl)) jb_nil))))))) pw_fn)
    (jb_one (js_ret je_bl)))))
theorem sc__law_are_values_right : FnScope N__law_are_values_right ["bag", "signature", "one", "other", "told"] (defScope (top 54)) := ⟨rfl, rfl, rfl, by decide +kernel, rfl, by decide +kernel, by decide +kernel⟩
theorem w__law_are_values_right {P : Program} {w : World} {K : PySem.W.Frag} {mg : Str → Option Value} {base : Heap} {k : Nat} (hk : 16 ≤ k) (B : Blt mg) (c__law_draw : Cl P w K mg base "_law_draw" 2 2 m__law_draw) (c__law_like : Cl P w K mg base "_law_like" 2 8 (m__law_like 6)) (c__law_pattern : Cl P w K mg base "_law_pattern" 4 16 (m__law_pattern 12)) (c__law_value : Cl P w K mg base "_law_value" 3 14 (m__law_value 12)) (c_value_of : Cl P w K mg base "value_of" 2 16 m_value_of) :
    Wk P w K mg base N__law_are_values_right "_law_are_values_right" (top 54) k b__law_are_values_right ([5] ++ ([7] ++ ((([8] ++ ([9] ++ [])) ++ ([] ++ [])) ++ []))) := fun f nd cdv A outer s H E hg hr =>
    (jb_cons (js_setLc (own := o0__law_are_values_right) 5 (ji_range1 (ja_cons (jp_e je_int) ja_nil) B.range_) (fun _ => blkOk_by (by kernel_rfl)) (jg_name 6) jts_nil (je_call c__law_pattern (Nat.le_trans (show 16 ≤ 16 by decide) hk) (ar__law_pattern _) (ja_cons (jp_v 0) (ja_cons (jp_v 1) (ja_cons (jp_e (je_lst ja_nil)) (ja_cons (jp_e (je_add (jp_e je_int) (jp_e (je_call c__law_draw (Nat.le_trans (show 2 ≤ 16 by decide) hk) ar__law_draw (ja_cons (jp_v 0) (ja_cons (jp_e je_int) ja_nil)))))) ja_nil))))) (by decide))
    (jb_cons (js_setLc (own := o1__law_are_values_right) 7 (ji_seq (jp_v 5)) (fun _ => blkOk_by (by kernel_rfl)) (jg_name 8) jts_nil (je_call c_value_of (Nat.le_trans (show 16 ≤ 16 by decide) hk) ar_value_of (ja_cons (jp_v 4) (ja_cons (jp_v 8) ja_nil))) (by decide))
    (jb_cons (js_for (ji_zip (ja_cons (jp_v 5) (ja_cons (jp_v 7) ja_nil)) B.zip_) (jg_tup (jgs_cons (jg_name 8) (jgs_cons (jg_name 9) jgs_nil))) (jb_one (js_if (jt_not (jt_val (je_call c__law_like (Nat.le_trans (show 8 ≤ 16 by decide) hk) (ar__law_like _) (ja_cons (jp_v 9) (ja_cons (jp_e (je_add (jp_e (je_mul (jp_e (je_call c__law_value (Nat.le_trans (show 14 ≤ 16 by decide) hk) (ar__law_value _) (ja_cons (jp_v 2) (ja_cons (jp_v 8) (ja_cons (jp_e (je_tup ja_nil)) ja_nil))))) (jp_e (je_ix (jp_v 3) (jp_e je_int))))) (jp_e (je_call c__law_value (Nat.le_trans (show 14 ≤ 16 by decide) hk) (ar__law_value _) (ja_cons (jp_v 3) (ja_cons (jp_v 8) (ja_cons (jp_e (je_tup ja_nil)) ja_nil))))))) ja_nil))))) (jb_one (js_ret je_bl)) jb_nil)) pw_fn)
    (jb_one (js_ret je_bl)))))
theorem sc__law_both_rule : FnScope N__law_both_rule ["bag", "signature", "one", "other"] (defScope (top 55)) := ⟨rfl, rfl, rfl, by decide +kernel, rfl, by decide +kernel, by decide +kernel⟩
theorem w__law_both_rule {P : Program} {w : World} {K : PySem.W.Frag} {mg : Str → Option Value} {base : Heap} {k : Nat} (hk : 17 ≤ k) (B : Blt mg) (c__law_broken : Cl P w K mg base "_law_broken" 2 16 m__law_broken) (c__law_rule : Cl P w K mg base "_law_rule" 4 17 m__law_rule) :
    Wk P w K mg base N__law_both_rule "_law_both_rule" (top 55) k b__law_both_rule ([4] ++ (([5] ++ ([4] ++ [])) ++ [])) := fun f nd cdv A outer s H E hg hr =>
    (jb_cons (js_set 4 (je_call c__law_rule (Nat.le_trans (show 17 ≤ 17 by decide) hk) ar__law_rule (ja_cons (jp_v 0) (ja_cons (jp_v 1) (ja_cons (jp_e je_int) (ja_cons (jp_e je_int) ja_nil))))))
    (jb_cons (js_for (ji_range1 (ja_cons (jp_e je_int) ja_nil) B.range_) (jg_name 5) (jb_one (js_if (jw_pt (jw_or (jt_eq (jp_e (je_ix (jp_v 4) (jp_e je_int))) (jp_e (je_ix (jp_v 4) (jp_e je_int)))) (jw_or (jt_isN (jp_e (je_call c__law_broken (Nat.le_trans (show 16 ≤ 17 by decide) hk) ar__law_broken (ja_cons (jp_v 2) (ja_cons (jp_v 4) ja_nil)))) (jp_e je_non)) (jw_or1 (jt_isN (jp_e (je_call c__law_broken (Nat.le_trans (show 16 ≤ 17 by decide) hk) ar__law_broken (ja_cons (jp_v 3) (ja_cons (jp_v 4) ja_nil)))) (jp_e je_non)))))) (jb_one (js_set 4 (je_call c__law_rule (Nat.le_trans (show 17 ≤ 17 by decide) hk) ar__law_rule (ja_cons (jp_v 0) (ja_cons (jp_v 1) (ja_cons (jp_e je_int) (ja_cons (jp_e je_int) ja_nil))))))) jb_nil)) pw_fn)
    (jb_one (js_ret (je_tk 4)))))
theorem sc__law_are_rules_right : FnScope N__law_are_rules_right ["bag", "signature", "one", "other", "told", "due"] (defScope (top 56)) := ⟨rfl, rfl, rfl, by decide +kernel, rfl, by decide +kernel, by decide +kernel⟩
theorem w__law_are_rules_right {P : Program} {w : World} {K : PySem.W.Frag} {mg : Str → Option Value} {base : Heap} {k : Nat} (hk : 18 ≤ k) (B : Blt mg) (c__law_both_rule : Cl P w K mg base "_law_both_rule" 4 18 m__law_both_rule) (c__law_broken : Cl P w K mg base "_law_broken" 2 16 m__law_broken) (c__law_like : Cl P w K mg base "_law_like" 2 8 (m__law_like 6)) (c__law_power : Cl P w K mg base "_law_power" 2 2 m__law_power) (c__law_rule : Cl P w K mg base "_law_rule" 4 17 m__law_rule) (c__law_variables : Cl P w K mg base "_law_variables" 1 2 m__law_variables) (c__law_width : Cl P w K mg base "_law_width" 1 3 m__law_width) (c_breaks : Cl P w K mg base "breaks" 2 18 m_breaks) :
    Wk P w K mg base N__law_are_rules_right "_law_are_rules_right" (top 56) k b__law_are_rules_right (([6] ++ ([7] ++ (([7] ++ []) ++ (([8] ++ ([9] ++ (([] ++ []) ++ (([] ++ []) ++ ([] ++ []))))) ++ [])))) ++ []) := fun f nd cdv A outer s H E hg hr =>
    (jb_cons (js_for (ji_range1 (ja_cons (jp_e je_int) ja_nil) B.range_) (jg_name 6) (jb_cons (js_set 7 (je_call c__law_rule (Nat.le_trans (show 17 ≤ 18 by decide) hk) ar__law_rule (ja_cons (jp_v 0) (ja_cons (jp_v 1) (ja_cons (jp_e je_int) (ja_cons (jp_e je_int) ja_nil))))))
    (jb_cons (js_if (jt_lt (jp_v 6) (jp_e je_int)) (jb_one (js_set 7 (je_call c__law_both_rule (Nat.le_trans (show 18 ≤ 18 by decide) hk) ar__law_both_rule (ja_cons (jp_v 0) (ja_cons (jp_v 1) (ja_cons (jp_v 2) (ja_cons (jp_v 3) ja_nil))))))) jb_nil)
    (jb_one (js_if (jt_le (jp_e (je_mul (jp_e (je_call c__law_power (Nat.le_trans (show 2 ≤ 18 by decide) hk) ar__law_power (ja_cons (jp_e (je_ix (jp_v 5) (jp_e je_int))) (ja_cons (jp_e (je_len (ja_cons (jp_e (je_call c__law_variables (Nat.le_trans (show 2 ≤ 18 by decide) hk) ar__law_variables (ja_cons (jp_e (je_ix (jp_v 7) (jp_e je_int))) ja_nil))) ja_nil) B.len_)) ja_nil)))) (jp_e (je_call c__law_width (Nat.le_trans (show 3 ≤ 18 by decide) hk) ar__law_width (ja_cons (jp_v 7) ja_nil))))) (jp_e je_int)) (jb_cons (js_set 8 (je_call c__law_broken (Nat.le_trans (show 16 ≤ 18 by decide) hk) ar__law_broken (ja_cons (jp_v 5) (ja_cons (jp_v 7) ja_nil))))
    (jb_cons (js_set 9 (je_and (je_is (jp_e (je_call c__law_broken (Nat.le_trans (show 16 ≤ 18 by decide) hk) ar__law_broken (ja_cons (jp_v 2) (ja_cons (jp_v 7) ja_nil)))) (jp_e je_non)) (je_one (je_is (jp_e (je_call c__law_broken (Nat.le_trans (show 16 ≤ 18 by decide) hk) ar__law_broken (ja_cons (jp_v 3) (ja_cons (jp_v 7) ja_nil)))) (jp_e je_non)))))
    (jb_cons (js_if (jw_pt (jw_and (jt_val (je_tk 9)) (jw_and1 (jt_isN (jp_v 8) (jp_e je_non))))) (jb_one (js_ret je_bl)) jb_nil)
    (jb_cons (js_if (jw_pt (jw_and (jt_eq (jp_e (je_ix (jp_v 7) (jp_e je_int))) (jp_e (je_tup ja_nil))) (jw_and1 (jt_ne (jp_v 9) (jp_e (je_is (jp_v 8) (jp_e je_non))))))) (jb_one (js_ret je_bl)) jb_nil)
    (jb_one (js_if (jt_not (jt_val (je_call c__law_like (Nat.le_trans (show 8 ≤ 18 by decide) hk) (ar__law_like _) (ja_cons (jp_e (je_call c_breaks (Nat.le_trans (show 18 ≤ 18 by decide) hk) ar_breaks (ja_cons (jp_v 4) (ja_cons (jp_v 7) ja_nil)))) (ja_cons (jp_v 8) ja_nil))))) (jb_one (js_ret je_bl)) jb_nil)))))) jb_nil)))) pw_fn)
    (jb_one (js_ret je_bl)))
theorem sc_law : FnScope N_law ["script"] (defScope (top 57)) := ⟨rfl, rfl, rfl, by decide +kernel, rfl, by decide +kernel, by decide +kernel⟩
theorem w_law {P : Program} {w : World} {K : PySem.W.Frag} {mg : Str → Option Value} {base : Heap} {k : Nat} (hk : 19 ≤ k) (B : Blt mg) (c__law_are_limits_right : Cl P w K mg base "_law_are_limits_right" 1 10 m__law_are_limits_right) (c__law_are_rules_right : Cl P w K mg base "_law_are_rules_right" 6 19 m__law_are_rules_right) (c__law_are_values_right : Cl P w K mg base "_law_are_values_right" 5 17 m__law_are_values_right) (c__law_draw : Cl P w K mg base "_law_draw" 2 2 m__law_draw) (c__law_due : Cl P w K mg base "_law_due" 3 4 m__law_due) (c__law_is_product_right : Cl P w K mg base "_law_is_product_right" 4 9 m__law_is_product_right) (c__law_own_bag : Cl P w K mg base "_law_own_bag" 1 2 m__law_own_bag) (c__law_pick : Cl P w K mg base "_law_pick" 2 3 m__law_pick) (c__law_signature : Cl P w K mg base "_law_signature" 2 3 m__law_signature) (c__law_small : Cl P w K mg base "_law_small" 2 4 m__law_small) (c_product : Cl P w K mg base "product" 3 4 m_product) :
    Wk P w K mg base N_law "law" (top 57) k b_law ([1] ++ ([2] ++ (([3] ++ ([4] ++ [])) ++ ([5] ++ (([] ++ []) ++ (([] ++ []) ++ ([6, 7] ++ (([] ++ []) ++ (([] ++ []) ++ []))))))))) := fun f nd cdv A outer s H E hg hr =>
    (jb_cons (js_set 1 (je_call c__law_own_bag (Nat.le_trans (show 2 ≤ 19 by decide) hk) ar__law_own_bag (ja_cons (jp_v 0) ja_nil)))
    (jb_cons (js_set 2 (je_call c__law_signature (Nat.le_trans (show 3 ≤ 19 by decide) hk) ar__law_signature (ja_cons (jp_v 1) (ja_cons (jp_e (je_call c__law_pick (Nat.le_trans (show 3 ≤ 19 by decide) hk) ar__law_pick (ja_cons (jp_v 1) (ja_cons (jp_e (je_lst (ja_cons (jp_e je_int) (ja_cons (jp_e je_int) (ja_cons (jp_e je_int) (ja_cons (jp_e je_int) ja_nil)))))) ja_nil)))) ja_nil))))
    (jb_cons (js_asgL (je_call c__law_small (Nat.le_trans (show 4 ≤ 19 by decide) hk) ar__law_small (ja_cons (jp_v 1) (ja_cons (jp_v 2) ja_nil))) (jgs_cons (jg_name 3) (jgs_cons (jg_name 4) jgs_nil)))
    (jb_cons (js_set 5 (je_eq (jp_e (je_call c__law_draw (Nat.le_trans (show 2 ≤ 19 by decide) hk) ar__law_draw (ja_cons (jp_v 1) (ja_cons (jp_e je_int) ja_nil)))) (jp_e je_int)))
    (jb_cons (js_if (jt_not (jt_val (je_call c__law_is_product_right (Nat.le_trans (show 9 ≤ 19 by decide) hk) ar__law_is_product_right (ja_cons (jp_v 2) (ja_cons (jp_v 3) (ja_cons (jp_v 4) (ja_cons (jp_v 5) ja_nil))))))) (jb_one (js_ret je_bl)) jb_nil)
    (jb_cons (js_if (jt_not (jt_val (je_call c__law_is_product_right (Nat.le_trans (show 9 ≤ 19 by decide) hk) ar__law_is_product_right (ja_cons (jp_v 2) (ja_cons (jp_v 4) (ja_cons (jp_v 3) (ja_cons (jp_e (je_not (je_tk 5))) ja_nil))))))) (jb_one (js_ret je_bl)) jb_nil)
    (jb_cons (js_par 6 7 (ja_cons (jp_e (je_call c_product (Nat.le_trans (show 4 ≤ 19 by decide) hk) ar_product (ja_cons (jp_v 2) (ja_cons (jp_v 3) (ja_cons (jp_v 4) ja_nil))))) (ja_cons (jp_e (je_call c__law_due (Nat.le_trans (show 4 ≤ 19 by decide) hk) ar__law_due (ja_cons (jp_v 2) (ja_cons (jp_v 3) (ja_cons (jp_v 4) ja_nil))))) ja_nil)))
    (jb_cons (js_if (jt_not (jt_val (je_call c__law_are_values_right (Nat.le_trans (show 17 ≤ 19 by decide) hk) ar__law_are_values_right (ja_cons (jp_v 1) (ja_cons (jp_v 2) (ja_cons (jp_v 3) (ja_cons (jp_v 4) (ja_cons (jp_v 6) ja_nil)))))))) (jb_one (js_ret je_bl)) jb_nil)
    (jb_cons (js_if (jt_not (jt_val (je_call c__law_are_rules_right (Nat.le_trans (show 19 ≤ 19 by decide) hk) ar__law_are_rules_right (ja_cons (jp_v 1) (ja_cons (jp_v 2) (ja_cons (jp_v 3) (ja_cons (jp_v 4) (ja_cons (jp_v 6) (ja_cons (jp_v 7) ja_nil))))))))) (jb_one (js_ret je_bl)) jb_nil)
    (jb_one (js_ret (je_and (je_call c__law_are_limits_right (Nat.le_trans (show 10 ≤ 19 by decide) hk) ar__law_are_limits_right (ja_cons (jp_v 1) ja_nil)) (je_one (je_call c__law_is_product_right (Nat.le_trans (show 9 ≤ 19 by decide) hk) ar__law_is_product_right (ja_cons (jp_v 2) (ja_cons (jp_v 3) (ja_cons (jp_v 4) (ja_cons (jp_e (je_not (je_tk 5))) ja_nil))))))))))))))))))
end K73
set_option maxHeartbeats 6400000
namespace K73
open PySem L2 JJ
theorem cl_none {P : Program} {w : World} {K : PySem.W.Frag} {mg : Str → Option Value} {base : Heap} {x : Str} {n j : Nat} {a : Addr} {fd : FuncData} {ps : List Str} (h1 : mg x = some (.ref a)) (h2 : PySem.W.keepIn K (.ref a) = true) (h3 : Binds K fd ps []) : Cl P w K mg base x n j (fun _ => none) :=
  ⟨a, fd, ps, ⟨fun vs H Q E ⟨_, _, _, _, e, _⟩ => (by cases e), fun A outer s H args us vs Q E _ _ _ _ _ ⟨_, _, _, _, e, _⟩ => (by cases e)⟩, h1, h2, h3⟩
theorem all_mk {P : Program} {w : World} {K : PySem.W.Frag} {h : Heap} {mg : Str → Option Value} {fa : Addr} (X : K.In h) (G : h.Ns mainGlobals mg) (hfa : mg "law" = some (.ref fa))
    {p_row_of : Addr} {od_row_of an_row_of : Option Addr} {sl_row_of : Array (Option Value)} {oc_row_of kV_row_of dc_row_of pm_row_of cd_row_of ct_row_of : Value}
    (a_row_of : PySem.W.nsIn K mainGlobals "row_of" = some (some (.ref p_row_of))) (l_row_of : K.lookup p_row_of = some ⟨oc_row_of, od_row_of, .func (PySem.W.fnOf "row_of" "row_of" (defArgs (top 9)) (defBody (top 9)) (defScope (top 9)) .none kV_row_of dc_row_of pm_row_of an_row_of cd_row_of ct_row_of), sl_row_of⟩) (e_row_of : PySem.W.codeIn K cd_row_of "row_of" = true) (k_row_of : PySem.W.keepIn K (.ref p_row_of) = true)
    {p_size : Addr} {od_size an_size : Option Addr} {sl_size : Array (Option Value)} {oc_size kV_size dc_size pm_size cd_size ct_size : Value}
    (a_size : PySem.W.nsIn K mainGlobals "size" = some (some (.ref p_size))) (l_size : K.lookup p_size = some ⟨oc_size, od_size, .func (PySem.W.fnOf "size" "size" (defArgs (top 10)) (defBody (top 10)) (defScope (top 10)) .none kV_size dc_size pm_size an_size cd_size ct_size), sl_size⟩) (e_size : PySem.W.codeIn K cd_size "size" = true) (k_size : PySem.W.keepIn K (.ref p_size) = true)
    {p_spots_of : Addr} {od_spots_of an_spots_of : Option Addr} {sl_spots_of : Array (Option Value)} {oc_spots_of kV_spots_of dc_spots_of pm_spots_of cd_spots_of ct_spots_of : Value}
    (a_spots_of : PySem.W.nsIn K mainGlobals "spots_of" = some (some (.ref p_spots_of))) (l_spots_of : K.lookup p_spots_of = some ⟨oc_spots_of, od_spots_of, .func (PySem.W.fnOf "spots_of" "spots_of" (defArgs (top 12)) (defBody (top 12)) (defScope (top 12)) .none kV_spots_of dc_spots_of pm_spots_of an_spots_of cd_spots_of ct_spots_of), sl_spots_of⟩) (e_spots_of : PySem.W.codeIn K cd_spots_of "spots_of" = true) (k_spots_of : PySem.W.keepIn K (.ref p_spots_of) = true)
    {p_variables : Addr} {od_variables an_variables : Option Addr} {sl_variables : Array (Option Value)} {oc_variables kV_variables dc_variables pm_variables cd_variables ct_variables : Value}
    (a_variables : PySem.W.nsIn K mainGlobals "variables" = some (some (.ref p_variables))) (l_variables : K.lookup p_variables = some ⟨oc_variables, od_variables, .func (PySem.W.fnOf "variables" "variables" (defArgs (top 13)) (defBody (top 13)) (defScope (top 13)) .none kV_variables dc_variables pm_variables an_variables cd_variables ct_variables), sl_variables⟩) (e_variables : PySem.W.codeIn K cd_variables "variables" = true) (k_variables : PySem.W.keepIn K (.ref p_variables) = true)
    {p_sizes_of : Addr} {od_sizes_of an_sizes_of : Option Addr} {sl_sizes_of : Array (Option Value)} {oc_sizes_of kV_sizes_of dc_sizes_of pm_sizes_of cd_sizes_of ct_sizes_of : Value}
    (a_sizes_of : PySem.W.nsIn K mainGlobals "sizes_of" = some (some (.ref p_sizes_of))) (l_sizes_of : K.lookup p_sizes_of = some ⟨oc_sizes_of, od_sizes_of, .func (PySem.W.fnOf "sizes_of" "sizes_of" (defArgs (top 15)) (defBody (top 15)) (defScope (top 15)) .none kV_sizes_of dc_sizes_of pm_sizes_of an_sizes_of cd_sizes_of ct_sizes_of), sl_sizes_of⟩) (e_sizes_of : PySem.W.codeIn K cd_sizes_of "sizes_of" = true) (k_sizes_of : PySem.W.keepIn K (.ref p_sizes_of) = true)
    {p_power : Addr} {od_power an_power : Option Addr} {sl_power : Array (Option Value)} {oc_power kV_power dc_power pm_power cd_power ct_power : Value}
    (a_power : PySem.W.nsIn K mainGlobals "power" = some (some (.ref p_power))) (l_power : K.lookup p_power = some ⟨oc_power, od_power, .func (PySem.W.fnOf "power" "power" (defArgs (top 17)) (defBody (top 17)) (defScope (top 17)) .none kV_power dc_power pm_power an_power cd_power ct_power), sl_power⟩) (e_power : PySem.W.codeIn K cd_power "power" = true) (k_power : PySem.W.keepIn K (.ref p_power) = true)
    {p_tuples_of : Addr} {od_tuples_of an_tuples_of : Option Addr} {sl_tuples_of : Array (Option Value)} {oc_tuples_of kV_tuples_of dc_tuples_of pm_tuples_of cd_tuples_of ct_tuples_of : Value}
    (a_tuples_of : PySem.W.nsIn K mainGlobals "tuples_of" = some (some (.ref p_tuples_of))) (l_tuples_of : K.lookup p_tuples_of = some ⟨oc_tuples_of, od_tuples_of, .func (PySem.W.fnOf "tuples_of" "tuples_of" (defArgs (top 18)) (defBody (top 18)) (defScope (top 18)) .none kV_tuples_of dc_tuples_of pm_tuples_of an_tuples_of cd_tuples_of ct_tuples_of), sl_tuples_of⟩) (e_tuples_of : PySem.W.codeIn K cd_tuples_of "tuples_of" = true) (k_tuples_of : PySem.W.keepIn K (.ref p_tuples_of) = true)
    {p_entries : Addr} {od_entries an_entries : Option Addr} {sl_entries : Array (Option Value)} {oc_entries kV_entries dc_entries pm_entries cd_entries ct_entries : Value}
    (a_entries : PySem.W.nsIn K mainGlobals "entries" = some (some (.ref p_entries))) (l_entries : K.lookup p_entries = some ⟨oc_entries, od_entries, .func (PySem.W.fnOf "entries" "entries" (defArgs (top 19)) (defBody (top 19)) (defScope (top 19)) .none kV_entries dc_entries pm_entries an_entries cd_entries ct_entries), sl_entries⟩) (e_entries : PySem.W.codeIn K cd_entries "entries" = true) (k_entries : PySem.W.keepIn K (.ref p_entries) = true)
    {p_place_of : Addr} {od_place_of an_place_of : Option Addr} {sl_place_of : Array (Option Value)} {oc_place_of kV_place_of dc_place_of pm_place_of cd_place_of ct_place_of : Value}
    (a_place_of : PySem.W.nsIn K mainGlobals "place_of" = some (some (.ref p_place_of))) (l_place_of : K.lookup p_place_of = some ⟨oc_place_of, od_place_of, .func (PySem.W.fnOf "place_of" "place_of" (defArgs (top 20)) (defBody (top 20)) (defScope (top 20)) .none kV_place_of dc_place_of pm_place_of an_place_of cd_place_of ct_place_of), sl_place_of⟩) (e_place_of : PySem.W.codeIn K cd_place_of "place_of" = true) (k_place_of : PySem.W.keepIn K (.ref p_place_of) = true)
    {p_valued : Addr} {od_valued an_valued : Option Addr} {sl_valued : Array (Option Value)} {oc_valued kV_valued dc_valued pm_valued cd_valued ct_valued : Value}
    (a_valued : PySem.W.nsIn K mainGlobals "valued" = some (some (.ref p_valued))) (l_valued : K.lookup p_valued = some ⟨oc_valued, od_valued, .func (PySem.W.fnOf "valued" "valued" (defArgs (top 21)) (defBody (top 21)) (defScope (top 21)) .none kV_valued dc_valued pm_valued an_valued cd_valued ct_valued), sl_valued⟩) (e_valued : PySem.W.codeIn K cd_valued "valued" = true) (k_valued : PySem.W.keepIn K (.ref p_valued) = true)
    {p_value_of : Addr} {od_value_of an_value_of : Option Addr} {sl_value_of : Array (Option Value)} {oc_value_of kV_value_of dc_value_of pm_value_of cd_value_of ct_value_of : Value}
    (a_value_of : PySem.W.nsIn K mainGlobals "value_of" = some (some (.ref p_value_of))) (l_value_of : K.lookup p_value_of = some ⟨oc_value_of, od_value_of, .func (PySem.W.fnOf "value_of" "value_of" (defArgs (top 22)) (defBody (top 22)) (defScope (top 22)) .none kV_value_of dc_value_of pm_value_of an_value_of cd_value_of ct_value_of), sl_value_of⟩) (e_value_of : PySem.W.codeIn K cd_value_of "value_of" = true) (k_value_of : PySem.W.keepIn K (.ref p_value_of) = true)
    {p_does_break : Addr} {od_does_break an_does_break : Option Addr} {sl_does_break : Array (Option Value)} {oc_does_break kV_does_break dc_does_break pm_does_break cd_does_break ct_does_break : Value}
    (a_does_break : PySem.W.nsIn K mainGlobals "does_break" = some (some (.ref p_does_break))) (l_does_break : K.lookup p_does_break = some ⟨oc_does_break, od_does_break, .func (PySem.W.fnOf "does_break" "does_break" (defArgs (top 23)) (defBody (top 23)) (defScope (top 23)) .none kV_does_break dc_does_break pm_does_break an_does_break cd_does_break ct_does_break), sl_does_break⟩) (e_does_break : PySem.W.codeIn K cd_does_break "does_break" = true) (k_does_break : PySem.W.keepIn K (.ref p_does_break) = true)
    {p_first_break : Addr} {od_first_break an_first_break : Option Addr} {sl_first_break : Array (Option Value)} {oc_first_break kV_first_break dc_first_break pm_first_break cd_first_break ct_first_break : Value}
    (a_first_break : PySem.W.nsIn K mainGlobals "first_break" = some (some (.ref p_first_break))) (l_first_break : K.lookup p_first_break = some ⟨oc_first_break, od_first_break, .func (PySem.W.fnOf "first_break" "first_break" (defArgs (top 24)) (defBody (top 24)) (defScope (top 24)) .none kV_first_break dc_first_break pm_first_break an_first_break cd_first_break ct_first_break), sl_first_break⟩) (e_first_break : PySem.W.codeIn K cd_first_break "first_break" = true) (k_first_break : PySem.W.keepIn K (.ref p_first_break) = true)
    {p_breaks : Addr} {od_breaks an_breaks : Option Addr} {sl_breaks : Array (Option Value)} {oc_breaks kV_breaks dc_breaks pm_breaks cd_breaks ct_breaks : Value}
    (a_breaks : PySem.W.nsIn K mainGlobals "breaks" = some (some (.ref p_breaks))) (l_breaks : K.lookup p_breaks = some ⟨oc_breaks, od_breaks, .func (PySem.W.fnOf "breaks" "breaks" (defArgs (top 25)) (defBody (top 25)) (defScope (top 25)) .none kV_breaks dc_breaks pm_breaks an_breaks cd_breaks ct_breaks), sl_breaks⟩) (e_breaks : PySem.W.codeIn K cd_breaks "breaks" = true) (k_breaks : PySem.W.keepIn K (.ref p_breaks) = true)
    {p_product : Addr} {od_product an_product : Option Addr} {sl_product : Array (Option Value)} {oc_product kV_product dc_product pm_product cd_product ct_product : Value}
    (a_product : PySem.W.nsIn K mainGlobals "product" = some (some (.ref p_product))) (l_product : K.lookup p_product = some ⟨oc_product, od_product, .func (PySem.W.fnOf "product" "product" (defArgs (top 26)) (defBody (top 26)) (defScope (top 26)) .none kV_product dc_product pm_product an_product cd_product ct_product), sl_product⟩) (e_product : PySem.W.codeIn K cd_product "product" = true) (k_product : PySem.W.keepIn K (.ref p_product) = true)
    {p__law_own_bag : Addr} {od__law_own_bag an__law_own_bag : Option Addr} {sl__law_own_bag : Array (Option Value)} {oc__law_own_bag kV__law_own_bag dc__law_own_bag pm__law_own_bag cd__law_own_bag ct__law_own_bag : Value}
    (a__law_own_bag : PySem.W.nsIn K mainGlobals "_law_own_bag" = some (some (.ref p__law_own_bag))) (l__law_own_bag : K.lookup p__law_own_bag = some ⟨oc__law_own_bag, od__law_own_bag, .func (PySem.W.fnOf "_law_own_bag" "_law_own_bag" (defArgs (top 28)) (defBody (top 28)) (defScope (top 28)) .none kV__law_own_bag dc__law_own_bag pm__law_own_bag an__law_own_bag cd__law_own_bag ct__law_own_bag), sl__law_own_bag⟩) (e__law_own_bag : PySem.W.codeIn K cd__law_own_bag "_law_own_bag" = true) (k__law_own_bag : PySem.W.keepIn K (.ref p__law_own_bag) = true)
    {p__law_draw : Addr} {od__law_draw an__law_draw : Option Addr} {sl__law_draw : Array (Option Value)} {oc__law_draw kV__law_draw dc__law_draw pm__law_draw cd__law_draw ct__law_draw : Value}
    (a__law_draw : PySem.W.nsIn K mainGlobals "_law_draw" = some (some (.ref p__law_draw))) (l__law_draw : K.lookup p__law_draw = some ⟨oc__law_draw, od__law_draw, .func (PySem.W.fnOf "_law_draw" "_law_draw" (defArgs (top 29)) (defBody (top 29)) (defScope (top 29)) .none kV__law_draw dc__law_draw pm__law_draw an__law_draw cd__law_draw ct__law_draw), sl__law_draw⟩) (e__law_draw : PySem.W.codeIn K cd__law_draw "_law_draw" = true) (k__law_draw : PySem.W.keepIn K (.ref p__law_draw) = true)
    {p__law_pick : Addr} {od__law_pick an__law_pick : Option Addr} {sl__law_pick : Array (Option Value)} {oc__law_pick kV__law_pick dc__law_pick pm__law_pick cd__law_pick ct__law_pick : Value}
    (a__law_pick : PySem.W.nsIn K mainGlobals "_law_pick" = some (some (.ref p__law_pick))) (l__law_pick : K.lookup p__law_pick = some ⟨oc__law_pick, od__law_pick, .func (PySem.W.fnOf "_law_pick" "_law_pick" (defArgs (top 30)) (defBody (top 30)) (defScope (top 30)) .none kV__law_pick dc__law_pick pm__law_pick an__law_pick cd__law_pick ct__law_pick), sl__law_pick⟩) (e__law_pick : PySem.W.codeIn K cd__law_pick "_law_pick" = true) (k__law_pick : PySem.W.keepIn K (.ref p__law_pick) = true)
    {p__law_power : Addr} {od__law_power an__law_power : Option Addr} {sl__law_power : Array (Option Value)} {oc__law_power kV__law_power dc__law_power pm__law_power cd__law_power ct__law_power : Value}
    (a__law_power : PySem.W.nsIn K mainGlobals "_law_power" = some (some (.ref p__law_power))) (l__law_power : K.lookup p__law_power = some ⟨oc__law_power, od__law_power, .func (PySem.W.fnOf "_law_power" "_law_power" (defArgs (top 31)) (defBody (top 31)) (defScope (top 31)) .none kV__law_power dc__law_power pm__law_power an__law_power cd__law_power ct__law_power), sl__law_power⟩) (e__law_power : PySem.W.codeIn K cd__law_power "_law_power" = true) (k__law_power : PySem.W.keepIn K (.ref p__law_power) = true)
    {p__law_like : Addr} {od__law_like an__law_like : Option Addr} {sl__law_like : Array (Option Value)} {oc__law_like kV__law_like dc__law_like pm__law_like cd__law_like ct__law_like : Value}
    (a__law_like : PySem.W.nsIn K mainGlobals "_law_like" = some (some (.ref p__law_like))) (l__law_like : K.lookup p__law_like = some ⟨oc__law_like, od__law_like, .func (PySem.W.fnOf "_law_like" "_law_like" (defArgs (top 32)) (defBody (top 32)) (defScope (top 32)) .none kV__law_like dc__law_like pm__law_like an__law_like cd__law_like ct__law_like), sl__law_like⟩) (e__law_like : PySem.W.codeIn K cd__law_like "_law_like" = true) (k__law_like : PySem.W.keepIn K (.ref p__law_like) = true)
    {p__law_value : Addr} {od__law_value an__law_value : Option Addr} {sl__law_value : Array (Option Value)} {oc__law_value kV__law_value dc__law_value pm__law_value cd__law_value ct__law_value : Value}
    (a__law_value : PySem.W.nsIn K mainGlobals "_law_value" = some (some (.ref p__law_value))) (l__law_value : K.lookup p__law_value = some ⟨oc__law_value, od__law_value, .func (PySem.W.fnOf "_law_value" "_law_value" (defArgs (top 33)) (defBody (top 33)) (defScope (top 33)) .none kV__law_value dc__law_value pm__law_value an__law_value cd__law_value ct__law_value), sl__law_value⟩) (e__law_value : PySem.W.codeIn K cd__law_value "_law_value" = true) (k__law_value : PySem.W.keepIn K (.ref p__law_value) = true)
    {p__law_many : Addr} {od__law_many an__law_many : Option Addr} {sl__law_many : Array (Option Value)} {oc__law_many kV__law_many dc__law_many pm__law_many cd__law_many ct__law_many : Value}
    (a__law_many : PySem.W.nsIn K mainGlobals "_law_many" = some (some (.ref p__law_many))) (l__law_many : K.lookup p__law_many = some ⟨oc__law_many, od__law_many, .func (PySem.W.fnOf "_law_many" "_law_many" (defArgs (top 34)) (defBody (top 34)) (defScope (top 34)) .none kV__law_many dc__law_many pm__law_many an__law_many cd__law_many ct__law_many), sl__law_many⟩) (e__law_many : PySem.W.codeIn K cd__law_many "_law_many" = true) (k__law_many : PySem.W.keepIn K (.ref p__law_many) = true)
    {p__law_items : Addr} {od__law_items an__law_items : Option Addr} {sl__law_items : Array (Option Value)} {oc__law_items kV__law_items dc__law_items pm__law_items cd__law_items ct__law_items : Value}
    (a__law_items : PySem.W.nsIn K mainGlobals "_law_items" = some (some (.ref p__law_items))) (l__law_items : K.lookup p__law_items = some ⟨oc__law_items, od__law_items, .func (PySem.W.fnOf "_law_items" "_law_items" (defArgs (top 35)) (defBody (top 35)) (defScope (top 35)) .none kV__law_items dc__law_items pm__law_items an__law_items cd__law_items ct__law_items), sl__law_items⟩) (e__law_items : PySem.W.codeIn K cd__law_items "_law_items" = true) (k__law_items : PySem.W.keepIn K (.ref p__law_items) = true)
    {p__law_pattern : Addr} {od__law_pattern an__law_pattern : Option Addr} {sl__law_pattern : Array (Option Value)} {oc__law_pattern kV__law_pattern dc__law_pattern pm__law_pattern cd__law_pattern ct__law_pattern : Value}
    (a__law_pattern : PySem.W.nsIn K mainGlobals "_law_pattern" = some (some (.ref p__law_pattern))) (l__law_pattern : K.lookup p__law_pattern = some ⟨oc__law_pattern, od__law_pattern, .func (PySem.W.fnOf "_law_pattern" "_law_pattern" (defArgs (top 36)) (defBody (top 36)) (defScope (top 36)) .none kV__law_pattern dc__law_pattern pm__law_pattern an__law_pattern cd__law_pattern ct__law_pattern), sl__law_pattern⟩) (e__law_pattern : PySem.W.codeIn K cd__law_pattern "_law_pattern" = true) (k__law_pattern : PySem.W.keepIn K (.ref p__law_pattern) = true)
    {p__law_called : Addr} {od__law_called an__law_called : Option Addr} {sl__law_called : Array (Option Value)} {oc__law_called kV__law_called dc__law_called pm__law_called cd__law_called ct__law_called : Value}
    (a__law_called : PySem.W.nsIn K mainGlobals "_law_called" = some (some (.ref p__law_called))) (l__law_called : K.lookup p__law_called = some ⟨oc__law_called, od__law_called, .func (PySem.W.fnOf "_law_called" "_law_called" (defArgs (top 37)) (defBody (top 37)) (defScope (top 37)) .none kV__law_called dc__law_called pm__law_called an__law_called cd__law_called ct__law_called), sl__law_called⟩) (e__law_called : PySem.W.codeIn K cd__law_called "_law_called" = true) (k__law_called : PySem.W.keepIn K (.ref p__law_called) = true)
    {p__law_variables : Addr} {od__law_variables an__law_variables : Option Addr} {sl__law_variables : Array (Option Value)} {oc__law_variables kV__law_variables dc__law_variables pm__law_variables cd__law_variables ct__law_variables : Value}
    (a__law_variables : PySem.W.nsIn K mainGlobals "_law_variables" = some (some (.ref p__law_variables))) (l__law_variables : K.lookup p__law_variables = some ⟨oc__law_variables, od__law_variables, .func (PySem.W.fnOf "_law_variables" "_law_variables" (defArgs (top 38)) (defBody (top 38)) (defScope (top 38)) .none kV__law_variables dc__law_variables pm__law_variables an__law_variables cd__law_variables ct__law_variables), sl__law_variables⟩) (e__law_variables : PySem.W.codeIn K cd__law_variables "_law_variables" = true) (k__law_variables : PySem.W.keepIn K (.ref p__law_variables) = true)
    {p__law_rule : Addr} {od__law_rule an__law_rule : Option Addr} {sl__law_rule : Array (Option Value)} {oc__law_rule kV__law_rule dc__law_rule pm__law_rule cd__law_rule ct__law_rule : Value}
    (a__law_rule : PySem.W.nsIn K mainGlobals "_law_rule" = some (some (.ref p__law_rule))) (l__law_rule : K.lookup p__law_rule = some ⟨oc__law_rule, od__law_rule, .func (PySem.W.fnOf "_law_rule" "_law_rule" (defArgs (top 39)) (defBody (top 39)) (defScope (top 39)) .none kV__law_rule dc__law_rule pm__law_rule an__law_rule cd__law_rule ct__law_rule), sl__law_rule⟩) (e__law_rule : PySem.W.codeIn K cd__law_rule "_law_rule" = true) (k__law_rule : PySem.W.keepIn K (.ref p__law_rule) = true)
    {p__law_width : Addr} {od__law_width an__law_width : Option Addr} {sl__law_width : Array (Option Value)} {oc__law_width kV__law_width dc__law_width pm__law_width cd__law_width ct__law_width : Value}
    (a__law_width : PySem.W.nsIn K mainGlobals "_law_width" = some (some (.ref p__law_width))) (l__law_width : K.lookup p__law_width = some ⟨oc__law_width, od__law_width, .func (PySem.W.fnOf "_law_width" "_law_width" (defArgs (top 40)) (defBody (top 40)) (defScope (top 40)) .none kV__law_width dc__law_width pm__law_width an__law_width cd__law_width ct__law_width), sl__law_width⟩) (e__law_width : PySem.W.codeIn K cd__law_width "_law_width" = true) (k__law_width : PySem.W.keepIn K (.ref p__law_width) = true)
    {p__law_given : Addr} {od__law_given an__law_given : Option Addr} {sl__law_given : Array (Option Value)} {oc__law_given kV__law_given dc__law_given pm__law_given cd__law_given ct__law_given : Value}
    (a__law_given : PySem.W.nsIn K mainGlobals "_law_given" = some (some (.ref p__law_given))) (l__law_given : K.lookup p__law_given = some ⟨oc__law_given, od__law_given, .func (PySem.W.fnOf "_law_given" "_law_given" (defArgs (top 41)) (defBody (top 41)) (defScope (top 41)) .none kV__law_given dc__law_given pm__law_given an__law_given cd__law_given ct__law_given), sl__law_given⟩) (e__law_given : PySem.W.codeIn K cd__law_given "_law_given" = true) (k__law_given : PySem.W.keepIn K (.ref p__law_given) = true)
    {p__law_is_kept : Addr} {od__law_is_kept an__law_is_kept : Option Addr} {sl__law_is_kept : Array (Option Value)} {oc__law_is_kept kV__law_is_kept dc__law_is_kept pm__law_is_kept cd__law_is_kept ct__law_is_kept : Value}
    (a__law_is_kept : PySem.W.nsIn K mainGlobals "_law_is_kept" = some (some (.ref p__law_is_kept))) (l__law_is_kept : K.lookup p__law_is_kept = some ⟨oc__law_is_kept, od__law_is_kept, .func (PySem.W.fnOf "_law_is_kept" "_law_is_kept" (defArgs (top 42)) (defBody (top 42)) (defScope (top 42)) .none kV__law_is_kept dc__law_is_kept pm__law_is_kept an__law_is_kept cd__law_is_kept ct__law_is_kept), sl__law_is_kept⟩) (e__law_is_kept : PySem.W.codeIn K cd__law_is_kept "_law_is_kept" = true) (k__law_is_kept : PySem.W.keepIn K (.ref p__law_is_kept) = true)
    {p__law_broken : Addr} {od__law_broken an__law_broken : Option Addr} {sl__law_broken : Array (Option Value)} {oc__law_broken kV__law_broken dc__law_broken pm__law_broken cd__law_broken ct__law_broken : Value}
    (a__law_broken : PySem.W.nsIn K mainGlobals "_law_broken" = some (some (.ref p__law_broken))) (l__law_broken : K.lookup p__law_broken = some ⟨oc__law_broken, od__law_broken, .func (PySem.W.fnOf "_law_broken" "_law_broken" (defArgs (top 43)) (defBody (top 43)) (defScope (top 43)) .none kV__law_broken dc__law_broken pm__law_broken an__law_broken cd__law_broken ct__law_broken), sl__law_broken⟩) (e__law_broken : PySem.W.codeIn K cd__law_broken "_law_broken" = true) (k__law_broken : PySem.W.keepIn K (.ref p__law_broken) = true)
    {p__law_spots : Addr} {od__law_spots an__law_spots : Option Addr} {sl__law_spots : Array (Option Value)} {oc__law_spots kV__law_spots dc__law_spots pm__law_spots cd__law_spots ct__law_spots : Value}
    (a__law_spots : PySem.W.nsIn K mainGlobals "_law_spots" = some (some (.ref p__law_spots))) (l__law_spots : K.lookup p__law_spots = some ⟨oc__law_spots, od__law_spots, .func (PySem.W.fnOf "_law_spots" "_law_spots" (defArgs (top 44)) (defBody (top 44)) (defScope (top 44)) .none kV__law_spots dc__law_spots pm__law_spots an__law_spots cd__law_spots ct__law_spots), sl__law_spots⟩) (e__law_spots : PySem.W.codeIn K cd__law_spots "_law_spots" = true) (k__law_spots : PySem.W.keepIn K (.ref p__law_spots) = true)
    {p__law_due : Addr} {od__law_due an__law_due : Option Addr} {sl__law_due : Array (Option Value)} {oc__law_due kV__law_due dc__law_due pm__law_due cd__law_due ct__law_due : Value}
    (a__law_due : PySem.W.nsIn K mainGlobals "_law_due" = some (some (.ref p__law_due))) (l__law_due : K.lookup p__law_due = some ⟨oc__law_due, od__law_due, .func (PySem.W.fnOf "_law_due" "_law_due" (defArgs (top 45)) (defBody (top 45)) (defScope (top 45)) .none kV__law_due dc__law_due pm__law_due an__law_due cd__law_due ct__law_due), sl__law_due⟩) (e__law_due : PySem.W.codeIn K cd__law_due "_law_due" = true) (k__law_due : PySem.W.keepIn K (.ref p__law_due) = true)
    {p__law_told : Addr} {od__law_told an__law_told : Option Addr} {sl__law_told : Array (Option Value)} {oc__law_told kV__law_told dc__law_told pm__law_told cd__law_told ct__law_told : Value}
    (a__law_told : PySem.W.nsIn K mainGlobals "_law_told" = some (some (.ref p__law_told))) (l__law_told : K.lookup p__law_told = some ⟨oc__law_told, od__law_told, .func (PySem.W.fnOf "_law_told" "_law_told" (defArgs (top 46)) (defBody (top 46)) (defScope (top 46)) .none kV__law_told dc__law_told pm__law_told an__law_told cd__law_told ct__law_told), sl__law_told⟩) (e__law_told : PySem.W.codeIn K cd__law_told "_law_told" = true) (k__law_told : PySem.W.keepIn K (.ref p__law_told) = true)
    {p__law_is_product_right : Addr} {od__law_is_product_right an__law_is_product_right : Option Addr} {sl__law_is_product_right : Array (Option Value)} {oc__law_is_product_right kV__law_is_product_right dc__law_is_product_right pm__law_is_product_right cd__law_is_product_right ct__law_is_product_right : Value}
    (a__law_is_product_right : PySem.W.nsIn K mainGlobals "_law_is_product_right" = some (some (.ref p__law_is_product_right))) (l__law_is_product_right : K.lookup p__law_is_product_right = some ⟨oc__law_is_product_right, od__law_is_product_right, .func (PySem.W.fnOf "_law_is_product_right" "_law_is_product_right" (defArgs (top 47)) (defBody (top 47)) (defScope (top 47)) .none kV__law_is_product_right dc__law_is_product_right pm__law_is_product_right an__law_is_product_right cd__law_is_product_right ct__law_is_product_right), sl__law_is_product_right⟩) (e__law_is_product_right : PySem.W.codeIn K cd__law_is_product_right "_law_is_product_right" = true) (k__law_is_product_right : PySem.W.keepIn K (.ref p__law_is_product_right) = true)
    {p__law_signature : Addr} {od__law_signature an__law_signature : Option Addr} {sl__law_signature : Array (Option Value)} {oc__law_signature kV__law_signature dc__law_signature pm__law_signature cd__law_signature ct__law_signature : Value}
    (a__law_signature : PySem.W.nsIn K mainGlobals "_law_signature" = some (some (.ref p__law_signature))) (l__law_signature : K.lookup p__law_signature = some ⟨oc__law_signature, od__law_signature, .func (PySem.W.fnOf "_law_signature" "_law_signature" (defArgs (top 48)) (defBody (top 48)) (defScope (top 48)) .none kV__law_signature dc__law_signature pm__law_signature an__law_signature cd__law_signature ct__law_signature), sl__law_signature⟩) (e__law_signature : PySem.W.codeIn K cd__law_signature "_law_signature" = true) (k__law_signature : PySem.W.keepIn K (.ref p__law_signature) = true)
    {p__law_algebra : Addr} {od__law_algebra an__law_algebra : Option Addr} {sl__law_algebra : Array (Option Value)} {oc__law_algebra kV__law_algebra dc__law_algebra pm__law_algebra cd__law_algebra ct__law_algebra : Value}
    (a__law_algebra : PySem.W.nsIn K mainGlobals "_law_algebra" = some (some (.ref p__law_algebra))) (l__law_algebra : K.lookup p__law_algebra = some ⟨oc__law_algebra, od__law_algebra, .func (PySem.W.fnOf "_law_algebra" "_law_algebra" (defArgs (top 49)) (defBody (top 49)) (defScope (top 49)) .none kV__law_algebra dc__law_algebra pm__law_algebra an__law_algebra cd__law_algebra ct__law_algebra), sl__law_algebra⟩) (e__law_algebra : PySem.W.codeIn K cd__law_algebra "_law_algebra" = true) (k__law_algebra : PySem.W.keepIn K (.ref p__law_algebra) = true)
    {p__law_small : Addr} {od__law_small an__law_small : Option Addr} {sl__law_small : Array (Option Value)} {oc__law_small kV__law_small dc__law_small pm__law_small cd__law_small ct__law_small : Value}
    (a__law_small : PySem.W.nsIn K mainGlobals "_law_small" = some (some (.ref p__law_small))) (l__law_small : K.lookup p__law_small = some ⟨oc__law_small, od__law_small, .func (PySem.W.fnOf "_law_small" "_law_small" (defArgs (top 50)) (defBody (top 50)) (defScope (top 50)) .none kV__law_small dc__law_small pm__law_small an__law_small cd__law_small ct__law_small), sl__law_small⟩) (e__law_small : PySem.W.codeIn K cd__law_small "_law_small" = true) (k__law_small : PySem.W.keepIn K (.ref p__law_small) = true)
    {p__law_great : Addr} {od__law_great an__law_great : Option Addr} {sl__law_great : Array (Option Value)} {oc__law_great kV__law_great dc__law_great pm__law_great cd__law_great ct__law_great : Value}
    (a__law_great : PySem.W.nsIn K mainGlobals "_law_great" = some (some (.ref p__law_great))) (l__law_great : K.lookup p__law_great = some ⟨oc__law_great, od__law_great, .func (PySem.W.fnOf "_law_great" "_law_great" (defArgs (top 51)) (defBody (top 51)) (defScope (top 51)) .none kV__law_great dc__law_great pm__law_great an__law_great cd__law_great ct__law_great), sl__law_great⟩) (e__law_great : PySem.W.codeIn K cd__law_great "_law_great" = true) (k__law_great : PySem.W.keepIn K (.ref p__law_great) = true)
    {p__law_any_pair : Addr} {od__law_any_pair an__law_any_pair : Option Addr} {sl__law_any_pair : Array (Option Value)} {oc__law_any_pair kV__law_any_pair dc__law_any_pair pm__law_any_pair cd__law_any_pair ct__law_any_pair : Value}
    (a__law_any_pair : PySem.W.nsIn K mainGlobals "_law_any_pair" = some (some (.ref p__law_any_pair))) (l__law_any_pair : K.lookup p__law_any_pair = some ⟨oc__law_any_pair, od__law_any_pair, .func (PySem.W.fnOf "_law_any_pair" "_law_any_pair" (defArgs (top 52)) (defBody (top 52)) (defScope (top 52)) .none kV__law_any_pair dc__law_any_pair pm__law_any_pair an__law_any_pair cd__law_any_pair ct__law_any_pair), sl__law_any_pair⟩) (e__law_any_pair : PySem.W.codeIn K cd__law_any_pair "_law_any_pair" = true) (k__law_any_pair : PySem.W.keepIn K (.ref p__law_any_pair) = true)
    {p__law_are_limits_right : Addr} {od__law_are_limits_right an__law_are_limits_right : Option Addr} {sl__law_are_limits_right : Array (Option Value)} {oc__law_are_limits_right kV__law_are_limits_right dc__law_are_limits_right pm__law_are_limits_right cd__law_are_limits_right ct__law_are_limits_right : Value}
    (a__law_are_limits_right : PySem.W.nsIn K mainGlobals "_law_are_limits_right" = some (some (.ref p__law_are_limits_right))) (l__law_are_limits_right : K.lookup p__law_are_limits_right = some ⟨oc__law_are_limits_right, od__law_are_limits_right, .func (PySem.W.fnOf "_law_are_limits_right" "_law_are_limits_right" (defArgs (top 53)) (defBody (top 53)) (defScope (top 53)) .none kV__law_are_limits_right dc__law_are_limits_right pm__law_are_limits_right an__law_are_limits_right cd__law_are_limits_right ct__law_are_limits_right), sl__law_are_limits_right⟩) (e__law_are_limits_right : PySem.W.codeIn K cd__law_are_limits_right "_law_are_limits_right" = true) (k__law_are_limits_right : PySem.W.keepIn K (.ref p__law_are_limits_right) = true)
    {p__law_are_values_right : Addr} {od__law_are_values_right an__law_are_values_right : Option Addr} {sl__law_are_values_right : Array (Option Value)} {oc__law_are_values_right kV__law_are_values_right dc__law_are_values_right pm__law_are_values_right cd__law_are_values_right ct__law_are_values_right : Value}
    (a__law_are_values_right : PySem.W.nsIn K mainGlobals "_law_are_values_right" = some (some (.ref p__law_are_values_right))) (l__law_are_values_right : K.lookup p__law_are_values_right = some ⟨oc__law_are_values_right, od__law_are_values_right, .func (PySem.W.fnOf "_law_are_values_right" "_law_are_values_right" (defArgs (top 54)) (defBody (top 54)) (defScope (top 54)) .none kV__law_are_values_right dc__law_are_values_right pm__law_are_values_right an__law_are_values_right cd__law_are_values_right ct__law_are_values_right), sl__law_are_values_right⟩) (e__law_are_values_right : PySem.W.codeIn K cd__law_are_values_right "_law_are_values_right" = true) (k__law_are_values_right : PySem.W.keepIn K (.ref p__law_are_values_right) = true)
    {p__law_both_rule : Addr} {od__law_both_rule an__law_both_rule : Option Addr} {sl__law_both_rule : Array (Option Value)} {oc__law_both_rule kV__law_both_rule dc__law_both_rule pm__law_both_rule cd__law_both_rule ct__law_both_rule : Value}
    (a__law_both_rule : PySem.W.nsIn K mainGlobals "_law_both_rule" = some (some (.ref p__law_both_rule))) (l__law_both_rule : K.lookup p__law_both_rule = some ⟨oc__law_both_rule, od__law_both_rule, .func (PySem.W.fnOf "_law_both_rule" "_law_both_rule" (defArgs (top 55)) (defBody (top 55)) (defScope (top 55)) .none kV__law_both_rule dc__law_both_rule pm__law_both_rule an__law_both_rule cd__law_both_rule ct__law_both_rule), sl__law_both_rule⟩) (e__law_both_rule : PySem.W.codeIn K cd__law_both_rule "_law_both_rule" = true) (k__law_both_rule : PySem.W.keepIn K (.ref p__law_both_rule) = true)
    {p__law_are_rules_right : Addr} {od__law_are_rules_right an__law_are_rules_right : Option Addr} {sl__law_are_rules_right : Array (Option Value)} {oc__law_are_rules_right kV__law_are_rules_right dc__law_are_rules_right pm__law_are_rules_right cd__law_are_rules_right ct__law_are_rules_right : Value}
    (a__law_are_rules_right : PySem.W.nsIn K mainGlobals "_law_are_rules_right" = some (some (.ref p__law_are_rules_right))) (l__law_are_rules_right : K.lookup p__law_are_rules_right = some ⟨oc__law_are_rules_right, od__law_are_rules_right, .func (PySem.W.fnOf "_law_are_rules_right" "_law_are_rules_right" (defArgs (top 56)) (defBody (top 56)) (defScope (top 56)) .none kV__law_are_rules_right dc__law_are_rules_right pm__law_are_rules_right an__law_are_rules_right cd__law_are_rules_right ct__law_are_rules_right), sl__law_are_rules_right⟩) (e__law_are_rules_right : PySem.W.codeIn K cd__law_are_rules_right "_law_are_rules_right" = true) (k__law_are_rules_right : PySem.W.keepIn K (.ref p__law_are_rules_right) = true)
    {p_law : Addr} {od_law an_law : Option Addr} {sl_law : Array (Option Value)} {oc_law kV_law dc_law pm_law cd_law ct_law : Value}
    (a_law : PySem.W.nsIn K mainGlobals "law" = some (some (.ref p_law))) (l_law : K.lookup p_law = some ⟨oc_law, od_law, .func (PySem.W.fnOf "law" "law" (defArgs (top 57)) (defBody (top 57)) (defScope (top 57)) .none kV_law dc_law pm_law an_law cd_law ct_law), sl_law⟩) (e_law : PySem.W.codeIn K cd_law "law" = true) (k_law : PySem.W.keepIn K (.ref p_law) = true)
    (z_abs : PySem.W.nsIn K mainGlobals "abs" = some none)
    (z_all : PySem.W.nsIn K mainGlobals "all" = some none)
    (z_bool : PySem.W.nsIn K mainGlobals "bool" = some none)
    (z_enumerate : PySem.W.nsIn K mainGlobals "enumerate" = some none)
    (z_int : PySem.W.nsIn K mainGlobals "int" = some none)
    (z_isinstance : PySem.W.nsIn K mainGlobals "isinstance" = some none)
    (z_len : PySem.W.nsIn K mainGlobals "len" = some none)
    (z_list : PySem.W.nsIn K mainGlobals "list" = some none)
    (z_max : PySem.W.nsIn K mainGlobals "max" = some none)
    (z_min : PySem.W.nsIn K mainGlobals "min" = some none)
    (z_range : PySem.W.nsIn K mainGlobals "range" = some none)
    (z_repr : PySem.W.nsIn K mainGlobals "repr" = some none)
    (z_reversed : PySem.W.nsIn K mainGlobals "reversed" = some none)
    (z_set : PySem.W.nsIn K mainGlobals "set" = some none)
    (z_sorted : PySem.W.nsIn K mainGlobals "sorted" = some none)
    (z_str : PySem.W.nsIn K mainGlobals "str" = some none)
    (z_sum : PySem.W.nsIn K mainGlobals "sum" = some none)
    (z_tuple : PySem.W.nsIn K mainGlobals "tuple" = some none)
    (z_zip : PySem.W.nsIn K mainGlobals "zip" = some none)
    {t_MAX_ELEMENTS : Tok} (y_MAX_ELEMENTS : PySem.W.nsIn K mainGlobals "MAX_ELEMENTS" = some (some (.int 61 t_MAX_ELEMENTS)))
    {t_MAX_ENTRIES : Tok} (y_MAX_ENTRIES : PySem.W.nsIn K mainGlobals "MAX_ENTRIES" = some (some (.int 2000 t_MAX_ENTRIES)))
    {t_MAX_WORK : Tok} (y_MAX_WORK : PySem.W.nsIn K mainGlobals "MAX_WORK" = some (some (.int 60000 t_MAX_WORK)))
    {C fI C1 C2 C3 : Addr} {nm q : Str} {N : Addr} {bs bm : List Value} {sn : List Str} {sub : List Value} {ab : Bool} {col : Option Bool} {dd : Option Addr} {m0 m1 m2 m3 m5 : Option Value}
    (aC : PySem.W.nsIn K mainGlobals "TooMany" = some (some (.ref C))) (aC1 : PySem.W.nsIn K mainGlobals "TermError" = some (some (.ref C1))) (aC2 : PySem.W.nsIn K mainGlobals "Unfit" = some (some (.ref C2))) (aC3 : PySem.W.nsIn K mainGlobals "BadTerm" = some (some (.ref C3)))
    (xL : K.lookup C = some (excClassObj nm q C N bs bm true sn sub ab col dd m0 m1 m2 m3 m5 "ValueError.__new__")) (xR : PySem.HandSPX.refsVE bm = true)
    (sa : PySem.W.findIn K (.ref C) "__setattr__" = some (some (.builtin "object.__setattr__"))) (ga : PySem.W.findIn K (.ref C) "__getattribute__" = some (some (.builtin "BaseException.__getattribute__"))) (gg : PySem.W.findIn K (.ref C) "__getattr__" = some none) (nl : PySem.W.findIn K (.ref C) "limit" = some none)
    (iC : PySem.W.findIn K (.ref C) "__init__" = some (some (.ref fI))) (tI : PySem.W.typeIn K (.ref fI) = some (.type "function")) (kC : PySem.W.keepIn K (.ref C) = true) (eC : PySem.W.subIn K (.ref C) (.type "BaseException") = some true) (tC : PySem.W.typeIn K (.ref C) = some (.type "type")) (vC : PySem.W.subIn K (.ref C) (.type "ValueError") = some true)
    (oC : PySem.W.mroIn K C (.ref C) = some true) (suC : PySem.W.ks_superIn K C C "__init__" = some (some (.builtin "ValueError.__init__"))) (opq : PySem.W.nsIn K PySem.cStatics "thirdparty.any" = some none) (zS : PySem.W.nsIn K mainGlobals "super" = some none) (tp : (P.main.scope.names.lookup ("super" : Str)).isSome = false)
    {fo : Value} {fd : Option Addr} {fq : Str} {fdoc fpm : Value} {fan : Option Addr} {cda cc : Addr} {fct : Value} {fsl : Array (Option Value)} {p1 p2 q1 q2 q3 q4 q5 q6 q7 q8 q9 q10 : Pos} {vs : Array Value} {file : Str} {tf : Tok} {ccl cl : Value} {cdd cld : Option Addr} {ccs csl : Array (Option Value)}
    (lI : K.lookup fI = some ⟨fo, fd, .func (PySem.W.ksFn "__init__" fq (PySem.JX.xA p1 p2) (PySem.JX.xB q1 q2 q3 q4 q5 q6 q7 q8 q9 q10) PySem.JX.xS .none .none fdoc fpm fan (.ref cda) fct cc), fsl⟩) (cI : PySem.W.codeIn K (.ref cda) fq = true) (ld : K.lookup cda = some ⟨ccl, cdd, .fields vs, ccs⟩) (vf : vs[2]? = some (.str file tf)) (ff : ((P.main.file : Str) == file) = true) (ln : (q3.endLine == q5.line) = true) (lc : K.lookup cc = some ⟨cl, cld, .cell (some (.ref C)), csl⟩)
    (hd : PySem.W.hasDictIn K C = true) (ha : PySem.W.findIn K (.ref C) "__class__" = some (some (.builtin "object.__class__"))) (hn : PySem.W.specialIn K (.builtin "object.__class__") "__get__" = some (some (.builtin "getset_descriptor.__get__"))) (ht : PySem.W.takesIn K (.builtin "object.__class__") = some true) (hm : PySem.W.mroIn K C (.type "object") = some true)
    (te : PySem.W.exmOne K (.ref C) (.ref C) = some true) (k1 : PySem.W.kitOne K (.ref C) (.ref C1) = some true) (k2 : PySem.W.kitOne K (.ref C) (.ref C2) = some false) (k3 : PySem.W.kitOne K (.ref C) (.ref C3) = some false) :
    ∃ fd : FuncData, (∀ (s : Shared) (u : Value), BindsTo s fd ⟨[u], []⟩ [("script", u)]) ∧ ∀ base : Heap, K.In base → base.Ns mainGlobals mg → FnG P w K mg base 60 fa fd ["script"] (spX 1 K mg x_law) := by
  have e := hfa.symm.trans (PySem.W.mg_of X G a_law)
  cases e
  have B : Blt mg := ⟨PySem.W.mg_none_of X G z_abs, PySem.W.mg_none_of X G z_all, PySem.W.mg_none_of X G z_bool, PySem.W.mg_none_of X G z_enumerate, PySem.W.mg_none_of X G z_int, PySem.W.mg_none_of X G z_isinstance, PySem.W.mg_none_of X G z_len, PySem.W.mg_none_of X G z_list, PySem.W.mg_none_of X G z_max, PySem.W.mg_none_of X G z_min, PySem.W.mg_none_of X G z_range, PySem.W.mg_none_of X G z_repr, PySem.W.mg_none_of X G z_reversed, PySem.W.mg_none_of X G z_set, PySem.W.mg_none_of X G z_sorted, PySem.W.mg_none_of X G z_str, PySem.W.mg_none_of X G z_sum, PySem.W.mg_none_of X G z_tuple, PySem.W.mg_none_of X G z_zip⟩
  have g_MAX_ELEMENTS : ∃ t, mg "MAX_ELEMENTS" = some (.int 61 t) := ⟨_, PySem.W.mg_of X G y_MAX_ELEMENTS⟩
  have g_MAX_ENTRIES : ∃ t, mg "MAX_ENTRIES" = some (.int 2000 t) := ⟨_, PySem.W.mg_of X G y_MAX_ENTRIES⟩
  have g_MAX_WORK : ∃ t, mg "MAX_WORK" = some (.int 60000 t) := ⟨_, PySem.W.mg_of X G y_MAX_WORK⟩
  have xT : PySem.JX.ExTxt P K mg "TooMany" C fI :=
    { gC := PySem.W.mg_of X G aC, cls := ⟨nm, q, N, bs, bm, sn, sub, ab, col, dd, m0, m1, m2, m3, m5, xL, xR⟩, sa := sa, noN := nl, iC := iC, tC := tI, kC := kC, exC := eC, tyC := tC, veC := vC, own := oC, su := suC, opq := opq, noS := PySem.W.mg_none_of X G zS, top := tp,
      fn := ⟨fo, fd, fq, fdoc, fpm, fan, cda, cc, fct, fsl, p1, p2, q1, q2, q3, q4, q5, q6, q7, q8, q9, q10, vs, file, tf, ccl, cl, cdd, cld, ccs, csl, lI, cI, ld, vf, ff, ln, lc⟩ }
  have tA : Told K mg "TooMany" C := ⟨⟨ga, gg, eC, hd, ha, hn, ht, hm⟩, ⟨ga, gg, eC, hd⟩, nl, by decide, C1, C2, C3, PySem.W.mg_of X G aC1, PySem.W.mg_of X G aC2, PySem.W.mg_of X G aC3, k1, k2, k3⟩
  have F_row_of := fun_mk (st := top 9) l_row_of e_row_of k_row_of
  have b_row_of := F_row_of.binds (ps := ["pattern"]) fun _ _ _ _ _ _ us hl => match us, hl with | [_], _ => rfl
  have F_size := fun_mk (st := top 10) l_size e_size k_size
  have b_size := F_size.binds (ps := ["term"]) fun _ _ _ _ _ _ us hl => match us, hl with | [_], _ => rfl
  have F_spots_of := fun_mk (st := top 12) l_spots_of e_spots_of k_spots_of
  have b_spots_of := F_spots_of.binds (ps := ["pattern"]) fun _ _ _ _ _ _ us hl => match us, hl with | [_], _ => rfl
  have F_variables := fun_mk (st := top 13) l_variables e_variables k_variables
  have b_variables := F_variables.binds (ps := ["pattern"]) fun _ _ _ _ _ _ us hl => match us, hl with | [_], _ => rfl
  have F_sizes_of := fun_mk (st := top 15) l_sizes_of e_sizes_of k_sizes_of
  have b_sizes_of := F_sizes_of.binds (ps := ["rules"]) fun _ _ _ _ _ _ us hl => match us, hl with | [_], _ => rfl
  have F_power := fun_mk (st := top 17) l_power e_power k_power
  have b_power := F_power.binds (ps := ["base", "many"]) fun _ _ _ _ _ _ us hl => match us, hl with | [_, _], _ => rfl
  have F_tuples_of := fun_mk (st := top 18) l_tuples_of e_tuples_of k_tuples_of
  have b_tuples_of := F_tuples_of.binds (ps := ["items", "many"]) fun _ _ _ _ _ _ us hl => match us, hl with | [_, _], _ => rfl
  have F_entries := fun_mk (st := top 19) l_entries e_entries k_entries
  have b_entries := F_entries.binds (ps := ["signature", "many"]) fun _ _ _ _ _ _ us hl => match us, hl with | [_, _], _ => rfl
  have F_place_of := fun_mk (st := top 20) l_place_of e_place_of k_place_of
  have b_place_of := F_place_of.binds (ps := ["many", "row"]) fun _ _ _ _ _ _ us hl => match us, hl with | [_, _], _ => rfl
  have F_valued := fun_mk (st := top 21) l_valued e_valued k_valued
  have b_valued := F_valued.binds (ps := ["algebra", "pattern", "given"]) fun _ _ _ _ _ _ us hl => match us, hl with | [_, _, _], _ => rfl
  have F_value_of := fun_mk (st := top 22) l_value_of e_value_of k_value_of
  have b_value_of := F_value_of.binds (ps := ["algebra", "term"]) fun _ _ _ _ _ _ us hl => match us, hl with | [_, _], _ => rfl
  have F_does_break := fun_mk (st := top 23) l_does_break e_does_break k_does_break
  have b_does_break := F_does_break.binds (ps := ["algebra", "rule", "given"]) fun _ _ _ _ _ _ us hl => match us, hl with | [_, _, _], _ => rfl
  have F_first_break := fun_mk (st := top 24) l_first_break e_first_break k_first_break
  have b_first_break := F_first_break.binds (ps := ["algebra", "rule"]) fun _ _ _ _ _ _ us hl => match us, hl with | [_, _], _ => rfl
  have F_breaks := fun_mk (st := top 25) l_breaks e_breaks k_breaks
  have b_breaks := F_breaks.binds (ps := ["algebra", "rule"]) fun _ _ _ _ _ _ us hl => match us, hl with | [_, _], _ => rfl
  have F_product := fun_mk (st := top 26) l_product e_product k_product
  have b_product := F_product.binds (ps := ["signature", "one", "other"]) fun _ _ _ _ _ _ us hl => match us, hl with | [_, _, _], _ => rfl
  have F__law_own_bag := fun_mk (st := top 28) l__law_own_bag e__law_own_bag k__law_own_bag
  have b__law_own_bag := F__law_own_bag.binds (ps := ["script"]) fun _ _ _ _ _ _ us hl => match us, hl with | [_], _ => rfl
  have F__law_draw := fun_mk (st := top 29) l__law_draw e__law_draw k__law_draw
  have b__law_draw := F__law_draw.binds (ps := ["bag", "below"]) fun _ _ _ _ _ _ us hl => match us, hl with | [_, _], _ => rfl
  have F__law_pick := fun_mk (st := top 30) l__law_pick e__law_pick k__law_pick
  have b__law_pick := F__law_pick.binds (ps := ["bag", "some"]) fun _ _ _ _ _ _ us hl => match us, hl with | [_, _], _ => rfl
  have F__law_power := fun_mk (st := top 31) l__law_power e__law_power k__law_power
  have b__law_power := F__law_power.binds (ps := ["number", "many"]) fun _ _ _ _ _ _ us hl => match us, hl with | [_, _], _ => rfl
  have F__law_like := fun_mk (st := top 32) l__law_like e__law_like k__law_like
  have b__law_like := F__law_like.binds (ps := ["told", "due"]) fun _ _ _ _ _ _ us hl => match us, hl with | [_, _], _ => rfl
  have F__law_value := fun_mk (st := top 33) l__law_value e__law_value k__law_value
  have b__law_value := F__law_value.binds (ps := ["algebra", "pattern", "given"]) fun _ _ _ _ _ _ us hl => match us, hl with | [_, _, _], _ => rfl
  have F__law_many := fun_mk (st := top 34) l__law_many e__law_many k__law_many
  have b__law_many := F__law_many.binds (ps := ["pattern"]) fun _ _ _ _ _ _ us hl => match us, hl with | [_], _ => rfl
  have F__law_items := fun_mk (st := top 35) l__law_items e__law_items k__law_items
  have b__law_items := F__law_items.binds (ps := ["signature", "many"]) fun _ _ _ _ _ _ us hl => match us, hl with | [_, _], _ => rfl
  have F__law_pattern := fun_mk (st := top 36) l__law_pattern e__law_pattern k__law_pattern
  have b__law_pattern := F__law_pattern.binds (ps := ["bag", "signature", "names", "room"]) fun _ _ _ _ _ _ us hl => match us, hl with | [_, _, _, _], _ => rfl
  have F__law_called := fun_mk (st := top 37) l__law_called e__law_called k__law_called
  have b__law_called := F__law_called.binds (ps := ["pattern", "names"]) fun _ _ _ _ _ _ us hl => match us, hl with | [_, _], _ => rfl
  have F__law_variables := fun_mk (st := top 38) l__law_variables e__law_variables k__law_variables
  have b__law_variables := F__law_variables.binds (ps := ["pattern"]) fun _ _ _ _ _ _ us hl => match us, hl with | [_], _ => rfl
  have F__law_rule := fun_mk (st := top 39) l__law_rule e__law_rule k__law_rule
  have b__law_rule := F__law_rule.binds (ps := ["bag", "signature", "most", "room"]) fun _ _ _ _ _ _ us hl => match us, hl with | [_, _, _, _], _ => rfl
  have F__law_width := fun_mk (st := top 40) l__law_width e__law_width k__law_width
  have b__law_width := F__law_width.binds (ps := ["rule"]) fun _ _ _ _ _ _ us hl => match us, hl with | [_], _ => rfl
  have F__law_given := fun_mk (st := top 41) l__law_given e__law_given k__law_given
  have b__law_given := F__law_given.binds (ps := ["number", "many", "at"]) fun _ _ _ _ _ _ us hl => match us, hl with | [_, _, _], _ => rfl
  have F__law_is_kept := fun_mk (st := top 42) l__law_is_kept e__law_is_kept k__law_is_kept
  have b__law_is_kept := F__law_is_kept.binds (ps := ["algebra", "rule", "given"]) fun _ _ _ _ _ _ us hl => match us, hl with | [_, _, _], _ => rfl
  have F__law_broken := fun_mk (st := top 43) l__law_broken e__law_broken k__law_broken
  have b__law_broken := F__law_broken.binds (ps := ["algebra", "rule"]) fun _ _ _ _ _ _ us hl => match us, hl with | [_, _], _ => rfl
  have F__law_spots := fun_mk (st := top 44) l__law_spots e__law_spots k__law_spots
  have b__law_spots := F__law_spots.binds (ps := ["number", "one", "times", "arity"]) fun _ _ _ _ _ _ us hl => match us, hl with | [_, _, _, _], _ => rfl
  have F__law_due := fun_mk (st := top 45) l__law_due e__law_due k__law_due
  have b__law_due := F__law_due.binds (ps := ["signature", "one", "other"]) fun _ _ _ _ _ _ us hl => match us, hl with | [_, _, _], _ => rfl
  have F__law_told := fun_mk (st := top 46) l__law_told e__law_told k__law_told
  have b__law_told := F__law_told.binds (ps := ["signature", "one", "other", "is_named"]) fun _ _ _ _ _ _ us hl => match us, hl with | [_, _, _, _], _ => rfl
  have F__law_is_product_right := fun_mk (st := top 47) l__law_is_product_right e__law_is_product_right k__law_is_product_right
  have b__law_is_product_right := F__law_is_product_right.binds (ps := ["signature", "one", "other", "is_named"]) fun _ _ _ _ _ _ us hl => match us, hl with | [_, _, _, _], _ => rfl
  have F__law_signature := fun_mk (st := top 48) l__law_signature e__law_signature k__law_signature
  have b__law_signature := F__law_signature.binds (ps := ["bag", "most"]) fun _ _ _ _ _ _ us hl => match us, hl with | [_, _], _ => rfl
  have F__law_algebra := fun_mk (st := top 49) l__law_algebra e__law_algebra k__law_algebra
  have b__law_algebra := F__law_algebra.binds (ps := ["bag", "signature", "number"]) fun _ _ _ _ _ _ us hl => match us, hl with | [_, _, _], _ => rfl
  have F__law_small := fun_mk (st := top 50) l__law_small e__law_small k__law_small
  have b__law_small := F__law_small.binds (ps := ["bag", "signature"]) fun _ _ _ _ _ _ us hl => match us, hl with | [_, _], _ => rfl
  have F__law_great := fun_mk (st := top 51) l__law_great e__law_great k__law_great
  have b__law_great := F__law_great.binds (ps := ["bag", "signature", "number"]) fun _ _ _ _ _ _ us hl => match us, hl with | [_, _, _], _ => rfl
  have F__law_any_pair := fun_mk (st := top 52) l__law_any_pair e__law_any_pair k__law_any_pair
  have b__law_any_pair := F__law_any_pair.binds (ps := ["bag"]) fun _ _ _ _ _ _ us hl => match us, hl with | [_], _ => rfl
  have F__law_are_limits_right := fun_mk (st := top 53) l__law_are_limits_right e__law_are_limits_right k__law_are_limits_right
  have b__law_are_limits_right := F__law_are_limits_right.binds (ps := ["bag"]) fun _ _ _ _ _ _ us hl => match us, hl with | [_], _ => rfl
  have F__law_are_values_right := fun_mk (st := top 54) l__law_are_values_right e__law_are_values_right k__law_are_values_right
  have b__law_are_values_right := F__law_are_values_right.binds (ps := ["bag", "signature", "one", "other", "told"]) fun _ _ _ _ _ _ us hl => match us, hl with | [_, _, _, _, _], _ => rfl
  have F__law_both_rule := fun_mk (st := top 55) l__law_both_rule e__law_both_rule k__law_both_rule
  have b__law_both_rule := F__law_both_rule.binds (ps := ["bag", "signature", "one", "other"]) fun _ _ _ _ _ _ us hl => match us, hl with | [_, _, _, _], _ => rfl
  have F__law_are_rules_right := fun_mk (st := top 56) l__law_are_rules_right e__law_are_rules_right k__law_are_rules_right
  have b__law_are_rules_right := F__law_are_rules_right.binds (ps := ["bag", "signature", "one", "other", "told", "due"]) fun _ _ _ _ _ _ us hl => match us, hl with | [_, _, _, _, _, _], _ => rfl
  have F_law := fun_mk (st := top 57) l_law e_law k_law
  have b_law := F_law.binds (ps := ["script"]) fun _ _ _ _ _ _ us hl => match us, hl with | [_], _ => rfl
  refine ⟨PySem.W.fnOf "law" "law" (defArgs (top 57)) (defBody (top 57)) (defScope (top 57)) .none kV_law dc_law pm_law an_law cd_law ct_law, fun s u => .of_eq rfl, fun base _ _ => ?_⟩
  have d_row_of : ClX P w K mg base "row_of" 1 2 x_row_of := (w_row_of (P := P) (w := w) (K := K) (mg := mg) (base := base) (k := 1) (Nat.le_refl _) B ).cl F_row_of sc_row_of (by decide) rfl rfl (PySem.W.mg_of X G a_row_of) k_row_of b_row_of
  have c_row_of : Cl P w K mg base "row_of" 1 2 m_row_of := d_row_of.cl
  have d_size : ClX P w K mg base "size" 1 3 x_size := (w_size (P := P) (w := w) (K := K) (mg := mg) (base := base) (k := 2) (Nat.le_refl _) B c_row_of).cl F_size sc_size (by decide) rfl rfl (PySem.W.mg_of X G a_size) k_size b_size
  have c_size : Cl P w K mg base "size" 1 3 m_size := d_size.cl
  have d_spots_of : ClX P w K mg base "spots_of" 1 2 x_spots_of := (w_spots_of (P := P) (w := w) (K := K) (mg := mg) (base := base) (k := 1) (Nat.le_refl _) B ).cl F_spots_of sc_spots_of (by decide) rfl rfl (PySem.W.mg_of X G a_spots_of) k_spots_of b_spots_of
  have c_spots_of : Cl P w K mg base "spots_of" 1 2 m_spots_of := d_spots_of.cl
  have d_variables : ClX P w K mg base "variables" 1 3 x_variables := (w_variables (P := P) (w := w) (K := K) (mg := mg) (base := base) (k := 2) (Nat.le_refl _) B c_spots_of).cl F_variables sc_variables (by decide) rfl rfl (PySem.W.mg_of X G a_variables) k_variables b_variables
  have c_variables : Cl P w K mg base "variables" 1 3 m_variables := d_variables.cl
  have d_sizes_of : ClX P w K mg base "sizes_of" 1 4 x_sizes_of := (w_sizes_of (P := P) (w := w) (K := K) (mg := mg) (base := base) (k := 3) (Nat.le_refl _) B c_size).cl F_sizes_of sc_sizes_of (by decide) rfl rfl (PySem.W.mg_of X G a_sizes_of) k_sizes_of b_sizes_of
  have c_sizes_of : Cl P w K mg base "sizes_of" 1 4 m_sizes_of := d_sizes_of.cl
  have d_power : ClX P w K mg base "power" 2 2 x_power := (w_power (P := P) (w := w) (K := K) (mg := mg) (base := base) (k := 1) (Nat.le_refl _) B ).cl F_power sc_power (by decide) rfl rfl (PySem.W.mg_of X G a_power) k_power b_power
  have c_power : Cl P w K mg base "power" 2 2 m_power := d_power.cl
  have d_tuples_of : ClX P w K mg base "tuples_of" 2 2 x_tuples_of := (w_tuples_of (P := P) (w := w) (K := K) (mg := mg) (base := base) (k := 1) (Nat.le_refl _) B ).cl F_tuples_of sc_tuples_of (by decide) rfl rfl (PySem.W.mg_of X G a_tuples_of) k_tuples_of b_tuples_of
  have c_tuples_of : Cl P w K mg base "tuples_of" 2 2 m_tuples_of := d_tuples_of.cl
  have d_entries : ClX P w K mg base "entries" 2 3 x_entries := (w_entries (P := P) (w := w) (K := K) (mg := mg) (base := base) (k := 2) (Nat.le_refl _) B c_power).cl F_entries sc_entries (by decide) rfl rfl (PySem.W.mg_of X G a_entries) k_entries b_entries
  have c_entries : Cl P w K mg base "entries" 2 3 m_entries := d_entries.cl
  have d_place_of : ClX P w K mg base "place_of" 2 2 x_place_of := (w_place_of (P := P) (w := w) (K := K) (mg := mg) (base := base) (k := 1) (Nat.le_refl _) B ).cl F_place_of sc_place_of (by decide) rfl rfl (PySem.W.mg_of X G a_place_of) k_place_of b_place_of
  have c_place_of : Cl P w K mg base "place_of" 2 2 m_place_of := d_place_of.cl
  have c_valued : ∀ n, Cl P w K mg base "valued" 3 (2 + 1 + n) (m_valued n) := fun n => by
    induction n with
    | zero => exact cl_none (PySem.W.mg_of X G a_valued) k_valued b_valued
    | succ n ih => exact ((w_valued (P := P) (w := w) (K := K) (mg := mg) (base := base) (k := 2 + 1 + n) (self := m_valued n) (by omega) B c_place_of (ar_valued n) ih).cl F_valued sc_valued (by decide) rfl rfl (PySem.W.mg_of X G a_valued) k_valued b_valued).cl
  have d_value_of : ClX P w K mg base "value_of" 2 16 x_value_of := (w_value_of (P := P) (w := w) (K := K) (mg := mg) (base := base) (k := 15) (Nat.le_refl _) B (c_valued 12)).cl F_value_of sc_value_of (by decide) rfl rfl (PySem.W.mg_of X G a_value_of) k_value_of b_value_of
  have c_value_of : Cl P w K mg base "value_of" 2 16 m_value_of := d_value_of.cl
  have d_does_break : ClX P w K mg base "does_break" 3 16 x_does_break := (w_does_break (P := P) (w := w) (K := K) (mg := mg) (base := base) (k := 15) (Nat.le_refl _) B (c_valued 12)).cl F_does_break sc_does_break (by decide) rfl rfl (PySem.W.mg_of X G a_does_break) k_does_break b_does_break
  have c_does_break : Cl P w K mg base "does_break" 3 16 m_does_break := d_does_break.cl
  have d_first_break : ClX P w K mg base "first_break" 2 17 x_first_break := (w_first_break (P := P) (w := w) (K := K) (mg := mg) (base := base) (k := 16) (Nat.le_refl _) B c_does_break c_tuples_of c_variables).cl F_first_break sc_first_break (by decide) rfl rfl (PySem.W.mg_of X G a_first_break) k_first_break b_first_break
  have c_first_break : Cl P w K mg base "first_break" 2 17 m_first_break := d_first_break.cl
  have d_breaks : ClX P w K mg base "breaks" 2 18 x_breaks := (w_breaks (P := P) (w := w) (K := K) (mg := mg) (base := base) (k := 17) (Nat.le_refl _) B c_first_break c_power c_sizes_of c_variables g_MAX_WORK).cl F_breaks sc_breaks (by decide) rfl rfl (PySem.W.mg_of X G a_breaks) k_breaks b_breaks
  have c_breaks : Cl P w K mg base "breaks" 2 18 m_breaks := d_breaks.cl
  have d_product : ClX P w K mg base "product" 3 4 x_product := (w_product (P := P) (w := w) (K := K) (mg := mg) (base := base) (k := 3) (Nat.le_refl _) B c_entries c_place_of c_tuples_of g_MAX_ELEMENTS g_MAX_ENTRIES xT).cl F_product sc_product (by decide) rfl rfl (PySem.W.mg_of X G a_product) k_product b_product
  have c_product : Cl P w K mg base "product" 3 4 m_product := d_product.cl
  have kk_product : ClK3 P w K mg base "product" 4 "other" "one" "signature" x_product := ⟨p_product, _, _, (w_product (P := P) (w := w) (K := K) (mg := mg) (base := base) (k := 3) (Nat.le_refl _) B c_entries c_place_of c_tuples_of g_MAX_ELEMENTS g_MAX_ENTRIES xT).fn F_product sc_product (by decide), (PySem.W.mg_of X G a_product), k_product, rfl, fun s a b c X => .of_eq (by first | rfl | with_unfolding_all rfl | kernel_rfl)⟩
  have d__law_own_bag : ClX P w K mg base "_law_own_bag" 1 2 x__law_own_bag := (w__law_own_bag (P := P) (w := w) (K := K) (mg := mg) (base := base) (k := 1) (Nat.le_refl _) B ).cl F__law_own_bag sc__law_own_bag (by decide) rfl rfl (PySem.W.mg_of X G a__law_own_bag) k__law_own_bag b__law_own_bag
  have c__law_own_bag : Cl P w K mg base "_law_own_bag" 1 2 m__law_own_bag := d__law_own_bag.cl
  have d__law_draw : ClX P w K mg base "_law_draw" 2 2 x__law_draw := (w__law_draw (P := P) (w := w) (K := K) (mg := mg) (base := base) (k := 1) (Nat.le_refl _) B ).cl F__law_draw sc__law_draw (by decide) rfl rfl (PySem.W.mg_of X G a__law_draw) k__law_draw b__law_draw
  have c__law_draw : Cl P w K mg base "_law_draw" 2 2 m__law_draw := d__law_draw.cl
  have d__law_pick : ClX P w K mg base "_law_pick" 2 3 x__law_pick := (w__law_pick (P := P) (w := w) (K := K) (mg := mg) (base := base) (k := 2) (Nat.le_refl _) B c__law_draw).cl F__law_pick sc__law_pick (by decide) rfl rfl (PySem.W.mg_of X G a__law_pick) k__law_pick b__law_pick
  have c__law_pick : Cl P w K mg base "_law_pick" 2 3 m__law_pick := d__law_pick.cl
  have d__law_power : ClX P w K mg base "_law_power" 2 2 x__law_power := (w__law_power (P := P) (w := w) (K := K) (mg := mg) (base := base) (k := 1) (Nat.le_refl _) B ).cl F__law_power sc__law_power (by decide) rfl rfl (PySem.W.mg_of X G a__law_power) k__law_power b__law_power
  have c__law_power : Cl P w K mg base "_law_power" 2 2 m__law_power := d__law_power.cl
  have c__law_like : ∀ n, Cl P w K mg base "_law_like" 2 (1 + 1 + n) (m__law_like n) := fun n => by
    induction n with
    | zero => exact cl_none (PySem.W.mg_of X G a__law_like) k__law_like b__law_like
    | succ n ih => exact ((w__law_like (P := P) (w := w) (K := K) (mg := mg) (base := base) (k := 1 + 1 + n) (self := m__law_like n) (by omega) B (ar__law_like n) ih).cl F__law_like sc__law_like (by decide) rfl rfl (PySem.W.mg_of X G a__law_like) k__law_like b__law_like).cl
  have c__law_value : ∀ n, Cl P w K mg base "_law_value" 3 (1 + 1 + n) (m__law_value n) := fun n => by
    induction n with
    | zero => exact cl_none (PySem.W.mg_of X G a__law_value) k__law_value b__law_value
    | succ n ih => exact ((w__law_value (P := P) (w := w) (K := K) (mg := mg) (base := base) (k := 1 + 1 + n) (self := m__law_value n) (by omega) B (ar__law_value n) ih).cl F__law_value sc__law_value (by decide) rfl rfl (PySem.W.mg_of X G a__law_value) k__law_value b__law_value).cl
  have d__law_many : ClX P w K mg base "_law_many" 1 2 x__law_many := (w__law_many (P := P) (w := w) (K := K) (mg := mg) (base := base) (k := 1) (Nat.le_refl _) B ).cl F__law_many sc__law_many (by decide) rfl rfl (PySem.W.mg_of X G a__law_many) k__law_many b__law_many
  have c__law_many : Cl P w K mg base "_law_many" 1 2 m__law_many := d__law_many.cl
  have d__law_items : ClX P w K mg base "_law_items" 2 3 x__law_items := (w__law_items (P := P) (w := w) (K := K) (mg := mg) (base := base) (k := 2) (Nat.le_refl _) B c__law_power).cl F__law_items sc__law_items (by decide) rfl rfl (PySem.W.mg_of X G a__law_items) k__law_items b__law_items
  have c__law_items : Cl P w K mg base "_law_items" 2 3 m__law_items := d__law_items.cl
  have c__law_pattern : ∀ n, Cl P w K mg base "_law_pattern" 4 (3 + 1 + n) (m__law_pattern n) := fun n => by
    induction n with
    | zero => exact cl_none (PySem.W.mg_of X G a__law_pattern) k__law_pattern b__law_pattern
    | succ n ih => exact ((w__law_pattern (P := P) (w := w) (K := K) (mg := mg) (base := base) (k := 3 + 1 + n) (self := m__law_pattern n) (by omega) B c__law_draw c__law_many (ar__law_pattern n) ih c__law_pick).cl F__law_pattern sc__law_pattern (by decide) rfl rfl (PySem.W.mg_of X G a__law_pattern) k__law_pattern b__law_pattern).cl
  have c__law_called : ∀ n, Cl P w K mg base "_law_called" 2 (1 + 1 + n) (m__law_called n) := fun n => by
    induction n with
    | zero => exact cl_none (PySem.W.mg_of X G a__law_called) k__law_called b__law_called
    | succ n ih => exact ((w__law_called (P := P) (w := w) (K := K) (mg := mg) (base := base) (k := 1 + 1 + n) (self := m__law_called n) (by omega) B (ar__law_called n) ih).cl F__law_called sc__law_called (by decide) rfl rfl (PySem.W.mg_of X G a__law_called) k__law_called b__law_called).cl
  have d__law_variables : ClX P w K mg base "_law_variables" 1 2 x__law_variables := (w__law_variables (P := P) (w := w) (K := K) (mg := mg) (base := base) (k := 1) (Nat.le_refl _) B ).cl F__law_variables sc__law_variables (by decide) rfl rfl (PySem.W.mg_of X G a__law_variables) k__law_variables b__law_variables
  have c__law_variables : Cl P w K mg base "_law_variables" 1 2 m__law_variables := d__law_variables.cl
  have d__law_rule : ClX P w K mg base "_law_rule" 4 17 x__law_rule := (w__law_rule (P := P) (w := w) (K := K) (mg := mg) (base := base) (k := 16) (Nat.le_refl _) B (c__law_called 12) (c__law_pattern 12) c__law_pick c__law_variables).cl F__law_rule sc__law_rule (by decide) rfl rfl (PySem.W.mg_of X G a__law_rule) k__law_rule b__law_rule
  have c__law_rule : Cl P w K mg base "_law_rule" 4 17 m__law_rule := d__law_rule.cl
  have d__law_width : ClX P w K mg base "_law_width" 1 3 x__law_width := (w__law_width (P := P) (w := w) (K := K) (mg := mg) (base := base) (k := 2) (Nat.le_refl _) B c__law_many).cl F__law_width sc__law_width (by decide) rfl rfl (PySem.W.mg_of X G a__law_width) k__law_width b__law_width
  have c__law_width : Cl P w K mg base "_law_width" 1 3 m__law_width := d__law_width.cl
  have d__law_given : ClX P w K mg base "_law_given" 3 2 x__law_given := (w__law_given (P := P) (w := w) (K := K) (mg := mg) (base := base) (k := 1) (Nat.le_refl _) B ).cl F__law_given sc__law_given (by decide) rfl rfl (PySem.W.mg_of X G a__law_given) k__law_given b__law_given
  have c__law_given : Cl P w K mg base "_law_given" 3 2 m__law_given := d__law_given.cl
  have d__law_is_kept : ClX P w K mg base "_law_is_kept" 3 15 x__law_is_kept := (w__law_is_kept (P := P) (w := w) (K := K) (mg := mg) (base := base) (k := 14) (Nat.le_refl _) B (c__law_value 12)).cl F__law_is_kept sc__law_is_kept (by decide) rfl rfl (PySem.W.mg_of X G a__law_is_kept) k__law_is_kept b__law_is_kept
  have c__law_is_kept : Cl P w K mg base "_law_is_kept" 3 15 m__law_is_kept := d__law_is_kept.cl
  have d__law_broken : ClX P w K mg base "_law_broken" 2 16 x__law_broken := (w__law_broken (P := P) (w := w) (K := K) (mg := mg) (base := base) (k := 15) (Nat.le_refl _) B c__law_given c__law_is_kept c__law_power c__law_variables).cl F__law_broken sc__law_broken (by decide) rfl rfl (PySem.W.mg_of X G a__law_broken) k__law_broken b__law_broken
  have c__law_broken : Cl P w K mg base "_law_broken" 2 16 m__law_broken := d__law_broken.cl
  have d__law_spots : ClX P w K mg base "_law_spots" 4 2 x__law_spots := (w__law_spots (P := P) (w := w) (K := K) (mg := mg) (base := base) (k := 1) (Nat.le_refl _) B ).cl F__law_spots sc__law_spots (by decide) rfl rfl (PySem.W.mg_of X G a__law_spots) k__law_spots b__law_spots
  have c__law_spots : Cl P w K mg base "_law_spots" 4 2 m__law_spots := d__law_spots.cl
  have d__law_due : ClX P w K mg base "_law_due" 3 4 x__law_due := (w__law_due (P := P) (w := w) (K := K) (mg := mg) (base := base) (k := 3) (Nat.le_refl _) B c__law_items c__law_spots).cl F__law_due sc__law_due (by decide) rfl rfl (PySem.W.mg_of X G a__law_due) k__law_due b__law_due
  have c__law_due : Cl P w K mg base "_law_due" 3 4 m__law_due := d__law_due.cl
  have d__law_told : ClX P w K mg base "_law_told" 4 5 x__law_told := (w__law_told (P := P) (w := w) (K := K) (mg := mg) (base := base) (k := 4) (Nat.le_refl _) B d_product kk_product (PySem.W.mg_of X G aC) te tA).cl F__law_told sc__law_told (by decide) rfl rfl (PySem.W.mg_of X G a__law_told) k__law_told b__law_told
  have c__law_told : Cl P w K mg base "_law_told" 4 5 m__law_told := d__law_told.cl
  have d__law_is_product_right : ClX P w K mg base "_law_is_product_right" 4 9 x__law_is_product_right := (w__law_is_product_right (P := P) (w := w) (K := K) (mg := mg) (base := base) (k := 8) (Nat.le_refl _) B c__law_due (c__law_like 6) c__law_told).cl F__law_is_product_right sc__law_is_product_right (by decide) rfl rfl (PySem.W.mg_of X G a__law_is_product_right) k__law_is_product_right b__law_is_product_right
  have c__law_is_product_right : Cl P w K mg base "_law_is_product_right" 4 9 m__law_is_product_right := d__law_is_product_right.cl
  have d__law_signature : ClX P w K mg base "_law_signature" 2 3 x__law_signature := (w__law_signature (P := P) (w := w) (K := K) (mg := mg) (base := base) (k := 2) (Nat.le_refl _) B c__law_draw).cl F__law_signature sc__law_signature (by decide) rfl rfl (PySem.W.mg_of X G a__law_signature) k__law_signature b__law_signature
  have c__law_signature : Cl P w K mg base "_law_signature" 2 3 m__law_signature := d__law_signature.cl
  have d__law_algebra : ClX P w K mg base "_law_algebra" 3 3 x__law_algebra := (w__law_algebra (P := P) (w := w) (K := K) (mg := mg) (base := base) (k := 2) (Nat.le_refl _) B c__law_draw c__law_power).cl F__law_algebra sc__law_algebra (by decide) rfl rfl (PySem.W.mg_of X G a__law_algebra) k__law_algebra b__law_algebra
  have c__law_algebra : Cl P w K mg base "_law_algebra" 3 3 m__law_algebra := d__law_algebra.cl
  have d__law_small : ClX P w K mg base "_law_small" 2 4 x__law_small := (w__law_small (P := P) (w := w) (K := K) (mg := mg) (base := base) (k := 3) (Nat.le_refl _) B c__law_algebra c__law_draw c__law_items).cl F__law_small sc__law_small (by decide) rfl rfl (PySem.W.mg_of X G a__law_small) k__law_small b__law_small
  have c__law_small : Cl P w K mg base "_law_small" 2 4 m__law_small := d__law_small.cl
  have d__law_great : ClX P w K mg base "_law_great" 3 3 x__law_great := (w__law_great (P := P) (w := w) (K := K) (mg := mg) (base := base) (k := 2) (Nat.le_refl _) B c__law_draw c__law_power).cl F__law_great sc__law_great (by decide) rfl rfl (PySem.W.mg_of X G a__law_great) k__law_great b__law_great
  have c__law_great : Cl P w K mg base "_law_great" 3 3 m__law_great := d__law_great.cl
  have d__law_any_pair : ClX P w K mg base "_law_any_pair" 1 4 x__law_any_pair := (w__law_any_pair (P := P) (w := w) (K := K) (mg := mg) (base := base) (k := 3) (Nat.le_refl _) B c__law_draw c__law_items c__law_pick c__law_signature).cl F__law_any_pair sc__law_any_pair (by decide) rfl rfl (PySem.W.mg_of X G a__law_any_pair) k__law_any_pair b__law_any_pair
  have c__law_any_pair : Cl P w K mg base "_law_any_pair" 1 4 m__law_any_pair := d__law_any_pair.cl
  have d__law_are_limits_right : ClX P w K mg base "_law_are_limits_right" 1 10 x__law_are_limits_right := (w__law_are_limits_right (P := P) (w := w) (K := K) (mg := mg) (base := base) (k := 9) (Nat.le_refl _) B c__law_any_pair c__law_draw c__law_great c__law_is_product_right c__law_pick).cl F__law_are_limits_right sc__law_are_limits_right (by decide) rfl rfl (PySem.W.mg_of X G a__law_are_limits_right) k__law_are_limits_right b__law_are_limits_right
  have c__law_are_limits_right : Cl P w K mg base "_law_are_limits_right" 1 10 m__law_are_limits_right := d__law_are_limits_right.cl
  have d__law_are_values_right : ClX P w K mg base "_law_are_values_right" 5 17 x__law_are_values_right := (w__law_are_values_right (P := P) (w := w) (K := K) (mg := mg) (base := base) (k := 16) (Nat.le_refl _) B c__law_draw (c__law_like 6) (c__law_pattern 12) (c__law_value 12) c_value_of).cl F__law_are_values_right sc__law_are_values_right (by decide) rfl rfl (PySem.W.mg_of X G a__law_are_values_right) k__law_are_values_right b__law_are_values_right
  have c__law_are_values_right : Cl P w K mg base "_law_are_values_right" 5 17 m__law_are_values_right := d__law_are_values_right.cl
  have d__law_both_rule : ClX P w K mg base "_law_both_rule" 4 18 x__law_both_rule := (w__law_both_rule (P := P) (w := w) (K := K) (mg := mg) (base := base) (k := 17) (Nat.le_refl _) B c__law_broken c__law_rule).cl F__law_both_rule sc__law_both_rule (by decide) rfl rfl (PySem.W.mg_of X G a__law_both_rule) k__law_both_rule b__law_both_rule
  have c__law_both_rule : Cl P w K mg base "_law_both_rule" 4 18 m__law_both_rule := d__law_both_rule.cl
  have d__law_are_rules_right : ClX P w K mg base "_law_are_rules_right" 6 19 x__law_are_rules_right := (w__law_are_rules_right (P := P) (w := w) (K := K) (mg := mg) (base := base) (k := 18) (Nat.le_refl _) B c__law_both_rule c__law_broken (c__law_like 6) c__law_power c__law_rule c__law_variables c__law_width c_breaks).cl F__law_are_rules_right sc__law_are_rules_right (by decide) rfl rfl (PySem.W.mg_of X G a__law_are_rules_right) k__law_are_rules_right b__law_are_rules_right
  have c__law_are_rules_right : Cl P w K mg base "_law_are_rules_right" 6 19 m__law_are_rules_right := d__law_are_rules_right.cl
  exact ((w_law (P := P) (w := w) (K := K) (mg := mg) (base := base) (k := 19) (Nat.le_refl _) B c__law_are_limits_right c__law_are_rules_right c__law_are_values_right c__law_draw c__law_due c__law_is_product_right c__law_own_bag c__law_pick c__law_signature c__law_small c_product).fn F_law sc_law (by decide)).mono (by decide)
end K73
open PySem PySem.W PyProof.Rows
set_option maxRecDepth 100000 in
set_option maxHeartbeats 0 in
theorem PySem.Challenge.cw_fencedterms_k73_whole_products_holds : PySem.Challenge.rw_fencedterms_k73_whole_products.Holds := by
  w_on; o_law; k_head; (case hw => w_witness2)
  k_fill
  refine JJ.walk_ofG (l := PySem.Challenge.rw_fencedterms_k73_whole_products) (n := 63) (k := 60) (x := "script") (f := K73.x_law) rfl (by decide) rfl ⟨rfl, by decide, by decide⟩ (fun w h Y => PySem.W.kIn_of Y) ?FF ?MM
  case MM => exact K73.law_true
  case FF =>
    intro w mg fa h KX G hmg
    refine' K73.all_mk KX G hmg ?a_row_of ?l_row_of ?e_row_of ?k_row_of ?a_size ?l_size ?e_size ?k_size ?a_spots_of ?l_spots_of ?e_spots_of ?k_spots_of ?a_variables ?l_variables ?e_variables ?k_variables ?a_sizes_of ?l_sizes_of ?e_sizes_of ?k_sizes_of ?a_power ?l_power ?e_power ?k_power ?a_tuples_of ?l_tuples_of ?e_tuples_of ?k_tuples_of ?a_entries ?l_entries ?e_entries ?k_entries ?a_place_of ?l_place_of ?e_place_of ?k_place_of ?a_valued ?l_valued ?e_valued ?k_valued ?a_value_of ?l_value_of ?e_value_of ?k_value_of ?a_does_break ?l_does_break ?e_does_break ?k_does_break ?a_first_break ?l_first_break ?e_first_break ?k_first_break ?a_breaks ?l_breaks ?e_breaks ?k_breaks ?a_product ?l_product ?e_product ?k_product ?a__law_own_bag ?l__law_own_bag ?e__law_own_bag ?k__law_own_bag ?a__law_draw ?l__law_draw ?e__law_draw ?k__law_draw ?a__law_pick ?l__law_pick ?e__law_pick ?k__law_pick ?a__law_power ?l__law_power ?e__law_power ?k__law_power ?a__law_like ?l__law_like ?e__law_like ?k__law_like ?a__law_value ?l__law_value ?e__law_value ?k__law_value ?a__law_many ?l__law_many ?e__law_many ?k__law_many ?a__law_items ?l__law_items ?e__law_items ?k__law_items ?a__law_pattern ?l__law_pattern ?e__law_pattern ?k__law_pattern ?a__law_called ?l__law_called ?e__law_called ?k__law_called ?a__law_variables ?l__law_variables ?e__law_variables ?k__law_variables ?a__law_rule ?l__law_rule ?e__law_rule ?k__law_rule ?a__law_width ?l__law_width ?e__law_width ?k__law_width ?a__law_given ?l__law_given ?e__law_given ?k__law_given ?a__law_is_kept ?l__law_is_kept ?e__law_is_kept ?k__law_is_kept ?a__law_broken ?l__law_broken ?e__law_broken ?k__law_broken ?a__law_spots ?l__law_spots ?e__law_spots ?k__law_spots ?a__law_due ?l__law_due ?e__law_due ?k__law_due ?a__law_told ?l__law_told ?e__law_told ?k__law_told ?a__law_is_product_right ?l__law_is_product_right ?e__law_is_product_right ?k__law_is_product_right ?a__law_signature ?l__law_signature ?e__law_signature ?k__law_signature ?a__law_algebra ?l__law_algebra ?e__law_algebra ?k__law_algebra ?a__law_small ?l__law_small ?e__law_small ?k__law_small ?a__law_great ?l__law_great ?e__law_great ?k__law_great ?a__law_any_pair ?l__law_any_pair ?e__law_any_pair ?k__law_any_pair ?a__law_are_limits_right ?l__law_are_limits_right ?e__law_are_limits_right ?k__law_are_limits_right ?a__law_are_values_right ?l__law_are_values_right ?e__law_are_values_right ?k__law_are_values_right ?a__law_both_rule ?l__law_both_rule ?e__law_both_rule ?k__law_both_rule ?a__law_are_rules_right ?l__law_are_rules_right ?e__law_are_rules_right ?k__law_are_rules_right ?a_law ?l_law ?e_law ?k_law ?z_abs ?z_all ?z_bool ?z_enumerate ?z_int ?z_isinstance ?z_len ?z_list ?z_max ?z_min ?z_range ?z_repr ?z_reversed ?z_set ?z_sorted ?z_str ?z_sum ?z_tuple ?z_zip ?y_MAX_ELEMENTS ?y_MAX_ENTRIES ?y_MAX_WORK ?aC ?aC1 ?aC2 ?aC3 ?xL ?xR ?sa ?ga ?gg ?nl ?iC ?tI ?kC ?eC ?tC ?vC ?oC ?suC ?opq ?zS ?tp ?lI ?cI ?ld ?vf ?ff ?ln ?lc ?hd ?ha ?hn ?ht ?hm ?te ?k1 ?k2 ?k3
    (case a_row_of => k_is)
    (case l_row_of => k_is)
    (case e_row_of => k_is)
    (case k_row_of => k_is)
    (case a_size => k_is)
    (case l_size => k_is)
    (case e_size => k_is)
    (case k_size => k_is)
    (case a_spots_of => k_is)
    (case l_spots_of => k_is)
    (case e_spots_of => k_is)
    (case k_spots_of => k_is)
    (case a_variables => k_is)
    (case l_variables => k_is)
    (case e_variables => k_is)
    (case k_variables => k_is)
    (case a_sizes_of => k_is)
    (case l_sizes_of => k_is)
    (case e_sizes_of => k_is)
    (case k_sizes_of => k_is)
    (case a_power => k_is)
    (case l_power => k_is)
    (case e_power => k_is)
    (case k_power => k_is)
    (case a_tuples_of => k_is)
    (case l_tuples_of => k_is)
    (case e_tuples_of => k_is)
    (case k_tuples_of => k_is)
    (case a_entries => k_is)
    (case l_entries => k_is)
    (case e_entries => k_is)
    (case k_entries => k_is)
    (case a_place_of => k_is)
    (case l_place_of => k_is)
    (case e_place_of => k_is)
    (case k_place_of => k_is)
    (case a_valued => k_is)
    (case l_valued => k_is)
    (case e_valued => k_is)
    (case k_valued => k_is)
    (case a_value_of => k_is)
    (case l_value_of => k_is)
    (case e_value_of => k_is)
    (case k_value_of => k_is)
    (case a_does_break => k_is)
    (case l_does_break => k_is)
    (case e_does_break => k_is)
    (case k_does_break => k_is)
    (case a_first_break => k_is)
    (case l_first_break => k_is)
    (case e_first_break => k_is)
    (case k_first_break => k_is)
    (case a_breaks => k_is)
    (case l_breaks => k_is)
    (case e_breaks => k_is)
    (case k_breaks => k_is)
    (case a_product => k_is)
    (case l_product => k_is)
    (case e_product => k_is)
    (case k_product => k_is)
    (case a__law_own_bag => k_is)
    (case l__law_own_bag => k_is)
    (case e__law_own_bag => k_is)
    (case k__law_own_bag => k_is)
    (case a__law_draw => k_is)
    (case l__law_draw => k_is)
    (case e__law_draw => k_is)
    (case k__law_draw => k_is)
    (case a__law_pick => k_is)
    (case l__law_pick => k_is)
    (case e__law_pick => k_is)
    (case k__law_pick => k_is)
    (case a__law_power => k_is)
    (case l__law_power => k_is)
    (case e__law_power => k_is)
    (case k__law_power => k_is)
    (case a__law_like => k_is)
    (case l__law_like => k_is)
    (case e__law_like => k_is)
    (case k__law_like => k_is)
    (case a__law_value => k_is)
    (case l__law_value => k_is)
    (case e__law_value => k_is)
    (case k__law_value => k_is)
    (case a__law_many => k_is)
    (case l__law_many => k_is)
    (case e__law_many => k_is)
    (case k__law_many => k_is)
    (case a__law_items => k_is)
    (case l__law_items => k_is)
    (case e__law_items => k_is)
    (case k__law_items => k_is)
    (case a__law_pattern => k_is)
    (case l__law_pattern => k_is)
    (case e__law_pattern => k_is)
    (case k__law_pattern => k_is)
    (case a__law_called => k_is)
    (case l__law_called => k_is)
    (case e__law_called => k_is)
    (case k__law_called => k_is)
    (case a__law_variables => k_is)
    (case l__law_variables => k_is)
    (case e__law_variables => k_is)
    (case k__law_variables => k_is)
    (case a__law_rule => k_is)
    (case l__law_rule => k_is)
    (case e__law_rule => k_is)
    (case k__law_rule => k_is)
    (case a__law_width => k_is)
    (case l__law_width => k_is)
    (case e__law_width => k_is)
    (case k__law_width => k_is)
    (case a__law_given => k_is)
    (case l__law_given => k_is)
    (case e__law_given => k_is)
    (case k__law_given => k_is)
    (case a__law_is_kept => k_is)
    (case l__law_is_kept => k_is)
    (case e__law_is_kept => k_is)
    (case k__law_is_kept => k_is)
    (case a__law_broken => k_is)
    (case l__law_broken => k_is)
    (case e__law_broken => k_is)
    (case k__law_broken => k_is)
    (case a__law_spots => k_is)
    (case l__law_spots => k_is)
    (case e__law_spots => k_is)
    (case k__law_spots => k_is)
    (case a__law_due => k_is)
    (case l__law_due => k_is)
    (case e__law_due => k_is)
    (case k__law_due => k_is)
    (case a__law_told => k_is)
    (case l__law_told => k_is)
    (case e__law_told => k_is)
    (case k__law_told => k_is)
    (case a__law_is_product_right => k_is)
    (case l__law_is_product_right => k_is)
    (case e__law_is_product_right => k_is)
    (case k__law_is_product_right => k_is)
    (case a__law_signature => k_is)
    (case l__law_signature => k_is)
    (case e__law_signature => k_is)
    (case k__law_signature => k_is)
    (case a__law_algebra => k_is)
    (case l__law_algebra => k_is)
    (case e__law_algebra => k_is)
    (case k__law_algebra => k_is)
    (case a__law_small => k_is)
    (case l__law_small => k_is)
    (case e__law_small => k_is)
    (case k__law_small => k_is)
    (case a__law_great => k_is)
    (case l__law_great => k_is)
    (case e__law_great => k_is)
    (case k__law_great => k_is)
    (case a__law_any_pair => k_is)
    (case l__law_any_pair => k_is)
    (case e__law_any_pair => k_is)
    (case k__law_any_pair => k_is)
    (case a__law_are_limits_right => k_is)
    (case l__law_are_limits_right => k_is)
    (case e__law_are_limits_right => k_is)
    (case k__law_are_limits_right => k_is)
    (case a__law_are_values_right => k_is)
    (case l__law_are_values_right => k_is)
    (case e__law_are_values_right => k_is)
    (case k__law_are_values_right => k_is)
    (case a__law_both_rule => k_is)
    (case l__law_both_rule => k_is)
    (case e__law_both_rule => k_is)
    (case k__law_both_rule => k_is)
    (case a__law_are_rules_right => k_is)
    (case l__law_are_rules_right => k_is)
    (case e__law_are_rules_right => k_is)
    (case k__law_are_rules_right => k_is)
    (case a_law => k_is)
    (case l_law => k_is)
    (case e_law => k_is)
    (case k_law => k_is)
    (case z_abs => k_is)
    (case z_all => k_is)
    (case z_bool => k_is)
    (case z_enumerate => k_is)
    (case z_int => k_is)
    (case z_isinstance => k_is)
    (case z_len => k_is)
    (case z_list => k_is)
    (case z_max => k_is)
    (case z_min => k_is)
    (case z_range => k_is)
    (case z_repr => k_is)
    (case z_reversed => k_is)
    (case z_set => k_is)
    (case z_sorted => k_is)
    (case z_str => k_is)
    (case z_sum => k_is)
    (case z_tuple => k_is)
    (case z_zip => k_is)
    (case y_MAX_ELEMENTS => k_is)
    (case y_MAX_ENTRIES => k_is)
    (case y_MAX_WORK => k_is)
    (case aC => k_is)
    (case aC1 => k_is)
    (case aC2 => k_is)
    (case aC3 => k_is)
    (case xL => k_is)
    (case xR => first | rfl | kernel_rfl)
    (case sa => k_is)
    (case ga => k_is)
    (case gg => k_is)
    (case nl => k_is)
    (case iC => k_is)
    (case tI => k_is)
    (case kC => k_is)
    (case eC => k_is)
    (case tC => k_is)
    (case vC => k_is)
    (case oC => first | k_is | kernel_rfl)
    (case suC => first | ks_is | kernel_rfl)
    (case opq => k_is)
    (case zS => k_is)
    (case tp => first | rfl | kernel_rfl)
    (case lI => k_is)
    (case cI => k_is)
    (case ld => k_is)
    (case vf => first | rfl | kernel_rfl)
    (case ff => first | rfl | decide +kernel | kernel_rfl)
    (case ln => rfl)
    (case lc => k_is)
    (case hd => k_is)
    (case ha => k_is)
    (case hn => k_is)
    (case ht => k_is)
    (case hm => first | k_is | kernel_rfl)
    (case te => first | k_is | kernel_rfl)
    (case k1 => first | k_is | kernel_rfl)
    (case k2 => first | k_is | kernel_rfl)
    (case k3 => first | k_is | kernel_rfl)
