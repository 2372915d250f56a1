import PyProof.Rows.All
import Wide.All
import OpenK.AllK
import Wide.FinOn
import HandS.ForMost
import HandS.IsInst
import HandS.Deep
import HandS.Wide
import HandS.Walk
import HandS.TupLe
import KE.GoesMore
import HandS.Style
import PyProof.StrLawsTight
import PyProof.Rows.StrItems
import HandS.TupSets
import PyProof.ReprRoads
import PyProof.ReprBulk
import HandS.Ends
import HandS.Iter
import HandS.DictTup
import HandS.Conv
import KE.KDictDisplayH
import HandS.Sort
import HandS.SortOrd
import HandS.SortRule
import PyProof.ToksMono
import HandS.Replace
import HandS.ExcOwn
import HandS.WordsExc
import PyProof.StrLawsReplace
import HandS.ExcIs
import PySem.Challenge.RW_tablemanners_k16_whole_cell_by_cell
set_option Elab.async false
set_option linter.all false
set_option maxRecDepth 100000
set_option maxHeartbeats 4000000
/-! Values as plain data, over the hand layer: what an expression is worth as a function of the names' data; a block as a function from names to an outcome. -/
namespace PL
open PySem PySem.Spec PyProof.Rows L2

/-! ### data -/
inductive Dt where
  | non
  | bl (b : Bool)
  | int (i : Int)
  | str (x : List Nat)
  | lst (l : List Dt)
  | tup (l : List Dt)
  | scr (l : List Int)
  | obj (c : Nat) (l : List Dt)
  | dic (ks : List (Int × Int)) (l : List Dt)
  | adr (a : Addr)
  | ty (n : String)
  | cls (k : Nat)
  | man (m q e : List Nat)
  deriving Inhabited

/-- the keys of a dict: pairs of numbers -/
def kPair (k : Int × Int) : List L2.Key := [.inl k.1, .inl k.2]
/-- the classes by number: where each stands, its fields' names in order -/
abbrev CT := Nat → Addr × List Str

mutual
inductive Rp (K : PySem.W.Frag) (T : CT) (H : Hp) : V → Dt → Prop
  | non : Rp K T H .non .non
  | bl (b : Bool) : Rp K T H (.bl b) (.bl b)
  | int (i : Int) : Rp K T H (.int i) (.int i)
  | str (l : List Nat) : Rp K T H (.str ⟨l.toArray⟩) (.str l)
  | lst {a : Addr} {xs : List V} {ds : List Dt} : H a = some (.lst xs) → RpA K T H xs ds → Rp K T H (.ref a) (.lst ds)
  | tup {a : Addr} {xs : List V} {ds : List Dt} : SqT K H a xs → RpA K T H xs ds → (∀ (n : Int) (ns : List Int), xs = V.int n :: ns.map V.int → H a = some (.tup xs)) → Rp K T H (.ref a) (.tup ds)
  | scr {a : Addr} {ns : List Int} : SqL K H a (ns.map V.int) → Rp K T H (.ref a) (.scr ns)
  | obj {c : Nat} {a dx : Addr} {fs : List (Str × V)} {ds : List Dt} : H a = some (.ins (T c).1 dx fs) → fs.map Prod.fst = (T c).2 → RpA K T H (fs.map Prod.snd) ds → Rp K T H (.ref a) (.obj c ds)
  | dic {a : Addr} {kvs : List (List L2.Key × V)} {ks : List (Int × Int)} {ds : List Dt} : (H a = some (.dT kvs) ∨ ∃ o, H a = some (.frz o (.dT kvs))) → kvs.map Prod.fst = ks.map kPair → RpA K T H (kvs.map Prod.snd) ds → Rp K T H (.ref a) (.dic ks ds)
  | adr (a : Addr) : Rp K T H (.ref a) (.adr a)
  | ty (n : String) : Rp K T H (.ty n) (.ty n)
  | cls (k : Nat) : Rp K T H (.ref (T k).1) (.cls k)
  | man {a : Addr} {o : Obj} {m q e : List Nat} : H a = some (.frz o (.tup [.str ⟨m.toArray⟩, .str ⟨q.toArray⟩, .str ⟨e.toArray⟩])) → Rp K T H (.ref a) (.man m q e)
inductive RpA (K : PySem.W.Frag) (T : CT) (H : Hp) : List V → List Dt → Prop
  | nil : RpA K T H [] []
  | cons {v : V} {vs : List V} {d : Dt} {ds : List Dt} : Rp K T H v d → RpA K T H vs ds → RpA K T H (v :: vs) (d :: ds)
end

theorem SqT.mono {K : PySem.W.Frag} {H H' : Hp} {a : Addr} {xs : List V} (e : Same H H') (h : SqT K H a xs) : SqT K H' a xs := by
  rcases h with (h | ⟨o, h⟩) | h
  · exact .inl (.inl (e _ _ h))
  · exact .inl (.inr ⟨o, e _ _ h⟩)
  · exact .inr h

section
variable {K : PySem.W.Frag} {T : CT} {H H' : Hp}
mutual
theorem Rp.mono (e : Same H H') : ∀ (d : Dt) {v : V}, Rp K T H v d → Rp K T H' v d
  | .non, _, h => by cases h; exact .non
  | .bl b, _, h => by cases h; exact .bl b
  | .int i, _, h => by cases h; exact .int i
  | .str l, _, h => by cases h; exact .str l
  | .lst ds, _, h => by cases h with | lst h1 h2 => exact .lst (e _ _ h1) (RpA.mono e ds h2)
  | .tup ds, _, h => by cases h with | tup h1 h2 => exact .tup (SqT.mono e h1) (RpA.mono e ds h2) (fun n ns z => e _ _ (by rename_i h3; exact h3 n ns z))
  | .scr ns, _, h => by cases h with | scr h1 => exact .scr (e.seq h1)
  | .obj c ds, _, h => by cases h with | obj h1 h2 h3 => exact .obj (e _ _ h1) h2 (RpA.mono e ds h3)
  | .dic ks ds, _, h => by cases h with | dic h1 h2 h3 => exact .dic (h1.imp (e _ _) fun ⟨o, z⟩ => ⟨o, e _ _ z⟩) h2 (RpA.mono e ds h3)
  | .adr a, _, h => by cases h; exact .adr a
  | .ty n, _, h => by cases h; exact .ty n
  | .cls k, _, h => by cases h; exact .cls k
  | .man m q e1, _, h => by cases h with | man h1 => exact .man (e _ _ h1)
theorem RpA.mono (e : Same H H') : ∀ (ds : List Dt) {vs : List V}, RpA K T H vs ds → RpA K T H' vs ds
  | [], _, h => by cases h; exact .nil
  | d :: ds, _, h => by cases h with | cons h1 h2 => exact .cons (Rp.mono e d h1) (RpA.mono e ds h2)
end
theorem RpA.length : ∀ {vs : List V} {ds : List Dt}, RpA K T H vs ds → vs.length = ds.length
  | _, _, .nil => rfl
  | _, _, .cons _ t => by rw [List.length_cons, List.length_cons, RpA.length t]
theorem RpA.get : ∀ {vs : List V} {ds : List Dt} {i : Nat} {d : Dt}, RpA K T H vs ds → ds[i]? = some d → ∃ v, vs[i]? = some v ∧ Rp K T H v d
  | _, _, _, _, .nil, e => by simp at e
  | _, _, 0, _, .cons r _, e => by simp at e; subst e; exact ⟨_, rfl, r⟩
  | _, _, i + 1, d, .cons _ t, e => by
    obtain ⟨v, h1, h2⟩ := RpA.get (i := i) (d := d) t (by simpa using e)
    exact ⟨v, by simpa using h1, h2⟩
theorem RpA.getV : ∀ {vs : List V} {ds : List Dt} {i : Nat} {v : V}, RpA K T H vs ds → vs[i]? = some v → ∃ d, ds[i]? = some d ∧ Rp K T H v d
  | _, _, _, _, .nil, e => by simp at e
  | _, _, 0, _, .cons r _, e => by simp at e; subst e; exact ⟨_, rfl, r⟩
  | _, _, i + 1, d, .cons _ t, e => by
    obtain ⟨v, h1, h2⟩ := RpA.getV (i := i) (v := d) t (by simpa using e)
    exact ⟨v, by simpa using h1, h2⟩
theorem RpA.append : ∀ {vs ws : List V} {ds es : List Dt}, RpA K T H vs ds → RpA K T H ws es → RpA K T H (vs ++ ws) (ds ++ es)
  | _, _, _, _, .nil, s => s
  | _, _, _, _, .cons r t, s => .cons r (RpA.append t s)
theorem RpA.take : ∀ {vs : List V} {ds : List Dt} (n : Nat), RpA K T H vs ds → RpA K T H (vs.take n) (ds.take n)
  | _, _, 0, _ => .nil
  | _, _, _ + 1, .nil => .nil
  | _, _, n + 1, .cons r t => .cons r (RpA.take n t)
theorem RpA.drop : ∀ {vs : List V} {ds : List Dt} (n : Nat), RpA K T H vs ds → RpA K T H (vs.drop n) (ds.drop n)
  | _, _, 0, r => r
  | _, _, _ + 1, .nil => .nil
  | _, _, n + 1, .cons _ t => RpA.drop n t
theorem RpA.set {v : V} {d : Dt} (r : Rp K T H v d) : ∀ {vs : List V} {ds : List Dt} (i : Nat), RpA K T H vs ds → RpA K T H (vs.set i v) (ds.set i d)
  | _, _, _, .nil => .nil
  | _, _, 0, .cons _ t => .cons r t
  | _, _, i + 1, .cons q t => .cons q (RpA.set r i t)
theorem RpA.reverse {vs : List V} {ds : List Dt} (h : RpA K T H vs ds) : RpA K T H vs.reverse ds.reverse := by
  induction ds generalizing vs with
  | nil => cases h; exact .nil
  | cons d ds ih =>
    cases h with
    | cons h1 h2 =>
      rw [List.reverse_cons, List.reverse_cons]
      exact RpA.append (ih h2) (.cons h1 .nil)
theorem RpA.eraseIdx : ∀ {vs : List V} {ds : List Dt} (i : Nat), RpA K T H vs ds → RpA K T H (vs.eraseIdx i) (ds.eraseIdx i)
  | _, _, _, .nil => .nil
  | _, _, 0, .cons _ t => t
  | _, _, i + 1, .cons q t => .cons q (RpA.eraseIdx i t)
theorem RpA.dropLast {vs : List V} {ds : List Dt} (h : RpA K T H vs ds) : RpA K T H vs.dropLast ds.dropLast := by
  rw [List.dropLast_eq_take, List.dropLast_eq_take, h.length]
  exact h.take _
end

/-! ### how heaps grow: G what is fixed (no list that is still changed), H all -/
def Nw (H : Hp) (a : Addr) : Prop := H a = none ∨ ∃ xs, H a = some (.tup xs)
theorem Nw.back {H H' : Hp} {a : Addr} (e : Same H H') (h : Nw H' a) : Nw H a := by
  rcases h with h | ⟨xs, h⟩
  · exact .inl (e.free h)
  · cases q : H a with
    | none => exact .inl q
    | some o =>
      have := e _ _ q
      rw [h] at this
      cases this
      exact .inr ⟨xs, q⟩
theorem Nw.upd {H : Hp} {a p : Addr} {o : HO} (h : Nw (upd H p o) a) (ho : ∀ xs, o ≠ .tup xs) : a ≠ p ∧ Nw H a := by
  by_cases e : a = p
  · subst e
    rcases h with h | ⟨xs, h⟩
    · rw [upd_same] at h; cases h
    · rw [upd_same] at h; cases h; exact absurd rfl (ho xs)
  · refine ⟨e, ?_⟩
    unfold Nw at h
    rw [upd_ne e] at h
    exact h
/-- no tuple is held by its object that wasn't so before -/
def NoF (H H' : Hp) : Prop := ∀ a o xs, H' a = some (.frz o (.tup xs)) → H a = some (.frz o (.tup xs))
theorem NoF.refl (H : Hp) : NoF H H := fun _ _ _ h => h
theorem NoF.trans {H H1 H2 : Hp} (a : NoF H H1) (b : NoF H1 H2) : NoF H H2 := fun x o xs h => a x o xs (b x o xs h)
theorem NoF.upd {H : Hp} {p : Addr} {o : HO} (h : ∀ ob xs, o ≠ .frz ob (.tup xs)) : NoF H (upd H p o) := fun a ob xs e => by
  by_cases ha : a = p
  · rw [ha, upd_same] at e
    exact absurd (Option.some.inj e) (h ob xs)
  · rw [upd_ne ha] at e
    exact e
structure Nx (G H G' H' : Hp) : Prop where
  gg : Same G G'
  hh : Same H H'
  gh : Same G' H'
  fr : ∀ a, G' a = none ∨ G a ≠ none ∨ Nw H a
  nf : NoF H H'
theorem Nx.refl {G H : Hp} (e : Same G H) : Nx G H G H := ⟨Same.refl G, Same.refl H, e, fun a => by cases h : G a with | none => exact .inl rfl | some o => exact .inr (.inl (fun z => by cases z)), NoF.refl H⟩
theorem Nx.trans {G H G1 H1 G2 H2 : Hp} (a : Nx G H G1 H1) (b : Nx G1 H1 G2 H2) : Nx G H G2 H2 := by
  refine ⟨a.gg.trans b.gg, a.hh.trans b.hh, b.gh, fun x => ?_, a.nf.trans b.nf⟩
  rcases b.fr x with h | h | h
  · exact .inl h
  · rcases a.fr x with q | q | q
    · exact absurd q h
    · exact .inr (.inl q)
    · exact .inr (.inr q)
  · exact .inr (.inr (h.back a.hh))
theorem same_new {H : Hp} {p : Addr} {o : HO} (h : H p = none) : Same H (upd H p o) := fun b x e => by
  rw [upd_ne (ne_of_none e h)]
  exact e
theorem same_upd2 {G H : Hp} {p : Addr} {o : HO} (e : Same G H) : Same (upd G p o) (upd H p o) := fun b x q => by
  by_cases hb : b = p
  · subst hb
    rw [upd_same] at q ⊢
    exact q
  · rw [upd_ne hb] at q ⊢
    exact e _ _ q
theorem same_updR {G H : Hp} {p : Addr} {o : HO} (e : Same G H) (h : G p = none) : Same G (upd H p o) := fun b x q => by
  rw [upd_ne (ne_of_none q h)]
  exact e _ _ q
theorem same_updL {G H : Hp} {p : Addr} {o : HO} (e : Same G H) (h : H p = some o) : Same (upd G p o) H := fun b x q => by
  by_cases hb : b = p
  · subst hb
    rw [upd_same] at q
    rw [← q]
    exact h
  · rw [upd_ne hb] at q
    exact e _ _ q
/-- a new object, fixed from now on -/
theorem Nx.new {G H : Hp} {p : Addr} {o : HO} (e : Same G H) (h : H p = none) (hf : ∀ ob xs, o ≠ .frz ob (.tup xs) := by intro _ _ z; cases z) : Nx G H (upd G p o) (upd H p o) := by
  refine ⟨same_new (e.free h), same_new h, same_upd2 e, fun a => ?_, NoF.upd hf⟩
  by_cases ha : a = p
  · exact .inr (.inr (.inl (by rw [ha]; exact h)))
  · rw [upd_ne ha]
    cases q : G a with
    | none => exact .inl rfl
    | some o => exact .inr (.inl (fun z => by cases z))
/-- a new object that is not fixed -/
theorem Nx.newH {G H : Hp} {p : Addr} {o : HO} (e : Same G H) (h : H p = none) (hf : ∀ ob xs, o ≠ .frz ob (.tup xs) := by intro _ _ z; cases z) : Nx G H G (upd H p o) :=
  ⟨Same.refl G, same_new h, same_updR e (e.free h), (Nx.refl e).fr, NoF.upd hf⟩
theorem Nx.growH {G H G1 H1 H2 : Hp} (a : Nx G H G1 H1) (e : Same H1 H2) (f : NoF H1 H2) : Nx G H G1 H2 := ⟨a.gg, a.hh.trans e, a.gh.trans e, a.fr, a.nf.trans f⟩
/-- what neither is fixed nor new stays out of what is fixed -/
theorem Nx.out {G H G1 H1 : Hp} (a : Nx G H G1 H1) {p : Addr} {o : HO} (hg : G p = none) (hh : H p = some o) (ho : ∀ xs, o ≠ .tup xs := by intro _ z; cases z) : G1 p = none := by
  rcases a.fr p with h | h | h | ⟨xs, h⟩
  · exact h
  · exact absurd hg h
  · rw [hh] at h; cases h
  · rw [hh] at h; cases h; exact absurd rfl (ho xs)

/-! ### own trees: lists and objects that nobody else holds, within each other -/
inductive OT where
  | leaf (d : Dt)
  | node (l : List OT)
  | ob (c : Nat) (l : List OT)
  | dic (ks : List (Int × Int)) (l : List Dt)
  deriving Inhabited
mutual
def OT.toD : OT → Dt
  | .leaf d => d
  | .node l => .lst (OT.toDs l)
  | .ob c l => .obj c (OT.toDs l)
  | .dic ks l => .dic ks l
def OT.toDs : List OT → List Dt
  | [] => []
  | t :: l => t.toD :: OT.toDs l
end
mutual
inductive Ow (K : PySem.W.Frag) (T : CT) (G H : Hp) : V → OT → List Addr → Prop
  | leaf {v : V} {d : Dt} : Rp K T G v d → Ow K T G H v (.leaf d) []
  | node {a : Addr} {vs : List V} {ts : List OT} {as : List Addr} : H a = some (.lst vs) → G a = none → OwA K T G H vs ts as → Ow K T G H (.ref a) (.node ts) (a :: as)
  | ob {c : Nat} {a dx : Addr} {fs : List (Str × V)} {ts : List OT} {as : List Addr} : H a = some (.ins (T c).1 dx fs) → fs.map Prod.fst = (T c).2 → G a = none → OwA K T G H (fs.map Prod.snd) ts as → Ow K T G H (.ref a) (.ob c ts) (a :: as)
  | dic {a : Addr} {kvs : List (List L2.Key × V)} {ks : List (Int × Int)} {ds : List Dt} : H a = some (.dT kvs) → G a = none → kvs.map Prod.fst = ks.map kPair → RpA K T G (kvs.map Prod.snd) ds → Ow K T G H (.ref a) (.dic ks ds) [a]
inductive OwA (K : PySem.W.Frag) (T : CT) (G H : Hp) : List V → List OT → List Addr → Prop
  | nil : OwA K T G H [] [] []
  | cons {v : V} {vs : List V} {t : OT} {ts : List OT} {as bs : List Addr} : Ow K T G H v t as → OwA K T G H vs ts bs → OwA K T G H (v :: vs) (t :: ts) (as ++ bs)
end
section
variable {K : PySem.W.Frag} {T : CT} {G H G' H' : Hp}
mutual
theorem Ow.rp (e : Same G H) : ∀ (t : OT) {v : V} {as : List Addr}, Ow K T G H v t as → Rp K T H v t.toD
  | .leaf d, _, _, h => by cases h with | leaf q => rw [OT.toD]; exact Rp.mono e d q
  | .node l, _, _, h => by cases h with | node h1 h2 h3 => rw [OT.toD]; exact .lst h1 (OwA.rp e l h3)
  | .ob c l, _, _, h => by cases h with | ob h1 h2 h3 h4 => rw [OT.toD]; exact .obj h1 h2 (OwA.rp e l h4)
  | .dic ks l, _, _, h => by cases h with | dic h1 h2 h3 h4 => rw [OT.toD]; exact .dic (.inl h1) h3 (RpA.mono e l h4)
theorem OwA.rp (e : Same G H) : ∀ (ts : List OT) {vs : List V} {as : List Addr}, OwA K T G H vs ts as → RpA K T H vs (OT.toDs ts)
  | [], _, _, h => by cases h; rw [OT.toDs]; exact .nil
  | t :: ts, _, _, h => by cases h with | cons h1 h2 => rw [OT.toDs]; exact .cons (Ow.rp e t h1) (OwA.rp e ts h2)
end
mutual
theorem Ow.mv (e : Same G G') : ∀ (t : OT) {v : V} {as : List Addr}, Ow K T G H v t as → (∀ a ∈ as, G' a = none) → (∀ a ∈ as, H' a = H a) → Ow K T G' H' v t as
  | .leaf d, _, _, h, _, _ => by cases h with | leaf q => exact .leaf (Rp.mono e d q)
  | .node l, _, _, h, g, k => by
    cases h with
    | node h1 h2 h3 => exact .node ((k _ List.mem_cons_self).trans h1) (g _ List.mem_cons_self) (OwA.mv e l h3 (fun a m => g a (List.mem_cons_of_mem _ m)) (fun a m => k a (List.mem_cons_of_mem _ m)))
  | .ob c l, _, _, h, g, k => by
    cases h with
    | ob h1 h2 h3 h4 => exact .ob ((k _ List.mem_cons_self).trans h1) h2 (g _ List.mem_cons_self) (OwA.mv e l h4 (fun a m => g a (List.mem_cons_of_mem _ m)) (fun a m => k a (List.mem_cons_of_mem _ m)))
  | .dic ks l, _, _, h, g, k => by
    cases h with
    | dic h1 h2 h3 h4 => exact .dic ((k _ List.mem_cons_self).trans h1) (g _ List.mem_cons_self) h3 (RpA.mono e l h4)
theorem OwA.mv (e : Same G G') : ∀ (ts : List OT) {vs : List V} {as : List Addr}, OwA K T G H vs ts as → (∀ a ∈ as, G' a = none) → (∀ a ∈ as, H' a = H a) → OwA K T G' H' vs ts as
  | [], _, _, h, _, _ => by cases h; exact .nil
  | t :: ts, _, _, h, g, k => by
    cases h with
    | cons h1 h2 => exact .cons (Ow.mv e t h1 (fun a m => g a (List.mem_append_left _ m)) (fun a m => k a (List.mem_append_left _ m))) (OwA.mv e ts h2 (fun a m => g a (List.mem_append_right _ m)) (fun a m => k a (List.mem_append_right _ m)))
end
mutual
theorem Ow.inn : ∀ (t : OT) {v : V} {as : List Addr}, Ow K T G H v t as → ∀ a ∈ as, G a = none ∧ ∃ o, H a = some o
  | .leaf d, _, _, h, a, m => by cases h; cases m
  | .node l, _, _, h, a, m => by
    cases h with
    | node h1 h2 h3 =>
      rcases List.mem_cons.mp m with rfl | m
      · exact ⟨h2, _, h1⟩
      · exact OwA.inn l h3 a m
  | .ob c l, _, _, h, a, m => by
    cases h with
    | ob h1 h2 h3 h4 =>
      rcases List.mem_cons.mp m with rfl | m
      · exact ⟨h3, _, h1⟩
      · exact OwA.inn l h4 a m
  | .dic ks l, _, _, h, a, m => by
    cases h with
    | dic h1 h2 h3 h4 => rw [List.mem_singleton.mp m]; exact ⟨h2, _, h1⟩
theorem OwA.inn : ∀ (ts : List OT) {vs : List V} {as : List Addr}, OwA K T G H vs ts as → ∀ a ∈ as, G a = none ∧ ∃ o, H a = some o
  | [], _, _, h, a, m => by cases h; cases m
  | t :: ts, _, _, h, a, m => by
    cases h with
    | cons h1 h2 =>
      rcases List.mem_append.mp m with m | m
      · exact Ow.inn t h1 a m
      · exact OwA.inn ts h2 a m
end
def isMut : HO → Prop
  | .lst _ => True
  | .ins _ _ _ => True
  | .dT _ => True
  | _ => False
mutual
theorem Ow.muts : ∀ (t : OT) {v : V} {as : List Addr}, Ow K T G H v t as → ∀ a ∈ as, ∃ o, H a = some o ∧ isMut o
  | .leaf d, _, _, h, a, m => by cases h; cases m
  | .node l, _, _, h, a, m => by
    cases h with
    | node h1 h2 h3 =>
      rcases List.mem_cons.mp m with rfl | m
      · exact ⟨_, h1, trivial⟩
      · exact OwA.muts l h3 a m
  | .ob c l, _, _, h, a, m => by
    cases h with
    | ob h1 h2 h3 h4 =>
      rcases List.mem_cons.mp m with rfl | m
      · exact ⟨_, h1, trivial⟩
      · exact OwA.muts l h4 a m
  | .dic ks l, _, _, h, a, m => by
    cases h with
    | dic h1 h2 h3 h4 => rw [List.mem_singleton.mp m]; exact ⟨_, h1, trivial⟩
theorem OwA.muts : ∀ (ts : List OT) {vs : List V} {as : List Addr}, OwA K T G H vs ts as → ∀ a ∈ as, ∃ o, H a = some o ∧ isMut o
  | [], _, _, h, a, m => by cases h; cases m
  | t :: ts, _, _, h, a, m => by
    cases h with
    | cons h1 h2 =>
      rcases List.mem_append.mp m with m | m
      · exact Ow.muts t h1 a m
      · exact OwA.muts ts h2 a m
end
theorem mut_not {o : HO} (h : isMut o) : ∀ xs, o ≠ .tup xs := fun xs e => by subst e; exact h
theorem Ow.nx {t : OT} {v : V} {as : List Addr} (h : Ow K T G H v t as) (n : Nx G H G' H') : Ow K T G' H' v t as :=
  Ow.mv n.gg t h (fun a m => by obtain ⟨h1, _⟩ := Ow.inn t h a m; obtain ⟨o, h2, h3⟩ := Ow.muts t h a m; exact n.out h1 h2 (mut_not h3)) (fun a m => by obtain ⟨h1, o, h2⟩ := Ow.inn t h a m; rw [h2]; exact n.hh _ _ h2)
theorem OwA.nx {ts : List OT} {vs : List V} {as : List Addr} (h : OwA K T G H vs ts as) (n : Nx G H G' H') : OwA K T G' H' vs ts as :=
  OwA.mv n.gg ts h (fun a m => by obtain ⟨h1, _⟩ := OwA.inn ts h a m; obtain ⟨o, h2, h3⟩ := OwA.muts ts h a m; exact n.out h1 h2 (mut_not h3)) (fun a m => by obtain ⟨h1, o, h2⟩ := OwA.inn ts h a m; rw [h2]; exact n.hh _ _ h2)
theorem OwA.length : ∀ {ts : List OT} {vs : List V} {as : List Addr}, OwA K T G H vs ts as → vs.length = ts.length
  | [], _, _, h => by cases h; rfl
  | t :: ts, _, _, h => by cases h with | cons h1 h2 => rw [List.length_cons, List.length_cons, OwA.length h2]
end

/-! ### names -/
inductive Sl where
  | no
  | val (d : Dt)
  | own (l : List Dt)
  | tre (t : OT)
  deriving Inhabited
abbrev Env := List Sl
def frz1 : Sl → Sl
  | .own l => .val (.lst l)
  | .tre t => .val t.toD
  | s => s
def frzE (r : Env) : Env := r.map frz1
def gV (r : Env) (i : Nat) : Option Dt := match r[i]? with | some (.val d) => some d | _ => none
def gO (r : Env) (i : Nat) : Option (List Dt) := match r[i]? with | some (.own d) => some d | _ => none
theorem gV_iff {r : Env} {i : Nat} {d : Dt} : gV r i = some d ↔ r[i]? = some (.val d) := by
  unfold gV
  split
  · rename_i x h; rw [h]; constructor
    · intro q; cases q; rfl
    · intro q; cases q; rfl
  · rename_i h; constructor
    · intro q; cases q
    · intro q; exact absurd q (h _)
theorem gO_iff {r : Env} {i : Nat} {d : List Dt} : gO r i = some d ↔ r[i]? = some (.own d) := by
  unfold gO
  split
  · rename_i x h; rw [h]; constructor
    · intro q; cases q; rfl
    · intro q; cases q; rfl
  · rename_i h; constructor
    · intro q; cases q
    · intro q; exact absurd q (h _)

/-- the names that hold own trees: apart from each other and from the own lists -/
def Tr (K : PySem.W.Frag) (T : CT) (G H : Hp) (P : Addr → Prop) (σ : L2.St) (r : Env) : Prop :=
  ∃ m : Nat → List Addr, (∀ (i : Nat) (t : OT), r[i]? = some (Sl.tre t) → (∃ v, σ[i]? = some (some v) ∧ Ow K T G H v t (m i)) ∧ (m i).Nodup ∧ ∀ a ∈ m i, P a) ∧ (∀ (i j : Nat) (t u : OT), i ≠ j → r[i]? = some (Sl.tre t) → r[j]? = some (Sl.tre u) → ∀ a ∈ m i, a ∉ m j) ∧
    ∀ (i j : Nat) (t : OT) (ds : List Dt) (p : Addr), r[i]? = some (Sl.tre t) → r[j]? = some (Sl.own ds) → σ[j]? = some (some (V.ref p)) → p ∉ m i
section
variable {K : PySem.W.Frag} {T : CT} {G H G' H' : Hp} {P : Addr → Prop} {σ : L2.St} {r : Env}
theorem Tr.nil (h : ∀ (i : Nat) (t : OT), r[i]? ≠ some (Sl.tre t)) : Tr K T G H P σ r := ⟨fun _ => [], fun i t e => absurd e (h i t), fun i j t u _ e => absurd e (h i t), fun i j t ds p e => absurd e (h i t)⟩
theorem Tr.imp {P' : Addr → Prop} (h : Tr K T G H P σ r) (k : ∀ a, P a → P' a) : Tr K T G H P' σ r := by
  obtain ⟨m, h1, h2, h3⟩ := h
  exact ⟨m, fun i t e => ⟨(h1 i t e).1, (h1 i t e).2.1, fun a ha => k a ((h1 i t e).2.2 a ha)⟩, h2, h3⟩
theorem Tr.inH (h : Tr K T G H P σ r) : Tr K T G H (fun a => P a ∧ H a ≠ none) σ r := by
  obtain ⟨m, h1, h2, h3⟩ := h
  refine ⟨m, fun i t e => ⟨(h1 i t e).1, (h1 i t e).2.1, fun a ha => ⟨(h1 i t e).2.2 a ha, ?_⟩⟩, h2, h3⟩
  obtain ⟨v, _, q⟩ := (h1 i t e).1
  obtain ⟨_, o, ho⟩ := Ow.inn t q a ha
  rw [ho]
  exact fun z => by cases z
theorem Tr.nx (h : Tr K T G H P σ r) (n : Nx G H G' H') : Tr K T G' H' P σ r := by
  obtain ⟨m, h1, h2, h3⟩ := h
  refine ⟨m, fun i t e => ?_, h2, h3⟩
  obtain ⟨⟨v, hv, q⟩, nd, p⟩ := h1 i t e
  exact ⟨⟨v, hv, q.nx n⟩, nd, p⟩
/-- a name that holds neither -/
theorem Tr.set {i : Nat} {x : Option V} {s : Sl} (h : Tr K T G H P σ r) (h1 : ∀ t, s ≠ .tre t) (h2 : ∀ l, s ≠ .own l) : Tr K T G H P (σ.set i x) (r.set i s) := by
  obtain ⟨m, k1, k2, k3⟩ := h
  have back : ∀ (j : Nat) (z : Sl), (∃ t, z = .tre t) ∨ (∃ l, z = .own l) → (r.set i s)[j]? = some z → j ≠ i ∧ r[j]? = some z := fun j z hz e => by
    by_cases hj : j = i
    · subst hj
      by_cases hl : j < r.length
      · rw [List.getElem?_set_self hl] at e
        cases e
        rcases hz with ⟨t, rfl⟩ | ⟨l, rfl⟩
        · exact absurd rfl (h1 t)
        · exact absurd rfl (h2 l)
      · rw [List.getElem?_eq_none (by simpa using hl)] at e; cases e
    · rw [List.getElem?_set_ne (Ne.symm hj)] at e
      exact ⟨hj, e⟩
  refine ⟨m, fun j t e => ?_, fun j k t u hjk e1 e2 => ?_, fun j k t ds p e1 e2 e3 => ?_⟩
  · obtain ⟨hj, e⟩ := back j _ (.inl ⟨t, rfl⟩) e
    rw [List.getElem?_set_ne (Ne.symm hj)]
    exact k1 j t e
  · exact k2 j k t u hjk (back j _ (.inl ⟨t, rfl⟩) e1).2 (back k _ (.inl ⟨u, rfl⟩) e2).2
  · obtain ⟨hk, e2⟩ := back k _ (.inr ⟨ds, rfl⟩) e2
    rw [List.getElem?_set_ne (Ne.symm hk)] at e3
    exact k3 j k t ds p (back j _ (.inl ⟨t, rfl⟩) e1).2 e2 e3
theorem Tr.setOwn {i : Nat} {p : Addr} {ds : List Dt} (h : Tr K T G H P σ r) (hp : ¬ P p) (hl : σ.length = r.length) : Tr K T G H P (σ.set i (some (.ref p))) (r.set i (.own ds)) := by
  obtain ⟨m, k1, k2, k3⟩ := h
  have back : ∀ (j : Nat) (t : OT), (r.set i (.own ds))[j]? = some (.tre t) → j ≠ i ∧ r[j]? = some (.tre t) := fun j t e => by
    by_cases hj : j = i
    · subst hj
      by_cases hl : j < r.length
      · rw [List.getElem?_set_self hl] at e; cases e
      · rw [List.getElem?_eq_none (by simpa using hl)] at e; cases e
    · rw [List.getElem?_set_ne (Ne.symm hj)] at e
      exact ⟨hj, e⟩
  refine ⟨m, fun j t e => ?_, fun j k t u hjk e1 e2 => k2 j k t u hjk (back j t e1).2 (back k u e2).2, fun j k t es q e1 e2 e3 => ?_⟩
  · obtain ⟨hj, e⟩ := back j t e
    rw [List.getElem?_set_ne (Ne.symm hj)]
    exact k1 j t e
  · obtain ⟨hj, e1'⟩ := back j t e1
    by_cases hk : k = i
    · subst hk
      by_cases hb : k < r.length
      · rw [List.getElem?_set_self (by omega)] at e3
        cases e3
        exact fun hm => hp ((k1 j t e1').2.2 p hm)
      · rw [List.getElem?_eq_none (by simpa using hb)] at e2; cases e2
    · rw [List.getElem?_set_ne (Ne.symm hk)] at e2 e3
      exact k3 j k t es q e1' e2 e3
/-- an own list changes -/
theorem Tr.upd {i : Nat} {p : Addr} {ds es : List Dt} {o : HO} (h : Tr K T G H P σ r) (hr : r[i]? = some (.own ds)) (hs : σ[i]? = some (some (.ref p))) : Tr K T G (upd H p o) P σ (r.set i (.own es)) := by
  obtain ⟨m, k1, k2, k3⟩ := h
  have hi : i < r.length := (List.getElem?_eq_some_iff.mp hr).1
  have back : ∀ (j : Nat) (t : OT), (r.set i (.own es))[j]? = some (.tre t) → j ≠ i ∧ r[j]? = some (.tre t) := fun j t e => by
    by_cases hj : j = i
    · subst hj
      rw [List.getElem?_set_self hi] at e; cases e
    · rw [List.getElem?_set_ne (Ne.symm hj)] at e
      exact ⟨hj, e⟩
  refine ⟨m, fun j t e => ?_, fun j k t u hjk e1 e2 => k2 j k t u hjk (back j t e1).2 (back k u e2).2, fun j k t fs q e1 e2 e3 => ?_⟩
  · obtain ⟨hj, e⟩ := back j t e
    obtain ⟨⟨v, hv, q⟩, nd, hP⟩ := k1 j t e
    have hne : ∀ a ∈ m j, a ≠ p := fun a ha z => k3 j i t ds p e hr hs (z ▸ ha)
    exact ⟨⟨v, hv, Ow.mv (Same.refl G) t q (fun a ha => (Ow.inn t q a ha).1) (fun a ha => upd_ne (hne a ha))⟩, nd, hP⟩
  · obtain ⟨hj, e1'⟩ := back j t e1
    by_cases hk : k = i
    · subst hk
      rw [hs] at e3
      cases e3
      exact k3 j k t ds p e1' hr hs
    · rw [List.getElem?_set_ne (Ne.symm hk)] at e2
      exact k3 j k t fs q e1' e2 e3
/-- an own list is fixed -/
theorem Tr.fix {i : Nat} {p : Addr} {ds : List Dt} {o : HO} {d : Dt} (h : Tr K T G H P σ r) (hr : r[i]? = some (.own ds)) (hs : σ[i]? = some (some (.ref p))) (hg : G p = Option.none) : Tr K T (L2.upd G p o) H P σ (r.set i (.val d)) := by
  obtain ⟨m, k1, k2, k3⟩ := h
  have hi : i < r.length := (List.getElem?_eq_some_iff.mp hr).1
  have back : ∀ (j : Nat) (z : Sl), (∃ t, z = .tre t) ∨ (∃ l, z = .own l) → (r.set i (.val d))[j]? = some z → j ≠ i ∧ r[j]? = some z := fun j z hz e => by
    by_cases hj : j = i
    · subst hj
      rw [List.getElem?_set_self hi] at e
      cases e
      rcases hz with ⟨t, h⟩ | ⟨l, h⟩ <;> cases h
    · rw [List.getElem?_set_ne (Ne.symm hj)] at e
      exact ⟨hj, e⟩
  refine ⟨m, fun j t e => ?_, fun j k t u hjk e1 e2 => k2 j k t u hjk (back j _ (.inl ⟨t, rfl⟩) e1).2 (back k _ (.inl ⟨u, rfl⟩) e2).2, fun j k t fs q e1 e2 e3 => k3 j k t fs q (back j _ (.inl ⟨t, rfl⟩) e1).2 (back k _ (.inr ⟨fs, rfl⟩) e2).2 e3⟩
  obtain ⟨hj, e⟩ := back j _ (.inl ⟨t, rfl⟩) e
  obtain ⟨⟨v, hv, q⟩, nd, hP⟩ := k1 j t e
  have hne : ∀ a ∈ m j, a ≠ p := fun a ha z => k3 j i t ds p e hr hs (z ▸ ha)
  exact ⟨⟨v, hv, Ow.mv (same_new hg) t q (fun a ha => by rw [upd_ne (hne a ha)]; exact (Ow.inn t q a ha).1) (fun a ha => rfl)⟩, nd, hP⟩
end

structure Fits (K : PySem.W.Frag) (T : CT) (G H : Hp) (σ : L2.St) (r : Env) : Prop where
  gh : Same G H
  len : σ.length = r.length
  val : ∀ (i : Nat) (d : Dt), r[i]? = some (.val d) → ∃ v, σ[i]? = some (some v) ∧ Rp K T G v d
  own : ∀ (i : Nat) (ds : List Dt), r[i]? = some (.own ds) → ∃ p vs, σ[i]? = some (some (.ref p)) ∧ G p = none ∧ H p = some (.lst vs) ∧ RpA K T G vs ds
  sep : ∀ (i j : Nat) (ds es : List Dt) (p : Addr), r[i]? = some (.own ds) → r[j]? = some (.own es) → σ[i]? = some (some (.ref p)) → σ[j]? = some (some (.ref p)) → i = j
  tr : Tr K T G H (fun _ => True) σ r

section
variable {K : PySem.W.Frag} {T : CT} {G H G' H' : Hp} {σ : L2.St} {r : Env}
theorem Fits.nx (F : Fits K T G H σ r) (N : Nx G H G' H') : Fits K T G' H' σ r := by
  refine ⟨N.gh, F.len, fun i d h => ?_, fun i ds h => ?_, F.sep, F.tr.nx N⟩
  · obtain ⟨v, e, q⟩ := F.val i d h
    exact ⟨v, e, Rp.mono N.gg d q⟩
  · obtain ⟨p, vs, e, hg, hh, q⟩ := F.own i ds h
    exact ⟨p, vs, e, N.out hg hh, N.hh _ _ hh, RpA.mono N.gg ds q⟩
theorem frzE_get (i : Nat) : (frzE r)[i]? = (r[i]?).map frz1 := by
  unfold frzE
  rw [List.getElem?_map]
theorem Fits.frz (F : Fits K T G H σ r) : Fits K T H H σ (frzE r) := by
  refine ⟨Same.refl H, by rw [frzE, List.length_map]; exact F.len, fun i d h => ?_, fun i ds h => ?_, fun i j ds es p h _ _ _ => ?_, Tr.nil fun i t h => ?_⟩
  · rw [frzE_get] at h
    cases e : r[i]? with
    | none => rw [e] at h; cases h
    | some s =>
      rw [e] at h
      cases s with
      | no => cases h
      | tre t =>
        cases h
        obtain ⟨m, k1, _⟩ := F.tr
        obtain ⟨⟨v, hv, q⟩, _⟩ := k1 i t e
        exact ⟨v, hv, Ow.rp F.gh t q⟩
      | val d' =>
        cases h
        obtain ⟨v, e1, q⟩ := F.val i d e
        exact ⟨v, e1, Rp.mono F.gh d q⟩
      | own ds =>
        cases h
        obtain ⟨p, vs, e1, hg, hh, q⟩ := F.own i ds e
        exact ⟨.ref p, e1, .lst hh (RpA.mono F.gh ds q)⟩
  · rw [frzE_get] at h
    cases e : r[i]? with
    | none => rw [e] at h; cases h
    | some s => rw [e] at h; cases s <;> cases h
  · rw [frzE_get] at h
    cases e : r[i]? with
    | none => rw [e] at h; cases h
    | some s => rw [e] at h; cases s <;> cases h
  · rw [frzE_get] at h
    cases e : r[i]? with
    | none => rw [e] at h; cases h
    | some s => rw [e] at h; cases s <;> cases h
theorem Fits.set {i : Nat} {v : V} {d : Dt} (F : Fits K T G H σ r) (q : Rp K T G v d) : Fits K T G H (σ.set i (some v)) (r.set i (.val d)) := by
  have own' : ∀ (j : Nat) (ds : List Dt), (r.set i (.val d))[j]? = some (.own ds) → j ≠ i ∧ r[j]? = some (.own ds) := fun j ds h => by
    by_cases hj : j = i
    · subst hj
      by_cases hl : j < r.length
      · rw [List.getElem?_set_self hl] at h; cases h
      · rw [List.getElem?_eq_none (by simpa using hl)] at h; cases h
    · rw [List.getElem?_set_ne (Ne.symm hj)] at h
      exact ⟨hj, h⟩
  refine ⟨F.gh, by rw [List.length_set, List.length_set]; exact F.len, fun j d' h => ?_, fun j ds h => ?_, fun j k ds es p h1 h2 h3 h4 => ?_, F.tr.set (fun t h => by cases h) (fun l h => by cases h)⟩
  · by_cases hj : j = i
    · subst hj
      by_cases hl : j < r.length
      · rw [List.getElem?_set_self hl] at h
        cases h
        exact ⟨v, List.getElem?_set_self (by rw [F.len]; exact hl), q⟩
      · rw [List.getElem?_eq_none (by simpa using hl)] at h; cases h
    · rw [List.getElem?_set_ne (Ne.symm hj)] at h ⊢
      exact F.val j d' h
  · obtain ⟨hj, h⟩ := own' j ds h
    rw [List.getElem?_set_ne (Ne.symm hj)]
    exact F.own j ds h
  · obtain ⟨hj, h1⟩ := own' j ds h1
    obtain ⟨hk, h2⟩ := own' k es h2
    rw [List.getElem?_set_ne (Ne.symm hj)] at h3
    rw [List.getElem?_set_ne (Ne.symm hk)] at h4
    exact F.sep j k ds es p h1 h2 h3 h4
/-- a new list of the frame's own -/
theorem Fits.setOwn {i : Nat} {p : Addr} {vs : List V} {ds : List Dt} (F : Fits K T G H σ r) (hp : ∀ (j : Nat) (es : List Dt), j ≠ i → r[j]? = some (.own es) → σ[j]? ≠ some (some (.ref p))) (hg : G p = none) (hh : H p = some (.lst vs)) (q : RpA K T G vs ds) (ht : Tr K T G H (fun _ => True) (σ.set i (some (.ref p))) (r.set i (.own ds))) :
    Fits K T G H (σ.set i (some (.ref p))) (r.set i (.own ds)) := by
  refine ⟨F.gh, by rw [List.length_set, List.length_set]; exact F.len, fun j d' h => ?_, fun j es h => ?_, fun j k es fs p' h1 h2 h3 h4 => ?_, ht⟩
  · by_cases hj : j = i
    · subst hj
      by_cases hl : j < r.length
      · rw [List.getElem?_set_self hl] at h; cases h
      · rw [List.getElem?_eq_none (by simpa using hl)] at h; cases h
    · rw [List.getElem?_set_ne (Ne.symm hj)] at h ⊢
      exact F.val j d' h
  · by_cases hj : j = i
    · subst hj
      by_cases hl : j < r.length
      · rw [List.getElem?_set_self hl] at h
        cases h
        exact ⟨p, vs, List.getElem?_set_self (by rw [F.len]; exact hl), hg, hh, q⟩
      · rw [List.getElem?_eq_none (by simpa using hl)] at h; cases h
    · rw [List.getElem?_set_ne (Ne.symm hj)] at h ⊢
      exact F.own j es h
  · have at_i : ∀ (j : Nat) (es : List Dt), (r.set i (.own ds))[j]? = some (.own es) → (σ.set i (some (.ref p)))[j]? = some (some (.ref p')) → j ≠ i → r[j]? = some (.own es) ∧ σ[j]? = some (some (.ref p')) := fun j es e1 e2 hj => by
      rw [List.getElem?_set_ne (Ne.symm hj)] at e1 e2
      exact ⟨e1, e2⟩
    have self : ∀ (j : Nat) (es : List Dt), j = i → (r.set i (.own ds))[j]? = some (.own es) → (σ.set i (some (.ref p)))[j]? = some (some (.ref p')) → p' = p := fun j es hj e1 e2 => by
      subst hj
      by_cases hl : j < r.length
      · rw [List.getElem?_set_self (by rw [F.len]; exact hl)] at e2
        cases e2; rfl
      · rw [List.getElem?_eq_none (by simpa using hl)] at e1; cases e1
    by_cases hj : j = i
    · by_cases hk : k = i
      · rw [hj, hk]
      · obtain ⟨e1, e2⟩ := at_i k fs h2 h4 hk
        have := self j es hj h1 h3
        subst this
        exact absurd e2 (hp k fs hk e1)
    · obtain ⟨e1, e2⟩ := at_i j es h1 h3 hj
      by_cases hk : k = i
      · have := self k fs hk h2 h4
        subst this
        exact absurd e2 (hp j es hj e1)
      · obtain ⟨e3, e4⟩ := at_i k fs h2 h4 hk
        exact F.sep j k es fs p' e1 e3 e2 e4
/-- a list of the frame's own becomes fixed -/
def frzAt (i : Nat) (r : Env) : Env := match r[i]? with | some (.own l) => r.set i (.val (.lst l)) | _ => r
end
end PL

/-! Expressions as functions from names to data. -/
namespace PL
open PySem PySem.Spec PyProof.Rows L2

section
variable {K : PySem.W.Frag} {T : CT}

/-! ### readings that give data -/
def GE (K : PySem.W.Frag) (T : CT) (te : TE) (f : Env → Option Dt) : Prop :=
  ∀ (G H : Hp) (σ : L2.St) (r : Env) (d : Dt), Fits K T G H σ r → f r = some d → ∀ Q : VK, (∀ v G' H', Nx G H G' H' → Rp K T G' v d → Q v H') → te σ H Q
def GT (K : PySem.W.Frag) (T : CT) (tt : TT) (f : Env → Option Bool) : Prop :=
  ∀ (G H : Hp) (σ : L2.St) (r : Env) (b : Bool), Fits K T G H σ r → f r = some b → ∀ Q : Bool → Hp → Prop, (∀ G' H', Nx G H G' H' → Q b H') → tt σ H Q
def GA (K : PySem.W.Frag) (T : CT) (ta : TA) (f : Env → Option (List Dt)) : Prop :=
  ∀ (G H : Hp) (σ : L2.St) (r : Env) (ds : List Dt), Fits K T G H σ r → f r = some ds → ∀ Q : List V → Hp → Prop, (∀ vs G' H', Nx G H G' H' → RpA K T G' vs ds → Q vs H') → ta σ H Q
/-- a new list that nothing else holds -/
def GL (K : PySem.W.Frag) (T : CT) (te : TE) (f : Env → Option (List Dt)) : Prop :=
  ∀ (G H : Hp) (σ : L2.St) (r : Env) (ds : List Dt), Fits K T G H σ r → f r = some ds → ∀ Q : VK,
    (∀ p vs G' H', Nx G H G' H' → H p = none → G' p = none → H' p = some (.lst vs) → RpA K T G' vs ds → Q (.ref p) H') → te σ H Q
/-- an operation of two values -/
def OpD (K : PySem.W.Frag) (T : CT) (rr : R2) (f : Dt → Dt → Option Dt) : Prop :=
  ∀ (G H : Hp) (x y : V) (d e z : Dt), Same G H → Rp K T G x d → Rp K T G y e → f d e = some z → ∀ Q : VK, (∀ v G' H', Nx G H G' H' → Rp K T G' v z → Q v H') → rr x y H Q
def UnD (K : PySem.W.Frag) (T : CT) (rr : V → Hp → VK → Prop) (f : Dt → Option Dt) : Prop :=
  ∀ (G H : Hp) (x : V) (d z : Dt), Same G H → Rp K T G x d → f d = some z → ∀ Q : VK, (∀ v G' H', Nx G H G' H' → Rp K T G' v z → Q v H') → rr x H Q
/-- a call of known values -/
def CaD (K : PySem.W.Frag) (T : CT) (rr : List V → Hp → VK → Prop) (f : List Dt → Option Dt) : Prop :=
  ∀ (G H : Hp) (xs : List V) (ds : List Dt) (z : Dt), Same G H → RpA K T G xs ds → f ds = some z → ∀ Q : VK, (∀ v G' H', Nx G H G' H' → Rp K T G' v z → Q v H') → rr xs H Q
end

structure DE (X : Cx) (T : CT) (e : Expr) (f : Env → Option Dt) : Prop where
  ex : ∃ te, PE X e te ∧ GE X.K T te f
structure DT (X : Cx) (T : CT) (e : Expr) (f : Env → Option Bool) : Prop where
  ex : ∃ te, PT X e te ∧ GT X.K T te f
/-- a chain of and, or -/
structure DW (X : Cx) (T : CT) (e : Expr) (f : Env → Option Bool) : Prop where
  ex : ∃ te, PW X e te ∧ GT X.K T te f
structure DA (X : Cx) (T : CT) (es : List Expr) (f : Env → Option (List Dt)) : Prop where
  ex : ∃ te, PA X es te ∧ GA X.K T te f
structure DL (X : Cx) (T : CT) (e : Expr) (f : Env → Option (List Dt)) : Prop where
  ex : ∃ te, PE X e te ∧ GL X.K T te f

/-! ### names, constants -/
section
variable {X : Cx} {T : CT} {K : PySem.W.Frag}
def fV (i : Nat) : Env → Option Dt := fun r => gV r i
def fC (d : Dt) : Env → Option Dt := fun _ => some d
theorem ge_var {i : Nat} : GE K T (tVar i) (fV i) := fun G H σ r d F h Q q => by
  obtain ⟨v, e, p⟩ := F.val i d (gV_iff.mp h)
  exact ⟨v, e, q v G H (Nx.refl F.gh) p⟩
theorem ge_c {v : V} {d : Dt} (h : ∀ G, Rp K T G v d) : GE K T (tC v) (fC d) := fun G H σ r d' F e Q q => by
  cases e
  exact q v G H (Nx.refl F.gh) (h G)
theorem de_var (i : Nat) {x : Str} {pos : Pos} (hN : X.N[i]? = some x := by rfl) (hv : Vis X.env.scope x := by first | exact Or.inl rfl | exact Or.inr (Or.inl rfl) | exact Or.inr (Or.inr rfl)) (hd : (x == ("__debug__" : Str)) = false := by decide +kernel)
    (hcd : (x == ("__classdict__" : Str)) = false := by decide +kernel) : DE X T (.Name x pos) (fV i) := ⟨_, pe_var hN hv hd hcd, ge_var⟩
theorem de_int {i : Int} {j pos} : DE X T (.Constant (.int i) j pos) (fC (.int i)) := ⟨_, pe_int, ge_c fun _ => .int i⟩
theorem de_bl {b : Bool} {j pos} : DE X T (.Constant (.bool b) j pos) (fC (.bl b)) := ⟨_, pe_bl, ge_c fun _ => .bl b⟩
theorem de_non {j pos} : DE X T (.Constant .none j pos) (fC .non) := ⟨_, pe_non, ge_c fun _ => .non⟩
theorem de_str {x : Str} (l : List Nat) {j pos} (h : x = ⟨l.toArray⟩ := by decide +kernel) : DE X T (.Constant (.str x) j pos) (fC (.str l)) := by
  subst h
  exact ⟨_, pe_str, ge_c fun _ => .str l⟩
theorem de_glob {x : Str} {v : V} {u : Value} {d : Dt} {pos : Pos} (hm : X.mg x = some u) (r : RelV v u) (hd : ∀ G, Rp X.K T G v d) (hg : Gl X x := by rfl) (hdb : (x == ("__debug__" : Str)) = false := by decide +kernel) : DE X T (.Name x pos) (fC d) :=
  ⟨_, pe_glob hg hm r hdb, ge_c hd⟩

/-! ### operators -/
def fOp (f : Dt → Dt → Option Dt) (a b : Env → Option Dt) : Env → Option Dt := fun r => (a r).bind fun x => (b r).bind fun y => f x y
def fUn (f : Dt → Option Dt) (a : Env → Option Dt) : Env → Option Dt := fun r => (a r).bind f
theorem fOp_some {f : Dt → Dt → Option Dt} {a b : Env → Option Dt} {r : Env} {z : Dt} (h : fOp f a b r = some z) : ∃ x y, a r = some x ∧ b r = some y ∧ f x y = some z := by
  unfold fOp at h
  cases ha : a r with
  | none => rw [ha] at h; cases h
  | some x =>
    cases hb : b r with
    | none => rw [ha, hb] at h; cases h
    | some y => rw [ha, hb] at h; exact ⟨x, y, rfl, rfl, h⟩
theorem ge_op {rr : R2} {f : Dt → Dt → Option Dt} {ta tb : TE} {a b : Env → Option Dt} (hr : OpD K T rr f) (ha : GE K T ta a) (hb : GE K T tb b) : GE K T (tOp rr ta tb) (fOp f a b) := fun G H σ r d F h Q q => by
  obtain ⟨x, y, h1, h2, h3⟩ := fOp_some h
  refine ha G H σ r x F h1 _ fun v G1 H1 n1 p1 => ?_
  refine hb G1 H1 σ r y (F.nx n1) h2 _ fun w G2 H2 n2 p2 => ?_
  exact hr G2 H2 v w x y d n2.gh (Rp.mono n2.gg x p1) p2 h3 Q fun z G3 H3 n3 p3 => q z G3 H3 ((n1.trans n2).trans n3) p3
theorem ge_un {rr : V → Hp → VK → Prop} {f : Dt → Option Dt} {ta : TE} {a : Env → Option Dt} (hr : UnD K T rr f) (ha : GE K T ta a) : GE K T (tUn rr ta) (fUn f a) := fun G H σ r d F h Q q => by
  unfold fUn at h
  cases h1 : a r with
  | none => rw [h1] at h; cases h
  | some x =>
    rw [h1] at h
    refine ha G H σ r x F h1 _ fun v G1 H1 n1 p1 => ?_
    exact hr G1 H1 v x d n1.gh p1 h Q fun z G3 H3 n3 p3 => q z G3 H3 (n1.trans n3) p3
/-- an operator, told by data -/
structure BinD (X : Cx) (T : CT) (fn : Value → Value → Sem Value) (f : Dt → Dt → Option Dt) : Prop where
  ex : ∃ rr, OpR X fn rr ∧ OpD X.K T rr f
structure IxD (X : Cx) (T : CT) (f : Dt → Dt → Option Dt) : Prop where
  ex : ∃ rr, IxR X rr ∧ OpD X.K T rr f
def fAlt (f g : Dt → Dt → Option Dt) : Dt → Dt → Option Dt := fun d e => (f d e).or (g d e)
theorem fAlt_some {f g : Dt → Dt → Option Dt} {d e z : Dt} (h : fAlt f g d e = some z) : f d e = some z ∨ g d e = some z := by
  unfold fAlt at h
  cases h1 : f d e with
  | none => rw [h1] at h; exact .inr h
  | some w => rw [h1] at h; exact .inl h
theorem OpD.or {r1 r2 : R2} {f g : Dt → Dt → Option Dt} (h1 : OpD K T r1 f) (h2 : OpD K T r2 g) : OpD K T (fun x y H Q => r1 x y H Q ∨ r2 x y H Q) (fAlt f g) := fun G H x y d e z gh p q h Q k => by
  rcases fAlt_some h with h | h
  · exact .inl (h1 G H x y d e z gh p q h Q k)
  · exact .inr (h2 G H x y d e z gh p q h Q k)
theorem BinD.or {fn : Value → Value → Sem Value} {f g : Dt → Dt → Option Dt} (h1 : BinD X T fn f) (h2 : BinD X T fn g) : BinD X T fn (fAlt f g) := by
  obtain ⟨r1, a1, b1⟩ := h1.ex
  obtain ⟨r2, a2, b2⟩ := h2.ex
  exact ⟨_, a1.or a2, b1.or b2⟩
theorem IxD.or {f g : Dt → Dt → Option Dt} (h1 : IxD X T f) (h2 : IxD X T g) : IxD X T (fAlt f g) := by
  obtain ⟨r1, a1, b1⟩ := h1.ex
  obtain ⟨r2, a2, b2⟩ := h2.ex
  exact ⟨_, a1.or a2, b1.or b2⟩
theorem BinD.le {fn : Value → Value → Sem Value} {f g : Dt → Dt → Option Dt} (h1 : BinD X T fn f) (h : ∀ d e z, g d e = some z → f d e = some z) : BinD X T fn g := by
  obtain ⟨r1, a1, b1⟩ := h1.ex
  exact ⟨_, a1, fun G H x y d e z gh p q k => b1 G H x y d e z gh p q (h d e z k)⟩
theorem IxD.le {f g : Dt → Dt → Option Dt} (h1 : IxD X T f) (h : ∀ d e z, g d e = some z → f d e = some z) : IxD X T g := by
  obtain ⟨r1, a1, b1⟩ := h1.ex
  exact ⟨_, a1, fun G H x y d e z gh p q k => b1 G H x y d e z gh p q (h d e z k)⟩
theorem de_bin {op : Operator} {f : Dt → Dt → Option Dt} {a b : Expr} {fa fb : Env → Option Dt} {pos : Pos} (ho : BinD X T (binaryOp op) f) (ha : DE X T a fa) (hb : DE X T b fb) : DE X T (.BinOp a op b pos) (fOp f fa fb) := by
  obtain ⟨r1, a1, b1⟩ := ho.ex
  obtain ⟨ta, pa, ga⟩ := ha.ex
  obtain ⟨tb, pb, gb⟩ := hb.ex
  exact ⟨_, pe_op a1 pa pb, ge_op b1 ga gb⟩
theorem de_cmp {op : CmpOp} {f : Dt → Dt → Option Dt} {a b : Expr} {fa fb : Env → Option Dt} {pos : Pos} (ho : BinD X T (compareOp op) f) (ha : DE X T a fa) (hb : DE X T b fb) (hm : behindInMarks op b = false := by first | exact nomark _ | rfl) : DE X T (.Compare a [op] [b] pos) (fOp f fa fb) := by
  obtain ⟨r1, a1, b1⟩ := ho.ex
  obtain ⟨ta, pa, ga⟩ := ha.ex
  obtain ⟨tb, pb, gb⟩ := hb.ex
  exact ⟨_, pe_cmpR a1 pa pb hm, ge_op b1 ga gb⟩
theorem de_ix {f : Dt → Dt → Option Dt} {a b : Expr} {fa fb : Env → Option Dt} {pos : Pos} (ho : IxD X T f) (ha : DE X T a fa) (hb : DE X T b fb) (hs : PlainIx b := by exact fun _ _ => rfl) : DE X T (.Subscript a b pos) (fOp f fa fb) := by
  obtain ⟨r1, a1, b1⟩ := ho.ex
  obtain ⟨ta, pa, ga⟩ := ha.ex
  obtain ⟨tb, pb, gb⟩ := hb.ex
  exact ⟨_, pe_ix a1 pa pb hs, ge_op b1 ga gb⟩
def fNeg : Dt → Option Dt
  | .int i => some (.int (-i))
  | _ => none
theorem de_neg {a : Expr} {fa : Env → Option Dt} {pos : Pos} (ha : DE X T a fa) : DE X T (.UnaryOp .USub a pos) (fUn fNeg fa) := by
  obtain ⟨ta, pa, ga⟩ := ha.ex
  refine ⟨_, pe_un un_neg pa, ge_un (fun G H x d z gh p h Q q => ?_) ga⟩
  cases p <;> cases h
  exact ⟨_, rfl, q _ G H (Nx.refl gh) (.int _)⟩
/-- a chained comparison -/
def fChain (f g : Dt → Dt → Option Dt) (a b c : Env → Option Dt) : Env → Option Dt := fun r => (a r).bind fun x => (b r).bind fun y => match f x y with
  | some (.bl true) => (c r).bind fun z => g y z
  | some (.bl false) => some (.bl false)
  | _ => none
theorem ge_chain {r1 r2 : R2} {f g : Dt → Dt → Option Dt} {ta tb tc : TE} {a b c : Env → Option Dt} (h1 : OpD K T r1 f) (h2 : OpD K T r2 g) (ha : GE K T ta a) (hb : GE K T tb b) (hc : GE K T tc c) : GE K T (tChain r1 r2 ta tb tc) (fChain f g a b c) := fun G H σ r d F h Q q => by
  unfold fChain at h
  cases e1 : a r with
  | none => rw [e1] at h; cases h
  | some x =>
    cases e2 : b r with
    | none => rw [e1, e2] at h; cases h
    | some y =>
      rw [e1, e2] at h
      replace h : (match f x y with | some (.bl true) => (c r).bind fun z => g y z | some (.bl false) => some (.bl false) | _ => none) = some d := h
      refine ha G H σ r x F e1 _ fun v G1 H1 n1 p1 => ?_
      refine hb G1 H1 σ r y (F.nx n1) e2 _ fun w G2 H2 n2 p2 => ?_
      split at h
      · rename_i e3
        cases e4 : c r with
        | none => rw [e4] at h; cases h
        | some z =>
          rw [e4] at h
          refine h1 G2 H2 v w x y _ n2.gh (Rp.mono n2.gg x p1) p2 e3 _ fun k G3 H3 n3 p3 => ?_
          cases p3
          refine ⟨true, rfl, ?_⟩
          rw [if_pos rfl]
          refine hc G3 H3 σ r z (F.nx ((n1.trans n2).trans n3)) e4 _ fun u G4 H4 n4 p4 => ?_
          exact h2 G4 H4 w u y z d n4.gh (Rp.mono (n3.gg.trans n4.gg) y p2) p4 h Q fun k G5 H5 n5 p5 => q k G5 H5 ((((n1.trans n2).trans n3).trans n4).trans n5) p5
      · rename_i e3
        cases h
        refine h1 G2 H2 v w x y _ n2.gh (Rp.mono n2.gg x p1) p2 e3 _ fun k G3 H3 n3 p3 => ?_
        cases p3
        refine ⟨false, rfl, ?_⟩
        rw [if_neg Bool.false_ne_true]
        exact q _ G3 H3 ((n1.trans n2).trans n3) (.bl false)
      · cases h
theorem de_chain {op op' : CmpOp} {f g : Dt → Dt → Option Dt} {a b c : Expr} {fa fb fc : Env → Option Dt} {pos : Pos} (ho : BinD X T (compareOp op) f) (ho' : BinD X T (compareOp op') g) (ha : DE X T a fa) (hb : DE X T b fb) (hc : DE X T c fc)
    (hx : ∀ {r r' : R2} {ta tb tc : TE}, OpR X (compareOp op) r → OpR X (compareOp op') r' → PE X a ta → PE X b tb → PE X c tc → PE X (.Compare a [op, op'] [b, c] pos) (tChain r r' ta tb tc) := by intro r r' ta tb tc h1 h2 h3 h4 h5; exact pe_chain h1 h2 h3 h4 h5) :
    DE X T (.Compare a [op, op'] [b, c] pos) (fChain f g fa fb fc) := by
  obtain ⟨r1, a1, b1⟩ := ho.ex
  obtain ⟨r2, a2, b2⟩ := ho'.ex
  obtain ⟨ta, pa, ga⟩ := ha.ex
  obtain ⟨tb, pb, gb⟩ := hb.ex
  obtain ⟨tc, pc, gc⟩ := hc.ex
  exact ⟨_, hx a1 a2 pa pb pc, ge_chain b1 b2 ga gb gc⟩
/-! ### tests -/
def asB (f : Env → Option Dt) : Env → Option Bool := fun r => match f r with
  | some (.bl b) => some b
  | _ => none
theorem gt_val {te : TE} {f : Env → Option Dt} (h : GE K T te f) : GT K T (tB te) (asB f) := fun G H σ r b F e Q q => by
  unfold asB at e
  split at e
  · rename_i e1
    cases e
    refine h G H σ r _ F e1 _ fun v G1 H1 n1 p1 => ?_
    cases p1
    exact ⟨b, rfl, q G1 H1 n1⟩
  · cases e
theorem dt_val {e : Expr} {f : Env → Option Dt} (h : DE X T e f) (he : ∀ whole, isTrue e X.env whole = (do let v ← whole; standAt e.pos; holding [v] (truthy v)) := by intro _; rfl) : DT X T e (asB f) := by
  obtain ⟨te, pe, ge⟩ := h.ex
  exact ⟨_, pt_val pe he, gt_val ge⟩
theorem dt_cmp {op : CmpOp} {f : Dt → Dt → Option Dt} {a b : Expr} {fa fb : Env → Option Dt} {pos : Pos} (ho : BinD X T (compareOp op) f) (ha : DE X T a fa) (hb : DE X T b fb) (hm : behindInMarks op b = false := by first | exact nomark _ | rfl) : DT X T (.Compare a [op] [b] pos) (asB (fOp f fa fb)) := by
  obtain ⟨r1, a1, b1⟩ := ho.ex
  obtain ⟨ta, pa, ga⟩ := ha.ex
  obtain ⟨tb, pb, gb⟩ := hb.ex
  exact ⟨_, pt_cmpR a1 pa pb hm, gt_val (ge_op b1 ga gb)⟩
theorem dt_chain {op op' : CmpOp} {f g : Dt → Dt → Option Dt} {a b c : Expr} {fa fb fc : Env → Option Dt} {pos : Pos} (ho : BinD X T (compareOp op) f) (ho' : BinD X T (compareOp op') g) (ha : DE X T a fa) (hb : DE X T b fb) (hc : DE X T c fc)
    (hx : ∀ {r r' : R2} {ta tb tc : TE}, OpR X (compareOp op) r → OpR X (compareOp op') r' → PE X a ta → PE X b tb → PE X c tc → PT X (.Compare a [op, op'] [b, c] pos) (tTest (tChain r r' ta tb tc)) := by intro r r' ta tb tc h1 h2 h3 h4 h5; exact pt_chain h1 h2 h3 h4 h5) :
    DT X T (.Compare a [op, op'] [b, c] pos) (asB (fChain f g fa fb fc)) := by
  obtain ⟨r1, a1, b1⟩ := ho.ex
  obtain ⟨r2, a2, b2⟩ := ho'.ex
  obtain ⟨ta, pa, ga⟩ := ha.ex
  obtain ⟨tb, pb, gb⟩ := hb.ex
  obtain ⟨tc, pc, gc⟩ := hc.ex
  exact ⟨_, hx a1 a2 pa pb pc, gt_val (ge_chain b1 b2 ga gb gc)⟩
def fAnd (a b : Env → Option Bool) : Env → Option Bool := fun r => match a r with
  | some true => b r
  | some false => some false
  | none => none
def fOr (a b : Env → Option Bool) : Env → Option Bool := fun r => match a r with
  | some true => some true
  | some false => b r
  | none => none
def fNot (a : Env → Option Bool) : Env → Option Bool := fun r => (a r).map (!·)
theorem gt_and {t u : TT} {a b : Env → Option Bool} (h1 : GT K T t a) (h2 : GT K T u b) : GT K T (tAnd t u) (fAnd a b) := fun G H σ r d F e Q q => by
  unfold fAnd at e
  split at e
  · rename_i e1
    refine h1 G H σ r _ F e1 _ fun G1 H1 n1 => ?_
    show (if true = true then u σ H1 Q else Q false H1)
    rw [if_pos rfl]
    exact h2 G1 H1 σ r d (F.nx n1) e Q fun G2 H2 n2 => q G2 H2 (n1.trans n2)
  · rename_i e1
    cases e
    refine h1 G H σ r _ F e1 _ fun G1 H1 n1 => ?_
    show (if false = true then u σ H1 Q else Q false H1)
    rw [if_neg Bool.false_ne_true]
    exact q G1 H1 n1
  · cases e
theorem gt_or {t u : TT} {a b : Env → Option Bool} (h1 : GT K T t a) (h2 : GT K T u b) : GT K T (tOr t u) (fOr a b) := fun G H σ r d F e Q q => by
  unfold fOr at e
  split at e
  · rename_i e1
    cases e
    refine h1 G H σ r _ F e1 _ fun G1 H1 n1 => ?_
    show (if true = true then Q true H1 else u σ H1 Q)
    rw [if_pos rfl]
    exact q G1 H1 n1
  · rename_i e1
    refine h1 G H σ r _ F e1 _ fun G1 H1 n1 => ?_
    show (if false = true then Q true H1 else u σ H1 Q)
    rw [if_neg Bool.false_ne_true]
    exact h2 G1 H1 σ r d (F.nx n1) e Q fun G2 H2 n2 => q G2 H2 (n1.trans n2)
  · cases e
theorem gt_not {t : TT} {a : Env → Option Bool} (h1 : GT K T t a) : GT K T (tNot t) (fNot a) := fun G H σ r d F e Q q => by
  unfold fNot at e
  cases e1 : a r with
  | none => rw [e1] at e; cases e
  | some b =>
    rw [e1] at e
    cases e
    exact h1 G H σ r _ F e1 _ fun G1 H1 n1 => q G1 H1 n1
theorem dw_and1 {a : Expr} {fa : Env → Option Bool} {pos : Pos} (ha : DT X T a fa) : DW X T (.BoolOp .And [a] pos) fa := by
  obtain ⟨ta, pa, ga⟩ := ha.ex
  exact ⟨_, pw_and1 pa, ga⟩
theorem dw_or1 {a : Expr} {fa : Env → Option Bool} {pos : Pos} (ha : DT X T a fa) : DW X T (.BoolOp .Or [a] pos) fa := by
  obtain ⟨ta, pa, ga⟩ := ha.ex
  exact ⟨_, pw_or1 pa, ga⟩
theorem dw_and {a b : Expr} {rest : List Expr} {fa fb : Env → Option Bool} {pos : Pos} (ha : DT X T a fa) (hb : DW X T (.BoolOp .And (b :: rest) pos) fb) : DW X T (.BoolOp .And (a :: b :: rest) pos) (fAnd fa fb) := by
  obtain ⟨ta, pa, ga⟩ := ha.ex
  obtain ⟨tb, pb, gb⟩ := hb.ex
  exact ⟨_, pw_and pa pb, gt_and ga gb⟩
theorem dw_or {a b : Expr} {rest : List Expr} {fa fb : Env → Option Bool} {pos : Pos} (ha : DT X T a fa) (hb : DW X T (.BoolOp .Or (b :: rest) pos) fb) : DW X T (.BoolOp .Or (a :: b :: rest) pos) (fOr fa fb) := by
  obtain ⟨ta, pa, ga⟩ := ha.ex
  obtain ⟨tb, pb, gb⟩ := hb.ex
  exact ⟨_, pw_or pa pb, gt_or ga gb⟩
theorem dt_w {e : Expr} {f : Env → Option Bool} (h : DW X T e f) : DT X T e f := by
  obtain ⟨te, pe, ge⟩ := h.ex
  exact ⟨_, pe.pt, ge⟩
theorem dt_not {a : Expr} {fa : Env → Option Bool} {pos : Pos} (ha : DT X T a fa) : DT X T (.UnaryOp .Not a pos) (fNot fa) := by
  obtain ⟨ta, pa, ga⟩ := ha.ex
  exact ⟨_, pt_not pa, gt_not ga⟩
/-! ### and, or, not as values; a if t else b -/
def fAndV (a b : Env → Option Dt) : Env → Option Dt := fun r => match a r with
  | some (.bl true) => b r
  | some (.bl false) => some (.bl false)
  | _ => none
def fOrV (a b : Env → Option Dt) : Env → Option Dt := fun r => match a r with
  | some (.bl true) => some (.bl true)
  | some (.bl false) => b r
  | _ => none
def fNotV : Dt → Option Dt
  | .bl b => some (.bl (!b))
  | _ => none
def fIf (t : Env → Option Bool) (a b : Env → Option Dt) : Env → Option Dt := fun r => match t r with
  | some true => a r
  | some false => b r
  | none => none
theorem ge_andV {ta tb : TE} {a b : Env → Option Dt} (h1 : GE K T ta a) (h2 : GE K T tb b) : GE K T (tAndV ta tb) (fAndV a b) := fun G H σ r d F e Q q => by
  unfold fAndV at e
  split at e
  · rename_i e1
    refine h1 G H σ r _ F e1 _ fun v G1 H1 n1 p1 => ?_
    cases p1
    refine ⟨true, rfl, ?_⟩
    rw [if_pos rfl]
    exact h2 G1 H1 σ r d (F.nx n1) e Q fun w G2 H2 n2 => q w G2 H2 (n1.trans n2)
  · rename_i e1
    cases e
    refine h1 G H σ r _ F e1 _ fun v G1 H1 n1 p1 => ?_
    cases p1
    refine ⟨false, rfl, ?_⟩
    rw [if_neg Bool.false_ne_true]
    exact q _ G1 H1 n1 (.bl false)
  · cases e
theorem ge_orV {ta tb : TE} {a b : Env → Option Dt} (h1 : GE K T ta a) (h2 : GE K T tb b) : GE K T (tOrV ta tb) (fOrV a b) := fun G H σ r d F e Q q => by
  unfold fOrV at e
  split at e
  · rename_i e1
    cases e
    refine h1 G H σ r _ F e1 _ fun v G1 H1 n1 p1 => ?_
    cases p1
    refine ⟨true, rfl, ?_⟩
    rw [if_pos rfl]
    exact q _ G1 H1 n1 (.bl true)
  · rename_i e1
    refine h1 G H σ r _ F e1 _ fun v G1 H1 n1 p1 => ?_
    cases p1
    refine ⟨false, rfl, ?_⟩
    rw [if_neg Bool.false_ne_true]
    exact h2 G1 H1 σ r d (F.nx n1) e Q fun w G2 H2 n2 => q w G2 H2 (n1.trans n2)
  · cases e
theorem ge_notV {ta : TE} {a : Env → Option Dt} (h1 : GE K T ta a) : GE K T (tNotV ta) (fUn fNotV a) := fun G H σ r d F e Q q => by
  unfold fUn at e
  cases e1 : a r with
  | none => rw [e1] at e; cases e
  | some x =>
    rw [e1] at e
    cases x <;> cases e
    refine h1 G H σ r _ F e1 _ fun v G1 H1 n1 p1 => ?_
    cases p1
    exact ⟨_, rfl, q _ G1 H1 n1 (.bl _)⟩
theorem de_one {op : BoolOp} {a : Expr} {fa : Env → Option Dt} {pos : Pos} (ha : DE X T a fa) : DE X T (.BoolOp op [a] pos) fa := by
  obtain ⟨ta, pa, ga⟩ := ha.ex
  exact ⟨_, pe_one pa, ga⟩
theorem de_and {a b : Expr} {rest : List Expr} {fa fb : Env → Option Dt} {pos : Pos} (ha : DE X T a fa) (hb : DE X T (.BoolOp .And (b :: rest) pos) fb) : DE X T (.BoolOp .And (a :: b :: rest) pos) (fAndV fa fb) := by
  obtain ⟨ta, pa, ga⟩ := ha.ex
  obtain ⟨tb, pb, gb⟩ := hb.ex
  exact ⟨_, pe_and pa pb, ge_andV ga gb⟩
theorem de_or {a b : Expr} {rest : List Expr} {fa fb : Env → Option Dt} {pos : Pos} (ha : DE X T a fa) (hb : DE X T (.BoolOp .Or (b :: rest) pos) fb) : DE X T (.BoolOp .Or (a :: b :: rest) pos) (fOrV fa fb) := by
  obtain ⟨ta, pa, ga⟩ := ha.ex
  obtain ⟨tb, pb, gb⟩ := hb.ex
  exact ⟨_, pe_or pa pb, ge_orV ga gb⟩
theorem de_not {a : Expr} {fa : Env → Option Dt} {pos : Pos} (ha : DE X T a fa) : DE X T (.UnaryOp .Not a pos) (fUn fNotV fa) := by
  obtain ⟨ta, pa, ga⟩ := ha.ex
  exact ⟨_, pe_not pa, ge_notV ga⟩
theorem ge_if {t : TT} {ta tb : TE} {c : Env → Option Bool} {a b : Env → Option Dt} (hc : GT K T t c) (h1 : GE K T ta a) (h2 : GE K T tb b) : GE K T (tIf t ta tb) (fIf c a b) := fun G H σ r d F e Q q => by
  unfold fIf at e
  split at e
  · rename_i e1
    refine hc G H σ r _ F e1 _ fun G1 H1 n1 => ?_
    show (if true = true then ta σ H1 Q else tb σ H1 Q)
    rw [if_pos rfl]
    exact h1 G1 H1 σ r d (F.nx n1) e Q fun w G2 H2 n2 => q w G2 H2 (n1.trans n2)
  · rename_i e1
    refine hc G H σ r _ F e1 _ fun G1 H1 n1 => ?_
    show (if false = true then ta σ H1 Q else tb σ H1 Q)
    rw [if_neg Bool.false_ne_true]
    exact h2 G1 H1 σ r d (F.nx n1) e Q fun w G2 H2 n2 => q w G2 H2 (n1.trans n2)
  · cases e
theorem de_if {c a b : Expr} {fc : Env → Option Bool} {fa fb : Env → Option Dt} {pos : Pos} (hc : DT X T c fc) (ha : DE X T a fa) (hb : DE X T b fb) : DE X T (.IfExp c a b pos) (fIf fc fa fb) := by
  obtain ⟨tc, pc, gc⟩ := hc.ex
  obtain ⟨ta, pa, ga⟩ := ha.ex
  obtain ⟨tb, pb, gb⟩ := hb.ex
  exact ⟨_, pe_ifExp pc pa pb, ge_if gc ga gb⟩
/-! ### argument lists, displays -/
def fNil : Env → Option (List Dt) := fun _ => some []
def fCons (a : Env → Option Dt) (b : Env → Option (List Dt)) : Env → Option (List Dt) := fun r => (a r).bind fun x => (b r).map fun xs => x :: xs
theorem da_nil : DA X T [] fNil := ⟨_, pa_nil, fun G H σ r d F e Q q => by cases e; exact q [] G H (Nx.refl F.gh) .nil⟩
theorem ga_cons {ta : TE} {tr : TA} {a : Env → Option Dt} {b : Env → Option (List Dt)} (h1 : GE K T ta a) (h2 : GA K T tr b) : GA K T (tCons ta tr) (fCons a b) := fun G H σ r d F e Q q => by
  unfold fCons at e
  cases e1 : a r with
  | none => rw [e1] at e; cases e
  | some x =>
    cases e2 : b r with
    | none => rw [e1, e2] at e; cases e
    | some xs =>
      rw [e1, e2] at e
      cases e
      refine h1 G H σ r _ F e1 _ fun v G1 H1 n1 p1 => ?_
      exact h2 G1 H1 σ r xs (F.nx n1) e2 _ fun vs G2 H2 n2 p2 => q (v :: vs) G2 H2 (n1.trans n2) (.cons (Rp.mono n2.gg x p1) p2)
theorem da_cons {e : Expr} {es : List Expr} {a : Env → Option Dt} {b : Env → Option (List Dt)} (ha : DE X T e a) (hb : DA X T es b) (hs : starEach (e :: es) X.env = (false, eval e X.env) :: starEach es X.env := by rfl) : DA X T (e :: es) (fCons a b) := by
  obtain ⟨ta, pa, ga⟩ := ha.ex
  obtain ⟨tb, pb, gb⟩ := hb.ex
  exact ⟨_, pa_cons pa pb hs, ga_cons ga gb⟩
def fTup (a : Env → Option (List Dt)) : Env → Option Dt := fun r => match a r with
  | some l => if l.length ≤ 100000 then some (.tup l) else none
  | none => none
theorem sz5 {n : Nat} (h : n ≤ 100000) : n ≤ sizeLine := Nat.le_trans h (by decide)
theorem de_tup {es : List Expr} {x1} {a : Env → Option (List Dt)} {pos : Pos} (ha : DA X T es a) : DE X T (.Tuple es x1 pos) (fTup a) := by
  obtain ⟨ta, pa, ga⟩ := ha.ex
  refine ⟨_, pe_tup pa, fun G H σ r d F e Q q => ?_⟩
  unfold fTup at e
  split at e
  · rename_i l e1
    split at e
    · rename_i hl
      cases e
      refine ga G H σ r _ F e1 _ fun vs G1 H1 n1 p1 => ⟨sz5 (by rw [p1.length]; exact hl), fun p hp => ?_⟩
      have n2 := Nx.new (o := .tup vs) n1.gh hp
      exact q _ _ _ (n1.trans n2) (.tup (SqT.of upd_same) (RpA.mono n2.gg _ p1) (fun _ _ _ => upd_same))
    · cases e
  · cases e
def fLst (a : Env → Option (List Dt)) : Env → Option (List Dt) := fun r => match a r with
  | some l => if l.length ≤ 100000 then some l else none
  | none => none
theorem dl_lst {es : List Expr} {a : Env → Option (List Dt)} {pos : Pos} (ha : DA X T es a) : DL X T (.List es pos) (fLst a) := by
  obtain ⟨ta, pa, ga⟩ := ha.ex
  refine ⟨_, pe_lst pa, fun G H σ r d F e Q q => ?_⟩
  unfold fLst at e
  split at e
  · rename_i l e1
    split at e
    · rename_i hl
      cases e
      refine ga G H σ r _ F e1 _ fun vs G1 H1 n1 p1 => ⟨sz5 (by rw [p1.length]; exact hl), fun p hp => ?_⟩
      have n2 := Nx.newH (o := .lst vs) n1.gh hp
      exact q p vs G1 _ (n1.trans n2) (n1.hh.free hp) (n1.gh.free hp) upd_same p1
    · cases e
  · cases e
/-- a new list, fixed -/
def fL (a : Env → Option (List Dt)) : Env → Option Dt := fun r => (a r).map Dt.lst
theorem ge_l {te : TE} {f : Env → Option (List Dt)} (h : GL K T te f) : GE K T te (fL f) := fun G H σ r d F e Q q => by
  unfold fL at e
  cases e1 : f r with
  | none => rw [e1] at e; cases e
  | some l =>
    rw [e1] at e
    cases e
    refine h G H σ r l F e1 Q fun p vs G1 H1 n hp hg hh rp => ?_
    refine q (.ref p) (upd G1 p (.lst vs)) H1 ⟨n.gg.trans (same_new hg), n.hh, same_updL n.gh hh, fun a => ?_, n.nf⟩ (.lst upd_same (RpA.mono (same_new hg) l rp))
    by_cases ha : a = p
    · exact .inr (.inr (by rw [ha]; exact .inl hp))
    · rw [upd_ne ha]
      exact n.fr a
theorem de_l {e : Expr} {f : Env → Option (List Dt)} (h : DL X T e f) : DE X T e (fL f) := by
  obtain ⟨te, pe, ge⟩ := h.ex
  exact ⟨_, pe, ge_l ge⟩
/-- a value that is no object: read with all lists fixed -/
def scB : Dt → Bool
  | .non => true
  | .bl _ => true
  | .int _ => true
  | .str _ => true
  | _ => false
theorem Rp.sc {G H : Hp} {v : V} {d : Dt} (h : Rp K T H v d) (s : scB d = true) : Rp K T G v d := by
  cases h <;> first | exact .non | exact .bl _ | exact .int _ | exact .str _ | cases s
def fSc (f : Env → Option Dt) : Env → Option Dt := fun r => match f (frzE r) with
  | some d => if scB d = true then some d else none
  | none => none
theorem ge_sc {te : TE} {f : Env → Option Dt} (h : GE K T te f) : GE K T te (fSc f) := fun G H σ r d F e Q q => by
  unfold fSc at e
  split at e
  · rename_i d' e1
    split at e
    · rename_i hs
      cases e
      exact h H H σ (frzE r) d F.frz e1 Q fun v G1 H1 n p => q v G H1 ((Nx.refl F.gh).growH n.hh n.nf) (p.sc hs)
    · cases e
  · cases e
theorem de_sc {e : Expr} {f : Env → Option Dt} (h : DE X T e f) : DE X T e (fSc f) := by
  obtain ⟨te, pe, ge⟩ := h.ex
  exact ⟨_, pe, ge_sc ge⟩
end
end PL

/-! Operators on data. -/
namespace PL
open PySem PySem.Spec PyProof.Rows L2

section
variable {X : Cx} {T : CT} {K : PySem.W.Frag}

/-! ### whole numbers -/
theorem ite_some {c : Prop} [Decidable c] {a z : Dt} (h : (if c then some a else none) = some z) : c ∧ a = z := by
  by_cases hc : c
  · rw [if_pos hc] at h
    exact ⟨hc, Option.some.inj h⟩
  · rw [if_neg hc] at h
    cases h
def intD (g : Int → Int → Option Dt) : Dt → Dt → Option Dt
  | .int i, .int j => g i j
  | _, _ => none
theorem intD_some {g : Int → Int → Option Dt} {d e z : Dt} (h : intD g d e = some z) : ∃ i j, d = .int i ∧ e = .int j ∧ g i j = some z := by
  cases d <;> first | (cases e <;> first | exact ⟨_, _, rfl, rfl, h⟩ | cases h) | cases h
theorem opd_I0 {g : Int → Int → V} {g' : Int → Int → Dt} (h : ∀ i j G, Rp K T G (g i j) (g' i j)) : OpD K T (rI0 g) (intD fun i j => some (g' i j)) := fun G H x y d e z gh p q hz Q k => by
  obtain ⟨i, j, rfl, rfl, hz⟩ := intD_some hz
  cases hz
  cases p
  cases q
  exact ⟨i, j, rfl, rfl, k _ G H (Nx.refl gh) (h i j G)⟩
theorem opd_I {C : Int → Int → Prop} {g : Int → Int → V} {f : Int → Int → Option Dt} (h : ∀ i j z, f i j = some z → C i j ∧ ∀ G, Rp K T G (g i j) z) : OpD K T (rI C g) (intD f) := fun G H x y d e z gh p q hz Q k => by
  obtain ⟨i, j, rfl, rfl, hz⟩ := intD_some hz
  cases p
  cases q
  obtain ⟨h1, h2⟩ := h i j z hz
  exact ⟨i, j, rfl, rfl, h1, k _ G H (Nx.refl gh) (h2 G)⟩
def addI : Dt → Dt → Option Dt := intD fun i j => some (.int (i + j))
def subD : Dt → Dt → Option Dt := intD fun i j => some (.int (i - j))
def mulI : Dt → Dt → Option Dt := intD fun i j => if (-(2 ^ 64) < i ∧ i < 2 ^ 64) ∨ (-(2 ^ 64) < j ∧ j < 2 ^ 64) ∨ i.natAbs.log2 + j.natAbs.log2 < 1000000 then some (.int (i * j)) else none
def modD : Dt → Dt → Option Dt := intD fun i j => if 0 < j then some (.int (i % j)) else none
def fdvD : Dt → Dt → Option Dt := intD fun i j => if 0 < j ∧ j < 1073741824 then some (.int (i / j)) else none
def powD : Dt → Dt → Option Dt := intD fun i j => if 0 ≤ j ∧ j ≤ 1000 ∧ i.natAbs < 18446744073709551616 then some (.int (i ^ j.toNat)) else none
theorem bd_addI : BinD X T (binaryOp .Add) addI := ⟨_, op_add, opd_I0 fun i j _ => .int _⟩
theorem bd_sub : BinD X T (binaryOp .Sub) subD := ⟨_, op_sub, opd_I0 fun i j _ => .int _⟩
theorem bd_mulI : BinD X T (binaryOp .Mult) mulI := by
  refine ⟨_, op_mul.or op_mulW, fun G H x y d e z gh p q hz Q k => ?_⟩
  obtain ⟨i, j, rfl, rfl, hz'⟩ := intD_some hz
  obtain ⟨hc, rfl⟩ := ite_some hz'
  cases p
  cases q
  rcases hc with hc | hc | hc
  · exact .inl ⟨i, j, rfl, rfl, .inl hc, k _ G H (Nx.refl gh) (.int _)⟩
  · exact .inl ⟨i, j, rfl, rfl, .inr hc, k _ G H (Nx.refl gh) (.int _)⟩
  · exact .inr ⟨i, j, rfl, rfl, hc, k _ G H (Nx.refl gh) (.int _)⟩
theorem bd_mod : BinD X T (binaryOp .Mod) modD := ⟨_, op_mod, opd_I fun i j z h => by
  split at h
  · rename_i hc; cases h; exact ⟨hc, fun _ => .int _⟩
  · cases h⟩
theorem bd_fdv : BinD X T (binaryOp .FloorDiv) fdvD := ⟨_, op_fdiv, opd_I fun i j z h => by
  split at h
  · rename_i hc; cases h; exact ⟨hc, fun _ => .int _⟩
  · cases h⟩
theorem bd_pow : BinD X T (binaryOp .Pow) powD := ⟨_, op_pow, opd_I fun i j z h => by
  split at h
  · rename_i hc
    cases h
    exact ⟨⟨hc.1, by omega, by have := hc.2.2; rw [show (2 : Nat) ^ 64 = 18446744073709551616 by decide +kernel]; exact this⟩, fun _ => .int _⟩
  · cases h⟩
def ltD : Dt → Dt → Option Dt := intD fun i j => some (.bl (decide (i < j)))
def leD : Dt → Dt → Option Dt := intD fun i j => some (.bl (decide (i ≤ j)))
def gtD : Dt → Dt → Option Dt := intD fun i j => some (.bl (decide (j < i)))
def geD : Dt → Dt → Option Dt := intD fun i j => some (.bl (decide (j ≤ i)))
theorem bd_lt : BinD X T (compareOp .Lt) ltD := ⟨_, op_lt, opd_I0 fun i j _ => .bl _⟩
theorem bd_le : BinD X T (compareOp .LtE) leD := ⟨_, op_le, opd_I0 fun i j _ => .bl _⟩
theorem bd_gt : BinD X T (compareOp .Gt) gtD := ⟨_, op_gt, opd_I0 fun i j _ => .bl _⟩
theorem bd_ge : BinD X T (compareOp .GtE) geD := ⟨_, op_ge, opd_I0 fun i j _ => .bl _⟩

/-! ### texts and lists joined -/
theorem str_app (a b : List Nat) : ((⟨a.toArray⟩ : Str) ++ (⟨b.toArray⟩ : Str)) = ⟨(a ++ b).toArray⟩ := by
  show (⟨a.toArray ++ b.toArray⟩ : Str) = _
  rw [List.append_toArray]
theorem str_len (a : List Nat) : (⟨a.toArray⟩ : Str).length = a.length := by
  show a.toArray.size = a.length
  rw [List.size_toArray]
theorem sz6 {n : Nat} (h : n ≤ 1000000) : n ≤ sizeLine := Nat.le_trans h (by decide)
def strD (g : List Nat → List Nat → Option Dt) : Dt → Dt → Option Dt
  | .str a, .str b => g a b
  | _, _ => none
theorem strD_some {g : List Nat → List Nat → Option Dt} {d e z : Dt} (h : strD g d e = some z) : ∃ i j, d = .str i ∧ e = .str j ∧ g i j = some z := by
  unfold strD at h
  split at h
  · exact ⟨_, _, rfl, rfl, h⟩
  · cases h
def lstD (g : List Dt → List Dt → Option Dt) : Dt → Dt → Option Dt
  | .lst a, .lst b => g a b
  | _, _ => none
theorem lstD_some {g : List Dt → List Dt → Option Dt} {d e z : Dt} (h : lstD g d e = some z) : ∃ i j, d = .lst i ∧ e = .lst j ∧ g i j = some z := by
  unfold lstD at h
  split at h
  · exact ⟨_, _, rfl, rfl, h⟩
  · cases h
def addS : Dt → Dt → Option Dt := strD fun a b => if a.length + b.length ≤ 1000000 then some (.str (a ++ b)) else none
theorem bd_addS : BinD X T (binaryOp .Add) addS := by
  refine ⟨_, op_add_str, fun G H x y d e z gh p q hz Q k => ?_⟩
  obtain ⟨a, b, rfl, rfl, hz'⟩ := strD_some hz
  obtain ⟨hc, rfl⟩ := ite_some hz'
  cases p
  cases q
  refine ⟨_, _, rfl, rfl, by rw [str_len, str_len]; exact sz6 hc, k _ G H (Nx.refl gh) ?_⟩
  rw [str_app]
  exact .str _
def addL : Dt → Dt → Option Dt := lstD fun a b => if a.length + b.length ≤ 100000 then some (.lst (a ++ b)) else none
theorem bd_addL : BinD X T (binaryOp .Add) addL := by
  refine ⟨_, op_cat, fun G H x y d e z gh p q hz Q k => ?_⟩
  obtain ⟨a, b, rfl, rfl, hz'⟩ := lstD_some hz
  obtain ⟨hc, rfl⟩ := ite_some hz'
  cases p with
  | @lst _ xs _ p1 p2 =>
    cases q with
    | @lst _ ys _ q1 q2 =>
      refine ⟨_, _, _, _, rfl, rfl, gh _ _ p1, gh _ _ q1, by rw [p2.length, q2.length]; exact sz5 hc, fun p hp => ?_⟩
      have n := Nx.new (o := .lst (xs ++ ys)) gh hp
      exact k _ _ _ n (.lst upd_same (RpA.mono n.gg _ (p2.append q2)))
def addD (d e : Dt) : Option Dt := match d, e with
  | .int i, .int j => some (.int (i + j))
  | .str a, .str b => if a.length + b.length ≤ 1000000 then some (.str (a ++ b)) else none
  | .lst a, .lst b => if a.length + b.length ≤ 100000 then some (.lst (a ++ b)) else none
  | _, _ => none
theorem bd_add : BinD X T (binaryOp .Add) addD := by
  refine (bd_addI.or (bd_addS.or bd_addL)).le fun d e z h => ?_
  unfold addD at h
  split at h
  · exact h
  · simpa [fAlt, addI, intD, addS, strD, addL, lstD] using h
  · simpa [fAlt, addI, intD, addS, strD, addL, lstD] using h
  · cases h
/-- a new list: a + b of two lists -/
def catO (x y : Dt) : Option (List Dt) := match x, y with
  | .lst l, .lst m => if l.length + m.length ≤ 100000 then some (l ++ m) else none
  | _, _ => none
def fCatO (a b : Env → Option Dt) : Env → Option (List Dt) := fun r => (a r).bind fun x => (b r).bind fun y => catO x y
theorem dl_cat {a b : Expr} {fa fb : Env → Option Dt} {pos : Pos} (ha : DE X T a fa) (hb : DE X T b fb) : DL X T (.BinOp a .Add b pos) (fCatO fa fb) := by
  obtain ⟨ta, pa, ga⟩ := ha.ex
  obtain ⟨tb, pb, gb⟩ := hb.ex
  refine ⟨_, pe_op op_cat pa pb, fun G H σ r ds F h Q q => ?_⟩
  unfold fCatO at h
  cases e1 : fa r with
  | none => rw [e1] at h; cases h
  | some x =>
    cases e2 : fb r with
    | none => rw [e1, e2] at h; cases h
    | some y =>
      rw [e1, e2] at h
      replace h : catO x y = some ds := h
      unfold catO at h
      split at h
      · split at h
        · rename_i hc
          cases h
          refine ga G H σ r _ F e1 _ fun v G1 H1 n1 p1 => ?_
          refine gb G1 H1 σ r _ (F.nx n1) e2 _ fun w G2 H2 n2 p2 => ?_
          have p1' := Rp.mono n2.gg _ p1
          cases p1' with
          | @lst _ xs _ a1 a2 =>
            cases p2 with
            | @lst _ ys _ b1 b2 =>
              refine ⟨_, _, _, _, rfl, rfl, n2.gh _ _ a1, n2.gh _ _ b1, by rw [a2.length, b2.length]; exact sz5 hc, fun p hp => ?_⟩
              have n3 := Nx.newH (o := .lst (xs ++ ys)) n2.gh hp
              exact q p _ G2 _ ((n1.trans n2).trans n3) (n1.hh.free (n2.hh.free hp)) (n2.gh.free hp) upd_same (a2.append b2)
        · cases h
      · cases h

/-! ### data as PyData; == -/
def allEq (f : Dt → Dt → Bool) : List Dt → List Dt → Bool
  | [], [] => true
  | x :: xs, y :: ys => f x y && allEq f xs ys
  | _, _ => false
def eqF : Nat → Dt → Dt → Bool
  | _, .non, .non => true
  | _, .bl a, .bl b => a == b
  | _, .bl a, .int j => (if a then 1 else 0) == j
  | _, .int i, .bl b => i == (if b then 1 else 0)
  | _, .int i, .int j => i == j
  | _, .str x, .str y => x == y
  | n + 1, .lst a, .lst b => allEq (eqF n) a b
  | n + 1, .tup a, .tup b => allEq (eqF n) a b
  | _, _, _ => false
def okD : Nat → Dt → Bool
  | _, .non => true
  | _, .bl _ => true
  | _, .int _ => true
  | _, .str x => x.all fun c => decide (c < 1114112)
  | n + 1, .lst l => l.all (okD n)
  | n + 1, .tup l => l.all (okD n)
  | _, _ => false
def toPy : Nat → Dt → PyData
  | _, .non => .none
  | _, .bl b => .bool b
  | _, .int i => .int i
  | _, .str x => .str ⟨x.toArray⟩
  | n + 1, .lst l => .list (l.map (toPy n))
  | n + 1, .tup l => .tuple (l.map (toPy n))
  | _, _ => .none
theorem dpAll_of {f : Dt → PyData} {H : Hp} : ∀ {vs : List V} {ds : List Dt}, RpA K T H vs ds → (∀ d ∈ ds, ∀ v, Rp K T H v d → Dp K H v (f d)) → DpAll K H vs (ds.map f)
  | _, _, .nil, _ => .nil
  | _, _, .cons r t, h => .cons (h _ List.mem_cons_self _ r) (dpAll_of t fun d hd v q => h d (List.mem_cons_of_mem _ hd) v q)
theorem dp_of : ∀ (n : Nat) (d : Dt) {H : Hp} {v : V}, okD n d = true → Rp K T H v d → Dp K H v (toPy n d)
  | 0, d, H, v, h, r => by
    cases r <;> first | exact .non | exact .bl _ | exact .int _ | exact .str _ | (unfold okD at h; cases h)
  | n + 1, d, H, v, h, r => by
    cases r with
    | non => exact .non
    | bl b => exact .bl b
    | int i => exact .int i
    | str l => exact .str _
    | lst h1 h2 => exact .lst (.inl (.inl h1)) (dpAll_of h2 fun d hd v q => dp_of n d (List.all_eq_true.mp h d hd) q)
    | tup h1 h2 => exact .tup h1 (dpAll_of h2 fun d hd v q => dp_of n d (List.all_eq_true.mp h d hd) q)
    | scr _ => unfold okD at h; cases h
    | obj _ _ _ => unfold okD at h; cases h
    | dic _ _ _ => unfold okD at h; cases h
    | adr _ => unfold okD at h; cases h
    | ty _ => unfold okD at h; cases h
    | cls _ => unfold okD at h; cases h
    | man _ => unfold okD at h; cases h
theorem layAll_of {f : Dt → PyData} : ∀ (ds : List Dt), (∀ d ∈ ds, PyData.canLay0 (f d) = true) → PyData.canLayAll0 (ds.map f) = true
  | [], _ => by simp [PyData.canLayAll0]
  | d :: ds, h => by simp [PyData.canLayAll0, h d List.mem_cons_self, layAll_of ds fun e he => h e (List.mem_cons_of_mem _ he)]
theorem strOk_of {x : List Nat} (h : (x.all fun c => decide (c < 1114112)) = true) : PyData.strOk ⟨x.toArray⟩ = true := by
  show (x.toArray.all (· < 0x110000)) = true
  rw [List.all_toArray]
  exact h
theorem lay_of : ∀ (n : Nat) (d : Dt), okD n d = true → PyData.canLay0 (toPy n d) = true
  | 0, d, h => by
    cases d <;> first | (simp [toPy, PyData.canLay0]; done) | (unfold okD at h; cases h; done) | (show PyData.canLay0 (.str _) = true; unfold PyData.canLay0; exact strOk_of h)
  | n + 1, d, h => by
    cases d with
    | non => simp [toPy, PyData.canLay0]
    | bl b => simp [toPy, PyData.canLay0]
    | int i => simp [toPy, PyData.canLay0]
    | str x => show PyData.canLay0 (.str _) = true; unfold PyData.canLay0; exact strOk_of h
    | lst l => show PyData.canLay0 (.list _) = true; unfold PyData.canLay0; exact layAll_of l fun d hd => lay_of n d (List.all_eq_true.mp h d hd)
    | tup l => show PyData.canLay0 (.tuple _) = true; unfold PyData.canLay0; exact layAll_of l fun d hd => lay_of n d (List.all_eq_true.mp h d hd)
    | scr _ => unfold okD at h; cases h
    | obj _ _ => unfold okD at h; cases h
    | dic _ _ => unfold okD at h; cases h
    | adr _ => unfold okD at h; cases h
    | ty _ => unfold okD at h; cases h
    | cls _ => unfold okD at h; cases h
    | man _ _ _ => unfold okD at h; cases h
theorem depthAll_of {f : Dt → PyData} {n : Nat} : ∀ (ds : List Dt), (∀ d ∈ ds, (f d).depth ≤ n) → PyData.depthAll (ds.map f) ≤ n
  | [], _ => by simp [PyData.depthAll]
  | d :: ds, h => by
    have h1 := h d List.mem_cons_self
    have h2 := depthAll_of ds fun e he => h e (List.mem_cons_of_mem _ he)
    simp only [List.map_cons, PyData.depthAll]
    omega
theorem depth_of : ∀ (n : Nat) (d : Dt), (toPy n d).depth ≤ n
  | 0, d => by cases d <;> simp [toPy, PyData.depth]
  | n + 1, d => by
    cases d with
    | lst l =>
      have := depthAll_of (f := toPy n) l fun d _ => depth_of n d
      show PyData.depth (.list _) ≤ n + 1
      unfold PyData.depth
      omega
    | tup l =>
      have := depthAll_of (f := toPy n) l fun d _ => depth_of n d
      show PyData.depth (.tuple _) ≤ n + 1
      unfold PyData.depth
      omega
    | _ => simp [toPy, PyData.depth]
theorem shaped_of {n : Nat} {d : Dt} (hn : n ≤ 64) (h : okD n d = true) : SeqAt.shaped (toPy n d) = true := by
  show ((toPy n d).canLay0 && decide ((toPy n d).depth ≤ 64)) = true
  rw [Bool.and_eq_true]
  exact ⟨lay_of n d h, decide_eq_true (Nat.le_trans (depth_of n d) hn)⟩
theorem eqvAll_of {f : Dt → PyData} {g : Dt → Dt → Bool} : ∀ (as bs : List Dt), (∀ a ∈ as, ∀ b ∈ bs, PyData.eqv (f a) (f b) = g a b) → PyData.eqvAll (as.map f) (bs.map f) = allEq g as bs
  | [], [], _ => by simp [PyData.eqvAll, allEq]
  | [], _ :: _, _ => by simp [PyData.eqvAll, allEq]
  | _ :: _, [], _ => by simp [PyData.eqvAll, allEq]
  | a :: as, b :: bs, h => by
    simp only [List.map_cons, PyData.eqvAll, allEq]
    rw [h a List.mem_cons_self b List.mem_cons_self, eqvAll_of as bs fun x hx y hy => h x (List.mem_cons_of_mem _ hx) y (List.mem_cons_of_mem _ hy)]
theorem str_beq (x y : List Nat) : ((⟨x.toArray⟩ : Str) == ⟨y.toArray⟩) = (x == y) := by
  rw [Bool.eq_iff_iff, beq_iff_eq, beq_iff_eq]
  constructor
  · intro h
    have h2 : x.toArray = y.toArray := congrArg Str.cps h
    have h3 := congrArg Array.toList h2
    simpa using h3
  · intro h; rw [h]
theorem eqv_of : ∀ (n : Nat) (d e : Dt), okD n d = true → okD n e = true → PyData.eqv (toPy n d) (toPy n e) = eqF n d e
  | 0, d, e, h1, h2 => by
    cases d <;> first | (unfold okD at h1; cases h1; done) | (cases e <;> first | (unfold okD at h2; cases h2; done) | (simp only [toPy, PyData.eqv, eqF, str_beq]; done))
  | n + 1, d, e, h1, h2 => by
    have hl : ∀ as bs : List Dt, as.all (okD n) = true → bs.all (okD n) = true → PyData.eqvAll (as.map (toPy n)) (bs.map (toPy n)) = allEq (eqF n) as bs := fun as bs ha hb =>
      eqvAll_of as bs fun x hx y hy => eqv_of n x y (List.all_eq_true.mp ha x hx) (List.all_eq_true.mp hb y hy)
    cases d <;> first
      | (simp only [okD] at h1; cases h1; done)
      | (cases e <;> first
          | (simp only [okD] at h2; cases h2; done)
          | (simp only [toPy, PyData.eqv, eqF, str_beq]; done)
          | (simp only [toPy, PyData.eqv, eqF]; exact hl _ _ h1 h2))
def eqD (d e : Dt) : Option Dt := match d, e with
  | .int i, .int j => some (.bl (decide (i = j)))
  | .str a, .str b => some (.bl (decide (a = b)))
  | _, _ => if okD 9 d = true ∧ okD 9 e = true then some (.bl (eqF 9 d e)) else none
def neD (d e : Dt) : Option Dt := match d, e with
  | .int i, .int j => some (.bl (!decide (i = j)))
  | .str a, .str b => some (.bl (!decide (a = b)))
  | _, _ => if okD 9 d = true ∧ okD 9 e = true then some (.bl (!eqF 9 d e)) else none
theorem dec_vint (i j : Int) : decide (V.int i = V.int j) = decide (i = j) := by
  by_cases h : i = j
  · rw [h, decide_eq_true rfl, decide_eq_true rfl]
  · rw [decide_eq_false h, decide_eq_false fun z => h (V.int.inj z)]
theorem dec_vstr (a b : List Nat) : decide (V.str ⟨a.toArray⟩ = V.str ⟨b.toArray⟩) = decide (a = b) := by
  by_cases h : a = b
  · rw [h, decide_eq_true rfl, decide_eq_true rfl]
  · rw [decide_eq_false h, decide_eq_false fun z => h (by
      have h2 : a.toArray = b.toArray := congrArg Str.cps (V.str.inj z)
      simpa using congrArg Array.toList h2)]
theorem bd_eqDD {n : Nat} (hu : X.A.units + 64 < cLine) : BinD X T (compareOp .Eq) (fun d e => if okD 9 d = true ∧ okD 9 e = true then some (.bl (eqF 9 d e)) else none) := by
  refine ⟨_, op_eqD hu, fun G H x y d e z gh p q hz Q k => ?_⟩
  · obtain ⟨hc, rfl⟩ := ite_some hz
    refine ⟨toPy 9 d, toPy 9 e, dp_of 9 d hc.1 (Rp.mono gh d p), dp_of 9 e hc.2 (Rp.mono gh e q), shaped_of (by decide) hc.1, shaped_of (by decide) hc.2, ?_⟩
    rw [eqv_of 9 d e hc.1 hc.2]
    exact k _ G H (Nx.refl gh) (.bl _)
theorem bd_neDD {n : Nat} (hu : X.A.units + 64 < cLine) : BinD X T (compareOp .NotEq) (fun d e => if okD 9 d = true ∧ okD 9 e = true then some (.bl (!eqF 9 d e)) else none) := by
  refine ⟨_, op_neD hu, fun G H x y d e z gh p q hz Q k => ?_⟩
  · obtain ⟨hc, rfl⟩ := ite_some hz
    refine ⟨toPy 9 d, toPy 9 e, dp_of 9 d hc.1 (Rp.mono gh d p), dp_of 9 e hc.2 (Rp.mono gh e q), shaped_of (by decide) hc.1, shaped_of (by decide) hc.2, ?_⟩
    rw [eqv_of 9 d e hc.1 hc.2]
    exact k _ G H (Nx.refl gh) (.bl _)
def eqSc : Dt → Dt → Option Dt
  | .int i, .int j => some (.bl (decide (i = j)))
  | .str a, .str b => some (.bl (decide (a = b)))
  | _, _ => none
def neSc : Dt → Dt → Option Dt
  | .int i, .int j => some (.bl (!decide (i = j)))
  | .str a, .str b => some (.bl (!decide (a = b)))
  | _, _ => none
theorem bd_eqSc : BinD X T (compareOp .Eq) eqSc := by
  refine ⟨_, op_eq, fun G H x y d e z gh p q hz Q k => ?_⟩
  cases d <;> first
    | (cases e <;> first
        | (cases hz; cases p; cases q; refine ⟨rfl, ?_⟩; first | rw [dec_vint] | rw [dec_vstr]
           exact k _ G H (Nx.refl gh) (.bl _))
        | cases hz)
    | cases hz
theorem bd_neSc : BinD X T (compareOp .NotEq) neSc := by
  refine ⟨_, op_ne, fun G H x y d e z gh p q hz Q k => ?_⟩
  cases d <;> first
    | (cases e <;> first
        | (cases hz; cases p; cases q; refine ⟨rfl, ?_⟩; first | rw [dec_vint] | rw [dec_vstr]
           exact k _ G H (Nx.refl gh) (.bl _))
        | cases hz)
    | cases hz
theorem bd_eq (hu : X.A.units + 64 < cLine) : BinD X T (compareOp .Eq) eqD := by
  refine (bd_eqSc.or (bd_eqDD (n := 0) hu)).le fun d e z h => ?_
  cases d <;> first | exact h | (cases e <;> exact h)
theorem bd_ne (hu : X.A.units + 64 < cLine) : BinD X T (compareOp .NotEq) neD := by
  refine (bd_neSc.or (bd_neDD (n := 0) hu)).le fun d e z h => ?_
  cases d <;> first | exact h | (cases e <;> exact h)

/-! ### in, not in -/
def toV : Dt → V
  | .bl b => .bl b
  | .int i => .int i
  | .str x => .str ⟨x.toArray⟩
  | _ => .non
theorem rp_toV {H : Hp} {v : V} {d : Dt} (h : scB d = true) (r : Rp K T H v d) : v = toV d := by
  cases r <;> first | rfl | cases h
theorem rpA_toV {H : Hp} : ∀ {vs : List V} {ds : List Dt}, ds.all scB = true → RpA K T H vs ds → vs = ds.map toV
  | _, _, _, .nil => rfl
  | _, d :: ds, h, .cons r t => by
    rw [List.all_cons, Bool.and_eq_true] at h
    rw [List.map_cons, rp_toV h.1 r, rpA_toV h.2 t]
theorem flat_toV (d : Dt) : flatV (toV d) = true := by cases d <;> rfl
theorem all_flat : ∀ ds : List Dt, (ds.map toV).all flatV = true
  | [] => rfl
  | d :: ds => by rw [List.map_cons, List.all_cons, flat_toV, all_flat ds]; rfl
theorem eqV_toV {d e : Dt} (h1 : scB d = true) (h2 : scB e = true) : eqV (toV d) (toV e) = eqF 0 d e := by
  cases d <;> first | (cases h1; done) | (cases e <;> first | (cases h2; done) | (simp only [toV, eqV, eqF, str_beq]; done))
theorem inV_toV {d : Dt} (h1 : scB d = true) : ∀ ds : List Dt, ds.all scB = true → inV (toV d) (ds.map toV) = ds.any fun y => eqF 0 y d
  | [], _ => rfl
  | e :: ds, h => by
    rw [List.all_cons, Bool.and_eq_true] at h
    have := inV_toV h1 ds h.2
    unfold inV at this ⊢
    rw [List.map_cons, List.any_cons, List.any_cons, this, eqV_toV h.1 h1]
/-- the items of a list or a tuple -/
def seqOf : Dt → Option (List Dt)
  | .lst l => some l
  | .tup l => some l
  | _ => none
theorem seq_rp {H : Hp} {v : V} {d : Dt} {l : List Dt} (h : seqOf d = some l) (r : Rp K T H v d) : ∃ p xs, v = .ref p ∧ (SqL K H p xs ∨ SqT K H p xs) ∧ RpA K T H xs l := by
  cases r with
  | lst h1 h2 => cases h; exact ⟨_, _, rfl, .inl (SqL.of h1), h2⟩
  | tup h1 h2 => cases h; exact ⟨_, _, rfl, .inr h1, h2⟩
  | _ => cases h
def inFlat (d e : Dt) : Option Bool := match seqOf e with
  | some l => if scB d = true ∧ l.all scB = true then some (l.any fun y => eqF 0 y d) else none
  | none => none
def inDeep (d e : Dt) : Option Bool := match e with
  | .lst l => if okD 9 d = true ∧ okD 9 (.lst l) = true then some (l.any fun y => eqF 9 y d) else none
  | _ => none
def inText (d e : Dt) : Option Bool := match d, e with
  | .str [c], .str z => some (z.contains c)
  | _, _ => none
def inB (d e : Dt) : Option Bool := (inFlat d e).or ((inText d e).or (inDeep d e))
def inD (d e : Dt) : Option Dt := (inB d e).map Dt.bl
def niD (d e : Dt) : Option Dt := (inB d e).map fun b => .bl (!b)
theorem bd_in (hu : X.A.units + 65 < cLine) : BinD X T (compareOp .In) inD := by
  have h1 : BinD X T (compareOp .In) (fun d e => (inFlat d e).map Dt.bl) := by
    refine ⟨_, op_in_seq, fun G H x y d e z gh p q hz Q k => ?_⟩
    dsimp only at hz
    unfold inFlat at hz
    split at hz
    · rename_i l hl
      split at hz
      · rename_i hc
        cases hz
        obtain ⟨a, xs, rfl, hs, hr⟩ := seq_rp hl (Rp.mono gh e q)
        have e1 := rp_toV hc.1 p
        have e2 := rpA_toV hc.2 hr
        subst e1 e2
        refine ⟨a, _, rfl, hs, flat_toV d, all_flat l, ?_⟩
        rw [if_neg Bool.false_ne_true, inV_toV hc.1 l hc.2]
        exact k _ G H (Nx.refl gh) (.bl _)
      · cases hz
    · cases hz
  have h2 : BinD X T (compareOp .In) (fun d e => (inText d e).map Dt.bl) := by
    refine ⟨_, op_in_sign, fun G H x y d e z gh p q hz Q k => ?_⟩
    dsimp only at hz
    unfold inText at hz
    split at hz
    · rename_i c w
      cases hz
      cases p
      cases q
      refine ⟨c, _, rfl, rfl, ?_⟩
      have : decide (c ∈ (⟨w.toArray⟩ : Str).cps.toList) = w.contains c := by
        rw [Bool.eq_iff_iff, decide_eq_true_iff, List.contains_iff_mem]
      rw [this]
      exact k _ G H (Nx.refl gh) (.bl _)
    · cases hz
  have h3 : BinD X T (compareOp .In) (fun d e => (inDeep d e).map Dt.bl) := by
    refine ⟨_, op_inD hu, fun G H x y d e z gh p q hz Q k => ?_⟩
    dsimp only at hz
    unfold inDeep at hz
    split at hz
    · rename_i l
      split at hz
      · rename_i hc
        cases hz
        have q' := dp_of 9 (.lst l) hc.2 (Rp.mono gh _ q)
        have hl : l.all (okD 8) = true := hc.2
        refine ⟨toPy 9 d, l.map (toPy 8), dp_of 9 d hc.1 (Rp.mono gh d p), q', shaped_of (by decide) hc.1, shaped_of (n := 9) (by decide) hc.2, ?_⟩
        have : ((l.map (toPy 8)).any fun z => PyData.eqv z (toPy 9 d)) = l.any fun y => eqF 9 y d := by
          rw [List.any_map]
          have up : ∀ (n : Nat) (y : Dt), okD n y = true → okD (n + 1) y = true ∧ toPy n y = toPy (n + 1) y := by
            intro n
            induction n with
            | zero => intro y hy; cases y <;> first | exact ⟨rfl, rfl⟩ | exact ⟨hy, rfl⟩ | (simp only [okD] at hy; cases hy)
            | succ n ih =>
              intro y hy
              cases y <;> first
                | exact ⟨rfl, rfl⟩
                | exact ⟨hy, rfl⟩
                | (simp only [okD] at hy; cases hy; done)
                | (rename_i l
                   have hy' : l.all (okD n) = true := hy
                   refine ⟨List.all_eq_true.mpr fun x hx => (ih x (List.all_eq_true.mp hy' x hx)).1, ?_⟩
                   simp only [toPy]
                   congr 1
                   exact List.map_congr_left fun x hx => (ih x (List.all_eq_true.mp hy' x hx)).2)
          have go : ∀ ys : List Dt, (∀ y ∈ ys, okD 8 y = true) → (ys.any ((fun z => PyData.eqv z (toPy 9 d)) ∘ toPy 8)) = ys.any fun y => eqF 9 y d := by
            intro ys
            induction ys with
            | nil => intro _; rfl
            | cons y ys ih =>
              intro hy
              obtain ⟨u1, u2⟩ := up 8 y (hy y List.mem_cons_self)
              rw [List.any_cons, List.any_cons, ih fun z hz => hy z (List.mem_cons_of_mem _ hz)]
              show (PyData.eqv (toPy 8 y) (toPy 9 d) || _) = _
              rw [u2, eqv_of 9 y d u1 hc.1]
          exact go l fun y hy => List.all_eq_true.mp hl y hy
        rw [this]
        exact k _ G H (Nx.refl gh) (.bl _)
      · cases hz
    · cases hz
  refine (h1.or (h2.or h3)).le fun d e z h => ?_
  have e : fAlt (fun d e => (inFlat d e).map Dt.bl) (fAlt (fun d e => (inText d e).map Dt.bl) (fun d e => (inDeep d e).map Dt.bl)) d e = inD d e := by
    unfold inD inB fAlt
    dsimp only
    cases inFlat d e <;> cases inText d e <;> rfl
  rw [e]
  exact h
/-- a rule for not in from the two rules' own texts -/
theorem bd_ni (hu : X.A.units + 65 < cLine) : BinD X T (compareOp .NotIn) niD := by
  have h1 : BinD X T (compareOp .NotIn) (fun d e => (inFlat d e).map fun b => Dt.bl (!b)) := by
    refine ⟨_, op_notIn_seq, fun G H x y d e z gh p q hz Q k => ?_⟩
    dsimp only at hz
    unfold inFlat at hz
    split at hz
    · rename_i l hl
      split at hz
      · rename_i hc
        cases hz
        obtain ⟨a, xs, rfl, hs, hr⟩ := seq_rp hl (Rp.mono gh e q)
        have e1 := rp_toV hc.1 p
        have e2 := rpA_toV hc.2 hr
        subst e1 e2
        refine ⟨a, _, rfl, hs, flat_toV d, all_flat l, ?_⟩
        rw [if_pos rfl, inV_toV hc.1 l hc.2]
        exact k _ G H (Nx.refl gh) (.bl _)
      · cases hz
    · cases hz
  have h2 : BinD X T (compareOp .NotIn) (fun d e => (inText d e).map fun b => Dt.bl (!b)) := by
    refine ⟨_, op_notIn_sign, fun G H x y d e z gh p q hz Q k => ?_⟩
    dsimp only at hz
    unfold inText at hz
    split at hz
    · rename_i c w
      cases hz
      cases p
      cases q
      refine ⟨c, _, rfl, rfl, ?_⟩
      have : decide (c ∈ (⟨w.toArray⟩ : Str).cps.toList) = w.contains c := by
        rw [Bool.eq_iff_iff, decide_eq_true_iff, List.contains_iff_mem]
      rw [this]
      exact k _ G H (Nx.refl gh) (.bl _)
    · cases hz
  have h3 : BinD X T (compareOp .NotIn) (fun d e => (inDeep d e).map fun b => Dt.bl (!b)) := by
    obtain ⟨rr, ho, hr⟩ := (bd_in (T := T) hu).ex
    refine ⟨_, op_notInD hu, fun G H x y d e z gh p q hz Q k => ?_⟩
    dsimp only at hz
    unfold inDeep at hz
    split at hz
    · rename_i l
      split at hz
      · rename_i hc
        cases hz
        have q' := dp_of 9 (.lst l) hc.2 (Rp.mono gh _ q)
        have hl : l.all (okD 8) = true := hc.2
        refine ⟨toPy 9 d, l.map (toPy 8), dp_of 9 d hc.1 (Rp.mono gh d p), q', shaped_of (by decide) hc.1, shaped_of (n := 9) (by decide) hc.2, ?_⟩
        have : ((l.map (toPy 8)).any fun z => PyData.eqv z (toPy 9 d)) = l.any fun y => eqF 9 y d := by
          rw [List.any_map]
          have up : ∀ (n : Nat) (y : Dt), okD n y = true → okD (n + 1) y = true ∧ toPy n y = toPy (n + 1) y := by
            intro n
            induction n with
            | zero => intro y hy; cases y <;> first | exact ⟨rfl, rfl⟩ | exact ⟨hy, rfl⟩ | (simp only [okD] at hy; cases hy)
            | succ n ih =>
              intro y hy
              cases y <;> first
                | exact ⟨rfl, rfl⟩
                | exact ⟨hy, rfl⟩
                | (simp only [okD] at hy; cases hy; done)
                | (rename_i l
                   have hy' : l.all (okD n) = true := hy
                   refine ⟨List.all_eq_true.mpr fun x hx => (ih x (List.all_eq_true.mp hy' x hx)).1, ?_⟩
                   simp only [toPy]
                   congr 1
                   exact List.map_congr_left fun x hx => (ih x (List.all_eq_true.mp hy' x hx)).2)
          have go : ∀ ys : List Dt, (∀ y ∈ ys, okD 8 y = true) → (ys.any ((fun z => PyData.eqv z (toPy 9 d)) ∘ toPy 8)) = ys.any fun y => eqF 9 y d := by
            intro ys
            induction ys with
            | nil => intro _; rfl
            | cons y ys ih =>
              intro hy
              obtain ⟨u1, u2⟩ := up 8 y (hy y List.mem_cons_self)
              rw [List.any_cons, List.any_cons, ih fun z hz => hy z (List.mem_cons_of_mem _ hz)]
              show (PyData.eqv (toPy 8 y) (toPy 9 d) || _) = _
              rw [u2, eqv_of 9 y d u1 hc.1]
          exact go l fun y hy => List.all_eq_true.mp hl y hy
        rw [this]
        exact k _ G H (Nx.refl gh) (.bl _)
      · cases hz
    · cases hz
  refine (h1.or (h2.or h3)).le fun d e z h => ?_
  have e : fAlt (fun d e => (inFlat d e).map fun b => Dt.bl (!b)) (fAlt (fun d e => (inText d e).map fun b => Dt.bl (!b)) (fun d e => (inDeep d e).map fun b => Dt.bl (!b))) d e = niD d e := by
    unfold niD inB fAlt
    dsimp only
    cases inFlat d e <;> cases inText d e <;> rfl
  rw [e]
  exact h
end
end PL

/-! Subscripts, slices, calls of built-ins, methods of texts. -/
namespace PL
open PySem PySem.Spec PyProof.Rows L2

section
variable {X : Cx} {T : CT} {K : PySem.W.Frag}

/-! ### is None, is True -/
def isD (d e : Dt) : Option Dt := match e with
  | .non => (match d with | .non => some (.bl true) | _ => some (.bl false))
  | .bl b => (match d with | .bl a => some (.bl (decide (a = b))) | _ => none)
  | _ => none
def isnD (d e : Dt) : Option Dt := match e with
  | .non => (match d with | .non => some (.bl false) | _ => some (.bl true))
  | .bl b => (match d with | .bl a => some (.bl (!decide (a = b))) | _ => none)
  | _ => none
theorem bd_is : BinD X T (compareOp .Is) isD := by
  refine ⟨_, op_isN.or op_is_bl, fun G H x y d e z gh p q hz Q k => ?_⟩
  unfold isD at hz
  split at hz
  · cases q
    refine .inl ⟨rfl, ?_⟩
    split at hz
    · cases hz; cases p; exact k _ G H (Nx.refl gh) (.bl _)
    · rename_i hn
      cases hz
      have : decide (x = V.non) = false := decide_eq_false fun e => by
        subst e
        cases p
        exact hn rfl
      rw [this]
      exact k _ G H (Nx.refl gh) (.bl _)
  · cases q
    split at hz
    · cases hz; cases p; exact .inr ⟨_, _, rfl, rfl, k _ G H (Nx.refl gh) (.bl _)⟩
    · cases hz
  · cases hz
theorem bd_isn : BinD X T (compareOp .IsNot) isnD := by
  refine ⟨_, op_notN.or op_isnot_bl, fun G H x y d e z gh p q hz Q k => ?_⟩
  unfold isnD at hz
  split at hz
  · cases q
    refine .inl ⟨rfl, ?_⟩
    split at hz
    · cases hz; cases p; exact k _ G H (Nx.refl gh) (.bl _)
    · rename_i hn
      cases hz
      have : decide (x = V.non) = false := decide_eq_false fun e => by
        subst e
        cases p
        exact hn rfl
      rw [this]
      exact k _ G H (Nx.refl gh) (.bl _)
  · cases q
    split at hz
    · cases hz; cases p; exact .inr ⟨_, _, rfl, rfl, k _ G H (Nx.refl gh) (.bl _)⟩
    · cases hz
  · cases hz

/-! ### subscripts -/
theorem ite_opt {α : Type} {c : Prop} [Decidable c] {o : Option α} {z : α} (h : (if c then o else none) = some z) : c ∧ o = some z := by
  by_cases hc : c
  · rw [if_pos hc] at h
    exact ⟨hc, h⟩
  · rw [if_neg hc] at h
    cases h
theorem RpA.atI {H : Hp} {vs : List V} {ds : List Dt} {i : Int} {d : Dt} (h : RpA K T H vs ds) (e : atI ds i = some d) : ∃ v, L2.atI vs i = some v ∧ Rp K T H v d := by
  unfold L2.atI at e ⊢
  rw [h.length]
  cases q : ixN ds.length i with
  | none => rw [q] at e; cases e
  | some j =>
    rw [q] at e
    exact h.get e
def ixD (d e : Dt) : Option Dt := match e with
  | .int i => (match d with
    | .lst l => atI l i
    | .tup l => atI l i
    | .scr l => (atI l i).map Dt.int
    | .str z => if z.length ≤ 1000000 then (atI z i).map fun c => .str [c] else none
    | _ => none)
  | _ => none
theorem ixd : IxD X T ixD := by
  refine ⟨_, ix_seq, fun G H x y d e z gh p q hz Q k => ?_⟩
  unfold ixD at hz
  split at hz
  · rename_i i
    cases q
    split at hz
    · rename_i l
      cases p with
      | lst p1 p2 =>
        obtain ⟨v, e1, r⟩ := p2.atI hz
        exact .inl ⟨_, _, i, v, rfl, rfl, SqL.of (gh _ _ p1), e1, k v G H (Nx.refl gh) r⟩
    · rename_i l
      cases p with
      | tup p1 p2 =>
        obtain ⟨v, e1, r⟩ := p2.atI hz
        exact .inr (.inl ⟨_, _, i, v, rfl, rfl, SqT.mono gh p1, e1, k v G H (Nx.refl gh) r⟩)
    · rename_i l
      cases p with
      | scr p1 =>
        cases e1 : atI l i with
        | none => rw [e1] at hz; cases hz
        | some n =>
          rw [e1] at hz
          cases hz
          refine .inl ⟨_, _, i, .int n, rfl, rfl, gh.seq p1, ?_, k _ G H (Nx.refl gh) (.int n)⟩
          unfold L2.atI at e1 ⊢
          rw [List.length_map]
          cases q : ixN l.length i with
          | none => rw [q] at e1; cases e1
          | some j =>
            rw [q] at e1
            show (l.map V.int)[j]? = some (.int n)
            rw [List.getElem?_map, show l[j]? = some n from e1]
            rfl
    · rename_i l
      cases p
      obtain ⟨hc, hz⟩ := ite_opt hz
      cases e1 : atI l i with
      | none => rw [e1] at hz; cases hz
      | some c =>
        rw [e1] at hz
        cases hz
        exact .inr (.inr ⟨_, i, c, rfl, rfl, by rw [str_len]; exact sz6 hc, by simpa using e1, k _ G H (Nx.refl gh) (.str [c])⟩)
    · cases hz
  · cases hz

/-! ### slices -/
def cutL {α : Type} (l : List α) (lo hi : Option Int) : List α := (l.drop (HT.sIx l.length 0 lo)).take (HT.sIx l.length l.length hi - HT.sIx l.length 0 lo)
/-- a slice's bound -/
structure DO (X : Cx) (T : CT) (e : Option Expr) (f : Env → Option (Option Int)) : Prop where
  ex : ∃ to, PO X e to ∧ ∀ (G H : Hp) (σ : L2.St) (r : Env) (o : Option Int), Fits X.K T G H σ r → f r = some o → ∀ Q : Option Int → Hp → Prop, (∀ G' H', Nx G H G' H' → Q o H') → to σ H Q
def oNo : Env → Option (Option Int) := fun _ => some none
def oSo (f : Env → Option Dt) : Env → Option (Option Int) := fun r => match f r with
  | some (.int i) => some (some i)
  | _ => none
theorem do_none : DO X T none oNo := ⟨_, po_none, fun G H σ r o F e Q q => by
  cases e
  exact q G H (Nx.refl F.gh)⟩
theorem do_some {e : Expr} {f : Env → Option Dt} (h : DE X T e f) : DO X T (some e) (oSo f) := by
  obtain ⟨te, pe, ge⟩ := h.ex
  refine ⟨_, po_some pe, fun G H σ r o F e Q q => ?_⟩
  unfold oSo at e
  split at e
  · rename_i i e1
    cases e
    refine ge G H σ r _ F e1 _ fun v G1 H1 n1 p1 => ?_
    cases p1
    exact ⟨i, rfl, q G1 H1 n1⟩
  · cases e
def sliceD (d : Dt) (lo hi : Option Int) : Option Dt := match d with
  | .str z => if z.length ≤ 1000000 then some (.str (cutL z lo hi)) else none
  | .lst l => some (.lst (cutL l lo hi))
  | .scr l => some (.lst ((cutL l lo hi).map Dt.int))
  | _ => none
def fSlice (a : Env → Option Dt) (lo hi : Env → Option (Option Int)) : Env → Option Dt := fun r => (a r).bind fun d => (lo r).bind fun l => (hi r).bind fun h => sliceD d l h
theorem cutL_length {α : Type} (l : List α) (lo hi : Option Int) : (cutL l lo hi).length ≤ l.length := by
  unfold cutL
  rw [List.length_take, List.length_drop]
  omega
theorem RpA.cut {H : Hp} {vs : List V} {ds : List Dt} (h : RpA K T H vs ds) (lo hi : Option Int) : RpA K T H (cutV vs lo hi) (cutL ds lo hi) := by
  unfold cutV cutL
  rw [h.length]
  exact (h.drop _).take _
theorem rpA_ints {H : Hp} : ∀ (ns : List Int), RpA K T H (ns.map V.int) (ns.map Dt.int)
  | [] => .nil
  | n :: ns => .cons (.int n) (rpA_ints ns)
theorem cut_map {α β : Type} (f : α → β) (l : List α) (lo hi : Option Int) : cutL (l.map f) lo hi = (cutL l lo hi).map f := by
  unfold cutL
  rw [List.length_map, List.map_take, List.map_drop]
theorem de_slice {e : Expr} {lo hi : Option Expr} {fe : Env → Option Dt} {fl fh : Env → Option (Option Int)} {pos p2 : Pos} (he : DE X T e fe) (hl : DO X T lo fl) (hh : DO X T hi fh) : DE X T (.Subscript e (.Slice lo hi none p2) pos) (fSlice fe fl fh) := by
  obtain ⟨te, pe, ge⟩ := he.ex
  obtain ⟨tl, pl, gl⟩ := hl.ex
  obtain ⟨th, ph, gh⟩ := hh.ex
  refine ⟨_, pe_slice (sl_str.or sl_list) pe pl ph, fun G H σ r d F h Q q => ?_⟩
  unfold fSlice at h
  cases e1 : fe r with
  | none => rw [e1] at h; cases h
  | some x =>
    cases e2 : fl r with
    | none => rw [e1, e2] at h; cases h
    | some l =>
      cases e3 : fh r with
      | none => rw [e1, e2, e3] at h; cases h
      | some u =>
        rw [e1, e2, e3] at h
        replace h : sliceD x l u = some d := h
        refine ge G H σ r _ F e1 _ fun v G1 H1 n1 p1 => ?_
        refine gl G1 H1 σ r _ (F.nx n1) e2 _ fun G2 H2 n2 => ?_
        refine gh G2 H2 σ r _ (F.nx (n1.trans n2)) e3 _ fun G3 H3 n3 => ?_
        have p3 := Rp.mono (n2.gg.trans n3.gg) _ p1
        have n := (n1.trans n2).trans n3
        unfold sliceD at h
        split at h
        · obtain ⟨hc, rfl⟩ := ite_some h
          cases p3
          refine .inl ⟨_, rfl, by rw [str_len]; exact sz6 hc, ?_⟩
          refine q _ G3 H3 n ?_
          unfold cutS
          rw [str_len, List.toList_toArray]
          exact .str _
        · cases h
          cases p3 with
          | @lst _ xs _ a1 a2 =>
            refine .inr ⟨_, _, rfl, SqL.of (n3.gh _ _ a1), fun p hp => ?_⟩
            have n4 := Nx.new (o := .lst (cutV xs l u)) n3.gh hp
            exact q _ _ _ (n.trans n4) (.lst upd_same (RpA.mono n4.gg _ (a2.cut l u)))
        · rename_i ns
          cases h
          cases p3 with
          | scr a1 =>
            refine .inr ⟨_, _, rfl, n3.gh.seq a1, fun p hp => ?_⟩
            have n4 := Nx.new (o := .lst (cutV (ns.map V.int) l u)) n3.gh hp
            have r1 : RpA X.K T G3 (cutV (ns.map V.int) l u) (cutL (ns.map Dt.int) l u) := (rpA_ints ns).cut l u
            rw [cut_map] at r1
            exact q _ _ _ (n.trans n4) (.lst upd_same (RpA.mono n4.gg _ r1))
        · cases h
/-- a slice of a list: a new list -/
def fSliceO (a : Env → Option Dt) (lo hi : Env → Option (Option Int)) : Env → Option (List Dt) := fun r => match fSlice a lo hi r with
  | some (.lst l) => some l
  | _ => none
theorem dl_slice {e : Expr} {lo hi : Option Expr} {fe : Env → Option Dt} {fl fh : Env → Option (Option Int)} {pos p2 : Pos} (he : DE X T e fe) (hl : DO X T lo fl) (hh : DO X T hi fh) : DL X T (.Subscript e (.Slice lo hi none p2) pos) (fSliceO fe fl fh) := by
  obtain ⟨te, pe, ge⟩ := he.ex
  obtain ⟨tl, pl, gl⟩ := hl.ex
  obtain ⟨th, ph, gh⟩ := hh.ex
  refine ⟨_, pe_slice sl_list pe pl ph, fun G H σ r d F h Q q => ?_⟩
  unfold fSliceO fSlice at h
  cases e1 : fe r with
  | none => rw [e1] at h; cases h
  | some x =>
    cases e2 : fl r with
    | none => rw [e1, e2] at h; cases h
    | some l =>
      cases e3 : fh r with
      | none => rw [e1, e2, e3] at h; cases h
      | some u =>
        rw [e1, e2, e3] at h
        replace h : (match sliceD x l u with | some (.lst l) => some l | _ => none) = some d := h
        refine ge G H σ r _ F e1 _ fun v G1 H1 n1 p1 => ?_
        refine gl G1 H1 σ r _ (F.nx n1) e2 _ fun G2 H2 n2 => ?_
        refine gh G2 H2 σ r _ (F.nx (n1.trans n2)) e3 _ fun G3 H3 n3 => ?_
        have p3 := Rp.mono (n2.gg.trans n3.gg) _ p1
        have n := (n1.trans n2).trans n3
        cases x with
        | lst l' =>
          cases h
          cases p3 with
          | @lst _ xs _ a1 a2 =>
            refine ⟨_, _, rfl, SqL.of (n3.gh _ _ a1), fun p hp => ?_⟩
            have n4 := Nx.newH (o := .lst (cutV xs l u)) n3.gh hp
            exact q _ _ G3 _ (n.trans n4) (n.hh.free hp) (n3.gh.free hp) upd_same (a2.cut l u)
        | scr ns =>
          cases h
          cases p3 with
          | scr a1 =>
            refine ⟨_, _, rfl, n3.gh.seq a1, fun p hp => ?_⟩
            have n4 := Nx.newH (o := .lst (cutV (ns.map V.int) l u)) n3.gh hp
            have r1 : RpA X.K T G3 (cutV (ns.map V.int) l u) (cutL (ns.map Dt.int) l u) := (rpA_ints ns).cut l u
            rw [cut_map] at r1
            exact q _ _ G3 _ (n.trans n4) (n.hh.free hp) (n3.gh.free hp) upd_same r1
        | str z =>
          unfold sliceD at h
          dsimp only at h
          split at h
          · rename_i e4
            have := (ite_some e4).2
            cases this
          · cases h
        | _ => cases h

/-! ### calls of built-ins -/
structure CalD (X : Cx) (T : CT) (u : Value) (f : List Dt → Option Dt) : Prop where
  ex : ∃ rr, CallR X u rr ∧ CaD X.K T rr f
def fCall (f : List Dt → Option Dt) (a : Env → Option (List Dt)) : Env → Option Dt := fun r => (a r).bind f
theorem ge_call {rr : List V → Hp → VK → Prop} {f : List Dt → Option Dt} {ta : TA} {a : Env → Option (List Dt)} (hr : CaD K T rr f) (ha : GA K T ta a) : GE K T (tCB rr ta) (fCall f a) := fun G H σ r d F h Q q => by
  unfold fCall at h
  cases e1 : a r with
  | none => rw [e1] at h; cases h
  | some ds =>
    rw [e1] at h
    refine ha G H σ r ds F e1 _ fun vs G1 H1 n1 p1 => ?_
    exact hr G1 H1 vs ds d n1.gh p1 h Q fun z G3 H3 n3 p3 => q z G3 H3 (n1.trans n3) p3
theorem de_callB {x : Str} {id : String} {f : List Dt → Option Dt} {fa : Env → Option (List Dt)} {p pos : Pos} {e : Expr} {es : List Expr} (hc : CalD X T (.builtin id) f) (hm : X.mg x = none) (ha : DA X T (e :: es) fa) (hv : bootBuiltins x = some (.builtin id) := by decide +kernel) (hg : Gl X x := by rfl)
    (hn : x ≠ "__name__" := by decide +kernel) (hdb : (x == ("__debug__" : Str)) = false := by decide +kernel) (he : starEach (e :: es) X.env = (false, eval e X.env) :: starEach es X.env := by rfl) (hpl : (backTo pos (starEach es X.env)).any (·.1) = false := by rfl) :
    DE X T (.Call (.Name x p) (e :: es) [] pos) (fCall f fa) := by
  obtain ⟨rr, h1, h2⟩ := hc.ex
  obtain ⟨ta, pa, ga⟩ := ha.ex
  exact ⟨_, pe_callB h1 hg hm hv pa hn hdb he hpl, ge_call h2 ga⟩
theorem de_callTy {x : Str} {id : String} {f : List Dt → Option Dt} {fa : Env → Option (List Dt)} {p pos : Pos} {e : Expr} {es : List Expr} (hc : CalD X T (.type id) f) (hm : X.mg x = none) (ha : DA X T (e :: es) fa) (hv : bootBuiltins x = some (.type id) := by decide +kernel) (hg : Gl X x := by rfl)
    (hn : x ≠ "__name__" := by decide +kernel) (hdb : (x == ("__debug__" : Str)) = false := by decide +kernel) (he : starEach (e :: es) X.env = (false, eval e X.env) :: starEach es X.env := by rfl) (hpl : (backTo pos (starEach es X.env)).any (·.1) = false := by rfl) :
    DE X T (.Call (.Name x p) (e :: es) [] pos) (fCall f fa) := by
  obtain ⟨rr, h1, h2⟩ := hc.ex
  obtain ⟨ta, pa, ga⟩ := ha.ex
  exact ⟨_, pe_callTy h1 hg hm hv pa hn hdb he hpl, ge_call h2 ga⟩
/-- a built-in class as a value -/
theorem de_ty {x : Str} {n : String} {pos : Pos} (hm : X.mg x = none) (hv : bootBuiltins x = some (.type n) := by decide +kernel) (hg : Gl X x := by rfl) (hn : x ≠ "__name__" := by decide +kernel) (hdb : (x == ("__debug__" : Str)) = false := by decide +kernel) : DE X T (.Name x pos) (fC (.ty n)) :=
  ⟨_, pe_bltn (v := .ty n) hg hm hv rfl hn hdb, ge_c fun _ => .ty n⟩
/-- an own class as a value -/
theorem de_cls {x : Str} {k : Nat} {pos : Pos} (hm : X.mg x = some (.ref (T k).1)) (hg : Gl X x := by rfl) (hdb : (x == ("__debug__" : Str)) = false := by decide +kernel) : DE X T (.Name x pos) (fC (.cls k)) :=
  ⟨_, pe_glob (v := .ref (T k).1) hg hm rfl hdb, ge_c fun _ => .cls k⟩
def lenD (ds : List Dt) : Option Dt := match ds with
  | [.lst l] => some (.int l.length)
  | [.tup l] => some (.int l.length)
  | [.scr l] => some (.int l.length)
  | [.str l] => if l.length ≤ 1000000 then some (.int l.length) else none
  | _ => none
theorem cal_len : CalD X T (.builtin "len") lenD := by
  refine ⟨_, call_len_seq.or call_len_str, fun G H xs ds z gh p hz Q k => ?_⟩
  unfold lenD at hz
  split at hz
  · cases hz
    cases p with
    | cons p1 p2 =>
      cases p2
      cases p1 with
      | lst a1 a2 =>
        refine .inl ⟨_, _, rfl, .inl (SqL.of (gh _ _ a1)), ?_⟩
        rw [a2.length]
        exact k _ G H (Nx.refl gh) (.int _)
  · cases hz
    cases p with
    | cons p1 p2 =>
      cases p2
      cases p1 with
      | tup a1 a2 =>
        refine .inl ⟨_, _, rfl, .inr (SqT.mono gh a1), ?_⟩
        rw [a2.length]
        exact k _ G H (Nx.refl gh) (.int _)
  · cases hz
    cases p with
    | cons p1 p2 =>
      cases p2
      cases p1 with
      | scr a1 =>
        refine .inl ⟨_, _, rfl, .inl (gh.seq a1), ?_⟩
        rw [List.length_map]
        exact k _ G H (Nx.refl gh) (.int _)
  · obtain ⟨hc, rfl⟩ := ite_some hz
    cases p with
    | cons p1 p2 =>
      cases p2
      cases p1
      refine .inr ⟨_, rfl, by rw [str_len]; exact sz6 hc, ?_⟩
      rw [str_len]
      exact k _ G H (Nx.refl gh) (.int _)
  · cases hz
def maxD (ds : List Dt) : Option Dt := match ds with
  | [.int i, .int j] => some (.int (if j > i then j else i))
  | _ => none
def minD (ds : List Dt) : Option Dt := match ds with
  | [.int i, .int j] => some (.int (if j < i then j else i))
  | _ => none
theorem cal_max (hc : X.calm = true) : CalD X T (.builtin "max") maxD := by
  refine ⟨_, call_max2 hc, fun G H xs ds z gh p hz Q k => ?_⟩
  unfold maxD at hz
  split at hz
  · cases hz
    cases p with
    | cons p1 p2 =>
      cases p2 with
      | cons p2 p3 =>
        cases p3
        cases p1
        cases p2
        exact ⟨_, _, rfl, k _ G H (Nx.refl gh) (.int _)⟩
  · cases hz
theorem cal_min (hc : X.calm = true) : CalD X T (.builtin "min") minD := by
  refine ⟨_, call_min2 hc, fun G H xs ds z gh p hz Q k => ?_⟩
  unfold minD at hz
  split at hz
  · cases hz
    cases p with
    | cons p1 p2 =>
      cases p2 with
      | cons p2 p3 =>
        cases p3
        cases p1
        cases p2
        exact ⟨_, _, rfl, k _ G H (Nx.refl gh) (.int _)⟩
  · cases hz
def absD (ds : List Dt) : Option Dt := match ds with
  | [.int i] => some (.int (if i < 0 then -i else i))
  | _ => none
theorem cal_abs : CalD X T (.builtin "abs") absD := by
  refine ⟨_, call_abs, fun G H xs ds z gh p hz Q k => ?_⟩
  unfold absD at hz
  split at hz
  · cases hz
    cases p with
    | cons p1 p2 => cases p2; cases p1; exact ⟨_, rfl, k _ G H (Nx.refl gh) (.int _)⟩
  · cases hz
def int1D (ds : List Dt) : Option Dt := match ds with
  | [.int i] => some (.int i)
  | [.bl b] => some (.int (if b then 1 else 0))
  | _ => none
theorem cal_int : CalD X T (.type "int") int1D := by
  refine ⟨_, call_int1, fun G H xs ds z gh p hz Q k => ?_⟩
  unfold int1D at hz
  split at hz
  · cases hz
    cases p with
    | cons p1 p2 => cases p2; cases p1; exact .inl ⟨_, rfl, k _ G H (Nx.refl gh) (.int _)⟩
  · cases hz
    cases p with
    | cons p1 p2 => cases p2; cases p1; exact .inr ⟨_, rfl, k _ G H (Nx.refl gh) (.int _)⟩
  · cases hz
/-- all truths -/
def boolsOf : List Dt → Option (List Bool)
  | [] => some []
  | .bl b :: l => (boolsOf l).map fun bs => b :: bs
  | _ => none
theorem bools_rp {H : Hp} : ∀ {vs : List V} {ds : List Dt} {bs : List Bool}, RpA K T H vs ds → boolsOf ds = some bs → vs = bs.map V.bl
  | _, _, bs, .nil, h => by cases h; rfl
  | _, d :: ds, bs, .cons r t, h => by
    cases d with
    | bl b =>
      unfold boolsOf at h
      cases e : boolsOf ds with
      | none => rw [e] at h; cases h
      | some cs =>
        rw [e] at h
        cases h
        cases r
        rw [List.map_cons, bools_rp t e]
    | _ => cases h
def allD (ds : List Dt) : Option Dt := match ds with
  | [.lst l] => (boolsOf l).map fun bs => .bl (bs.all id)
  | _ => none
theorem cal_all (hc : X.calm = true) : CalD X T (.builtin "all") allD := by
  refine ⟨_, cr_all hc, fun G H xs ds z gh p hz Q k => ?_⟩
  unfold allD at hz
  split at hz
  · rename_i l
    cases e : boolsOf l with
    | none => rw [e] at hz; cases hz
    | some bs =>
      rw [e] at hz
      cases hz
      cases p with
      | cons p1 p2 =>
        cases p2
        cases p1 with
        | lst a1 a2 =>
          have := bools_rp a2 e
          subst this
          exact ⟨_, bs, rfl, SqL.of (gh _ _ a1), k _ G H (Nx.refl gh) (.bl _)⟩
  · cases hz
/-- list(xs): a new list -/
def fListO (a : Env → Option Dt) : Env → Option (List Dt) := fun r => match a r with
  | some (.lst l) => some l
  | some (.tup l) => some l
  | _ => none
theorem dl_list {x : Str} {fa : Env → Option Dt} {p pos : Pos} {e : Expr} (hm : X.mg x = none) (ha : DE X T e fa) (hv : bootBuiltins x = some (.type "list") := by decide +kernel) (hg : Gl X x := by rfl)
    (hn : x ≠ "__name__" := by decide +kernel) (hdb : (x == ("__debug__" : Str)) = false := by decide +kernel) (hs : starEach (e :: []) X.env = (false, eval e X.env) :: starEach [] X.env := by rfl) (hpl : (backTo pos (starEach [] X.env)).any (·.1) = false := by rfl) :
    DL X T (.Call (.Name x p) [e] [] pos) (fListO fa) := by
  obtain ⟨ta, pa, ga⟩ := ha.ex
  refine ⟨_, pe_callTy call_list_of hg hm hv (pa_cons pa pa_nil hs) hn hdb hs hpl, fun G H σ r d F h Q q => ?_⟩
  unfold fListO at h
  split at h
  · rename_i l e1
    cases h
    refine ga G H σ r _ F e1 _ fun v G1 H1 n1 p1 => ?_
    cases p1 with
    | @lst _ xs _ a1 a2 =>
      refine ⟨_, _, rfl, .inl (SqL.of (n1.gh _ _ a1)), fun p hp => ?_⟩
      have n2 := Nx.newH (o := .lst xs) n1.gh hp
      exact q p _ G1 _ (n1.trans n2) (n1.hh.free hp) (n1.gh.free hp) upd_same a2
  · rename_i l e1
    cases h
    refine ga G H σ r _ F e1 _ fun v G1 H1 n1 p1 => ?_
    cases p1 with
    | @tup _ xs _ a1 a2 =>
      refine ⟨_, _, rfl, .inr (SqT.mono n1.gh a1), fun p hp => ?_⟩
      have n2 := Nx.newH (o := .lst xs) n1.gh hp
      exact q p _ G1 _ (n1.trans n2) (n1.hh.free hp) (n1.gh.free hp) upd_same a2
  · cases h

/-! ### isinstance -/
def tyN : Dt → Option String
  | .non => some "NoneType"
  | .bl _ => some "bool"
  | .int _ => some "int"
  | .str _ => some "str"
  | .lst _ => some "list"
  | .tup _ => some "tuple"
  | _ => none
theorem tyX_of {H : Hp} {v : V} {d : Dt} {n : String} (h : tyN d = some n) (r : Rp K T H v d) : TyX K H v (.type n) := by
  cases r with
  | non => cases h; exact .base .non
  | bl b => cases h; exact .base (.bl b)
  | int i => cases h; exact .base (.int i)
  | str l => cases h; exact .base (.str _)
  | lst h1 h2 => cases h; exact .base (.lst h1)
  | tup h1 h2 =>
    cases h
    rcases h1 with (h1 | ⟨o, h1⟩) | ⟨o, its, n, h1, h2, _⟩
    · exact .base (.tup h1)
    · exact .fTuple h1
    · exact .kTuple h1 h2
  | scr _ => cases h
  | obj _ _ _ => cases h
  | dic _ _ _ => cases h
  | adr _ => cases h
  | ty _ => cases h
  | cls _ => cases h
  | man _ => cases h
/-- the classes' own order: sub c k tells isinstance of an object of class c and class k; what K says of them -/
structure ClsOk (K : PySem.W.Frag) (T : CT) (sub : Nat → Nat → Option Bool) : Prop where
  kit : ∀ c k b, sub c k = some b → PySem.W.kitOne K (.ref (T c).1) (.ref (T k).1) = some b ∧ Cls K (T c).1 ∧ PySem.W.findIn K (.ref (T c).1) "__class__" = some (some (.builtin "object.__class__")) ∧ PySem.W.mroIn K (T c).1 (.type "object") = some true
  get : PySem.W.specialIn K (.builtin "object.__class__") "__get__" = some (some (.builtin "getset_descriptor.__get__"))
  tak : PySem.W.takesIn K (.builtin "object.__class__") = some true
def isiD (sub : Nat → Nat → Option Bool) (ds : List Dt) : Option Dt := match ds with
  | [d, .ty n] => (tyN d).bind fun t => (kitB t n).map Dt.bl
  | [.obj c _, .cls k] => (sub c k).map Dt.bl
  | _ => none
theorem cal_isi {sub : Nat → Nat → Option Bool} (C : ClsOk X.K T sub) : CalD X T (.builtin "isinstance") (isiD sub) := by
  refine ⟨_, call_isi, fun G H xs ds z gh p hz Q k => ?_⟩
  unfold isiD at hz
  split at hz
  · rename_i d n
    cases e1 : tyN d with
    | none => rw [e1] at hz; cases hz
    | some t =>
      rw [e1] at hz
      replace hz : (kitB t n).map Dt.bl = some z := hz
      cases e2 : kitB t n with
      | none => rw [e2] at hz; cases hz
      | some b =>
        rw [e2] at hz
        cases hz
        cases p with
        | cons p1 p2 =>
          cases p2 with
          | cons p2 p3 =>
            cases p3
            cases p2
            exact ⟨_, _, _, _, b, rfl, .ty n, tyX_of e1 (Rp.mono gh d p1), kit_ty e2, k _ G H (Nx.refl gh) (.bl b)⟩
  · rename_i c l k'
    cases e2 : sub c k' with
    | none => rw [e2] at hz; cases hz
    | some b =>
      rw [e2] at hz
      cases hz
      cases p with
      | cons p1 p2 =>
        cases p2 with
        | cons p2 p3 =>
          cases p3
          cases p2
          cases p1 with
          | obj a1 a2 a3 =>
            obtain ⟨k1, k2, k3, k4⟩ := C.kit c k' b e2
            exact ⟨_, _, _, _, b, rfl, .own _, .base (.ins (gh _ _ a1) k2 k3 C.get C.tak k4), k1, k _ G H (Nx.refl gh) (.bl b)⟩
  · cases hz

/-! ### attributes of own objects -/
def fldD (c i : Nat) (d : Dt) : Option Dt := match d with
  | .obj c' l => if c' = c then l[i]? else none
  | _ => none
theorem lookup_zip {fs : List (Str × V)} : ∀ {i : Nat} {f : Str} {v : V}, (fs.map Prod.fst).Nodup → (fs.map Prod.fst)[i]? = some f → (fs.map Prod.snd)[i]? = some v → fs.lookup f = some v := by
  induction fs with
  | nil => intro i f v _ h _; simp at h
  | cons p fs ih =>
    intro i f v nd h1 h2
    obtain ⟨a, b⟩ := p
    cases i with
    | zero =>
      have e1 : a = f := by simpa using h1
      have e2 : b = v := by simpa using h2
      subst e1 e2
      simp [List.lookup]
    | succ i =>
      have nd' := List.nodup_cons.mp nd
      have h1' : (fs.map Prod.fst)[i]? = some f := by simpa using h1
      have h2' : (fs.map Prod.snd)[i]? = some v := by simpa using h2
      have ne : (f == a) = false := by
        rw [beq_eq_false_iff_ne]
        intro e
        subst e
        exact nd'.1 (List.mem_of_getElem? h1')
      show (match f == a with | true => some b | false => fs.lookup f) = some v
      rw [ne]
      exact ih nd'.2 h1' h2'
theorem de_fld {e : Expr} {f : Str} {fe : Env → Option Dt} {pos : Pos} (c i : Nat) (cl : Cls X.K (T c).1) (hn : NoAttr X.K (T c).1 f) (nd : (T c).2.Nodup) (hf : (T c).2[i]? = some f) (he : DE X T e fe) (hb : attributeBase e f X.env (eval e X.env) = eval e X.env := by rfl) :
    DE X T (.Attribute e f pos) (fUn (fldD c i) fe) := by
  obtain ⟨te, pe, ge⟩ := he.ex
  refine ⟨_, pe_fld pe hb, fun G H σ r d F h Q q => ?_⟩
  unfold fUn at h
  cases e1 : fe r with
  | none => rw [e1] at h; cases h
  | some x =>
    rw [e1] at h
    replace h : fldD c i x = some d := h
    unfold fldD at h
    split at h
    · rename_i c' l
      split at h
      · rename_i hc
        subst hc
        refine ge G H σ r _ F e1 _ fun v G1 H1 n1 p1 => ?_
        cases p1 with
        | @obj _ a dx fs _ a1 a2 a3 =>
          obtain ⟨w, hw, rw'⟩ := a3.get h
          refine ⟨a, _, dx, fs, w, rfl, n1.gh _ _ a1, cl, hn, lookup_zip (by rw [a2]; exact nd) (by rw [a2]; exact hf) hw, q w G1 H1 n1 rw'⟩
      · cases h
    · cases h

/-! ### methods of texts -/
def strsOf : List Dt → Option (List (List Nat))
  | [] => some []
  | .str b :: l => (strsOf l).map fun bs => b :: bs
  | _ => none
theorem strs_rp {H : Hp} : ∀ {vs : List V} {ds : List Dt} {bs : List (List Nat)}, RpA K T H vs ds → strsOf ds = some bs → vs = (bs.map fun l => (⟨l.toArray⟩ : Str)).map V.str
  | _, _, bs, .nil, h => by cases h; rfl
  | _, d :: ds, bs, .cons r t, h => by
    cases d with
    | str b =>
      unfold strsOf at h
      cases e : strsOf ds with
      | none => rw [e] at h; cases h
      | some cs =>
        rw [e] at h
        cases h
        cases r
        rw [List.map_cons, List.map_cons, strs_rp t e]
    | _ => cases h
def joinL (sep : List Nat) : List (List Nat) → List Nat
  | [] => []
  | [x] => x
  | x :: rest => x ++ sep ++ joinL sep rest
theorem join_str (sep : List Nat) : ∀ bs : List (List Nat), Str.join ⟨sep.toArray⟩ (bs.map fun l => (⟨l.toArray⟩ : Str)) = ⟨(joinL sep bs).toArray⟩
  | [] => rfl
  | [x] => rfl
  | x :: y :: rest => by
    show (⟨x.toArray⟩ : Str) ++ ⟨sep.toArray⟩ ++ Str.join ⟨sep.toArray⟩ ((y :: rest).map fun l => (⟨l.toArray⟩ : Str)) = _
    rw [join_str sep (y :: rest), str_app, str_app]
    rfl
def joinD (d e : Dt) : Option Dt := match d, e with
  | .str sep, .lst l => (match strsOf l with
    | some bs => if (bs.map List.length).sum + bs.length * sep.length ≤ 1000000 then some (.str (joinL sep bs)) else none
    | none => none)
  | _, _ => none
theorem de_join {o e : Expr} {fo fe : Env → Option Dt} {apos pos : Pos} (ho : DE X T o fo) (he : DE X T e fe) (hs : starEach [e] X.env = [(false, eval e X.env)] := by rfl) (hbase : attributeBase o "join" X.env (eval o X.env) = eval o X.env := by rfl) (hline : (apos.endLine == pos.line) = true := by rfl) :
    DE X T (.Call (.Attribute o "join" apos) [e] [] pos) (fOp joinD fo fe) := by
  obtain ⟨to, po, go⟩ := ho.ex
  obtain ⟨te, pe, ge⟩ := he.ex
  refine ⟨_, pe_join po pe hs hbase hline, fun G H σ r d F h Q q => ?_⟩
  obtain ⟨x, y, e1, e2, hz⟩ := fOp_some h
  unfold joinD at hz
  split at hz
  · rename_i sep l
    split at hz
    · rename_i bs e3
      obtain ⟨hc, rfl⟩ := ite_some hz
      refine go G H σ r _ F e1 _ fun v G1 H1 n1 p1 => ?_
      cases p1
      refine ⟨⟨_, rfl⟩, ?_⟩
      refine ge G1 H1 σ r _ (F.nx n1) e2 _ fun w G2 H2 n2 p2 => ?_
      cases p2 with
      | lst a1 a2 =>
        have := strs_rp a2 e3
        subst this
        refine ⟨_, _, _, rfl, rfl, .inl (SqL.of (n2.gh _ _ a1)), ?_, ?_⟩
        · rw [List.map_map, List.length_map, str_len]
          have : ((fun x : Str => x.length) ∘ fun l : List Nat => (⟨l.toArray⟩ : Str)) = List.length := by
            funext l
            exact str_len l
          have e5 : (List.map (Str.length ∘ fun l : List Nat => (⟨l.toArray⟩ : Str)) bs) = bs.map List.length := by
            congr 1
          rw [show (List.map ((fun x : Str => x.length) ∘ fun l : List Nat => (⟨l.toArray⟩ : Str)) bs) = bs.map List.length by rw [this]]
          omega
        · rw [TL.join_eq, join_str]
          exact q _ G2 H2 (n1.trans n2) (.str _)
    · cases hz
  · cases hz
end
end PL

/-! What a loop walks; comprehensions. -/
namespace PL
open PySem PySem.Spec PyProof.Rows L2

/-! ### enumerate(text): a turn of the hand layer's -/
def ItS (z : Str) : It :=
  ⟨fun i _ => i < z.cps.size, fun i H v H' => ∃ A c, v = .ref A ∧ H A = none ∧ z.cps[i]? = some c ∧ H' = upd H A (.tup [.int (i : Nat), .str ⟨#[c]⟩]), fun i _ => i = z.cps.size⟩
theorem turn_enumS {P : Program} {w : World} {K : PySem.W.Frag} {elts : List Expr} {kk : Nat} {tpos : Pos} (z : Str) (t : Tok) (e it : Addr) :
    Turn P w K (.Tuple elts kk tpos) (ItS z) [e, it] e (fun i h => (∃ old, IsEnum h e it ((i : Nat) : Int) old) ∧ h.IsStrIter it (strIterType z) z t i ∧ e ≠ it) where
  mem := by simp
  obj := fun i h st b hb => by
    obtain ⟨⟨old, he⟩, ⟨o, ho, hc, hd⟩, _⟩ := st
    have e' : b = e ∨ b = it := by simpa using hb
    rcases e' with z | z
    · rw [z]; exact ⟨_, he, fun v q => nomatch q⟩
    · rw [z]; exact ⟨o, ho, fun v q => by rw [hd] at q; cases q⟩
  keep := fun i h h' st k => let ⟨⟨old, he⟩, ⟨o, ho, hr⟩, hne⟩ := st; ⟨⟨old, k e (by simp) _ he⟩, ⟨o, k it (by simp) o ho, hr⟩, hne⟩
  item := by
    intro X hP hw hK hc i pins s σ H E I hf st hg
    subst hP hw hK
    obtain ⟨⟨old, he⟩, hit, hne⟩ := st
    have D := Draws.text (prog := X.prog) (w := X.w) (A := X.A.in1) (I.ok.hd hc) it z t
    have hel : e < s.heap.objs.size := Heap.lt_size he
    have hil : it < s.heap.objs.size := by obtain ⟨o, q, _⟩ := hit; exact Heap.lt_size q
    refine wpAny_pyNext_enum_itemD D he hit hg hne (by simpa using hne) fun x h' tk hP ho hit' hT hsz hk => ?_
    obtain ⟨c, u, hcx, rfl⟩ := hP
    refine ⟨_, rfl, wpAny_letOwnedTupleGo_enum (s := { s with heap := h', toks := tk + 1 }) ho fun h'' he' sb => ?_⟩
    have hT2 : h''.get? s.heap.objs.size = some { cls := .type "tuple", data := .seq #[.int i tk, .str ⟨#[c]⟩ u] } := (sb.2 _ (Nat.ne_of_gt hel)).trans hT
    have new : ObjOk X.prog X.w (upd H s.heap.objs.size (.tup [.int (i : Nat), .str ⟨#[c]⟩])) h'' s.heap.objs.size (.tup [.int (i : Nat), .str ⟨#[c]⟩]) :=
      ⟨by show 2 ≤ sizeLine; decide, [.int i tk, .str ⟨#[c]⟩ u], .cons ⟨_, rfl⟩ (.cons ⟨_, rfl⟩ .nil), ⟨_, hT2, rfl, _, rfl⟩⟩
    have I1 : Inv X pins σ (upd H s.heap.objs.size (.tup [.int (i : Nat), .str ⟨#[c]⟩])) { s with heap := h'', toks := tk + 1 } :=
      I.turnedNew (ch := [e, it]) (fun b ob hb q => (sb.2 b (fun z => hb (by simp [z]))).trans (hk b ob (fun z => hb (by simp [z])) (fun z => hb (by simp [z])) q)) hf (Nat.le_refl _) new
    refine ⟨.ref s.heap.objs.size, _, I1, rfl, ⟨_, c, rfl, I.hok.fresh (Nat.le_refl _), hcx, rfl⟩, ⟨⟨.str ⟨#[c]⟩ u, ?_⟩, ?_, hne⟩, fun b hb => ?_⟩
    · have e1 : ((i + 1 : Nat) : Int) = (i : Int) + 1 := by omega
      rw [e1]; exact he'
    · obtain ⟨o, q, r⟩ := hit'
      exact ⟨o, (sb.2 it (Ne.symm hne)).trans q, r⟩
    · have hb' : b < s.heap.objs.size := by
        have e' : b = e ∨ b = it := by simpa using hb
        rcases e' with z | z
        · rw [z]; exact hel
        · rw [z]; exact hil
      rw [upd_ne (Nat.ne_of_lt hb')]
      exact (hf b hb).1
  done := by
    intro X hP hw hK hc i pins s σ H E I hf st hg
    subst hP hw hK
    obtain ⟨⟨old, he⟩, hit, hne⟩ := st
    obtain ⟨f0, f1, f2, f3, f4, f5⟩ := hf it (by simp)
    have hi : i = z.cps.size := hg
    subst hi
    have D := Draws.text (prog := X.prog) (w := X.w) (A := X.A.in1) (I.ok.hd hc) it z t
    exact wpAny_pyNext_enum_endD D he hit fun h' eb => ⟨rfl, I.turned (t' := s.toks) (fun b o hb e => eb b o hb e) f0 f1 f3 f4 f5⟩
  self := fun A i s Q E st h => let ⟨⟨_, he⟩, _⟩ := st; wpAny_pyIter_enum he h

section
variable {X : Cx} {T : CT} {K : PySem.W.Frag}
def iEnS (ta : TA) : TI := fun σ H R => ta σ H fun vs H1 => ∃ z, vs = [.str z] ∧ R (ItS z) H1
theorem pi_enumS {e : Expr} {ta : TA} {p pos tpos : Pos} {elts : List Expr} {kk : Nat} (hg : Gl X "enumerate") (hm : X.mg "enumerate" = none) (ha : PA X [e] ta) (hs : starEach [e] X.env = [(false, eval e X.env)] := by rfl) :
    PI X (.Tuple elts kk tpos) (.Call (.Name "enumerate" p) [e] [] pos) (iEnS ta) := by
  refine ⟨fun pins s σ H R I h => ?_⟩
  refine Call_ (ld_blt I hg hm boot_enumerate (PyProof.Rows.callWith_type1 (thn (ha.run pos pins s σ H _ I h) fun us s1 ⟨vs, H1, I1, r1, q1⟩ => ?_) hs rfl))
  obtain ⟨z, ex, q⟩ := q1
  subst ex
  cases r1 with
  | cons r rr =>
    cases rr
    obtain ⟨t, rfl⟩ := r
    refine call_enumerate_str fun h' he hit hsz hk => wpAny_pyIter_enum he ?_
    have I2 : Inv X pins σ H1 { s1 with heap := h' } := I1.kept (t' := s1.toks) hk
    refine ⟨s1.heap.objs.size + 1, [s1.heap.objs.size + 1, s1.heap.objs.size], _, _, H1, rfl, I2, turn_enumS z t (s1.heap.objs.size + 1) s1.heap.objs.size, ⟨⟨.none, he⟩, hit, Nat.succ_ne_self _⟩, fun b hb => ?_, q⟩
    have e' : b = s1.heap.objs.size + 1 ∨ b = s1.heap.objs.size := by simpa using hb
    have hle : s1.heap.objs.size ≤ b := by
      rcases e' with z | z
      · rw [z]; exact Nat.le_add_right _ _
      · rw [z]; exact Nat.le_refl _
    exact I1.fpOk hle (I1.hok.fresh hle)

/-! ### what is walked, by data -/
structure ItOk (K : PySem.W.Frag) (T : CT) (J : It) (B : Hp) (items : List Dt) : Prop where
  goes : ∀ (i : Nat) (H : Hp), i < items.length → Same B H → J.go i H
  stops : ∀ (H : Hp), Same B H → J.stop items.length H
  yields : ∀ (i : Nat) (H : Hp) (x : V) (H' : Hp) (d : Dt), items[i]? = some d → Same B H → J.yld i H x H' → ∀ G, Same B G → Same G H → ∃ G', Nx G H G' H' ∧ Rp K T G' x d
def GI (K : PySem.W.Frag) (T : CT) (ti : TI) (f : Env → Option (List Dt)) : Prop :=
  ∀ (G H : Hp) (σ : L2.St) (r : Env) (items : List Dt), Fits K T G H σ r → f r = some items → ∀ R : It → Hp → Prop, (∀ J G' H', Nx G H G' H' → ItOk K T J G' items → R J H') → ti σ H R
structure DI (X : Cx) (T : CT) (tg e : Expr) (f : Env → Option (List Dt)) : Prop where
  ex : ∃ ti, PI X tg e ti ∧ GI X.K T ti f
theorem PI.or {tg e : Expr} {a b : TI} (h1 : PI X tg e a) (h2 : PI X tg e b) : PI X tg e (fun σ H R => a σ H R ∨ b σ H R) :=
  ⟨fun pins s σ H R I h => h.elim (h1.run pins s σ H R I) (h2.run pins s σ H R I)⟩
theorem itok_list {a : Addr} {xs : List V} {ds : List Dt} {B : Hp} (h : SqL K B a xs) (r : RpA K T B xs ds) : ItOk K T (Itl K a) B ds := by
  refine ⟨fun i H hi e => ⟨xs, xs[i]'(by rw [r.length]; exact hi), e.seq h, by simp⟩, fun H e => ⟨xs, e.seq h, by rw [r.length]; exact Nat.le_refl _⟩, fun i H x H' d hd e y G g1 g2 => ?_⟩
  obtain ⟨rfl, y⟩ := y
  obtain ⟨v, e1, q⟩ := r.get hd
  have e2 := y xs (e.seq h)
  rw [e1] at e2
  cases e2
  exact ⟨G, Nx.refl g2, Rp.mono g1 d q⟩
theorem itok_tup {a : Addr} {xs : List V} {ds : List Dt} {B : Hp} (h : SqT K B a xs) (r : RpA K T B xs ds) : ItOk K T (Itt K a) B ds := by
  refine ⟨fun i H hi e => ⟨xs, xs[i]'(by rw [r.length]; exact hi), SqT.mono e h, by simp⟩, fun H e => ⟨xs, SqT.mono e h, by rw [r.length]; exact Nat.le_refl _⟩, fun i H x H' d hd e y G g1 g2 => ?_⟩
  obtain ⟨rfl, y⟩ := y
  obtain ⟨v, e1, q⟩ := r.get hd
  have e2 := y xs (SqT.mono e h)
  rw [e1] at e2
  cases e2
  exact ⟨G, Nx.refl g2, Rp.mono g1 d q⟩
def signsOf (z : List Nat) : List Dt := z.map fun c => .str [c]
theorem itok_str {z : List Nat} {B : Hp} : ItOk K T (Its ⟨z.toArray⟩) B (signsOf z) := by
  have hl : (signsOf z).length = z.length := by unfold signsOf; rw [List.length_map]
  refine ⟨fun i H hi e => by show i < z.toArray.size; rw [List.size_toArray, ← hl]; exact hi, fun H e => by show z.toArray.size ≤ _; rw [List.size_toArray, hl]; exact Nat.le_refl _, fun i H x H' d hd e y G g1 g2 => ?_⟩
  obtain ⟨rfl, c, e1, rfl⟩ := y
  unfold signsOf at hd
  rw [List.getElem?_map] at hd
  have e2 : z[i]? = some c := by simpa using e1
  rw [e2] at hd
  cases hd
  exact ⟨G, Nx.refl g2, .str [c]⟩
def itemsD (d : Dt) : Option (List Dt) := match d with
  | .lst l => some l
  | .tup l => some l
  | .scr l => some (l.map Dt.int)
  | .str z => some (signsOf z)
  | _ => none
def fItems (f : Env → Option Dt) : Env → Option (List Dt) := fun r => (f r).bind itemsD
theorem di_seq {tg e : Expr} {f : Env → Option Dt} (h : DE X T e f) : DI X T tg e (fItems f) := by
  obtain ⟨te, pe, ge⟩ := h.ex
  refine ⟨_, PI.or (pi_list pe) (PI.or (pi_tup pe) (pi_str pe)), fun G H σ r items F e R q => ?_⟩
  unfold fItems at e
  cases e1 : f r with
  | none => rw [e1] at e; cases e
  | some d =>
    rw [e1] at e
    replace e : itemsD d = some items := e
    unfold itemsD at e
    split at e
    · cases e
      refine .inl (ge G H σ r _ F e1 _ fun v G1 H1 n1 p1 => ?_)
      cases p1 with
      | lst a1 a2 => exact ⟨_, rfl, ⟨_, SqL.of (n1.gh _ _ a1)⟩, q _ G1 H1 n1 (itok_list (SqL.of a1) a2)⟩
    · cases e
      refine .inr (.inl (ge G H σ r _ F e1 _ fun v G1 H1 n1 p1 => ?_))
      cases p1 with
      | tup a1 a2 => exact ⟨_, rfl, ⟨_, SqT.mono n1.gh a1⟩, q _ G1 H1 n1 (itok_tup a1 a2)⟩
    · cases e
      refine .inl (ge G H σ r _ F e1 _ fun v G1 H1 n1 p1 => ?_)
      cases p1 with
      | scr a1 => exact ⟨_, rfl, ⟨_, n1.gh.seq a1⟩, q _ G1 H1 n1 (itok_list a1 (rpA_ints _))⟩
    · cases e
      refine .inr (.inr (ge G H σ r _ F e1 _ fun v G1 H1 n1 p1 => ?_))
      cases p1
      exact ⟨_, rfl, q _ G1 H1 n1 itok_str⟩
    · cases e
/-- lo, lo + c, .. -/
def rangeL (lo c : Int) (n : Nat) : List Dt := (List.range n).map fun (k : Nat) => Dt.int (lo + (k : Int) * c)
theorem rangeL_length (lo c : Int) (n : Nat) : (rangeL lo c n).length = n := by unfold rangeL; rw [List.length_map, List.length_range]
theorem rangeL_get {lo c : Int} {n i : Nat} {d : Dt} (h : (rangeL lo c n)[i]? = some d) : d = .int (lo + (i : Int) * c) ∧ i < n := by
  unfold rangeL at h
  rw [List.getElem?_map] at h
  by_cases hi : i < n
  · rw [List.getElem?_range hi] at h
    cases h
    exact ⟨rfl, hi⟩
  · rw [List.getElem?_eq_none (by simpa using hi)] at h
    cases h
theorem itok_range {lo : Int} {n : Nat} {B : Hp} : ItOk K T (Itr lo n) B (rangeL lo 1 n) := by
  refine ⟨fun i H hi e => by rw [rangeL_length] at hi; exact hi, fun H e => by rw [rangeL_length]; exact Nat.le_refl _, fun i H x H' d hd e y G g1 g2 => ?_⟩
  obtain ⟨rfl, rfl⟩ := y
  obtain ⟨rfl, _⟩ := rangeL_get hd
  refine ⟨G, Nx.refl g2, ?_⟩
  rw [Int.mul_one]
  exact .int _
theorem itok_rangeC {lo c : Int} {n : Nat} {B : Hp} : ItOk K T (Itc lo c n) B (rangeL lo c n) := by
  refine ⟨fun i H hi e => by rw [rangeL_length] at hi; exact hi, fun H e => by rw [rangeL_length]; exact Nat.le_refl _, fun i H x H' d hd e y G g1 g2 => ?_⟩
  obtain ⟨rfl, rfl⟩ := y
  obtain ⟨rfl, _⟩ := rangeL_get hd
  exact ⟨G, Nx.refl g2, .int _⟩
def rng1 (ds : List Dt) : Option (List Dt) := match ds with
  | [.int j] => if -100000 ≤ j ∧ j ≤ 100000 then some (rangeL 0 1 j.toNat) else none
  | _ => none
def rng2 (ds : List Dt) : Option (List Dt) := match ds with
  | [.int i, .int j] => if -100000 ≤ i ∧ i ≤ 100000 ∧ -100000 ≤ j ∧ j ≤ 100000 then some (rangeL i 1 (j - i).toNat) else none
  | _ => none
def rng3 (ds : List Dt) : Option (List Dt) := match ds with
  | [.int i, .int j, .int c] => if -100000 ≤ i ∧ i ≤ 100000 ∧ -100000 ≤ j ∧ j ≤ 100000 ∧ 0 < c ∧ c ≤ 100000 then some (rangeL i c (if i < j then (j - i - 1) / c + 1 else 0).toNat) else none
  | _ => none
def fArgs (f : List Dt → Option (List Dt)) (a : Env → Option (List Dt)) : Env → Option (List Dt) := fun r => (a r).bind f
theorem di_range1 {tg a : Expr} {fa : Env → Option (List Dt)} {p pos : Pos} (hm : X.mg "range" = none) (ha : DA X T [a] fa) (hg : Gl X "range" := by rfl) (hs : starEach [a] X.env = [(false, eval a X.env)] := by rfl) : DI X T tg (.Call (.Name "range" p) [a] [] pos) (fArgs rng1 fa) := by
  obtain ⟨ta, pa, ga⟩ := ha.ex
  refine ⟨_, pi_range1 hg hm pa hs, fun G H σ r items F e R q => ?_⟩
  unfold fArgs at e
  cases e1 : fa r with
  | none => rw [e1] at e; cases e
  | some ds =>
    rw [e1] at e
    replace e : rng1 ds = some items := e
    unfold rng1 at e
    split at e
    · rename_i j
      obtain ⟨hc, e⟩ := ite_opt e
      cases e
      refine ga G H σ r _ F e1 _ fun vs G1 H1 n1 p1 => ?_
      cases p1 with
      | cons p1 p2 =>
        cases p2
        cases p1
        exact ⟨j, rfl, by omega, by omega, q _ G1 H1 n1 itok_range⟩
    · cases e
theorem di_range2 {tg a b : Expr} {fa : Env → Option (List Dt)} {p pos : Pos} (hm : X.mg "range" = none) (ha : DA X T [a, b] fa) (hg : Gl X "range" := by rfl) (hs : starEach [a, b] X.env = [(false, eval a X.env), (false, eval b X.env)] := by rfl) (hs2 : starEach [b] X.env = [(false, eval b X.env)] := by rfl) :
    DI X T tg (.Call (.Name "range" p) [a, b] [] pos) (fArgs rng2 fa) := by
  obtain ⟨ta, pa, ga⟩ := ha.ex
  refine ⟨_, pi_range2 hg hm pa hs hs2, fun G H σ r items F e R q => ?_⟩
  unfold fArgs at e
  cases e1 : fa r with
  | none => rw [e1] at e; cases e
  | some ds =>
    rw [e1] at e
    replace e : rng2 ds = some items := e
    unfold rng2 at e
    split at e
    · rename_i i j
      obtain ⟨hc, e⟩ := ite_opt e
      cases e
      refine ga G H σ r _ F e1 _ fun vs G1 H1 n1 p1 => ?_
      cases p1 with
      | cons p1 p2 =>
        cases p2 with
        | cons p2 p3 =>
          cases p3
          cases p2
          cases p1
          exact ⟨i, j, rfl, by omega, q _ G1 H1 n1 itok_range⟩
    · cases e
theorem small_of {i j c : Int} (h1 : -100000 ≤ i) (h2 : i ≤ 100000) (h3 : -100000 ≤ j) (h4 : j ≤ 100000) (h5 : 0 < c) (h6 : c ≤ 100000) : RgC i j c (if i < j then (j - i - 1) / c + 1 else 0).toNat := by
  have hs : Builtin.Range.rangeSize i j c = if i < j then (j - i - 1) / c + 1 else 0 := by
    unfold Builtin.Range.rangeSize
    rw [if_pos (show c > 0 from h5)]
  have h0 : 0 ≤ (j - i - 1) / c ∨ ¬ i < j := by
    by_cases h : i < j
    · exact .inl (Int.ediv_nonneg (by omega) (by omega))
    · exact .inr h
  have h7 : i < j → (j - i - 1) / c ≤ j - i - 1 := fun h => Int.ediv_le_self _ (by omega)
  refine ⟨by omega, by omega, ?_, ?_⟩
  · unfold Builtin.Range.small
    rw [hs]
    simp only [Builtin.Range.rangeFitsLong, Bool.and_eq_true, Bool.or_eq_true, decide_eq_true_eq, beq_iff_eq, show c > 0 from h5, if_true]
    by_cases h : i < j
    · have := h7 h
      have h0' : 0 ≤ (j - i - 1) / c := by rcases h0 with q | q; exact q; exact absurd h q
      rw [if_pos h]
      omega
    · rw [if_neg h]
      omega
  · rw [hs]
    by_cases h : i < j
    · have h0' : 0 ≤ (j - i - 1) / c := by rcases h0 with q | q; exact q; exact absurd h q
      rw [if_pos h]
      omega
    · rw [if_neg h]
      rfl
theorem di_range3 {tg a b c : Expr} {fa : Env → Option (List Dt)} {p pos : Pos} (hm : X.mg "range" = none) (ha : DA X T [a, b, c] fa) (hg : Gl X "range" := by rfl) (hs : starEach [a, b, c] X.env = (false, eval a X.env) :: starEach [b, c] X.env := by rfl) (hpl : (backTo pos (starEach [b, c] X.env)).any (·.1) = false := by rfl) :
    DI X T tg (.Call (.Name "range" p) [a, b, c] [] pos) (fArgs rng3 fa) := by
  obtain ⟨ta, pa, ga⟩ := ha.ex
  refine ⟨_, pi_range3 hg hm pa hs hpl, fun G H σ r items F e R q => ?_⟩
  unfold fArgs at e
  cases e1 : fa r with
  | none => rw [e1] at e; cases e
  | some ds =>
    rw [e1] at e
    replace e : rng3 ds = some items := e
    unfold rng3 at e
    split at e
    · rename_i i j c'
      obtain ⟨hc, e⟩ := ite_opt e
      cases e
      refine ga G H σ r _ F e1 _ fun vs G1 H1 n1 p1 => ?_
      cases p1 with
      | cons p1 p2 =>
        cases p2 with
        | cons p2 p3 =>
          cases p3 with
          | cons p3 p4 =>
            cases p4
            cases p3
            cases p2
            cases p1
            exact ⟨i, j, c', _, rfl, small_of hc.1 hc.2.1 hc.2.2.1 hc.2.2.2.1 hc.2.2.2.2.1 hc.2.2.2.2.2, q _ G1 H1 n1 itok_rangeC⟩
    · cases e
/-- enumerate -/
def enumL : Nat → List Dt → List Dt
  | _, [] => []
  | n, d :: l => .tup [.int n, d] :: enumL (n + 1) l
theorem enumL_length : ∀ (n : Nat) (l : List Dt), (enumL n l).length = l.length
  | _, [] => rfl
  | n, _ :: l => by unfold enumL; rw [List.length_cons, List.length_cons, enumL_length (n + 1) l]
theorem enumL_get : ∀ (n : Nat) (l : List Dt) (i : Nat), (enumL n l)[i]? = (l[i]?).map fun d => Dt.tup [.int ((n + i : Nat) : Int), d]
  | _, [], i => by unfold enumL; simp
  | n, d :: l, 0 => by unfold enumL; simp
  | n, d :: l, i + 1 => by
    unfold enumL
    rw [List.getElem?_cons_succ, List.getElem?_cons_succ, enumL_get (n + 1) l i]
    rw [show n + 1 + i = n + (i + 1) by omega]
def enumD (ds : List Dt) : Option (List Dt) := match ds with
  | [.lst l] => some (enumL 0 l)
  | [.str z] => some (enumL 0 (signsOf z))
  | _ => none
theorem itok_enum {a : Addr} {xs : List V} {ds : List Dt} {B : Hp} (h : SqL K B a xs) (r : RpA K T B xs ds) : ItOk K T (Ite K a) B (enumL 0 ds) := by
  refine ⟨fun i H hi e => ⟨xs, xs[i]'(by rw [r.length]; rw [enumL_length] at hi; exact hi), e.seq h, by simp⟩, fun H e => ⟨xs, e.seq h, by rw [r.length, enumL_length]; exact Nat.le_refl _⟩, fun i H x H' d hd e y G g1 g2 => ?_⟩
  obtain ⟨A, v, rfl, hA, rfl, y⟩ := y
  rw [enumL_get] at hd
  cases e1 : ds[i]? with
  | none => rw [e1] at hd; cases hd
  | some d0 =>
    rw [e1] at hd
    cases hd
    obtain ⟨v', e2, q⟩ := r.get e1
    have e3 := y xs (e.seq h)
    rw [e2] at e3
    cases e3
    have n := Nx.new (o := .tup [.int (i : Nat), v]) g2 hA
    refine ⟨_, n, .tup (SqT.of upd_same) (.cons ?_ (.cons (Rp.mono (g1.trans n.gg) _ q) .nil)) (fun _ _ _ => upd_same)⟩
    rw [Nat.zero_add]
    exact .int _
theorem itok_enumS {z : List Nat} {B : Hp} : ItOk K T (ItS ⟨z.toArray⟩) B (enumL 0 (signsOf z)) := by
  have hl : (enumL 0 (signsOf z)).length = z.length := by rw [enumL_length]; unfold signsOf; rw [List.length_map]
  refine ⟨fun i H hi e => by show i < z.toArray.size; rw [List.size_toArray, ← hl]; exact hi, fun H e => by show _ = z.toArray.size; rw [List.size_toArray, hl], fun i H x H' d hd e y G g1 g2 => ?_⟩
  obtain ⟨A, c, rfl, hA, hc, rfl⟩ := y
  rw [enumL_get] at hd
  unfold signsOf at hd
  rw [List.getElem?_map] at hd
  have e2 : z[i]? = some c := by simpa using hc
  rw [e2] at hd
  cases hd
  have n := Nx.new (o := .tup [.int (i : Nat), .str ⟨#[c]⟩]) g2 hA
  refine ⟨_, n, .tup (SqT.of upd_same) (.cons ?_ (.cons (.str [c]) .nil)) (fun _ _ _ => upd_same)⟩
  rw [Nat.zero_add]
  exact .int _
theorem di_enum {e : Expr} {f : Env → Option (List Dt)} {p pos tpos : Pos} {elts : List Expr} {kk : Nat} (hm : X.mg "enumerate" = none) (ha : DA X T [e] f) (hg : Gl X "enumerate" := by rfl) (hs : starEach [e] X.env = [(false, eval e X.env)] := by rfl) :
    DI X T (.Tuple elts kk tpos) (.Call (.Name "enumerate" p) [e] [] pos) (fArgs enumD f) := by
  obtain ⟨ta, pa, ga⟩ := ha.ex
  refine ⟨_, PI.or (pi_enum hg hm pa hs) (pi_enumS hg hm pa hs), fun G H σ r items F e R q => ?_⟩
  unfold fArgs at e
  cases e1 : f r with
  | none => rw [e1] at e; cases e
  | some ds =>
    rw [e1] at e
    replace e : enumD ds = some items := e
    unfold enumD at e
    split at e
    · cases e
      refine .inl (ga G H σ r _ F e1 _ fun vs G1 H1 n1 p1 => ?_)
      cases p1 with
      | cons p1 p2 =>
        cases p2
        cases p1 with
        | lst a1 a2 => exact ⟨_, _, rfl, SqL.of (n1.gh _ _ a1), q _ G1 H1 n1 (itok_enum (SqL.of a1) a2)⟩
    · cases e
      refine .inr (ga G H σ r _ F e1 _ fun vs G1 H1 n1 p1 => ?_)
      cases p1 with
      | cons p1 p2 =>
        cases p2
        cases p1
        exact ⟨_, rfl, q _ G1 H1 n1 itok_enumS⟩
    · cases e

/-! ### comprehensions -/
def wipeE (r : Env) : List Nat → Env
  | [] => r
  | v :: vs => (wipeE r vs).set v .no
def compL (j : Nat) (c : Env → Option Bool) (e : Env → Option Dt) : List Dt → Env → Option (List Dt)
  | [], _ => some []
  | x :: xs, r => match c (r.set j (.val x)) with
    | some true => (match e (r.set j (.val x)) with
      | some d => (match compL j c e xs r with
        | some ds => some (d :: ds)
        | none => none)
      | none => none)
    | some false => compL j c e xs r
    | none => none
def fComp (f : Env → Option (List Dt)) (j : Nat) (vs : List Nat) (c : Env → Option Bool) (e : Env → Option Dt) : Env → Option (List Dt) := fun r => match f r with
  | some items => if items.length ≤ 100000 then compL j c e items (wipeE r vs) else none
  | none => none
theorem Fits.setNo {G H : Hp} {σ : L2.St} {r : Env} {i : Nat} (F : Fits K T G H σ r) : Fits K T G H (σ.set i none) (r.set i .no) := by
  have at_i : ∀ (j : Nat) (s : Sl), s ≠ .no → (r.set i .no)[j]? = some s → j ≠ i ∧ r[j]? = some s := fun j s hs h => by
    by_cases hj : j = i
    · subst hj
      by_cases hl : j < r.length
      · rw [List.getElem?_set_self hl] at h
        cases h
        exact absurd rfl hs
      · rw [List.getElem?_eq_none (by simpa using hl)] at h; cases h
    · rw [List.getElem?_set_ne (Ne.symm hj)] at h
      exact ⟨hj, h⟩
  refine ⟨F.gh, by rw [List.length_set, List.length_set]; exact F.len, fun j d h => ?_, fun j ds h => ?_, fun j k ds es p h1 h2 h3 h4 => ?_, F.tr.set (fun t h => by cases h) (fun l h => by cases h)⟩
  · obtain ⟨hj, h⟩ := at_i j _ (fun z => by cases z) h
    rw [List.getElem?_set_ne (Ne.symm hj)]
    exact F.val j d h
  · obtain ⟨hj, h⟩ := at_i j _ (fun z => by cases z) h
    rw [List.getElem?_set_ne (Ne.symm hj)]
    exact F.own j ds h
  · obtain ⟨hj, h1⟩ := at_i j _ (fun z => by cases z) h1
    obtain ⟨hk, h2⟩ := at_i k _ (fun z => by cases z) h2
    rw [List.getElem?_set_ne (Ne.symm hj)] at h3
    rw [List.getElem?_set_ne (Ne.symm hk)] at h4
    exact F.sep j k ds es p h1 h2 h3 h4
theorem Fits.wipe {G H : Hp} {σ : L2.St} {r : Env} (F : Fits K T G H σ r) : ∀ vs : List Nat, Fits K T G H (wipe σ vs) (wipeE r vs)
  | [] => F
  | v :: vs => (F.wipe vs).setNo
theorem wipe_in {σ : L2.St} {i : Nat} : ∀ {vs : List Nat}, i ∈ vs → i < σ.length → (wipe σ vs)[i]? = some none
  | v :: vs, h, hl => by
    show ((wipe σ vs).set v none)[i]? = some none
    by_cases e : v = i
    · subst e
      rw [List.getElem?_set_self (by rw [wipe_length]; exact hl)]
    · rw [List.getElem?_set_ne e]
      exact wipe_in ((List.mem_cons.mp h).resolve_left (Ne.symm e)) hl
theorem wipe_set {σ : L2.St} {j : Nat} {x : Option V} {vs : List Nat} (h : j ∈ vs) : wipe ((wipe σ vs).set j x) vs = wipe σ vs := by
  apply List.ext_getElem?
  intro i
  by_cases hi : i ∈ vs
  · by_cases hl : i < σ.length
    · rw [wipe_in hi (by rw [List.length_set, wipe_length]; exact hl), wipe_in hi hl]
    · rw [List.getElem?_eq_none (by rw [wipe_length, List.length_set, wipe_length]; omega), List.getElem?_eq_none (by rw [wipe_length]; omega)]
  · rw [wipe_out hi, List.getElem?_set_ne (fun e => hi (by rw [← e]; exact h))]
theorem compL_len {j : Nat} {c : Env → Option Bool} {e : Env → Option Dt} {r : Env} : ∀ {items ds : List Dt}, compL j c e items r = some ds → ds.length ≤ items.length
  | [], ds, h => by cases h; exact Nat.le_refl _
  | x :: xs, ds, h => by
    unfold compL at h
    split at h
    · split at h
      · split at h
        · rename_i h2
          cases h
          have := compL_len h2
          rw [List.length_cons, List.length_cons]
          omega
        · cases h
      · cases h
    · have := compL_len h
      rw [List.length_cons]
      omega
    · cases h
/-- the canonical readings -/
def cE (K : PySem.W.Frag) (T : CT) (f : Env → Option Dt) : TE := fun σ H Q => ∃ G r d, Fits K T G H σ r ∧ f r = some d ∧ ∀ v G' H', Nx G H G' H' → Rp K T G' v d → Q v H'
def cT (K : PySem.W.Frag) (T : CT) (f : Env → Option Bool) : TT := fun σ H Q => ∃ G r b, Fits K T G H σ r ∧ f r = some b ∧ ∀ G' H', Nx G H G' H' → Q b H'
theorem DE.pe {e : Expr} {f : Env → Option Dt} (h : DE X T e f) : PE X e (cE X.K T f) := by
  obtain ⟨te, pe, ge⟩ := h.ex
  exact ⟨fun pins s σ H Q I ⟨G, r, d, F, e, q⟩ => pe.run pins s σ H Q I (ge G H σ r d F e Q q)⟩
theorem DT.pt {e : Expr} {f : Env → Option Bool} (h : DT X T e f) : PT X e (cT X.K T f) := by
  obtain ⟨te, pe, ge⟩ := h.ex
  exact ⟨fun pins s σ H Q I ⟨G, r, d, F, e, q⟩ => pe.run pins s σ H Q I (ge G H σ r d F e Q q)⟩
/-- the tests of a comprehension -/
structure DTs (X : Cx) (T : CT) (ifs : List Expr) (f : Env → Option Bool) : Prop where
  pt : PTs X ifs (cT X.K T f)
def fYes : Env → Option Bool := fun _ => some true
theorem dts_nil : DTs X T [] fYes := ⟨⟨fun pins s σ H Q I ⟨G, r, d, F, e, q⟩ => by
  cases e
  exact pts_nil.run pins s σ H Q I (q G H (Nx.refl F.gh))⟩⟩
theorem dts_one {c : Expr} {f : Env → Option Bool} (h : DT X T c f) : DTs X T [c] f := ⟨pts_one h.pt⟩
theorem gl_lc {wi : TI} {f : Env → Option (List Dt)} {j : Nat} {vs : List Nat} {c : Env → Option Bool} {e : Env → Option Dt} (hi : GI K T wi f) (hj : j ∈ vs) : GL K T (tLc wi (gName j) (cT K T c) (cE K T e) vs) (fComp f j vs c e) := fun G H σ r total F h Q q => by
  unfold fComp at h
  cases e1 : f r with
  | none => rw [e1] at h; cases h
  | some items =>
    rw [e1] at h
    obtain ⟨hlen, h⟩ := ite_opt h
    refine hi G H σ r items F e1 _ fun J G1 H1 n1 ok D hD => ?_
    have hHD : H D = none := n1.hh.free hD
    have F1 : Fits K T G1 H1 (wipe σ vs) (wipeE r vs) := (F.nx n1).wipe vs
    have tl : total.length ≤ items.length := compL_len h
    refine ⟨fun i m H' => m = items.length - i ∧ i ≤ items.length ∧ ∃ (G' : Hp) (acc : List V) (dsA dsB : List Dt), Nx G1 H1 G' H' ∧ G' D = none ∧ H' D = some (.lst acc) ∧ RpA K T G' acc dsA ∧ compL j c e (items.drop i) (wipeE r vs) = some dsB ∧ dsA ++ dsB = total,
      ⟨items.length, by simp, Nat.zero_le _, G1, [], [], total, Nx.newH n1.gh hD, n1.gh.free hD, upd_same, .nil, by simpa using h, rfl⟩, ?_⟩
    rintro i m H' ⟨rfl, hi', G', acc, dsA, dsB, n, hGD, hHD', ra, hc, happ⟩
    by_cases hlt : i < items.length
    · refine .inr ⟨ok.goes i H' hlt (n.gg.trans n.gh), fun H2 => ∃ (G' : Hp) (acc : List V) (dsA dsB : List Dt), Nx G1 H1 G' H2 ∧ G' D = none ∧ H2 D = some (.lst acc) ∧ RpA K T G' acc dsA ∧ compL j c e (items.drop (i + 1)) (wipeE r vs) = some dsB ∧ dsA ++ dsB = total,
        fun H2 w => ⟨items.length - (i + 1), by omega, rfl, hlt, w⟩, fun x H2 y => ?_⟩
      rw [List.drop_eq_getElem_cons hlt] at hc
      obtain ⟨G2, n2, rx⟩ := ok.yields i H' x H2 items[i] (List.getElem?_eq_getElem hlt) (n.gg.trans n.gh) y G' n.gg n.gh
      have hGD2 : G2 D = none := n2.out hGD hHD'
      have hHD2 : H2 D = some (.lst acc) := n2.hh _ _ hHD'
      have F2 : Fits K T G2 H2 ((wipe σ vs).set j (some x)) ((wipeE r vs).set j (.val items[i])) := (F1.nx (n.trans n2)).set rx
      refine ⟨wipe_set hj, ?_⟩
      unfold compL at hc
      have accl : acc.length < sizeLine := by
        have e1 := ra.length
        have e2 : dsA.length ≤ total.length := by rw [← happ, List.length_append]; omega
        have : (100000 : Nat) < sizeLine := by decide
        omega
      split at hc
      · rename_i hb
        split at hc
        · rename_i d he
          split at hc
          · rename_i ds hrest
            cases hc
            refine ⟨G2, _, true, F2, hb, fun G3 H3 n3 => ?_⟩
            dsimp only
            rw [if_pos rfl]
            refine ⟨G3, _, d, F2.nx n3, he, fun v G4 H4 n4 r4 => ⟨acc, n4.hh _ _ (n3.hh _ _ hHD2), accl, ?_⟩⟩
            have hGD4 : G4 D = none := (n3.trans n4).out hGD2 hHD2
            have n14 := ((n.trans n2).trans n3).trans n4
            refine ⟨G4, acc ++ [v], dsA ++ [d], ds, ⟨n14.gg, fun b o hb => ?_, same_updR n14.gh hGD4, n14.fr, n14.nf.trans (NoF.upd (fun _ _ z => by cases z))⟩, hGD4, upd_same, (RpA.mono ((n2.gg.trans n3.gg).trans n4.gg) _ ra).append (.cons r4 .nil), hrest, by rw [List.append_assoc]; exact happ⟩
            rw [upd_ne (ne_of_none hb hD)]
            exact n14.hh _ _ hb
          · cases hc
        · cases hc
      · rename_i hb
        refine ⟨G2, _, false, F2, hb, fun G3 H3 n3 => ?_⟩
        dsimp only
        rw [if_neg Bool.false_ne_true]
        exact ⟨G3, acc, dsA, dsB, (n.trans n2).trans n3, n3.out hGD2 hHD2, n3.hh _ _ hHD2, RpA.mono (n2.gg.trans n3.gg) _ ra, hc, happ⟩
      · cases hc
    · have e : i = items.length := by omega
      subst e
      refine .inl ⟨ok.stops H' (n.gg.trans n.gh), ?_⟩
      rw [List.drop_length] at hc
      cases hc
      rw [List.append_nil] at happ
      subst happ
      exact q D acc G' H' (n1.trans n) hHD hGD hHD' ra
theorem dl_lc {elt iter : Expr} {x : Str} {px : Pos} {ifs : List Expr} {scope : Scope} {own : List (Str × Nat)} {pos : Pos} {f : Env → Option (List Dt)} {c : Env → Option Bool} {e : Env → Option Dt} {j : Nat} (hc : X.calm = true) (hN : X.N.Nodup) (hi : DI X T (.Name x px) iter f) (ok : BlkOk X.N X.env.scope scope own) (hj : j ∈ own.map (·.2))
    (hg : ∀ (s : Shared) (H : Hp) (C : Addr) (cl : List (Str × Addr)) (fp : List Addr), PG (X.blk s H scope (compEnvC scope cl C X.env) fp) (.Name x px) (gName j)) (ht : ∀ (s : Shared) (H : Hp) (C : Addr) (cl : List (Str × Addr)) (fp : List Addr), DTs (X.blk s H scope (compEnvC scope cl C X.env) fp) T ifs c)
    (he : ∀ (s : Shared) (H : Hp) (C : Addr) (cl : List (Str × Addr)) (fp : List Addr), DE (X.blk s H scope (compEnvC scope cl C X.env) fp) T elt e) (hs : ∀ x, foldedSetIterable iter X.env x = pure x := by intro _; rfl) :
    DL X T (.ListComp elt [⟨.Name x px, iter, ifs, 0⟩] scope pos) (fComp f j (own.map (·.2)) c e) := by
  obtain ⟨ti, pi, gi⟩ := hi.ex
  exact ⟨_, pe_lc hc hN pi ok hg (fun s H C cl fp => (ht s H C cl fp).pt) (fun s H C cl fp => (he s H C cl fp).pe) hs, gl_lc gi hj⟩
end
end PL

/-! Statements and defs. -/
namespace PL
open PySem PySem.Spec PyProof.Rows L2

inductive Out where
  | nx (r : Env)
  | rt (d : Dt)
  | bk (r : Env)
  | ct (r : Env)
  deriving Inhabited

structure St1 (K : PySem.W.Frag) (T : CT) (B G0 H0 G H : Hp) (σ : L2.St) (r : Env) : Prop where
  fits : Fits K T G H σ r
  base : Same B G
  nx : Nx G0 H0 G H
  ow : ∀ (i : Nat) (ds : List Dt) (p : Addr), r[i]? = some (.own ds) → σ[i]? = some (some (.ref p)) → H0 p = none
  tr : Tr K T G H (fun a => H0 a = none) σ r
def Mt (K : PySem.W.Frag) (T : CT) (B G0 H0 : Hp) (D : Ends) : Out → Prop
  | .nx r => ∀ G H σ, St1 K T B G0 H0 G H σ r → D.nx σ H
  | .rt d => ∀ v G H, Nx G0 H0 G H → Rp K T G v d → D.rt v H
  | .bk r => ∀ G H σ, St1 K T B G0 H0 G H σ r → D.bk σ H
  | .ct r => ∀ G H σ, St1 K T B G0 H0 G H σ r → D.ct σ H
def GS (K : PySem.W.Frag) (T : CT) (ts : TS) (g : Env → Option Out) : Prop :=
  ∀ (B G0 H0 G H : Hp) (σ : L2.St) (r : Env) (o : Out), St1 K T B G0 H0 G H σ r → g r = some o → ∀ D : Ends, Mt K T B G0 H0 D o → ts D σ H
structure DS (X : Cx) (T : CT) (st : Stmt) (g : Env → Option Out) : Prop where
  ex : ∃ ts, PS X st ts ∧ GS X.K T ts g
structure DSs (X : Cx) (T : CT) (sts : List Stmt) (g : Env → Option Out) : Prop where
  ex : ∃ ts, PSs X sts ts ∧ GS X.K T ts g
/-- a target -/
def GG (K : PySem.W.Frag) (T : CT) (g : TG) (t : Dt → Env → Option Env) : Prop :=
  ∀ (B G0 H0 G H : Hp) (σ : L2.St) (r : Env) (v : V) (d : Dt) (r' : Env), St1 K T B G0 H0 G H σ r → Rp K T G v d → t d r = some r' → ∀ Q : L2.St → Hp → Prop, (∀ G' H' σ', St1 K T B G0 H0 G' H' σ' r' → Q σ' H') → g v σ H Q
structure DG (X : Cx) (T : CT) (tg : Expr) (t : Dt → Env → Option Env) : Prop where
  ex : ∃ g, PG X tg g ∧ GG X.K T g t

section
variable {X : Cx} {T : CT} {K : PySem.W.Frag} {B G0 H0 G H G' H' : Hp} {σ : L2.St} {r : Env}

theorem St1.nx' (S : St1 K T B G0 H0 G H σ r) (n : Nx G H G' H') : St1 K T B G0 H0 G' H' σ r := ⟨S.fits.nx n, S.base.trans n.gg, S.nx.trans n, S.ow, S.tr.nx n⟩
theorem St1.grow (S : St1 K T B G0 H0 G H σ r) (e : Same H H') (f : NoF H H') : St1 K T B G0 H0 G H' σ r := S.nx' ((Nx.refl S.fits.gh).growH e f)
theorem St1.set {i : Nat} {v : V} {d : Dt} (S : St1 K T B G0 H0 G H σ r) (q : Rp K T G v d) : St1 K T B G0 H0 G H (σ.set i (some v)) (r.set i (.val d)) := by
  refine ⟨S.fits.set q, S.base, S.nx, fun j ds p h1 h2 => ?_, S.tr.set (fun t h => by cases h) (fun l h => by cases h)⟩
  by_cases hj : j = i
  · subst hj
    by_cases hl : j < r.length
    · rw [List.getElem?_set_self hl] at h1; cases h1
    · rw [List.getElem?_eq_none (by simpa using hl)] at h1; cases h1
  · rw [List.getElem?_set_ne (Ne.symm hj)] at h1 h2
    exact S.ow j ds p h1 h2
theorem St1.setOwn {i : Nat} {p : Addr} {vs : List V} {ds : List Dt} (S : St1 K T B G0 H0 G H σ r) (hp : ∀ (j : Nat) (es : List Dt), j ≠ i → r[j]? = some (.own es) → σ[j]? ≠ some (some (.ref p))) (h0 : H0 p = none) (hg : G p = none) (hh : H p = some (.lst vs)) (q : RpA K T G vs ds) (ht : Tr K T G H (fun a => H0 a = none) (σ.set i (some (.ref p))) (r.set i (.own ds))) :
    St1 K T B G0 H0 G H (σ.set i (some (.ref p))) (r.set i (.own ds)) := by
  refine ⟨S.fits.setOwn hp hg hh q (ht.imp fun _ _ => trivial), S.base, S.nx, fun j es p' h1 h2 => ?_, ht⟩
  by_cases hj : j = i
  · subst hj
    by_cases hl : j < r.length
    · rw [List.getElem?_set_self (by rw [S.fits.len]; exact hl)] at h2
      cases h2
      exact h0
    · rw [List.getElem?_eq_none (by simpa using hl)] at h1; cases h1
  · rw [List.getElem?_set_ne (Ne.symm hj)] at h1 h2
    exact S.ow j es p' h1 h2
/-- the list at p, an own one's, changes -/
theorem St1.mutOwn {i : Nat} {p : Addr} {ds es : List Dt} {vs ws : List V} (S : St1 K T B G0 H0 G H σ r) (hr : r[i]? = some (.own ds)) (hs : σ[i]? = some (some (.ref p))) (q : RpA K T G ws es) : St1 K T B G0 H0 G (upd H p (.lst ws)) σ (r.set i (.own es)) := by
  obtain ⟨p', vs', e1, hg, hh, q'⟩ := S.fits.own i ds hr
  rw [hs] at e1
  cases e1
  have h0 := S.ow i ds p hr hs
  have hi : i < r.length := (List.getElem?_eq_some_iff.mp hr).1
  have ne : ∀ (j : Nat) (fs : List Dt) (p2 : Addr), j ≠ i → r[j]? = some (.own fs) → σ[j]? = some (some (.ref p2)) → p2 ≠ p := fun j fs p2 hj h1 h2 e => by
    subst e
    exact hj (S.fits.sep j i fs ds p2 h1 hr h2 hs)
  refine ⟨⟨same_updR S.fits.gh hg, by rw [List.length_set]; exact S.fits.len, fun j d h => ?_, fun j fs h => ?_, fun j k fs gs p2 h1 h2 h3 h4 => ?_, S.fits.tr.upd hr hs⟩, S.base, ⟨S.nx.gg, same_updR S.nx.hh h0, same_updR S.nx.gh hg, S.nx.fr, S.nx.nf.trans (NoF.upd (fun _ _ z => by cases z))⟩, fun j fs p2 h1 h2 => ?_, S.tr.upd hr hs⟩
  · by_cases hj : j = i
    · subst hj; rw [List.getElem?_set_self hi] at h; cases h
    · rw [List.getElem?_set_ne (Ne.symm hj)] at h
      exact S.fits.val j d h
  · by_cases hj : j = i
    · subst hj
      rw [List.getElem?_set_self hi] at h
      cases h
      exact ⟨p, ws, hs, hg, upd_same, q⟩
    · rw [List.getElem?_set_ne (Ne.symm hj)] at h
      obtain ⟨p2, us, e1, e2, e3, e4⟩ := S.fits.own j fs h
      exact ⟨p2, us, e1, e2, by rw [upd_ne (ne j fs p2 hj h e1)]; exact e3, e4⟩
  · have back : ∀ (j : Nat) (fs : List Dt), (r.set i (.own es))[j]? = some (.own fs) → ∃ fs', r[j]? = some (.own fs') := fun j fs h => by
      by_cases hj : j = i
      · subst hj; exact ⟨ds, hr⟩
      · rw [List.getElem?_set_ne (Ne.symm hj)] at h
        exact ⟨fs, h⟩
    obtain ⟨f1, h1⟩ := back j fs h1
    obtain ⟨f2, h2⟩ := back k gs h2
    exact S.fits.sep j k f1 f2 p2 h1 h2 h3 h4
  · by_cases hj : j = i
    · subst hj
      rw [hs] at h2
      cases h2
      exact h0
    · rw [List.getElem?_set_ne (Ne.symm hj)] at h1
      exact S.ow j fs p2 h1 h2
theorem St1.frzAt (S : St1 K T B G0 H0 G H σ r) (i : Nat) : ∃ G1, St1 K T B G0 H0 G1 H σ (PL.frzAt i r) := by
  unfold PL.frzAt
  split
  · rename_i ds hr
    obtain ⟨p, vs, hs, hg, hh, q⟩ := S.fits.own i ds hr
    have h0 := S.ow i ds p hr hs
    have hi : i < r.length := (List.getElem?_eq_some_iff.mp hr).1
    have gs : Same G (upd G p (.lst vs)) := same_new hg
    have own' : ∀ (j : Nat) (fs : List Dt), (r.set i (.val (.lst ds)))[j]? = some (.own fs) → j ≠ i ∧ r[j]? = some (.own fs) := fun j fs h => by
      by_cases hj : j = i
      · subst hj; rw [List.getElem?_set_self hi] at h; cases h
      · rw [List.getElem?_set_ne (Ne.symm hj)] at h
        exact ⟨hj, h⟩
    refine ⟨upd G p (.lst vs), ⟨same_updL S.fits.gh hh, by rw [List.length_set]; exact S.fits.len, fun j d h => ?_, fun j fs h => ?_, fun j k fs gs' p2 h1 h2 h3 h4 => ?_, S.fits.tr.fix hr hs hg⟩, S.base.trans gs, ⟨S.nx.gg.trans gs, S.nx.hh, same_updL S.nx.gh hh, fun a => ?_, S.nx.nf⟩, fun j fs p2 h1 h2 => S.ow j fs p2 (own' j fs h1).2 h2, S.tr.fix hr hs hg⟩
    · by_cases hj : j = i
      · subst hj
        rw [List.getElem?_set_self hi] at h
        cases h
        exact ⟨.ref p, hs, .lst upd_same (RpA.mono gs _ q)⟩
      · rw [List.getElem?_set_ne (Ne.symm hj)] at h
        obtain ⟨v, e, q⟩ := S.fits.val j d h
        exact ⟨v, e, Rp.mono gs d q⟩
    · obtain ⟨hj, h⟩ := own' j fs h
      obtain ⟨p2, us, e1, e2, e3, e4⟩ := S.fits.own j fs h
      have ne : p2 ≠ p := fun e => by
        subst e
        exact hj (S.fits.sep j i fs ds p2 h hr e1 hs)
      exact ⟨p2, us, e1, by rw [upd_ne ne]; exact e2, e3, RpA.mono gs _ e4⟩
    · exact S.fits.sep j k fs gs' p2 (own' j fs h1).2 (own' k gs' h2).2 h3 h4
    · by_cases ha : a = p
      · exact .inr (.inr (by rw [ha]; exact .inl h0))
      · rw [upd_ne ha]
        exact S.nx.fr a
  · exact ⟨G, S⟩

/-! ### blocks -/
def fSeq (a b : Env → Option Out) : Env → Option Out := fun r => match a r with
  | some (.nx r') => b r'
  | o => o
def fNext : Env → Option Out := fun r => some (.nx r)
theorem gs_seq {t u : TS} {a b : Env → Option Out} (h1 : GS K T t a) (h2 : GS K T u b) : GS K T (tSeq t u) (fSeq a b) := fun B G0 H0 G H σ r o S e D m => by
  unfold fSeq at e
  cases e1 : a r with
  | none => rw [e1] at e; cases e
  | some o1 =>
    rw [e1] at e
    cases o1 with
    | nx r' => exact h1 B G0 H0 G H σ r _ S e1 { D with nx := u D } fun G1 H1 σ1 S1 => h2 B G0 H0 G1 H1 σ1 r' o S1 e D m
    | rt d => cases e; exact h1 B G0 H0 G H σ r _ S e1 { D with nx := u D } m
    | bk r' => cases e; exact h1 B G0 H0 G H σ r _ S e1 { D with nx := u D } m
    | ct r' => cases e; exact h1 B G0 H0 G H σ r _ S e1 { D with nx := u D } m
theorem dss_nil : DSs X T [] fNext := ⟨_, pss_nil, fun B G0 H0 G H σ r o S e D m => by cases e; exact m G H σ S⟩
theorem dss_one {st : Stmt} {a : Env → Option Out} (h : DS X T st a) : DSs X T [st] a := by
  obtain ⟨t, p, g⟩ := h.ex
  exact ⟨_, pss_one p, g⟩
theorem dss_cons {st : Stmt} {rest : List Stmt} {a b : Env → Option Out} (h1 : DS X T st a) (h2 : DSs X T rest b) : DSs X T (st :: rest) (fSeq a b) := by
  obtain ⟨t, p, g⟩ := h1.ex
  obtain ⟨t2, p2, g2⟩ := h2.ex
  exact ⟨_, pss_cons p p2, gs_seq g g2⟩
/-- own lists are fixed ahead of a statement -/
def fFrz (j : Nat) (a : Env → Option Out) : Env → Option Out := fun r => a (frzAt j r)
theorem ds_frz (j : Nat) {st : Stmt} {a : Env → Option Out} (h : DS X T st a) : DS X T st (fFrz j a) := by
  obtain ⟨t, p, g⟩ := h.ex
  refine ⟨t, p, fun B G0 H0 G H σ r o S e D m => ?_⟩
  obtain ⟨G1, S1⟩ := S.frzAt j
  exact g B G0 H0 G1 H σ _ o S1 e D m
def fNever : Env → Option Out := fun _ => none
theorem ds_never {st : Stmt} : DS X T st fNever := ⟨_, ps_never, fun B G0 H0 G H σ r o S e D m => by cases e⟩
theorem ds_pass {pos : Pos} : DS X T (.Pass pos) fNext := ⟨_, ps_pass, fun B G0 H0 G H σ r o S e D m => by cases e; exact m G H σ S⟩
theorem ds_break {pos : Pos} : DS X T (.Break pos) (fun r => some (.bk r)) := ⟨_, ps_break, fun B G0 H0 G H σ r o S e D m => by cases e; exact m G H σ S⟩
theorem ds_cont {pos : Pos} : DS X T (.Continue pos) (fun r => some (.ct r)) := ⟨_, ps_continue, fun B G0 H0 G H σ r o S e D m => by cases e; exact m G H σ S⟩
/-! ### stores -/
def fSet (i : Nat) (f : Env → Option Dt) : Env → Option Out := fun r => (f r).map fun d => .nx (r.set i (.val d))
theorem gs_set {i : Nat} {te : TE} {f : Env → Option Dt} (h : GE K T te f) : GS K T (tAsg te (gName i)) (fSet i f) := fun B G0 H0 G H σ r o S e D m => by
  unfold fSet at e
  cases e1 : f r with
  | none => rw [e1] at e; cases e
  | some d =>
    rw [e1] at e
    cases e
    exact h G H σ r d S.fits e1 _ fun v G1 H1 n1 p1 => m G1 H1 _ ((S.nx' n1).set p1)
theorem ds_set (i : Nat) {x : Str} {e : Expr} {f : Env → Option Dt} {pos pos' : Pos} (hN : X.N.Nodup) (he : DE X T e f) (hi : X.N[i]? = some x := by rfl) (hx : Loc X.env.scope x := by first | exact .inl rfl | exact .inr rfl) (hs : swapsWith e (some (.Name x pos')) pos.line X.env = pure false := by rfl)
    (hf : X.fn x = true ∨ X.env.scope.names.lookup x = some .local := by first | exact .inl rfl | exact .inr rfl) : DS X T (.Assign [.Name x pos'] e pos) (fSet i f) := by
  obtain ⟨te, pe, ge⟩ := he.ex
  exact ⟨_, ps_set hN hi hx pe hs hf, gs_set ge⟩
def fSetO (i : Nat) (f : Env → Option (List Dt)) : Env → Option Out := fun r => (f r).map fun d => .nx (r.set i (.own d))
theorem gs_setO {i : Nat} {te : TE} {f : Env → Option (List Dt)} (h : GL K T te f) : GS K T (tAsg te (gName i)) (fSetO i f) := fun B G0 H0 G H σ r o S e D m => by
  unfold fSetO at e
  cases e1 : f r with
  | none => rw [e1] at e; cases e
  | some d =>
    rw [e1] at e
    cases e
    refine h G H σ r d S.fits e1 _ fun p vs G1 H1 n1 hp hg hh q => m G1 H1 _ ((S.nx' n1).setOwn (fun j es _ h1 h2 => ?_) (S.nx.hh.free hp) hg hh q (((S.tr.inH.nx n1).setOwn (fun z => z.2 hp) S.fits.len).imp fun _ z => z.1))
    obtain ⟨p', vs', e1, _, e3, _⟩ := S.fits.own j es h1
    rw [h2] at e1
    cases e1
    rw [hp] at e3
    cases e3
theorem ds_setO (i : Nat) {x : Str} {e : Expr} {f : Env → Option (List Dt)} {pos pos' : Pos} (hN : X.N.Nodup) (he : DL X T e f) (hi : X.N[i]? = some x := by rfl) (hx : Loc X.env.scope x := by first | exact .inl rfl | exact .inr rfl) (hs : swapsWith e (some (.Name x pos')) pos.line X.env = pure false := by rfl)
    (hf : X.fn x = true ∨ X.env.scope.names.lookup x = some .local := by first | exact .inl rfl | exact .inr rfl) : DS X T (.Assign [.Name x pos'] e pos) (fSetO i f) := by
  obtain ⟨te, pe, ge⟩ := he.ex
  exact ⟨_, ps_set hN hi hx pe hs hf, gs_setO ge⟩
/-- y = [.. for ..] -/
theorem lcx {y : Str} {py : Pos} {i j : Nat} {elt iter : Expr} {x : Str} {px : Pos} {ifs : List Expr} {scope : Scope} {own : List (Str × Nat)} {pos spos : Pos} {f : Env → Option (List Dt)} {c : Env → Option Bool} {e : Env → Option Dt} (hc : X.calm = true) (hN : X.N.Nodup) (hy : X.N[i]? = some y) (hyl : X.env.scope.names.lookup y = some .local)
    (hsw : swapsWith (.ListComp elt [⟨.Name x px, iter, ifs, 0⟩] scope pos) (some (.Name y py)) spos.line X.env = pure true) (hi : DI X T (.Name x px) iter f) (ok : BlkOk X.N X.env.scope scope own) (hj : j ∈ own.map (·.2))
    (hg : ∀ (s : Shared) (H : Hp) (C : Addr) (cl : List (Str × Addr)) (fp : List Addr), PG (X.blk s H scope (compEnvC scope cl C X.env) fp) (.Name x px) (gName j)) (ht : ∀ (s : Shared) (H : Hp) (C : Addr) (cl : List (Str × Addr)) (fp : List Addr), DTs (X.blk s H scope (compEnvC scope cl C X.env) fp) T ifs c)
    (he : ∀ (s : Shared) (H : Hp) (C : Addr) (cl : List (Str × Addr)) (fp : List Addr), DE (X.blk s H scope (compEnvC scope cl C X.env) fp) T elt e) (hs : ∀ x, foldedSetIterable iter X.env x = pure x) :
    ∃ te, PS X (.Assign [.Name y py] (.ListComp elt [⟨.Name x px, iter, ifs, 0⟩] scope pos) spos) (tAsg te (gName i)) ∧ GL X.K T te (fComp f j (own.map (·.2)) c e) := by
  obtain ⟨ti, pi, gi⟩ := hi.ex
  exact ⟨_, ps_setLc hc hN hy hyl hsw pi ok hg (fun s H C cl fp => (ht s H C cl fp).pt) (fun s H C cl fp => (he s H C cl fp).pe) hs, gl_lc gi hj⟩
theorem ds_setLc (i : Nat) {y : Str} {py : Pos} {j : Nat} {elt iter : Expr} {x : Str} {px : Pos} {ifs : List Expr} {scope : Scope} {own : List (Str × Nat)} {pos spos : Pos} {f : Env → Option (List Dt)} {c : Env → Option Bool} {e : Env → Option Dt} (hc : X.calm = true) (hN : X.N.Nodup)
    (hi : DI X T (.Name x px) iter f) (ok : BlkOk X.N X.env.scope scope own) (hj : j ∈ own.map (·.2))
    (hg : ∀ (s : Shared) (H : Hp) (C : Addr) (cl : List (Str × Addr)) (fp : List Addr), PG (X.blk s H scope (compEnvC scope cl C X.env) fp) (.Name x px) (gName j)) (ht : ∀ (s : Shared) (H : Hp) (C : Addr) (cl : List (Str × Addr)) (fp : List Addr), DTs (X.blk s H scope (compEnvC scope cl C X.env) fp) T ifs c)
    (he : ∀ (s : Shared) (H : Hp) (C : Addr) (cl : List (Str × Addr)) (fp : List Addr), DE (X.blk s H scope (compEnvC scope cl C X.env) fp) T elt e)
    (hsw : swapsWith (.ListComp elt [⟨.Name x px, iter, ifs, 0⟩] scope pos) (some (.Name y py)) spos.line X.env = pure true) (hy : X.N[i]? = some y := by rfl) (hyl : X.env.scope.names.lookup y = some .local := by rfl) (hs : ∀ x, foldedSetIterable iter X.env x = pure x := by intro _; rfl) :
    DS X T (.Assign [.Name y py] (.ListComp elt [⟨.Name x px, iter, ifs, 0⟩] scope pos) spos) (fSet i (fL (fComp f j (own.map (·.2)) c e))) := by
  obtain ⟨te, p, g⟩ := lcx hc hN hy hyl hsw hi ok hj hg ht he hs
  exact ⟨_, p, gs_set (ge_l g)⟩
theorem ds_setLcO (i : Nat) {y : Str} {py : Pos} {j : Nat} {elt iter : Expr} {x : Str} {px : Pos} {ifs : List Expr} {scope : Scope} {own : List (Str × Nat)} {pos spos : Pos} {f : Env → Option (List Dt)} {c : Env → Option Bool} {e : Env → Option Dt} (hc : X.calm = true) (hN : X.N.Nodup)
    (hi : DI X T (.Name x px) iter f) (ok : BlkOk X.N X.env.scope scope own) (hj : j ∈ own.map (·.2))
    (hg : ∀ (s : Shared) (H : Hp) (C : Addr) (cl : List (Str × Addr)) (fp : List Addr), PG (X.blk s H scope (compEnvC scope cl C X.env) fp) (.Name x px) (gName j)) (ht : ∀ (s : Shared) (H : Hp) (C : Addr) (cl : List (Str × Addr)) (fp : List Addr), DTs (X.blk s H scope (compEnvC scope cl C X.env) fp) T ifs c)
    (he : ∀ (s : Shared) (H : Hp) (C : Addr) (cl : List (Str × Addr)) (fp : List Addr), DE (X.blk s H scope (compEnvC scope cl C X.env) fp) T elt e)
    (hsw : swapsWith (.ListComp elt [⟨.Name x px, iter, ifs, 0⟩] scope pos) (some (.Name y py)) spos.line X.env = pure true) (hy : X.N[i]? = some y := by rfl) (hyl : X.env.scope.names.lookup y = some .local := by rfl) (hs : ∀ x, foldedSetIterable iter X.env x = pure x := by intro _; rfl) :
    DS X T (.Assign [.Name y py] (.ListComp elt [⟨.Name x px, iter, ifs, 0⟩] scope pos) spos) (fSetO i (fComp f j (own.map (·.2)) c e)) := by
  obtain ⟨te, p, g⟩ := lcx hc hN hy hyl hsw hi ok hj hg ht he hs
  exact ⟨_, p, gs_setO g⟩
/-! ### targets -/
def tNm (i : Nat) : Dt → Env → Option Env := fun d r => some (r.set i (.val d))
theorem dg_name (i : Nat) {x : Str} {pos : Pos} (hN : X.N.Nodup) (hi : X.N[i]? = some x := by rfl) (hx : Loc X.env.scope x := by first | exact .inl rfl | exact .inr rfl) (hf : X.fn x = true ∨ X.env.scope.names.lookup x = some .local := by first | exact .inl rfl | exact .inr rfl) : DG X T (.Name x pos) (tNm i) :=
  ⟨_, pg_name hN hi hx hf, fun B G0 H0 G H σ r v d r' S q e Q k => by cases e; exact k G H _ (S.set q)⟩
def GGs (K : PySem.W.Frag) (T : CT) (g : TGs) (t : List Dt → Env → Option Env) : Prop :=
  ∀ (B G0 H0 G H : Hp) (σ : L2.St) (r : Env) (vs : List V) (ds : List Dt) (r' : Env), St1 K T B G0 H0 G H σ r → RpA K T G vs ds → t ds r = some r' → ∀ Q : L2.St → Hp → Prop, (∀ G' H' σ', St1 K T B G0 H0 G' H' σ' r' → Same G G' → Q σ' H') → g vs σ H Q
structure DGs (X : Cx) (T : CT) (es : List Expr) (t : List Dt → Env → Option Env) : Prop where
  ex : ∃ g, PGs X es g ∧ GGs X.K T g t
def tNs : List Nat → List Dt → Env → Option Env
  | [], [], r => some r
  | i :: is, d :: ds, r => tNs is ds (r.set i (.val d))
  | _, _, _ => none
theorem dgs_nil : DGs X T [] (tNs []) := ⟨_, pgs_nil, fun B G0 H0 G H σ r vs ds r' S q e Q k => by
  cases ds with
  | nil => cases e; cases q; exact ⟨rfl, k G H σ S (Same.refl G)⟩
  | cons d ds => cases e⟩
theorem dgs_cons (i : Nat) {is : List Nat} {x : Str} {pos : Pos} {es : List Expr} (hN : X.N.Nodup) (h : DGs X T es (tNs is)) (hi : X.N[i]? = some x := by rfl) (hx : Loc X.env.scope x := by first | exact .inl rfl | exact .inr rfl) (hf : X.fn x = true ∨ X.env.scope.names.lookup x = some .local := by first | exact .inl rfl | exact .inr rfl)
    (hs : (assignEach (.Name x pos :: es) X.env).map (·.2) = assign (.Name x pos) X.env :: (assignEach es X.env).map (·.2) := by rfl) : DGs X T (.Name x pos :: es) (tNs (i :: is)) := by
  obtain ⟨g, p, gg⟩ := h.ex
  refine ⟨_, pgs_cons (pg_name hN hi hx hf) p hs, fun B G0 H0 G H σ r vs ds r' S q e Q k => ?_⟩
  cases ds with
  | nil => cases e
  | cons d ds =>
    cases q with
    | cons q1 q2 => exact ⟨_, _, rfl, gg B G0 H0 G H _ _ _ ds r' (S.set q1) q2 e Q k⟩
def tTp (is : List Nat) : Dt → Env → Option Env := fun d r => match d with
  | .tup ds => tNs is ds r
  | _ => none
theorem tNs_len : ∀ {is : List Nat} {ds : List Dt} {r r' : Env}, tNs is ds r = some r' → ds.length = is.length
  | [], [], _, _, _ => rfl
  | [], _ :: _, _, _, h => by cases h
  | _ :: _, [], _, _, h => by cases h
  | i :: is, d :: ds, r, r', h => by rw [List.length_cons, List.length_cons, tNs_len (is := is) (ds := ds) h]
theorem dg_tup {es : List Expr} {k : Nat} {is : List Nat} {pos : Pos} (hc : X.calm = true) (h : DGs X T es (tNs is)) (hn : (assignEach es X.env).length = is.length := by rfl) (hst : (assignEach es X.env).findIdx? (·.1) = none := by rfl) : DG X T (.Tuple es k pos) (tTp is) := by
  obtain ⟨g, p, gg⟩ := h.ex
  refine ⟨_, pg_tup hc p hn hst, fun B G0 H0 G H σ r v d r' S q e Q k => ?_⟩
  unfold tTp at e
  split at e
  · rename_i ds
    cases q with
    | tup a1 a2 => exact ⟨_, _, rfl, SqT.mono S.fits.gh a1, by rw [a2.length]; exact tNs_len e, gg B G0 H0 G H σ r _ ds r' S a2 e Q fun G' H' σ' S' _ => k G' H' σ' S'⟩
  · cases e
def fAsg (t : Dt → Env → Option Env) (f : Env → Option Dt) : Env → Option Out := fun r => (f r).bind fun d => (t d r).map .nx
theorem ds_asg {tg e : Expr} {t : Dt → Env → Option Env} {f : Env → Option Dt} {pos : Pos} (hg : DG X T tg t) (he : DE X T e f) (hs : swapsWithSole [tg] e pos.line X.env = pure false := by rfl) (hw : swappedStores [tg] e X.env = pure none := by rfl) (h1 : (assignEach [tg] X.env).map (·.2) = [assign tg X.env] := by rfl) :
    DS X T (.Assign [tg] e pos) (fAsg t f) := by
  obtain ⟨g, pg, gg⟩ := hg.ex
  obtain ⟨te, pe, ge⟩ := he.ex
  refine ⟨_, ps_asg pe pg hs hw h1, fun B G0 H0 G H σ r o S e D m => ?_⟩
  unfold fAsg at e
  cases e1 : f r with
  | none => rw [e1] at e; cases e
  | some d =>
    rw [e1] at e
    replace e : (t d r).map Out.nx = some o := e
    cases e2 : t d r with
    | none => rw [e2] at e; cases e
    | some r' =>
      rw [e2] at e
      cases e
      exact ge G H σ r d S.fits e1 _ fun v G1 H1 n1 p1 => gg B G0 H0 G1 H1 σ r v d r' (S.nx' n1) p1 e2 _ fun G2 H2 σ2 S2 => m G2 H2 σ2 S2

/-! ### several values at once, some of them new lists: a, b = [], 0 -/
inductive Me where
  | v (f : Env → Option Dt)
  | o (f : Env → Option (List Dt))
def fMs : List Me → Env → Option (List Sl)
  | [], _ => some []
  | .v f :: l, r => (f r).bind fun d => (fMs l r).map fun s => .val d :: s
  | .o f :: l, r => (f r).bind fun d => (fMs l r).map fun s => .own d :: s
/-- vs stand for ss: the own ones' lists lie in H, new since Hs, apart from each other -/
inductive RpM (K : PySem.W.Frag) (T : CT) (Hs G H : Hp) : List V → List Sl → Prop
  | nil : RpM K T Hs G H [] []
  | v {v : V} {d : Dt} {vs : List V} {ss : List Sl} : Rp K T G v d → RpM K T Hs G H vs ss → RpM K T Hs G H (v :: vs) (.val d :: ss)
  | o {p : Addr} {ws : List V} {ds : List Dt} {vs : List V} {ss : List Sl} : Hs p = none → G p = none → H p = some (.lst ws) → RpA K T G ws ds → (∀ (j : Nat) (es : List Dt), ss[j]? = some (Sl.own es) → vs[j]? ≠ some (V.ref p)) → RpM K T Hs G H vs ss → RpM K T Hs G H (.ref p :: vs) (.own ds :: ss)
def GM (K : PySem.W.Frag) (T : CT) (ta : TA) (f : Env → Option (List Sl)) : Prop :=
  ∀ (G H : Hp) (σ : L2.St) (r : Env) (ss : List Sl), Fits K T G H σ r → f r = some ss → ∀ Q : List V → Hp → Prop, (∀ vs G' H', Nx G H G' H' → RpM K T H G' H' vs ss → Q vs H') → ta σ H Q
structure DM (X : Cx) (T : CT) (es : List Expr) (l : List Me) : Prop where
  ex : ∃ ta, PA X es ta ∧ GM X.K T ta (fMs l)
theorem RpM.length {Hs G H : Hp} : ∀ {vs : List V} {ss : List Sl}, RpM K T Hs G H vs ss → vs.length = ss.length
  | _, _, .nil => rfl
  | _, _, .v _ t => by rw [List.length_cons, List.length_cons, t.length]
  | _, _, .o _ _ _ _ _ t => by rw [List.length_cons, List.length_cons, t.length]
/-- later lists are new since an earlier heap -/
theorem RpM.older {Hs Hs' G H : Hp} (e : Same Hs Hs') : ∀ {vs : List V} {ss : List Sl}, RpM K T Hs' G H vs ss → RpM K T Hs G H vs ss
  | _, _, .nil => .nil
  | _, _, .v a t => .v a (t.older e)
  | _, _, .o a b c d f t => .o (e.free a) b c d f (t.older e)
theorem RpM.own_new {Hs G H : Hp} : ∀ {vs : List V} {ss : List Sl} {j : Nat} {es : List Dt} {p : Addr}, RpM K T Hs G H vs ss → ss[j]? = some (.own es) → vs[j]? = some (.ref p) → Hs p = none
  | _, _, _, _, _, .nil, h, _ => by simp at h
  | _, _, 0, _, _, .v _ _, h, _ => by simp at h
  | _, _, j + 1, _, _, .v _ t, h, h2 => RpM.own_new (j := j) t (by simpa using h) (by simpa using h2)
  | _, _, 0, _, _, .o a _ _ _ _ _, h, h2 => by
    rw [List.getElem?_cons_zero] at h2
    cases h2
    exact a
  | _, _, j + 1, _, _, .o _ _ _ _ _ t, h, h2 => RpM.own_new (j := j) t (by simpa using h) (by simpa using h2)
theorem dm_nil : DM X T [] [] := ⟨_, pa_nil, fun G H σ r ss F e Q q => by cases e; exact q [] G H (Nx.refl F.gh) .nil⟩
theorem dm_v {e : Expr} {es : List Expr} {f : Env → Option Dt} {l : List Me} (ha : DE X T e f) (hb : DM X T es l) (hs : starEach (e :: es) X.env = (false, eval e X.env) :: starEach es X.env := by rfl) : DM X T (e :: es) (.v f :: l) := by
  obtain ⟨ta, pa, ga⟩ := ha.ex
  obtain ⟨tb, pb, gb⟩ := hb.ex
  refine ⟨_, pa_cons pa pb hs, fun G H σ r ss F e Q q => ?_⟩
  unfold fMs at e
  cases e1 : f r with
  | none => rw [e1] at e; cases e
  | some d =>
    rw [e1] at e
    replace e : (fMs l r).map (fun s => Sl.val d :: s) = some ss := e
    cases e2 : fMs l r with
    | none => rw [e2] at e; cases e
    | some s =>
      rw [e2] at e
      cases e
      refine ga G H σ r d F e1 _ fun v G1 H1 n1 p1 => ?_
      exact gb G1 H1 σ r s (F.nx n1) e2 _ fun vs G2 H2 n2 p2 => q (v :: vs) G2 H2 (n1.trans n2) (.v (Rp.mono n2.gg d p1) (p2.older n1.hh))
theorem dm_o {e : Expr} {es : List Expr} {f : Env → Option (List Dt)} {l : List Me} (ha : DL X T e f) (hb : DM X T es l) (hs : starEach (e :: es) X.env = (false, eval e X.env) :: starEach es X.env := by rfl) : DM X T (e :: es) (.o f :: l) := by
  obtain ⟨ta, pa, ga⟩ := ha.ex
  obtain ⟨tb, pb, gb⟩ := hb.ex
  refine ⟨_, pa_cons pa pb hs, fun G H σ r ss F e Q q => ?_⟩
  unfold fMs at e
  cases e1 : f r with
  | none => rw [e1] at e; cases e
  | some d =>
    rw [e1] at e
    replace e : (fMs l r).map (fun s => Sl.own d :: s) = some ss := e
    cases e2 : fMs l r with
    | none => rw [e2] at e; cases e
    | some s =>
      rw [e2] at e
      cases e
      refine ga G H σ r d F e1 _ fun p ws G1 H1 n1 hp hg hh p1 => ?_
      refine gb G1 H1 σ r s (F.nx n1) e2 _ fun vs G2 H2 n2 p2 => q (.ref p :: vs) G2 H2 (n1.trans n2) (.o hp (n2.out hg hh) (n2.hh _ _ hh) (RpA.mono n2.gg d p1) (fun j es h1 h2 => ?_) (p2.older n1.hh))
      have := p2.own_new h1 h2
      rw [hh] at this
      cases this
/-- the stores, one behind the other -/
def setS : List Nat → List Sl → Env → Env
  | i :: is, s :: ss, r => setS is ss (r.set i s)
  | _, _, r => r
def setV : List Nat → List V → L2.St → L2.St
  | i :: is, v :: vs, σ => setV is vs (σ.set i (some v))
  | _, _, σ => σ
theorem St1.setM {Hs : Hp} (h0 : Same H0 Hs) : ∀ {is : List Nat} {vs : List V} {ss : List Sl} {σ : L2.St} {r : Env}, St1 K T B G0 H0 G H σ r → Tr K T G H (fun a => H0 a = none ∧ Hs a ≠ none) σ r → RpM K T Hs G H vs ss →
    (∀ (j : Nat) (es : List Dt) (p : Addr) (i : Nat) (fs : List Dt), r[j]? = some (.own es) → σ[j]? = some (some (.ref p)) → ss[i]? = some (.own fs) → vs[i]? ≠ some (.ref p)) → is.length = ss.length →
    St1 K T B G0 H0 G H (setV is vs σ) (setS is ss r)
  | [], _, _, _, _, S, _, .nil, _, _ => S
  | i :: is, _, _, σ, r, S, tr, .v (v := v) (d := d) (vs := vs) (ss := ss) a t, hs, hl => by
    refine St1.setM h0 (is := is) (S.set a) (tr.set (fun t h => by cases h) (fun l h => by cases h)) t (fun j es p k fs h1 h2 h3 => ?_) (by simpa using hl)
    by_cases hj : j = i
    · subst hj
      by_cases hb : j < r.length
      · rw [List.getElem?_set_self hb] at h1; cases h1
      · rw [List.getElem?_eq_none (by simpa using hb)] at h1; cases h1
    · rw [List.getElem?_set_ne (Ne.symm hj)] at h1 h2
      have := hs j es p (k + 1) fs h1 h2 (by simpa using h3)
      simpa using this
  | i :: is, _, _, σ, r, S, tr, .o (p := p) (ws := ws) (ds := ds) (vs := vs) (ss := ss) a b c d f t, hs, hl => by
    have tr' := tr.setOwn (i := i) (p := p) (ds := ds) (fun z => z.2 a) S.fits.len
    refine St1.setM h0 (is := is) (S.setOwn (fun j es hj h1 h2 => hs j es p 0 ds h1 h2 (by simp) (by simp)) (h0.free a) b c d (tr'.imp fun _ z => z.1)) tr' t (fun j es p' k fs h1 h2 h3 => ?_) (by simpa using hl)
    by_cases hj : j = i
    · subst hj
      by_cases hb : j < r.length
      · rw [List.getElem?_set_self (by rw [S.fits.len]; exact hb)] at h2
        cases h2
        exact f k fs h3
      · rw [List.getElem?_eq_none (by simpa using hb)] at h1; cases h1
    · rw [List.getElem?_set_ne (Ne.symm hj)] at h1 h2
      have := hs j es p' (k + 1) fs h1 h2 (by simpa using h3)
      simpa using this
theorem St1.apart {vs : List V} {ss : List Sl} {Hs : Hp} (S : St1 K T B G0 H0 G Hs σ r) (m : RpM K T Hs G' H' vs ss) : ∀ (j : Nat) (es : List Dt) (p : Addr) (i : Nat) (fs : List Dt), r[j]? = some (.own es) → σ[j]? = some (some (.ref p)) → ss[i]? = some (.own fs) → vs[i]? ≠ some (.ref p) := fun j es p i fs h1 h2 h3 h4 => by
  have e := m.own_new h3 h4
  obtain ⟨p', ws, e1, _, e3, _⟩ := S.fits.own j es h1
  rw [h2] at e1
  cases e1
  rw [e] at e3
  cases e3
def fPar (is : List Nat) (l : List Me) : Env → Option Out := fun r => (fMs l r).map fun ss => .nx (setS is ss r)
/-- a, b = x, y: plain local names -/
theorem ds_par2 (i j : Nat) {x y : Str} {a b : Expr} {m1 m2 : Me} {px py pt pos pt2 : Pos} {kt k2} (hc : X.calm = true) (hN : X.N.Nodup) (ha : DM X T [a, b] [m1, m2]) (hij : i ≠ j) (hi : X.N[i]? = some x := by rfl) (hj : X.N[j]? = some y := by rfl)
    (hx : X.env.scope.names.lookup x = some .local := by rfl) (hy : X.env.scope.names.lookup y = some .local := by rfl)
    (hw : swappedStores [.Tuple [.Name x px, .Name y py] kt pt] (.Tuple [a, b] k2 pt2) X.env = pure (some [x, y]) := by rfl)
    (hs : swapsWithSole [.Tuple [.Name x px, .Name y py] kt pt] (.Tuple [a, b] k2 pt2) pos.line X.env = pure false := by rfl) :
    DS X T (.Assign [.Tuple [.Name x px, .Name y py] kt pt] (.Tuple [a, b] k2 pt2) pos) (fPar [i, j] [m1, m2]) := by
  obtain ⟨ta, pa, ga⟩ := ha.ex
  refine ⟨_, ps_par hc hN hi hj hij hx hy pa hw hs, fun B G0 H0 G H σ r o S e D m => ?_⟩
  unfold fPar at e
  cases e1 : fMs [m1, m2] r with
  | none => rw [e1] at e; cases e
  | some ss =>
    rw [e1] at e
    cases e
    refine ga G H σ r ss S.fits e1 _ fun vs G1 H1 n1 p1 => ?_
    have hl : ss.length = 2 := by
      cases m1 <;> cases m2 <;> (unfold fMs fMs fMs at e1; revert e1; rename_i f g; cases f r <;> cases g r <;> intro e1 <;> first | (cases e1; done) | (cases e1; rfl))
    have hvl := p1.length
    obtain ⟨v, w, rfl⟩ : ∃ v w, vs = [v, w] := by
      rw [hl] at hvl
      match vs, hvl with
      | [v, w], _ => exact ⟨v, w, rfl⟩
    refine ⟨v, w, rfl, ?_⟩
    exact m G1 H1 _ ((S.nx' n1).setM (is := [i, j]) S.nx.hh (S.tr.inH.nx n1) p1 (S.apart p1) (by rw [hl]; rfl))
/-- a, b, c = x, y, z -/
theorem ds_par3 (i j l : Nat) {x y z : Str} {a b c : Expr} {m1 m2 m3 : Me} {px py pz pt pos pt2 : Pos} {kt k2} (hN : X.N.Nodup) (ha : DM X T [a, b, c] [m1, m2, m3])
    (hx : ∀ {ta : TA}, PA X [a, b, c] ta → PS X (.Assign [.Tuple [.Name x px, .Name y py, .Name z pz] kt pt] (.Tuple [a, b, c] k2 pt2) pos) (tPar3 i j l ta)) :
    DS X T (.Assign [.Tuple [.Name x px, .Name y py, .Name z pz] kt pt] (.Tuple [a, b, c] k2 pt2) pos) (fPar [i, j, l] [m1, m2, m3]) := by
  obtain ⟨ta, pa, ga⟩ := ha.ex
  refine ⟨_, hx pa, fun B G0 H0 G H σ r o S e D m => ?_⟩
  unfold fPar at e
  cases e1 : fMs [m1, m2, m3] r with
  | none => rw [e1] at e; cases e
  | some ss =>
    rw [e1] at e
    cases e
    refine ga G H σ r ss S.fits e1 _ fun vs G1 H1 n1 p1 => ?_
    have hl : ss.length = 3 := by
      cases m1 <;> cases m2 <;> cases m3 <;> (unfold fMs fMs fMs fMs at e1; revert e1; rename_i f g h; cases f r <;> cases g r <;> cases h r <;> intro e1 <;> first | (cases e1; done) | (cases e1; rfl))
    have hvl := p1.length
    obtain ⟨v, w, u, rfl⟩ : ∃ v w u, vs = [v, w, u] := by
      rw [hl] at hvl
      match vs, hvl with
      | [v, w, u], _ => exact ⟨v, w, u, rfl⟩
    refine ⟨v, w, u, rfl, ?_⟩
    exact m G1 H1 _ ((S.nx' n1).setM (is := [i, j, l]) S.nx.hh (S.tr.inH.nx n1) p1 (S.apart p1) (by rw [hl]; rfl))
/-- a, b, c, d, .. = ..: by a tuple -/
structure DPs (X : Cx) (es : List Expr) (is : List Nat) : Prop where
  ex : ∃ g, PGs X es g ∧ ∀ (vs : List V) (σ : L2.St) (H : Hp) (Q : L2.St → Hp → Prop), vs.length = is.length → Q (setV is vs σ) H → g vs σ H Q
theorem dps_nil : DPs X [] [] := ⟨_, pgs_nil, fun vs σ H Q hl q => by
  cases vs with
  | nil => exact ⟨rfl, q⟩
  | cons _ _ => cases hl⟩
theorem dps_cons (i : Nat) {is : List Nat} {x : Str} {pos : Pos} {es : List Expr} (hN : X.N.Nodup) (h : DPs X es is) (hi : X.N[i]? = some x := by rfl) (hx : Loc X.env.scope x := by first | exact .inl rfl | exact .inr rfl) (hf : X.fn x = true ∨ X.env.scope.names.lookup x = some .local := by first | exact .inl rfl | exact .inr rfl)
    (hs : (assignEach (.Name x pos :: es) X.env).map (·.2) = assign (.Name x pos) X.env :: (assignEach es X.env).map (·.2) := by rfl) : DPs X (.Name x pos :: es) (i :: is) := by
  obtain ⟨g, p, gg⟩ := h.ex
  refine ⟨_, pgs_cons (pg_name hN hi hx hf) p hs, fun vs σ H Q hl q => ?_⟩
  cases vs with
  | nil => cases hl
  | cons v vs => exact ⟨v, vs, rfl, gg vs _ H Q (by simpa using hl) q⟩
theorem ds_parN {es as : List Expr} {is : List Nat} {l : List Me} {pt pos pt2 : Pos} {kt k2} (hc : X.calm = true) (hp : DPs X es is) (ha : DM X T as l) (hl : is.length = l.length := by rfl) (hn : (assignEach es X.env).length = is.length := by rfl) (hst : (assignEach es X.env).findIdx? (·.1) = none := by rfl)
    (hs : swapsWithSole [.Tuple es kt pt] (.Tuple as k2 pt2) pos.line X.env = pure false := by rfl) (hw : swappedStores [.Tuple es kt pt] (.Tuple as k2 pt2) X.env = pure none := by rfl) (h1 : (assignEach [.Tuple es kt pt] X.env).map (·.2) = [assign (.Tuple es kt pt) X.env] := by rfl) (hsm : l.length ≤ 1000 := by decide) :
    DS X T (.Assign [.Tuple es kt pt] (.Tuple as k2 pt2) pos) (fPar is l) := by
  obtain ⟨g, pg, gg⟩ := hp.ex
  obtain ⟨ta, pa, ga⟩ := ha.ex
  refine ⟨_, ps_asg (pe_tup pa) (pg_tup hc pg hn hst) hs hw h1, fun B G0 H0 G H σ r o S e D m => ?_⟩
  unfold fPar at e
  cases e1 : fMs l r with
  | none => rw [e1] at e; cases e
  | some ss =>
    rw [e1] at e
    cases e
    have len : ∀ (l : List Me) (ss : List Sl), fMs l r = some ss → ss.length = l.length := by
      intro l
      induction l with
      | nil => intro ss h; cases h; rfl
      | cons a l ih =>
        intro ss h
        cases a with
        | v f =>
          unfold fMs at h
          cases h1 : f r with
          | none => rw [h1] at h; cases h
          | some d =>
            rw [h1] at h
            cases h2 : fMs l r with
            | none => rw [h2] at h; cases h
            | some s => rw [h2] at h; cases h; rw [List.length_cons, List.length_cons, ih s h2]
        | o f =>
          unfold fMs at h
          cases h1 : f r with
          | none => rw [h1] at h; cases h
          | some d =>
            rw [h1] at h
            cases h2 : fMs l r with
            | none => rw [h2] at h; cases h
            | some s => rw [h2] at h; cases h; rw [List.length_cons, List.length_cons, ih s h2]
    have hsl := len l ss e1
    refine ga G H σ r ss S.fits e1 _ fun vs G1 H1 n1 p1 => ?_
    have hvl := p1.length
    refine ⟨sz5 (by omega), fun p hp => ?_⟩
    refine ⟨p, vs, rfl, SqT.of upd_same, by omega, gg vs σ _ _ (by omega) ?_⟩
    have S1 := S.nx' n1
    have S2 := S1.grow (same_new (o := .tup vs) hp) (NoF.upd (fun _ _ z => by cases z))
    have p2 : ∀ {vs' : List V} {ss' : List Sl}, RpM X.K T H G1 H1 vs' ss' → RpM X.K T H G1 (upd H1 p (.tup vs)) vs' ss' := by
      intro vs' ss' h
      induction h with
      | nil => exact .nil
      | v a t ih => exact .v a ih
      | o a b c d f t ih => exact .o a b (by rw [upd_ne (ne_of_none c hp)]; exact c) d f ih
    exact m G1 _ _ (S2.setM (is := is) S.nx.hh ((S.tr.inH.nx n1).nx ((Nx.refl S1.fits.gh).growH (same_new (o := .tup vs) hp) (NoF.upd (fun _ _ z => by cases z)))) (p2 p1) (S.apart p1) (by omega))

/-! ### if, return, expressions -/
def fIfS (c : Env → Option Bool) (a b : Env → Option Out) : Env → Option Out := fun r => match c (frzE r) with
  | some true => a r
  | some false => b r
  | none => none
theorem ds_if {c : Expr} {a b : List Stmt} {fc : Env → Option Bool} {fa fb : Env → Option Out} {pos : Pos} (hc : DT X T c fc) (ha : DSs X T a fa) (hb : DSs X T b fb) : DS X T (.If c a b pos) (fIfS fc fa fb) := by
  obtain ⟨tc, pc, gc⟩ := hc.ex
  obtain ⟨ta, pa, ga⟩ := ha.ex
  obtain ⟨tb, pb, gb⟩ := hb.ex
  refine ⟨_, ps_if pc pa pb, fun B G0 H0 G H σ r o S e D m => ?_⟩
  unfold fIfS at e
  split at e
  · rename_i e1
    refine gc H H σ (frzE r) _ S.fits.frz e1 _ fun G1 H1 n1 => ?_
    show (if true = true then ta D σ H1 else tb D σ H1)
    rw [if_pos rfl]
    exact ga B G0 H0 G H1 σ r o (S.grow n1.hh n1.nf) e D m
  · rename_i e1
    refine gc H H σ (frzE r) _ S.fits.frz e1 _ fun G1 H1 n1 => ?_
    show (if false = true then ta D σ H1 else tb D σ H1)
    rw [if_neg Bool.false_ne_true]
    exact gb B G0 H0 G H1 σ r o (S.grow n1.hh n1.nf) e D m
  · cases e
def fRet (f : Env → Option Dt) : Env → Option Out := fun r => (f r).map .rt
theorem ds_ret {e : Expr} {f : Env → Option Dt} {pos : Pos} (he : DE X T e f) : DS X T (.Return (some e) pos) (fRet f) := by
  obtain ⟨te, pe, ge⟩ := he.ex
  refine ⟨_, ps_ret pe, fun B G0 H0 G H σ r o S e D m => ?_⟩
  unfold fRet at e
  cases e1 : f r with
  | none => rw [e1] at e; cases e
  | some d =>
    rw [e1] at e
    cases e
    exact ge G H σ r d S.fits e1 _ fun v G1 H1 n1 p1 => m v G1 H1 (S.nx.trans n1) p1
def fRetN : Env → Option Out := fun _ => some (.rt .non)
theorem ds_retN {pos : Pos} : DS X T (.Return none pos) fRetN := ⟨_, ps_retN, fun B G0 H0 G H σ r o S e D m => by cases e; exact m .non G H S.nx .non⟩
def fDrop (f : Env → Option Dt) : Env → Option Out := fun r => (f r).map fun _ => .nx r
theorem ds_expr {e : Expr} {f : Env → Option Dt} {pos : Pos} (he : DE X T e f) (hs : swapsWith e none pos.line X.env = pure false := by rfl) : DS X T (.Expr e pos) (fDrop f) := by
  obtain ⟨te, pe, ge⟩ := he.ex
  refine ⟨_, ps_expr pe hs, fun B G0 H0 G H σ r o S e D m => ?_⟩
  unfold fDrop at e
  cases e1 : f r with
  | none => rw [e1] at e; cases e
  | some d =>
    rw [e1] at e
    cases e
    exact ge G H σ r d S.fits e1 _ fun v G1 H1 n1 p1 => m G1 H1 σ (S.nx' n1)
/-- x += e, whole numbers -/
def fAug (i : Nat) (f : Env → Option Dt) : Env → Option Out := fun r => match gV r i, f r with
  | some (.int a), some (.int b) => some (.nx (r.set i (.val (.int (a + b)))))
  | _, _ => none
theorem ds_aug (i : Nat) {x : Str} {e : Expr} {f : Env → Option Dt} {pos pos' : Pos} (hN : X.N.Nodup) (he : DE X T e f) (hi : X.N[i]? = some x := by rfl) (hx : Loc X.env.scope x := by first | exact .inl rfl | exact .inr rfl) (hf : X.fn x = true ∨ X.env.scope.names.lookup x = some .local := by first | exact .inl rfl | exact .inr rfl) :
    DS X T (.AugAssign (.Name x pos') .Add e pos) (fAug i f) := by
  obtain ⟨te, pe, ge⟩ := he.ex
  refine ⟨_, ps_aug hN hi hx pe ip_add hf, fun B G0 H0 G H σ r o S e D m => ?_⟩
  unfold fAug at e
  split at e
  · rename_i a b h1 h2
    cases e
    obtain ⟨v, e1, q1⟩ := S.fits.val i _ (gV_iff.mp h1)
    cases q1
    refine ⟨_, e1, ge G H σ r _ S.fits h2 _ fun w G1 H1 n1 p1 => ?_⟩
    cases p1
    exact ⟨a, b, rfl, rfl, m G1 H1 _ ((S.nx' n1).set (.int _))⟩
  · cases e
/-! ### own lists changed -/
def fApp (i : Nat) (f : Env → Option Dt) : Env → Option Out := fun r => match gO r i, f r with
  | some ds, some d => if ds.length ≤ 100000 then some (.nx (r.set i (.own (ds ++ [d])))) else none
  | _, _ => none
theorem ds_app (i : Nat) {x : Str} {e : Expr} {f : Env → Option Dt} {pos p1 apos cpos : Pos} (he : DE X T e f) (hi : X.N[i]? = some x := by rfl) (hv : Vis X.env.scope x := by first | exact Or.inl rfl | exact Or.inr (Or.inl rfl)) (hd : (x == ("__debug__" : Str)) = false := by decide +kernel) (hcd : (x == ("__classdict__" : Str)) = false := by decide +kernel)
    (hbase : attributeBase (.Name x p1) "append" X.env (eval (.Name x p1) X.env) = eval (.Name x p1) X.env := by rfl)
    (hfew : ((backTo cpos (starEach (e :: []) X.env)).all (fun x => !x.1) && (backToKw cpos (keywordEach [] X.env)).all (fun x => x.1.isSome) && decide ((e :: ([] : List Expr)).length + ([] : List Keyword).length + (if ([] : List Keyword).isEmpty then 0 else 1) < 30)) = true := by rfl)
    (hline : (apos.endLine == cpos.line) = true := by rfl) (hs : starEach (e :: []) X.env = (false, eval e X.env) :: starEach [] X.env := by rfl) (hplain : (backTo cpos (starEach [] X.env)).any (·.1) = false := by rfl)
    (hsw : swapsWith (.Call (.Attribute (.Name x p1) "append" apos) [e] [] cpos) none pos.line X.env = pure false := by rfl) : DS X T (.Expr (.Call (.Attribute (.Name x p1) "append" apos) [e] [] cpos) pos) (fApp i f) := by
  obtain ⟨te, pe, ge⟩ := he.ex
  refine ⟨_, ps_expr (pe_bm PySem.F.plainAttrs_list PySem.F.slot_list_append PySem.F.type_list_append mt_append (pe_var hi hv hd hcd) (pa_cons pe pa_nil hs) hbase hfew hline hs hplain) hsw, fun B G0 H0 G H σ r o S e D m => ?_⟩
  unfold fApp at e
  split at e
  · rename_i ds d h1 h2
    obtain ⟨hc, e⟩ := ite_opt e
    cases e
    have hr := gO_iff.mp h1
    obtain ⟨p, vs, hσ, hg, hh, q⟩ := S.fits.own i ds hr
    refine ⟨.ref p, hσ, .inl ⟨rfl, vs, SqL.of hh⟩, ?_⟩
    refine ge G H σ r d S.fits h2 _ fun w G1 H1 n1 p1 => ?_
    have S1 := S.nx' n1
    have hh1 := n1.hh _ _ hh
    refine ⟨p, vs, w, rfl, rfl, hh1, ?_, m G1 _ _ (S1.mutOwn (vs := vs) hr hσ ((RpA.mono n1.gg ds q).append (.cons p1 .nil)))⟩
    rw [q.length]
    exact Nat.lt_of_le_of_lt hc (by decide)
  · cases e
def fExt (i : Nat) (f : Env → Option Dt) : Env → Option Out := fun r => match gO r i, f r with
  | some ds, some (.lst es) => if ds.length + es.length ≤ 100000 then some (.nx (r.set i (.own (ds ++ es)))) else none
  | _, _ => none
theorem ds_ext (i : Nat) {x : Str} {e : Expr} {f : Env → Option Dt} {pos p1 apos cpos : Pos} (he : DE X T e f) (hi : X.N[i]? = some x := by rfl) (hv : Vis X.env.scope x := by first | exact Or.inl rfl | exact Or.inr (Or.inl rfl)) (hd : (x == ("__debug__" : Str)) = false := by decide +kernel) (hcd : (x == ("__classdict__" : Str)) = false := by decide +kernel)
    (hbase : attributeBase (.Name x p1) "extend" X.env (eval (.Name x p1) X.env) = eval (.Name x p1) X.env := by rfl)
    (hfew : ((backTo cpos (starEach (e :: []) X.env)).all (fun x => !x.1) && (backToKw cpos (keywordEach [] X.env)).all (fun x => x.1.isSome) && decide ((e :: ([] : List Expr)).length + ([] : List Keyword).length + (if ([] : List Keyword).isEmpty then 0 else 1) < 30)) = true := by rfl)
    (hline : (apos.endLine == cpos.line) = true := by rfl) (hs : starEach (e :: []) X.env = (false, eval e X.env) :: starEach [] X.env := by rfl) (hplain : (backTo cpos (starEach [] X.env)).any (·.1) = false := by rfl)
    (hsw : swapsWith (.Call (.Attribute (.Name x p1) "extend" apos) [e] [] cpos) none pos.line X.env = pure false := by rfl) : DS X T (.Expr (.Call (.Attribute (.Name x p1) "extend" apos) [e] [] cpos) pos) (fExt i f) := by
  obtain ⟨te, pe, ge⟩ := he.ex
  refine ⟨_, ps_expr (pe_bm PySem.F.plainAttrs_list PySem.F.slot_list_extend PySem.F.type_list_extend mt_extend (pe_var hi hv hd hcd) (pa_cons pe pa_nil hs) hbase hfew hline hs hplain) hsw, fun B G0 H0 G H σ r o S e D m => ?_⟩
  unfold fExt at e
  split at e
  · rename_i ds es h1 h2
    obtain ⟨hc, e⟩ := ite_opt e
    cases e
    have hr := gO_iff.mp h1
    obtain ⟨p, vs, hσ, hg, hh, q⟩ := S.fits.own i ds hr
    refine ⟨.ref p, hσ, .inl ⟨rfl, vs, SqL.of hh⟩, ?_⟩
    refine ge G H σ r _ S.fits h2 _ fun w G1 H1 n1 p1 => ?_
    have S1 := S.nx' n1
    have hh1 := n1.hh _ _ hh
    cases p1 with
    | @lst b ws _ a1 a2 =>
      refine ⟨p, b, vs, ws, rfl, rfl, hh1, n1.gh _ _ a1, by rw [q.length, a2.length]; exact sz5 hc, m G1 _ _ (S1.mutOwn (vs := vs) hr hσ ((RpA.mono n1.gg ds q).append a2))⟩
  · cases e
/-- xs[i] = e, xs an own list -/
def fSetIx (i : Nat) (f g : Env → Option Dt) : Env → Option Out := fun r => match f r, gO r i, g r with
  | some d, some ds, some (.int k) => (ixN ds.length k).map fun j => .nx (r.set i (.own (ds.set j d)))
  | _, _, _ => none
theorem ds_setIx (i : Nat) {x : Str} {e k : Expr} {f g : Env → Option Dt} {pos p1 spos : Pos} (he : DE X T e f) (hk : DE X T k g) (hi : X.N[i]? = some x := by rfl) (hv : Vis X.env.scope x := by first | exact Or.inl rfl | exact Or.inr (Or.inl rfl)) (hd : (x == ("__debug__" : Str)) = false := by decide +kernel) (hcd : (x == ("__classdict__" : Str)) = false := by decide +kernel)
    (ha : ∀ v, assign (.Subscript (.Name x p1) k spos) X.env v = (do
      let ov ← holding [v] (eval (.Name x p1) X.env)
      let iv ← holding [v, ov] (eval k X.env)
      standAt spos
      holding [v, ov, iv] (setItem ov iv v)
      release [v, ov, iv] []) := by intro _; rfl)
    (hs : swapsWithSole [.Subscript (.Name x p1) k spos] e pos.line X.env = pure false := by rfl) (hw : swappedStores [.Subscript (.Name x p1) k spos] e X.env = pure none := by rfl) (h1 : (assignEach [.Subscript (.Name x p1) k spos] X.env).map (·.2) = [assign (.Subscript (.Name x p1) k spos) X.env] := by rfl) :
    DS X T (.Assign [.Subscript (.Name x p1) k spos] e pos) (fSetIx i f g) := by
  obtain ⟨te, pe, ge⟩ := he.ex
  obtain ⟨tk, pk, gk⟩ := hk.ex
  refine ⟨_, ps_asg pe (pg_sub (pe_var hi hv hd hcd) pk set_list ha) hs hw h1, fun B G0 H0 G H σ r o S e D m => ?_⟩
  unfold fSetIx at e
  split at e
  · rename_i d ds k h1 h2 h3
    cases e1 : ixN ds.length k with
    | none => rw [e1] at e; cases e
    | some j =>
      rw [e1] at e
      cases e
      have hr := gO_iff.mp h2
      obtain ⟨p, vs, hσ, hg, hh, q⟩ := S.fits.own i ds hr
      refine ge G H σ r d S.fits h1 _ fun w G1 H1 n1 p1 => ?_
      refine ⟨.ref p, hσ, gk G1 H1 σ r _ (S.fits.nx n1) h3 _ fun u G2 H2 n2 p2 => ?_⟩
      cases p2
      have n := n1.trans n2
      exact ⟨p, vs, k, j, rfl, rfl, n.hh _ _ hh, by rw [q.length]; exact e1, m G2 _ _ ((S.nx' n).mutOwn (vs := vs) hr hσ (RpA.set (Rp.mono n2.gg d p1) j (RpA.mono n.gg ds q)))⟩
  · cases e
/-- x = xs.pop(k), xs an own list -/
def fPopAt (j i : Nat) (g : Env → Option Dt) : Env → Option Out := fun r => match gO r i, g r with
  | some ds, some (.int k) => (match seqIndex? k ds.length with
    | some m => if -1000000 ≤ k ∧ k ≤ 1000000 then (ds[m]?).map fun d => .nx ((r.set i (.own (ds.eraseIdx m))).set j (.val d)) else none
    | none => none)
  | _, _ => none
theorem ds_popAt (j i : Nat) {x y : Str} {e : Expr} {g : Env → Option Dt} {pos py p1 apos cpos : Pos} (hN : X.N.Nodup) (he : DE X T e g) (hi : X.N[i]? = some x := by rfl) (hj : X.N[j]? = some y := by rfl) (hy : Loc X.env.scope y := by first | exact .inl rfl | exact .inr rfl) (hf : X.fn y = true ∨ X.env.scope.names.lookup y = some .local := by first | exact .inl rfl | exact .inr rfl)
    (hv : Vis X.env.scope x := by first | exact Or.inl rfl | exact Or.inr (Or.inl rfl)) (hd : (x == ("__debug__" : Str)) = false := by decide +kernel) (hcd : (x == ("__classdict__" : Str)) = false := by decide +kernel)
    (hbase : attributeBase (.Name x p1) "pop" X.env (eval (.Name x p1) X.env) = eval (.Name x p1) X.env := by rfl)
    (hfew : ((backTo cpos (starEach (e :: []) X.env)).all (fun x => !x.1) && (backToKw cpos (keywordEach [] X.env)).all (fun x => x.1.isSome) && decide ((e :: ([] : List Expr)).length + ([] : List Keyword).length + (if ([] : List Keyword).isEmpty then 0 else 1) < 30)) = true := by rfl)
    (hline : (apos.endLine == cpos.line) = true := by rfl) (hs : starEach (e :: []) X.env = (false, eval e X.env) :: starEach [] X.env := by rfl) (hplain : (backTo cpos (starEach [] X.env)).any (·.1) = false := by rfl)
    (hsw : swapsWith (.Call (.Attribute (.Name x p1) "pop" apos) [e] [] cpos) (some (.Name y py)) pos.line X.env = pure false := by rfl) : DS X T (.Assign [.Name y py] (.Call (.Attribute (.Name x p1) "pop" apos) [e] [] cpos) pos) (fPopAt j i g) := by
  obtain ⟨te, pe, ge⟩ := he.ex
  refine ⟨_, ps_set hN hj hy (pe_bm PySem.F.plainAttrs_list PySem.F.slot_list_pop PySem.F.type_list_pop mt_popAt (pe_var hi hv hd hcd) (pa_cons pe pa_nil hs) hbase hfew hline hs hplain) hsw hf, fun B G0 H0 G H σ r o S e D m => ?_⟩
  unfold fPopAt at e
  split at e
  · rename_i ds k h1 h2
    split at e
    · rename_i n e1
      obtain ⟨hc, e⟩ := ite_opt e
      cases e2 : ds[n]? with
      | none => rw [e2] at e; cases e
      | some d =>
        rw [e2] at e
        cases e
        have hr := gO_iff.mp h1
        obtain ⟨p, vs, hσ, hg, hh, q⟩ := S.fits.own i ds hr
        refine ⟨.ref p, hσ, .inl ⟨rfl, vs, SqL.of hh⟩, ?_⟩
        refine ge G H σ r _ S.fits h2 _ fun w G1 H1 n1 p1 => ?_
        cases p1
        have S1 := S.nx' n1
        have hh1 := n1.hh _ _ hh
        have q1 := RpA.mono n1.gg ds q
        obtain ⟨v, hv, rv⟩ := q1.get e2
        refine ⟨p, vs, k, n, v, rfl, rfl, hh1, by omega, by omega, by rw [q.length]; exact e1, hv, m G1 _ _ ((S1.mutOwn (vs := vs) hr hσ (q1.eraseIdx n)).set rv)⟩
    · cases e
  · cases e
/-! ### loops -/
def loopF (t : Dt → Env → Option Env) (b : Env → Option Out) : List Dt → Env → Option Out
  | [], r => some (.nx r)
  | x :: xs, r => match t x r with
    | none => none
    | some r1 => match b r1 with
      | some (.nx r2) => loopF t b xs r2
      | some (.ct r2) => loopF t b xs r2
      | some (.bk r2) => some (.nx r2)
      | some (.rt d) => some (.rt d)
      | none => none
def fFor (f : Env → Option (List Dt)) (t : Dt → Env → Option Env) (b : Env → Option Out) : Env → Option Out := fun r => (f r).bind fun items => loopF t b items r
theorem ds_for {tg iter : Expr} {body : List Stmt} {f : Env → Option (List Dt)} {t : Dt → Env → Option Env} {b : Env → Option Out} {pos : Pos} (hp : PassesOwn (model X.prog X.w) X.A X.env X.xe) (hc : X.calm = true) (hi : DI X T tg iter f) (hg : DG X T tg t) (hb : DSs X T body b) (hs : ∀ x, foldedSetIterable iter X.env x = pure x := by intro _; rfl) :
    DS X T (.For tg iter body [] pos) (fFor f t b) := by
  obtain ⟨ti, pi, gi⟩ := hi.ex
  obtain ⟨g, pg, gg⟩ := hg.ex
  obtain ⟨tb, pb, gb⟩ := hb.ex
  refine ⟨_, ps_for hp hc pi pg pb hs, fun B G0 H0 G H σ r o S e D m => ?_⟩
  unfold fFor at e
  cases e1 : f r with
  | none => rw [e1] at e; cases e
  | some items =>
    rw [e1] at e
    replace e : loopF t b items r = some o := e
    refine gi G H σ r items S.fits e1 _ fun J G1 H1 n1 ok => ?_
    have S1 : St1 X.K T G1 G0 H0 G1 H1 σ r := ⟨S.fits.nx n1, Same.refl _, S.nx.trans n1, S.ow, S.tr.nx n1⟩
    have down : ∀ {G2 H2 : Hp} {σ2 : L2.St} {r2 : Env}, St1 X.K T G1 G0 H0 G2 H2 σ2 r2 → St1 X.K T B G0 H0 G2 H2 σ2 r2 := fun S2 => ⟨S2.fits, S.base.trans (n1.gg.trans S2.base), S2.nx, S2.ow, S2.tr⟩
    refine ⟨fun i n σ' H' => n = items.length - i ∧ i ≤ items.length ∧ ∃ G' r', St1 X.K T G1 G0 H0 G' H' σ' r' ∧ loopF t b (items.drop i) r' = some o, ⟨items.length, by simp, Nat.zero_le _, G1, r, S1, by simpa using e⟩, ?_⟩
    rintro i n σ' H' ⟨rfl, hi', G', r', S', hl⟩
    have e1G : Same G1 H' := S'.base.trans S'.fits.gh
    by_cases hlt : i < items.length
    · refine .inr ⟨ok.goes i H' hlt e1G, fun σ2 H2 => ∃ G2 r2, St1 X.K T G1 G0 H0 G2 H2 σ2 r2 ∧ loopF t b (items.drop (i + 1)) r2 = some o, fun σ2 H2 w => ⟨items.length - (i + 1), by omega, rfl, hlt, w⟩, fun x H2 y => ?_⟩
      rw [List.drop_eq_getElem_cons hlt] at hl
      obtain ⟨G2, n2, rx⟩ := ok.yields i H' x H2 items[i] (List.getElem?_eq_getElem hlt) e1G y G' S'.base S'.fits.gh
      unfold loopF at hl
      split at hl
      · cases hl
      · rename_i r1 ht
        refine gg G1 G0 H0 G2 H2 σ' r' x items[i] r1 (S'.nx' n2) rx ht _ fun G3 H3 σ3 S3 => ?_
        split at hl
        · rename_i r2 hb2
          exact gb G1 G0 H0 G3 H3 σ3 r1 _ S3 hb2 _ fun G4 H4 σ4 S4 => ⟨G4, r2, S4, hl⟩
        · rename_i r2 hb2
          exact gb G1 G0 H0 G3 H3 σ3 r1 _ S3 hb2 _ fun G4 H4 σ4 S4 => ⟨G4, r2, S4, hl⟩
        · rename_i r2 hb2
          cases hl
          exact gb G1 G0 H0 G3 H3 σ3 r1 _ S3 hb2 _ fun G4 H4 σ4 S4 => m G4 H4 σ4 (down S4)
        · rename_i d hb2
          cases hl
          exact gb G1 G0 H0 G3 H3 σ3 r1 _ S3 hb2 _ m
        · cases hl
    · have e : i = items.length := by omega
      subst e
      rw [List.drop_length] at hl
      cases hl
      exact .inl ⟨ok.stops H' e1G, m G' H' σ' (down S')⟩
def whileF (c : Env → Option Bool) (b : Env → Option Out) : Nat → Env → Option Out
  | 0, _ => none
  | n + 1, r => match c (frzE r) with
    | some true => (match b r with
      | some (.nx r2) => whileF c b n r2
      | some (.ct r2) => whileF c b n r2
      | some (.bk r2) => some (.nx r2)
      | some (.rt d) => some (.rt d)
      | none => none)
    | some false => some (.nx r)
    | none => none
theorem ds_while (n : Nat) {c : Expr} {body : List Stmt} {fc : Env → Option Bool} {b : Env → Option Out} {pos : Pos} (hp : PassesOwn (model X.prog X.w) X.A X.env X.xe) (hc : DT X T c fc) (hb : DSs X T body b) : DS X T (.While c body [] pos) (whileF fc b n) := by
  obtain ⟨tc, pc, gc⟩ := hc.ex
  obtain ⟨tb, pb, gb⟩ := hb.ex
  refine ⟨_, ps_while hp pc pb, fun B G0 H0 G H σ r o S e D m => ?_⟩
  refine ⟨fun k σ' H' => ∃ G' r', St1 X.K T B G0 H0 G' H' σ' r' ∧ whileF fc b k r' = some o, ⟨n, G, r, S, e⟩, ?_⟩
  rintro k σ' H' ⟨G', r', S', hl⟩
  cases k with
  | zero => cases hl
  | succ k =>
    unfold whileF at hl
    split at hl
    · rename_i h1
      refine gc H' H' σ' (frzE r') _ S'.fits.frz h1 _ fun G1 H1 n1 => ?_
      show (if true = true then _ else _)
      rw [if_pos rfl]
      have S1 := S'.grow n1.hh n1.nf
      refine ⟨fun σ2 H2 => ∃ G2 r2, St1 X.K T B G0 H0 G2 H2 σ2 r2 ∧ whileF fc b k r2 = some o, fun σ2 H2 w => ⟨k, Nat.lt_succ_self k, w⟩, ?_⟩
      split at hl
      · rename_i r2 h2
        exact gb B G0 H0 G' H1 σ' r' _ S1 h2 _ fun G4 H4 σ4 S4 => ⟨G4, r2, S4, hl⟩
      · rename_i r2 h2
        exact gb B G0 H0 G' H1 σ' r' _ S1 h2 _ fun G4 H4 σ4 S4 => ⟨G4, r2, S4, hl⟩
      · rename_i r2 h2
        cases hl
        exact gb B G0 H0 G' H1 σ' r' _ S1 h2 _ fun G4 H4 σ4 S4 => m G4 H4 σ4 S4
      · rename_i d h2
        cases hl
        exact gb B G0 H0 G' H1 σ' r' _ S1 h2 _ m
      · cases hl
    · rename_i h1
      cases hl
      refine gc H' H' σ' (frzE r') _ S'.fits.frz h1 _ fun G1 H1 n1 => ?_
      show (if false = true then _ else _)
      rw [if_neg Bool.false_ne_true]
      exact m G' H1 σ' (S'.grow n1.hh n1.nf)
    · cases hl

/-! ### defs -/
def runF (n m : Nat) (g : Env → Option Out) (ds : List Dt) : Option Dt := if ds.length = n then
    (match g (ds.map Sl.val ++ List.replicate m Sl.no) with
      | some (.rt d) => some d
      | some (.nx _) => some .non
      | _ => none)
  else none
def spF (K : PySem.W.Frag) (T : CT) (n : Nat) (f : List Dt → Option Dt) : Sp := fun vs H Q _ => vs.length = n ∧ ∃ G ds d, Same G H ∧ RpA K T G vs ds ∧ f ds = some d ∧ ∀ v G' H', Nx G H G' H' → Rp K T G' v d → Q v H'
theorem entry {N : List Str} {vs : List V} {ds : List Dt} {m : Nat} (e : Same G H) (q : RpA K T G vs ds) (hl : N.length = ds.length + m) : St1 K T G G H G H (start N vs) (ds.map Sl.val ++ List.replicate m Sl.no) := by
  have hq := q.length
  have no_own : ∀ (i : Nat) (es : List Dt), (ds.map Sl.val ++ List.replicate m Sl.no)[i]? ≠ some (.own es) := fun i es h => by
    by_cases hi : i < ds.length
    · rw [List.getElem?_append_left (by simpa using hi), List.getElem?_map] at h
      rw [List.getElem?_eq_getElem hi] at h
      cases h
    · rw [List.getElem?_append_right (by simpa using hi), List.getElem?_replicate] at h
      split at h <;> cases h
  have no_tre : ∀ (i : Nat) (t : OT), (ds.map Sl.val ++ List.replicate m Sl.no)[i]? ≠ some (Sl.tre t) := fun i t h => by
    have hm := List.mem_of_getElem? h
    simp at hm
  refine ⟨⟨e, ?_, fun i d h => ?_, fun i es h => absurd h (no_own i es), fun i j es fs p h => absurd h (no_own i es), Tr.nil no_tre⟩, Same.refl G, Nx.refl e, fun i es p h => absurd h (no_own i es), Tr.nil no_tre⟩
  · unfold L2.start
    simp only [List.length_append, List.length_map, List.length_replicate]
    omega
  · by_cases hi : i < ds.length
    · rw [List.getElem?_append_left (by simpa using hi), List.getElem?_map] at h
      rw [List.getElem?_eq_getElem hi] at h
      cases h
      obtain ⟨v, hv, rv⟩ := q.get (List.getElem?_eq_getElem hi)
      refine ⟨v, ?_, rv⟩
      unfold L2.start
      rw [List.getElem?_append_left (by rw [List.length_map]; omega), List.getElem?_map, hv]
      rfl
    · rw [List.getElem?_append_right (by simpa using hi), List.getElem?_replicate] at h
      split at h <;> cases h
section
variable {P : Program} {w : World} {mg : Str → Option Value} {base : Heap}
theorem okF {x qual : Str} {st : Stmt} {f : Addr} {fd : FuncData} {N ps : List Str} {k m : Nat} {g : Env → Option Out} (F : Fun K x qual st f fd) (S : FnScope N ps (defScope st)) (hm : N.length = ps.length + m)
    (hb : ∀ (cdv : Value) (A : Around) (os : List PySem.Env) (s : Shared) (H : Hp) (E : XK), Room k (A.deeper (envOfC qual (defScope st) s.heap.objs.size f cdv)) → DSs (cxOf CX0 P w K mg base N qual (defScope st) f cdv A os s H E).nox T (defBody st) g) :
    FnOk P w K mg base CX0 (k + 1) f fd ps (spF K T ps.length (runF ps.length m g)) := by
  refine F.ok S (fun vs H Q E h => h.1) (fun cdv A outer s H vs Q E hr h => ?_)
  obtain ⟨hl, G, ds, d, gh, q, hd, k⟩ := h
  obtain ⟨t, p, gs⟩ := (hb cdv A outer s H E hr).ex
  refine ⟨t, p, ?_⟩
  have hq := q.length
  unfold runF at hd
  rw [if_pos (show ds.length = ps.length by omega)] at hd
  have S0 := entry (N := N) (m := m) gh q (by omega)
  split at hd
  · rename_i d' e
    cases hd
    exact gs G G H G H _ _ _ S0 e _ fun v G' H' n r => k v G' H' n r
  · rename_i r' e
    cases hd
    exact gs G G H G H _ _ _ S0 e _ fun G' H' σ' S' => k .non G' H' S'.nx .non
  · cases hd
/-- a def that may be called -/
structure Callee (P : Program) (w : World) (K : PySem.W.Frag) (mg : Str → Option Value) (base : Heap) (T : CT) (k : Nat) (x : Str) (g : List Dt → Option Dt) : Prop where
  ex : ∃ (f : Addr) (fd : FuncData) (ps : List Str) (n : Nat), FnOk P w K mg base CX0 k f fd ps (spF K T n g) ∧ mg x = some (.ref f) ∧ PySem.W.keepIn K (.ref f) = true ∧ Binds K fd ps [] ∧ ∀ ds d, g ds = some d → ds.length = n
theorem callee_of {x qual y : Str} {st : Stmt} {f : Addr} {fd : FuncData} {ps : List Str} {k n m : Nat} {g : Env → Option Out} (F : Fun K y qual st f fd) (O : FnOk P w K mg base CX0 k f fd ps (spF K T n (runF n m g))) (hm : mg x = some (.ref f)) (hb : Binds K fd ps []) : Callee P w K mg base T k x (runF n m g) :=
  ⟨f, fd, ps, n, O, hm, F.kp, hb, fun ds d h => (ite_opt (by unfold runF at h; exact h)).1⟩
end
theorem de_call {x : Str} {k : Nat} {g : List Dt → Option Dt} {p pos : Pos} {e : Expr} {es : List Expr} {fa : Env → Option (List Dt)} (C : Callee X.prog X.w X.K X.mg X.base T k x g) (hr : Room k X.A) (ha : DA X T (e :: es) fa) (hg : Gl X x := by rfl)
    (hdb : (x == ("__debug__" : Str)) = false := by decide +kernel) (he : starEach (e :: es) X.env = (false, eval e X.env) :: starEach es X.env := by rfl) (hpl : (backTo pos (starEach es X.env)).any (·.1) = false := by rfl) : DE X T (.Call (.Name x p) (e :: es) [] pos) (fCall g fa) := by
  obtain ⟨f, fd, ps, n, O, hm, hk, hb, hn⟩ := C.ex
  obtain ⟨ta, pa, ga⟩ := ha.ex
  refine ⟨_, pe_call (E := E0) O hr hg hm hk hb .nil pass0 pa hdb he hpl, fun G H σ r d F h Q q => ?_⟩
  unfold fCall at h
  cases e1 : fa r with
  | none => rw [e1] at h; cases h
  | some ds =>
    rw [e1] at h
    replace h : g ds = some d := h
    refine ga G H σ r ds F e1 _ fun vs G1 H1 n1 p1 => ?_
    rw [List.append_nil]
    exact ⟨by rw [p1.length]; exact hn ds d h, G1, ds, d, n1.gh, p1, h, fun v G2 H2 n2 p2 => q v G2 H2 (n1.trans n2) p2⟩
theorem de_call0 {x : Str} {k : Nat} {g : List Dt → Option Dt} {p pos : Pos} (C : Callee X.prog X.w X.K X.mg X.base T k x g) (hr : Room k X.A) (hg : Gl X x := by rfl) (hdb : (x == ("__debug__" : Str)) = false := by decide +kernel) : DE X T (.Call (.Name x p) [] [] pos) (fun _ => g []) := by
  obtain ⟨f, fd, ps, n, O, hm, hk, hb, hn⟩ := C.ex
  refine ⟨_, pe_call0 (E := E0) O hr hg hm hk hb .nil pass0 hdb, fun G H σ r d F h Q q => ?_⟩
  show spF X.K T n g ([] ++ []) H Q E0
  exact ⟨hn [] d h, G, [], d, F.gh, .nil, h, fun v G2 H2 n2 p2 => q v G2 H2 n2 p2⟩
end
end PL

/-! Constants of the module; own classes made. -/
namespace PL
open PySem PySem.Spec PyProof.Rows L2
section
variable {X : Cx} {T : CT} {K : PySem.W.Frag} {mg : Str → Option Value}
/-- a name of the module is worth that data -/
def GlobIs (K : PySem.W.Frag) (T : CT) (mg : Str → Option Value) (x : Str) (d : Dt) : Prop := ∃ v u, mg x = some u ∧ RelV v u ∧ ∀ G, Rp K T G v d
theorem de_gl {x : Str} {d : Dt} {pos : Pos} (h : GlobIs X.K T X.mg x d) (hg : Gl X x := by rfl) (hdb : (x == ("__debug__" : Str)) = false := by decide +kernel) : DE X T (.Name x pos) (fC d) := by
  obtain ⟨v, u, hm, r, hd⟩ := h
  exact de_glob hm r hd hg hdb
theorem glob_int {x : Str} {i : Int} {t : Tok} (h : mg x = some (.int i t)) : GlobIs K T mg x (.int i) := ⟨.int i, _, h, ⟨t, rfl⟩, fun _ => .int i⟩
theorem glob_str {x s : Str} {t : Tok} (l : List Nat) (h : mg x = some (.str s t)) (hs : s = ⟨l.toArray⟩) : GlobIs K T mg x (.str l) := by
  subst hs
  exact ⟨.str _, _, h, ⟨t, rfl⟩, fun _ => .str l⟩
def valD : Value → Option (V × Dt)
  | .int i _ => some (.int i, .int i)
  | .str x _ => some (.str ⟨x.cps.toList.toArray⟩, .str x.cps.toList)
  | _ => none
def valsD : List Value → Option (List V × List Dt)
  | [] => some ([], [])
  | u :: us => match valD u, valsD us with
    | some (v, d), some (vs, ds) => some (v :: vs, d :: ds)
    | _, _ => none
theorem valD_ok {u : Value} {v : V} {d : Dt} (h : valD u = some (v, d)) : RelV v u ∧ ∀ H, Rp K T H v d := by
  cases u with
  | int i t => cases h; exact ⟨⟨_, rfl⟩, fun _ => .int _⟩
  | str s t =>
    cases h
    refine ⟨⟨t, ?_⟩, fun _ => .str _⟩
    have : (⟨s.cps.toList.toArray⟩ : Str) = s := by cases s; simp
    rw [this]
  | _ => cases h
theorem valsD_ok : ∀ {us : List Value} {vs : List V} {ds : List Dt}, valsD us = some (vs, ds) → Vals vs us ∧ ∀ H, RpA K T H vs ds
  | [], _, _, h => by cases h; exact ⟨.nil, fun _ => .nil⟩
  | u :: us, vs, ds, h => by
    unfold valsD at h
    split at h
    · rename_i v d vs' ds' h1 h2
      cases h
      obtain ⟨a, b⟩ := valD_ok (K := K) (T := T) h1
      obtain ⟨c, e⟩ := valsD_ok h2
      exact ⟨.cons a c, fun H => .cons (b H) (e H)⟩
    · cases h
theorem glob_tup {x : Str} {a : Addr} {dd : Option Addr} {its : Array Value} {n : Nat} {sl : Array (Option Value)} {vs : List V} {ds : List Dt} (h : mg x = some (.ref a)) (l : K.lookup a = some ⟨.type "tuple", dd, .seq its n, sl⟩) (hv : valsD its.toList = some (vs, ds)) (hs : ds.length ≤ 1000) (hi : ∀ n l, ds ≠ .int n :: l := by intro n l h; cases h) : GlobIs K T mg x (.tup ds) := by
  obtain ⟨c, e⟩ := valsD_ok (K := K) (T := T) hv
  have el := (e fun _ => none).length
  have cl := c.length
  refine ⟨.ref a, _, h, rfl, fun G => .tup (.inr ⟨_, its, n, l, rfl, rfl, ?_, c⟩) (e G) (fun n ns z => by
    have q := e G
    rw [z] at q
    cases q with
    | cons q1 q2 => cases q1; exact absurd rfl (hi _ _))⟩
  have : its.size = its.toList.length := by simp
  exact sz5 (by omega)
theorem room65 {k : Nat} {A : Around} (h : Room k A) : A.units + 65 < cLine := by have := h.un; omega

/-! ### a new object: its __init__ stores its fields -/
/-- how the heap grows while the object at x is filled -/
structure NxB (x : Addr) (G H G' H' : Hp) : Prop where
  gg : Same G G'
  hh : ∀ b o, b ≠ x → H b = some o → H' b = some o
  gh : Same G' H'
  fr : ∀ a, G' a = none ∨ G a ≠ none ∨ Nw H a
  nf : NoF H H'
def GIn (K : PySem.W.Frag) (T : CT) (c : Nat) (ts : TS) (names : List Str) (g : Env → Option (List Dt)) : Prop :=
  ∀ (G H : Hp) (σ : L2.St) (r : Env) (es : List Dt) (x dx : Addr) (fs : List (Str × V)), Fits K T G H σ r → (∀ (i : Nat) (ds : List Dt), r[i]? ≠ some (Sl.own ds)) → (∀ (i : Nat) (t : OT), r[i]? ≠ some (Sl.tre t)) → σ[0]? = some (some (.ref x)) → G x = none → H x = some (.ins (T c).1 dx fs) → (fs.map Prod.fst ++ names).Nodup → fs.length + names.length < 1000 → g r = some es →
    ∀ D : Ends, (∀ G' H' vs, NxB x G H G' H' → G' x = none → H' x = some (.ins (T c).1 dx (fs ++ names.zip vs)) → RpA K T G' vs es → vs.length = names.length → D.nx σ H') → ts D σ H
structure DIn (X : Cx) (T : CT) (c : Nat) (sts : List Stmt) (names : List Str) (g : Env → Option (List Dt)) : Prop where
  ex : ∃ ts, PSs X sts ts ∧ GIn X.K T c ts names g
theorem putF_new {f : Str} {v : V} : ∀ {fs : List (Str × V)}, f ∉ fs.map Prod.fst → putF f v fs = fs ++ [(f, v)]
  | [], _ => rfl
  | (g, w) :: fs, h => by
    have h1 : ¬ g = f := fun e => h (by rw [e]; exact List.mem_cons_self)
    have h2 : f ∉ fs.map Prod.fst := fun m => h (List.mem_cons_of_mem _ m)
    unfold putF
    rw [if_neg h1, putF_new h2]
    rfl
theorem gin_one {c : Nat} {f : Str} {tv ta : TE} {e : Env → Option Dt} (hv : GE K T tv e) (ha : ta = tVar 0) (cl : Cls K (T c).1) (na : NoAttr K (T c).1 f) {ts : TS} {names : List Str} {g : Env → Option (List Dt)} (ht : GIn K T c ts names g) : GIn K T c (tSeq (sFld K ta tv f) ts) (f :: names) (fun r => (e r).bind fun d => (g r).map fun ds => d :: ds) := fun G H σ r es x dx fs F no not hs hG hx nd hl he D k => by
  subst ha
  dsimp only at he
  cases e1 : e r with
  | none => rw [e1] at he; cases he
  | some d =>
    rw [e1] at he
    replace he : (g r).map (fun ds => d :: ds) = some es := he
    cases e2 : g r with
    | none => rw [e2] at he; cases he
    | some ds =>
      rw [e2] at he
      cases he
      have nf : f ∉ fs.map Prod.fst := fun m => by
        rw [List.nodup_append] at nd
        exact nd.2.2 f m f List.mem_cons_self rfl
      refine hv G H σ r d F e1 _ fun y G1 H1 n1 q1 => ?_
      refine ⟨.ref x, hs, x, _, dx, fs, rfl, n1.hh _ _ hx, cl, na, by rw [List.length_cons] at hl; omega, ?_⟩
      rw [putF_new nf]
      have hG1 : G1 x = none := n1.out hG hx
      have F1 : Fits K T G1 (upd H1 x (.ins (T c).1 dx (fs ++ [(f, y)]))) σ r := ⟨same_updR n1.gh hG1, F.len, (F.nx n1).val, fun i ds h => absurd h (no i ds), F.sep, Tr.nil not⟩
      refine ht G1 _ σ r ds x dx (fs ++ [(f, y)]) F1 no not hs hG1 upd_same (by rw [List.map_append, List.append_assoc]; exact nd) (by rw [List.length_append, List.length_singleton]; rw [List.length_cons] at hl; omega) e2 _ fun G2 H2 vs n2 g2 h2 q2 l2 => ?_
      refine k G2 H2 (y :: vs) ⟨n1.gg.trans n2.gg, fun b o hb h => n2.hh b o hb (by rw [upd_ne hb]; exact n1.hh _ _ h), n2.gh, fun a => ?_, n1.nf.trans ((NoF.upd (fun _ _ z => by cases z)).trans n2.nf)⟩ g2 ?_ (.cons (Rp.mono n2.gg d q1) q2) (by rw [List.length_cons, List.length_cons, l2])
      · rcases n2.fr a with h | h | h
        · exact .inl h
        · rcases n1.fr a with q | q | q
          · exact absurd q h
          · exact .inr (.inl q)
          · exact .inr (.inr q)
        · exact .inr (.inr ((h.upd (fun _ z => by cases z)).2.back n1.hh))
      · rw [h2, List.append_assoc]
        rfl
theorem din_nil {c : Nat} : DIn X T c [] [] (fun _ => some []) := ⟨_, pss_nil, fun G H σ r es x dx fs F no not hs hG hx nd hl he D k => by
  cases he
  exact k G H [] ⟨Same.refl G, fun _ _ _ h => h, F.gh, (Nx.refl F.gh).fr, NoF.refl H⟩ hG (by simpa using hx) .nil rfl⟩
theorem din_cons {c : Nat} {f : Str} {v : Expr} {e : Env → Option Dt} {rest : List Stmt} {names : List Str} {g : Env → Option (List Dt)} {x : Str} {p1 pos' pos : Pos} (cl : Cls X.K (T c).1) (na : NoAttr X.K (T c).1 f) (hv : DE X T v e) (hr : DIn X T c rest names g) (hN : X.N[0]? = some x := by rfl) (hvis : Vis X.env.scope x := by first | exact Or.inl rfl | exact Or.inr (Or.inl rfl))
    (hs : swapsWith v (some (.Attribute (.Name x p1) f pos')) pos.line X.env = pure false := by rfl) (hd : (x == ("__debug__" : Str)) = false := by decide +kernel) (hcd : (x == ("__classdict__" : Str)) = false := by decide +kernel) :
    DIn X T c (.Assign [.Attribute (.Name x p1) f pos'] v pos :: rest) (f :: names) (fun r => (e r).bind fun d => (g r).map fun ds => d :: ds) := by
  obtain ⟨tv, pv, gv⟩ := hv.ex
  obtain ⟨ts, ps, gs⟩ := hr.ex
  exact ⟨_, pss_cons (ps_fld (pe_var hN hvis hd hcd) pv hs) ps, gin_one gv rfl cl na gs⟩
def initF (n m : Nat) (g : Env → Option (List Dt)) (ds : List Dt) : Option (List Dt) := if ds.length = n then g (Sl.no :: ds.map Sl.val ++ List.replicate m Sl.no) else none
def spI (K : PySem.W.Frag) (T : CT) (c n : Nat) (f : List Dt → Option (List Dt)) : Sp := fun vs H Q _ => ∃ G ds es x dx as, vs = .ref x :: as ∧ as.length = n ∧ Same G H ∧ G x = none ∧ H x = some (.ins (T c).1 dx []) ∧ RpA K T G as ds ∧ f ds = some es ∧
  ∀ G' H' fs, NxB x G H G' H' → G' x = none → H' x = some (.ins (T c).1 dx fs) → fs.map Prod.fst = (T c).2 → RpA K T G' (fs.map Prod.snd) es → Q .non H'
section
variable {P : Program} {w : World} {base : Heap}
theorem okI {x qual : Str} {st : Stmt} {f : Addr} {fd : FuncData} {N ps : List Str} {k m n c : Nat} {g : Env → Option (List Dt)} (F : Fun K x qual st f fd) (S : FnScope N ps (defScope st)) (hm : N.length = ps.length + m) (hp : ps.length = n + 1) (hnd : (T c).2.Nodup) (hfew : (T c).2.length < 1000)
    (hb : ∀ (cdv : Value) (A : Around) (os : List PySem.Env) (s : Shared) (H : Hp) (E : XK), Room k (A.deeper (envOfC qual (defScope st) s.heap.objs.size f cdv)) → DIn (cxOf CX0 P w K mg base N qual (defScope st) f cdv A os s H E).nox T c (defBody st) (T c).2 g) :
    FnOk P w K mg base CX0 (k + 1) f fd ps (spI K T c n (initF n m g)) := by
  refine F.ok S (fun vs H Q E h => ?_) (fun cdv A outer s H vs Q E hr h => ?_)
  · obtain ⟨G, ds, es, x, dx, as, rfl, hl, _⟩ := h
    rw [List.length_cons]; omega
  · obtain ⟨G, ds, es, x, dx, as, rfl, hl, gh, hG, hx, q, hd, k⟩ := h
    obtain ⟨t, p, gs⟩ := (hb cdv A outer s H E hr).ex
    refine ⟨t, p, ?_⟩
    have hq := q.length
    unfold initF at hd
    rw [if_pos (show ds.length = n by omega)] at hd
    have no_own : ∀ (i : Nat) (es : List Dt), (Sl.no :: ds.map Sl.val ++ List.replicate m Sl.no)[i]? ≠ some (.own es) := fun i es h => by
      have hm := List.mem_of_getElem? h
      simp at hm
    have no_tre : ∀ (i : Nat) (t : OT), (Sl.no :: ds.map Sl.val ++ List.replicate m Sl.no)[i]? ≠ some (Sl.tre t) := fun i t h => by
      have hm := List.mem_of_getElem? h
      simp at hm
    have F0 : Fits K T G H (L2.start N (.ref x :: as)) (Sl.no :: ds.map Sl.val ++ List.replicate m Sl.no) := by
      refine ⟨gh, ?_, fun i d h => ?_, fun i es h => absurd h (no_own i es), fun i j es fs p h => absurd h (no_own i es), Tr.nil no_tre⟩
      · unfold L2.start
        simp only [List.length_append, List.length_map, List.length_replicate, List.length_cons]
        omega
      · cases i with
        | zero => cases h
        | succ i =>
          have h' : (ds.map Sl.val ++ List.replicate m Sl.no)[i]? = some (.val d) := h
          by_cases hi : i < ds.length
          · rw [List.getElem?_append_left (by simpa using hi), List.getElem?_map, List.getElem?_eq_getElem hi] at h'
            cases h'
            obtain ⟨v, hv, rv⟩ := q.get (List.getElem?_eq_getElem hi)
            refine ⟨v, ?_, rv⟩
            unfold L2.start
            show (List.map some as ++ _)[i]? = _
            rw [List.getElem?_append_left (by rw [List.length_map]; omega), List.getElem?_map, hv]
            rfl
          · rw [List.getElem?_append_right (by simpa using hi), List.getElem?_replicate] at h'
            split at h' <;> cases h'
    refine gs G H _ _ es x dx [] F0 no_own no_tre rfl hG hx (by simpa using hnd) (by simpa using hfew) hd _ fun G' H' vs n' g' h' q' l' => ?_
    rw [List.nil_append] at h'
    refine k G' H' _ n' g' h' ?_ ?_
    · rw [List.map_fst_zip (by omega)]
    · rw [List.map_snd_zip (by omega)]
      exact q'
structure MakeOk (P : Program) (w : World) (K : PySem.W.Frag) (mg : Str → Option Value) (base : Heap) (T : CT) (k c : Nat) (x : Str) (g : List Dt → Option (List Dt)) : Prop where
  ex : ∃ (f : Addr) (fd : FuncData) (ps : List Str) (n : Nat), FnOk P w K mg base CX0 k f fd ps (spI K T c n g) ∧ Mk K (T c).1 f ∧ mg x = some (.ref (T c).1) ∧ Binds K fd ps [] ∧ ∀ ds d, g ds = some d → ds.length = n
theorem make_of {x qual y : Str} {st : Stmt} {f : Addr} {fd : FuncData} {ps : List Str} {k n m c : Nat} {g : Env → Option (List Dt)} (F : Fun K y qual st f fd) (O : FnOk P w K mg base CX0 k f fd ps (spI K T c n (initF n m g))) (M : Mk K (T c).1 f) (hm : mg x = some (.ref (T c).1)) (hb : Binds K fd ps []) : MakeOk P w K mg base T k c x (initF n m g) :=
  ⟨f, fd, ps, n, O, M, hm, hb, fun ds d h => (ite_opt (by unfold initF at h; exact h)).1⟩
end
def fMake (c : Nat) (g : List Dt → Option (List Dt)) (a : Env → Option (List Dt)) : Env → Option Dt := fun r => ((a r).bind g).map (Dt.obj c)
theorem made_obj {c : Nat} {g : List Dt → Option (List Dt)} {n : Nat} {G H G1 H1 : Hp} {vs : List V} {ds es : List Dt} {E : XK} {Q : VK} (hn : vs.length = n) (n1 : Nx G H G1 H1) (q1 : RpA K T G1 vs ds) (h : g ds = some es) (q : ∀ v G' H', Nx G H G' H' → Rp K T G' v (.obj c es) → Q v H') :
    ∀ x dx, H1 x = none → H1 dx = none → dx ≠ x → spI K T c n g (.ref x :: (vs ++ [])) (upd (upd H1 dx (.own x)) x (.ins (T c).1 dx [])) (fun v H2 => v = .non ∧ Q (.ref x) H2) E := fun x dx hx hdx ne => by
  have gx : G1 x = none := n1.gh.free hx
  have gdx : G1 dx = none := n1.gh.free hdx
  refine ⟨G1, ds, es, x, dx, vs, by rw [List.append_nil], hn, fun b o e => ?_, gx, upd_same, q1, h, fun G' H' fs n' g' h' hf hr => ⟨rfl, ?_⟩⟩
  · rw [upd_ne (ne_of_none e gx), upd_ne (ne_of_none e gdx)]
    exact n1.gh _ _ e
  · refine q (.ref x) (upd G' x (.ins (T c).1 dx fs)) H' ⟨(n1.gg.trans n'.gg).trans (same_new g'), fun b o e => ?_, same_updL n'.gh h', fun a => ?_, n1.nf.trans ((NoF.upd (fun _ _ z => by cases z)).trans ((NoF.upd (fun _ _ z => by cases z)).trans n'.nf))⟩ (.obj upd_same hf (RpA.mono (same_new g') _ hr))
    · have e1 := n1.hh _ _ e
      have hb : b ≠ x := ne_of_none e1 hx
      refine n'.hh b o hb ?_
      rw [upd_ne hb, upd_ne (ne_of_none e1 hdx)]
      exact e1
    · by_cases ha : a = x
      · exact .inr (.inr (.inl (by rw [ha]; exact n1.hh.free hx)))
      · rw [upd_ne ha]
        rcases n'.fr a with z | z | z
        · exact .inl z
        · rcases n1.fr a with y | y | y
          · exact absurd y z
          · exact .inr (.inl y)
          · exact .inr (.inr y)
        · exact .inr (.inr (((z.upd (fun _ z => by cases z)).2.upd (fun _ z => by cases z)).2.back n1.hh))
theorem de_make {x : Str} {k c : Nat} {g : List Dt → Option (List Dt)} {p pos : Pos} {e : Expr} {es : List Expr} {fa : Env → Option (List Dt)} (C : MakeOk X.prog X.w X.K X.mg X.base T k c x g) (hr : Room (k + 1) X.A) (ha : DA X T (e :: es) fa) (hg : Gl X x := by rfl)
    (hx : ∀ {f : Addr} {fd : FuncData} {ps : List Str} {sp : Sp} {t : TA}, Mk X.K (T c).1 f → FnOk X.prog X.w X.K X.mg X.base CX0 k f fd ps sp → X.mg x = some (.ref (T c).1) → Binds X.K fd ps [] → PA X (e :: es) t → PE X (.Call (.Name x p) (e :: es) [] pos) (tMake (T c).1 sp [] E0 t)) :
    DE X T (.Call (.Name x p) (e :: es) [] pos) (fMake c g fa) := by
  obtain ⟨f, fd, ps, n, O, M, hm, hb, hn⟩ := C.ex
  obtain ⟨ta, pa, ga⟩ := ha.ex
  refine ⟨_, hx M O hm hb pa, fun G H σ r d F h Q q => ?_⟩
  unfold fMake at h
  cases e1 : fa r with
  | none => rw [e1] at h; cases h
  | some ds =>
    rw [e1] at h
    replace h : (g ds).map (Dt.obj c) = some d := h
    cases e2 : g ds with
    | none => rw [e2] at h; cases h
    | some es' =>
      rw [e2] at h
      cases h
      refine ga G H σ r ds F e1 _ fun vs G1 H1 n1 p1 => ?_
      exact made_obj (by rw [p1.length]; exact hn ds es' e2) n1 p1 e2 q
theorem de_make0 {x : Str} {k c : Nat} {g : List Dt → Option (List Dt)} {p pos : Pos} (C : MakeOk X.prog X.w X.K X.mg X.base T k c x g) (hr : Room (k + 1) X.A)
    (hx : ∀ {f : Addr} {fd : FuncData} {ps : List Str} {sp : Sp}, Mk X.K (T c).1 f → FnOk X.prog X.w X.K X.mg X.base CX0 k f fd ps sp → X.mg x = some (.ref (T c).1) → Binds X.K fd ps [] → PE X (.Call (.Name x p) [] [] pos) (tMake (T c).1 sp [] E0 tNil)) :
    DE X T (.Call (.Name x p) [] [] pos) (fMake c g fNil) := by
  obtain ⟨f, fd, ps, n, O, M, hm, hb, hn⟩ := C.ex
  refine ⟨_, hx M O hm hb, fun G H σ r d F h Q q => ?_⟩
  unfold fMake fNil at h
  replace h : (g []).map (Dt.obj c) = some d := h
  cases e2 : g [] with
  | none => rw [e2] at h; cases h
  | some es' =>
    rw [e2] at h
    cases h
    exact made_obj (vs := []) (hn [] es' e2) (Nx.refl F.gh) .nil e2 q
end
end PL

/-! ### texts and lists a number of times -/
namespace PL
open PySem PySem.Spec PyProof.Rows L2
section
variable {X : Cx} {T : CT}
theorem foldl_arr (a : Array Nat) : ∀ (n : Nat) (b : Array Nat), ((List.replicate n a).foldl (· ++ ·) b).toList = b.toList ++ (List.replicate n a.toList).flatten
  | 0, b => by simp
  | n + 1, b => by
    rw [List.replicate_succ, List.foldl_cons, foldl_arr a n, List.replicate_succ, List.flatten_cons, Array.toList_append, List.append_assoc]
theorem txt_mul (l : List Nat) (n : Int) : Txt.mul ⟨l.toArray⟩ n = ⟨(List.replicate n.toNat l).flatten.toArray⟩ := by
  unfold Txt.mul
  by_cases h1 : n < 1
  · rw [if_pos h1]
    have : n.toNat = 0 := by omega
    rw [this]; rfl
  · rw [if_neg h1]
    by_cases h2 : n = 1
    · subst h2
      rw [if_pos (by simp)]
      simp
    · by_cases h3 : l = []
      · subst h3
        rw [if_pos (by simp [Str.length])]
        simp
      · rw [if_neg (by
          have : l.length ≠ 0 := fun h => h3 (List.eq_nil_of_length_eq_zero h)
          simp [Str.length, h2, h3])]
        congr 1
        refine Array.ext' ?_
        rw [foldl_arr]
        simp
theorem op_repS : OpR X (binaryOp .Mult) (fun x y H Q => ∃ (l : List Nat) (n : Int), x = .str ⟨l.toArray⟩ ∧ y = .int n ∧ l.length ≤ 1000 ∧ -1000 ≤ n ∧ n ≤ 1000 ∧ Q (.str ⟨(List.replicate n.toNat l).flatten.toArray⟩) H) := by
  intro pins s σ H x y v u Q I rx ry h
  obtain ⟨l, n, rfl, rfl, h1, h2, h3, q⟩ := h
  obtain ⟨t, rfl⟩ := rx
  obtain ⟨t', rfl⟩ := ry
  refine SB.mul (mulOk_of 1000 1000 (by simpa [Str.length] using h1) h3 (by omega) (by decide) (by decide)) fun t' tk => ?_
  rw [txt_mul]
  exact ⟨.str ⟨(List.replicate n.toNat l).flatten.toArray⟩, H, I.tok _, ⟨_, rfl⟩, q⟩
def repD (d e : Dt) : Option Dt := match d, e with
  | .str l, .int n => if l.length ≤ 1000 ∧ -1000 ≤ n ∧ n ≤ 1000 then some (.str (List.replicate n.toNat l).flatten) else none
  | .lst l, .int n => if l.length ≤ 1000 ∧ -1000 ≤ n ∧ n ≤ 1000 then some (.lst (List.replicate n.toNat l).flatten) else none
  | _, _ => none
theorem rpa_rep {K : PySem.W.Frag} {G : Hp} {xs : List V} {ds : List Dt} (h : RpA K T G xs ds) : ∀ n : Nat, RpA K T G (List.replicate n xs).flatten (List.replicate n ds).flatten
  | 0 => .nil
  | n + 1 => by rw [List.replicate_succ, List.replicate_succ, List.flatten_cons, List.flatten_cons]; exact h.append (rpa_rep h n)
theorem bd_rep : BinD X T (binaryOp .Mult) repD := by
  refine ⟨_, op_repS.or op_rep, fun G H x y d e z gh p q hz Q k => ?_⟩
  unfold repD at hz
  split at hz
  · rename_i l n
    obtain ⟨hc, rfl⟩ := ite_some hz
    cases p
    cases q
    exact .inl ⟨l, n, rfl, rfl, hc.1, hc.2.1, hc.2.2, k _ G H (Nx.refl gh) (.str _)⟩
  · rename_i l n
    obtain ⟨hc, rfl⟩ := ite_some hz
    cases q
    cases p with
    | @lst _ xs _ p1 p2 =>
      refine .inr ⟨_, _, _, rfl, rfl, gh _ _ p1, by omega, by omega, ?_, fun p hp => ?_⟩
      · have h1 : xs.length ≤ 1000 := by rw [p2.length]; exact hc.1
        have h2 : n.toNat ≤ 1000 := by omega
        exact Nat.le_trans (Nat.mul_le_mul h1 h2) (by decide)
      · have nn := Nx.new (o := .lst (List.replicate n.toNat xs).flatten) gh hp
        exact k _ _ _ nn (.lst upd_same (RpA.mono nn.gg _ (rpa_rep p2 _)))
  · cases hz
/-- a class without an own __init__, made -/
structure MakeO (K : PySem.W.Frag) (mg : Str → Option Value) (C : Addr) (x : Str) : Prop where
  makes : PySem.W.makesIn K C = true
  init : PySem.W.findIn K (.ref C) "__init__" = some (some (.builtin "object.__init__"))
  kp : PySem.W.keepIn K (.ref C) = true
  mg : mg x = some (.ref C)
theorem run_makeO {C : Addr} {x : Str} {pins : List (Addr × Obj)} {σ : L2.St} {H : Hp} {s : Shared} {Q : VK} (M : MakeO X.K X.mg C x) (I : Inv X pins σ H s)
    (h : ∀ y dx, H y = none → H dx = none → dx ≠ y → Q (.ref y) (upd (upd H dx (.own y)) y (.ins C dx []))) :
    wpAny (model X.prog X.w) X.A (call (.ref C) []) (EP X pins σ Q) X.xe s := by
  have hq := h (s.heap.objs.size + 1) s.heap.objs.size (I.hok.fresh (Nat.le_succ _)) (I.hok.fresh (Nat.le_refl _)) (Nat.ne_of_lt (Nat.lt_succ_self _))
  have I2 := Inv.made (C := C) I
  refine wpAny_call (make_map0 I.kIn M.makes M.init (fun self => PySem.W.Looks.of_pure (PySem.W.oi_bind self)) ?_)
  have Y := PySem.W.makes_of (M := model X.prog X.w) I.kIn M.makes
  obtain ⟨hh, g, d, t, os⟩ := s
  have e2 : ((hh.push PySem.W.emptyDict).push (PySem.W.instObj C hh.objs.size)).get? (hh.objs.size + 1) = some (PySem.W.instObj C hh.objs.size) := by
    have := Heap.get?_push_size (hh.push PySem.W.emptyDict) (o := PySem.W.instObj C hh.objs.size) rfl
    rwa [Heap.size_push] at this
  have t1 : PySem.W.Looks (model X.prog X.w) ((hh.push PySem.W.emptyDict).push (PySem.W.instObj C hh.objs.size)) (typeOf (.ref (hh.objs.size + 1))) (.ref C) := (PySem.W.Looks.ld e2).andThen .now
  have t2 : PySem.W.Looks (model X.prog X.w) ((hh.push PySem.W.emptyDict).push (PySem.W.instObj C hh.objs.size)) (isInstance (.ref (hh.objs.size + 1)) (.type "object")) true := t1.andThen (Y.top.keeps fun b o e => Heap.get?_push_of_some _ (Heap.get?_push_of_some _ e))
  refine codeAny_call_builtin PySem.W.oi_plain PySem.W.entry_oi (@PySem.W.check_slot (model X.prog X.w) _ _ _ "object.__init__" "object" "__init__" (.ref (hh.objs.size + 1)) [] [] _ PySem.W.oi_kind PySem.W.oi_split t2 (PySem.W.oi_args (.ref (hh.objs.size + 1))) ?_)
  rw [PySem.W.oi_run]
  exact wpAny_pure (And.intro rfl ⟨V.ref (hh.objs.size + 1), _, I2, rfl, hq⟩)
theorem de_makeO {x : Str} {c : Nat} {p pos : Pos} (M : MakeO X.K X.mg (T c).1 x) (hn : (T c).2 = []) (hg : Gl X x := by rfl) (hdb : (x == ("__debug__" : Str)) = false := by decide) : DE X T (.Call (.Name x p) [] [] pos) (fC (.obj c [])) := by
  refine ⟨fun σ H Q => ∀ y dx, H y = none → H dx = none → dx ≠ y → Q (.ref y) (upd (upd H dx (.own y)) y (.ins (T c).1 dx [])), ⟨fun pins s σ H Q I h => ?_⟩, fun G H σ r d F h Q q => ?_⟩
  · refine wpAny_Call_Name_kw (ld_glob I hg M.mg ?_ hdb)
    exact PySem.W.callWith_K0 I.kIn M.kp (run_makeO M I h)
  · cases h
    intro y dx hy hdx ne
    have gy : G y = none := F.gh.free hy
    have gdx : G dx = none := F.gh.free hdx
    refine q (.ref y) (upd G y (.ins (T c).1 dx [])) _ ⟨same_new gy, fun b o e => ?_, fun b o e => ?_, fun a => ?_, (NoF.upd (fun _ _ z => by cases z)).trans (NoF.upd (fun _ _ z => by cases z))⟩ (.obj upd_same (by rw [hn]; rfl) .nil)
    · rw [upd_ne (ne_of_none e hy), upd_ne (ne_of_none e hdx)]; exact e
    · by_cases hb : b = y
      · rw [hb, upd_same] at e ⊢; exact e
      · rw [upd_ne hb] at e ⊢
        rw [upd_ne (ne_of_none e gdx)]
        exact F.gh _ _ e
    · by_cases ha : a = y
      · exact .inr (.inr (by rw [ha]; exact .inl hy))
      · rw [upd_ne ha]
        by_cases z : G a = none
        · exact .inl z
        · exact .inr (.inl z)
end
end PL

/-! ### slices with a step; texts split -/
namespace PL
open PySem PySem.Spec PyProof.Rows L2
/-- the elements at the places of a slice -/
def pickL {α : Type} (l : List α) (lo hi st : Option Int) : List α :=
  (sliceRange (sliceBounds lo hi st l.length).1 (sliceBounds lo hi st l.length).2.1 (sliceBounds lo hi st l.length).2.2).filterMap (l[·]?)
theorem vals_pick {vs : List V} {us : List Value} (h : Vals vs us) : ∀ is : List Nat, Vals (is.filterMap (vs[·]?)) (is.filterMap (us[·]?))
  | [] => .nil
  | i :: is => by
    have hl := h.length
    by_cases hi : i < vs.length
    · obtain ⟨u, hu, r⟩ := h.get (List.getElem?_eq_getElem hi)
      rw [List.filterMap_cons_some (List.getElem?_eq_getElem hi), List.filterMap_cons_some hu]
      exact .cons r (vals_pick h is)
    · rw [List.filterMap_cons_none (List.getElem?_eq_none (by omega)), List.filterMap_cons_none (List.getElem?_eq_none (by omega))]
      exact vals_pick h is
theorem rpa_pick {K : PySem.W.Frag} {T : CT} {G : Hp} {vs : List V} {ds : List Dt} (h : RpA K T G vs ds) : ∀ is : List Nat, RpA K T G (is.filterMap (vs[·]?)) (is.filterMap (ds[·]?))
  | [] => .nil
  | i :: is => by
    have hl := h.length
    by_cases hi : i < ds.length
    · obtain ⟨v, hv, r⟩ := h.get (List.getElem?_eq_getElem hi)
      rw [List.filterMap_cons_some (List.getElem?_eq_getElem hi), List.filterMap_cons_some hv]
      exact .cons r (rpa_pick h is)
    · rw [List.filterMap_cons_none (List.getElem?_eq_none (by omega)), List.filterMap_cons_none (List.getElem?_eq_none (by omega))]
      exact rpa_pick h is
def tStepL (K : PySem.W.Frag) (te : TE) (tl th ts : TO) : TE := fun σ H Q => te σ H fun x H1 => tl σ H1 fun lo H2 => th σ H2 fun hi H3 => ts σ H3 fun st H4 => st ≠ some 0 ∧ ∃ a xs, x = .ref a ∧ SqL K H4 a xs ∧ (pickL xs lo hi st).length ≤ 1000000 ∧ ∀ p, H4 p = none → Q (.ref p) (upd H4 p (.lst (pickL xs lo hi st)))
section
variable {X : Cx} {T : CT}
theorem pe_stepL {e : Expr} {lo hi : Option Expr} {st : Expr} {te : TE} {tl th ts : TO} {p2 pos : Pos} (he : PE X e te) (hl : PO X lo tl) (hh : PO X hi th) (hs : PO X (some st) ts)
    (hsub : ∀ a b, subscripted (.Slice lo hi (some st) p2) false (.ref a) (.ref b) = operate [.ref a, .ref b] (getItem (.ref a) (.ref b)) := by intro _ _; with_unfolding_all rfl) :
    PE X (.Subscript e (.Slice lo hi (some st) p2) pos) (tStepL X.K te tl th ts) := by
  refine ⟨fun pins s σ H Q I h => ?_⟩
  refine Subscript_ (thn (he.run pins s σ H _ I h) fun v s1 ⟨x, H1, I1, r1, q1⟩ => ?_)
  refine wpAny_Slice (thn (hl.run pins s1 σ H1 _ I1 q1) fun vl s2 ⟨l, H2, I2, pl, q2⟩ => ?_)
  refine thn (hh.run pins s2 σ H2 _ I2 q2) fun vu s3 ⟨u, H3, I3, pu, q3⟩ => ?_
  refine thn (hs.run pins s3 σ H3 _ I3 q3) fun vs s4 ⟨o, H4, I4, ps, q4⟩ => ?_
  obtain ⟨h0, a, xs, ex, hx, hlen, q⟩ := q4
  subst ex
  cases r1
  have I5 : Inv X pins σ H4 { s4 with heap := s4.heap.push { cls := .type "slice", data := .fields #[vl, vu, vs] } } := I4.kept (t' := s4.toks) fun b ob q => Heap.get?_push_of_some _ q
  obtain ⟨its, r, ht, hz⟩ := I5.list hx
  have hlen2 := r.length
  show wpAny (model X.prog X.w) X.A (subscriptTail e (.Slice lo hi (some st) p2) (.ref a) (.ref s4.heap.objs.size)) (EP X pins σ Q) X.xe { s4 with heap := s4.heap.push { cls := .type "slice", data := .fields #[vl, vu, vs] } }
  refine tail_any (ops := [.ref a, .ref s4.heap.objs.size]) ht.isList.typeIs (PySem.slot_list_getitem.lookup) ?_ (hsub _ _)
  refine wpAny_getItem_list_slice ht.isList (Heap.IsSliceOf.new _ vl vu vs) pl pu ps h0 ?_ (by rw [List.size_toArray]; omega)
  have hp : slicePick its.toArray l u o = (pickL its l u o).toArray := by
    unfold slicePick pickL
    rw [List.size_toArray]
    have e : (fun i : Nat => its.toArray[i]?) = fun i => its[i]? := funext fun i => List.getElem?_toArray
    rw [e]
  rw [hp]
  refine ⟨.ref _, _, I5.laid (t' := s4.toks) (o := .lst (pickL xs l u o)) (fun b ob q => Heap.get?_push_of_some _ q) (Nat.le_refl _) ?_, rfl, q _ (I5.hok.fresh (Nat.le_refl _))⟩
  refine ⟨Nat.le_trans hlen (by decide), pickL its l u o, 0, ?_, Heap.get?_push_size _ rfl⟩
  unfold pickL
  rw [hlen2]
  exact vals_pick r _
def stepD (d : Dt) (lo hi st : Option Int) : Option Dt := match d with
  | .lst l => if st ≠ some 0 ∧ (pickL l lo hi st).length ≤ 1000000 then some (.lst (pickL l lo hi st)) else none
  | _ => none
def fStep (a : Env → Option Dt) (lo hi st : Env → Option (Option Int)) : Env → Option Dt := fun r => (a r).bind fun d => (lo r).bind fun l => (hi r).bind fun h => (st r).bind fun k => stepD d l h k
theorem pick_len {α β : Type} {l : List α} {m : List β} (h : l.length = m.length) (lo hi st : Option Int) : (pickL l lo hi st).length = (pickL m lo hi st).length := by
  unfold pickL
  rw [h]
  generalize sliceRange _ _ _ = is
  induction is with
  | nil => rfl
  | cons i is ih =>
    by_cases hi : i < m.length
    · rw [List.filterMap_cons_some (List.getElem?_eq_getElem (by omega)), List.filterMap_cons_some (List.getElem?_eq_getElem hi), List.length_cons, List.length_cons, ih]
    · rw [List.filterMap_cons_none (List.getElem?_eq_none (by omega)), List.filterMap_cons_none (List.getElem?_eq_none (by omega)), ih]
theorem de_step {e st : Expr} {lo hi : Option Expr} {fe : Env → Option Dt} {fl fh fs : Env → Option (Option Int)} {pos p2 : Pos} (he : DE X T e fe) (hl : DO X T lo fl) (hh : DO X T hi fh) (hs : DO X T (some st) fs)
    (hsub : ∀ a b, subscripted (.Slice lo hi (some st) p2) false (.ref a) (.ref b) = operate [.ref a, .ref b] (getItem (.ref a) (.ref b)) := by intro _ _; with_unfolding_all rfl) : DE X T (.Subscript e (.Slice lo hi (some st) p2) pos) (fStep fe fl fh fs) := by
  obtain ⟨te, pe, ge⟩ := he.ex
  obtain ⟨tl, pl, gl⟩ := hl.ex
  obtain ⟨th, ph, gh⟩ := hh.ex
  obtain ⟨ts, ps, gs⟩ := hs.ex
  refine ⟨_, pe_stepL pe pl ph ps hsub, fun G H σ r d F h Q q => ?_⟩
  unfold fStep at h
  cases e1 : fe r with
  | none => rw [e1] at h; cases h
  | some x =>
    cases e2 : fl r with
    | none => rw [e1, e2] at h; cases h
    | some l =>
      cases e3 : fh r with
      | none => rw [e1, e2, e3] at h; cases h
      | some u =>
        cases e4 : fs r with
        | none => rw [e1, e2, e3, e4] at h; cases h
        | some k =>
          rw [e1, e2, e3, e4] at h
          replace h : stepD x l u k = some d := h
          refine ge G H σ r _ F e1 _ fun v G1 H1 n1 p1 => ?_
          refine gl G1 H1 σ r _ (F.nx n1) e2 _ fun G2 H2 n2 => ?_
          refine gh G2 H2 σ r _ (F.nx (n1.trans n2)) e3 _ fun G3 H3 n3 => ?_
          refine gs G3 H3 σ r _ (F.nx ((n1.trans n2).trans n3)) e4 _ fun G4 H4 n4 => ?_
          have p3 := Rp.mono ((n2.gg.trans n3.gg).trans n4.gg) _ p1
          have n := ((n1.trans n2).trans n3).trans n4
          unfold stepD at h
          split at h
          · obtain ⟨hc, rfl⟩ := ite_some h
            cases p3 with
            | @lst _ xs _ a1 a2 =>
              refine ⟨hc.1, _, _, rfl, SqL.of (n4.gh _ _ a1), ?_, fun p hp => ?_⟩
              · rw [pick_len a2.length]; exact hc.2
              have n5 := Nx.new (o := .lst (pickL xs l u k)) n4.gh hp
              refine q _ _ _ (n.trans n5) (.lst upd_same (RpA.mono n5.gg _ ?_))
              unfold pickL
              rw [a2.length]
              exact rpa_pick a2 _
          · cases h

/-! ### split at a sign -/
def splitL (c : Nat) : List Nat → List (List Nat)
  | [] => [[]]
  | x :: l => if x = c then [] :: splitL c l else match splitL c l with
    | [] => [[x]]
    | p :: ps => (x :: p) :: ps
theorem splitL_ne (c : Nat) : ∀ l, splitL c l ≠ []
  | [] => by simp [splitL]
  | x :: l => by
    unfold splitL
    split
    · simp
    · split <;> simp
theorem split_uniq {c : Nat} : ∀ (ps : List (List Nat)), ps ≠ [] → (∀ p ∈ ps, c ∉ p) → splitL c (joinL [c] ps) = ps
  | [], h, _ => absurd rfl h
  | [p], _, h => by
    have hp : c ∉ p := h p (.head _)
    show splitL c p = [p]
    clear h
    induction p with
    | nil => rfl
    | cons x p ih =>
      have hx : x ≠ c := fun e => hp (by rw [e]; exact .head _)
      unfold splitL
      rw [if_neg hx, ih (by simp) (fun h => hp (.tail _ h))]
  | p :: q :: ps, _, h => by
    have hp : c ∉ p := h p (.head _)
    have ih := split_uniq (q :: ps) (by simp) (fun r hr => h r (.tail _ hr))
    show splitL c (p ++ [c] ++ joinL [c] (q :: ps)) = _
    rw [List.append_assoc]
    clear h
    induction p with
    | nil =>
      show splitL c (c :: joinL [c] (q :: ps)) = _
      unfold splitL
      rw [if_pos rfl, ih]
    | cons x p ihp =>
      have hx : x ≠ c := fun e => hp (by rw [e]; exact .head _)
      show splitL c (x :: (p ++ ([c] ++ joinL [c] (q :: ps)))) = _
      unfold splitL
      rw [if_neg hx, ihp (by simp) (fun h => hp (.tail _ h))]
theorem txt_split (c : Nat) (l : List Nat) : Txt.split ⟨l.toArray⟩ ⟨#[c]⟩ = (splitL c l).map fun p => (⟨p.toArray⟩ : Str) := by
  obtain ⟨ps, hps⟩ : ∃ ps : List (List Nat), Txt.split ⟨l.toArray⟩ ⟨#[c]⟩ = ps.map fun p => (⟨p.toArray⟩ : Str) := by
    refine ⟨(Txt.split ⟨l.toArray⟩ ⟨#[c]⟩).map fun s => s.cps.toList, ?_⟩
    rw [List.map_map]
    conv => lhs; rw [← List.map_id (Txt.split ⟨l.toArray⟩ ⟨#[c]⟩)]
    refine List.map_congr_left fun s _ => ?_
    cases s; simp
  have h1 := StrLaws.join_split ⟨l.toArray⟩ ⟨#[c]⟩
  have h2 := StrLaws.split_free ⟨l.toArray⟩ c
  have h3 := split_pos ⟨l.toArray⟩ ⟨#[c]⟩
  rw [hps] at h1 h2 h3 ⊢
  have e : (⟨#[c]⟩ : Str) = ⟨[c].toArray⟩ := rfl
  rw [e, join_str] at h1
  have h4 : joinL [c] ps = l := by
    have := congrArg (fun s : Str => s.cps.toList) h1
    simpa using this
  have h5 : splitL c l = ps := by
    rw [← h4]
    refine split_uniq ps (fun h => by rw [h] at h3; simp at h3) fun p hp hc => ?_
    exact h2 _ (List.mem_map_of_mem hp) (by simpa using hc)
  rw [h5]
theorem rpa_strs {K : PySem.W.Frag} {G : Hp} : ∀ bs : List (List Nat), RpA K T G ((bs.map fun l => (⟨l.toArray⟩ : Str)).map V.str) (bs.map Dt.str)
  | [] => .nil
  | b :: bs => .cons (.str b) (rpa_strs bs)
def splitD (d e : Dt) : Option Dt := match d, e with
  | .str l, .str [c] => if l.length ≤ 100000 then some (.lst ((splitL c l).map Dt.str)) else none
  | _, _ => none
theorem de_split {o e : Expr} {fo fe : Env → Option Dt} {apos pos : Pos} (ho : DE X T o fo) (he : DE X T e fe) (hs : starEach [e] X.env = [(false, eval e X.env)] := by rfl) (hbase : attributeBase o "split" X.env (eval o X.env) = eval o X.env := by rfl) (hline : (apos.endLine == pos.line) = true := by rfl) :
    DE X T (.Call (.Attribute o "split" apos) [e] [] pos) (fOp splitD fo fe) := by
  obtain ⟨to, po, go⟩ := ho.ex
  obtain ⟨te, pe, ge⟩ := he.ex
  refine ⟨_, pe_split po pe hs hbase hline, fun G H σ r d F h Q q => ?_⟩
  obtain ⟨x, y, e1, e2, hz⟩ := fOp_some h
  unfold splitD at hz
  split at hz
  · rename_i l c
    obtain ⟨hc, rfl⟩ := ite_some hz
    refine go G H σ r _ F e1 _ fun v G1 H1 n1 p1 => ?_
    cases p1
    refine ⟨⟨_, rfl⟩, ?_⟩
    refine ge G1 H1 σ r _ (F.nx n1) e2 _ fun w G2 H2 n2 p2 => ?_
    cases p2
    refine ⟨_, _, rfl, rfl, rfl, ?_, fun p hp => ?_⟩
    · rw [str_len]; exact Nat.le_trans (Nat.add_le_add_right hc 2) (by decide)
    have e : (⟨[c].toArray⟩ : Str) = ⟨#[c]⟩ := rfl
    rw [e, txt_split]
    have n3 := Nx.new (o := .lst (((splitL c l).map fun p => (⟨p.toArray⟩ : Str)).map V.str)) n2.gh hp
    exact q _ _ _ ((n1.trans n2).trans n3) (.lst upd_same (rpa_strs _))
  · cases hz
end
end PL

/-! ### methods of own objects; how many unlike ints -/
namespace PL
open PySem PySem.Spec PyProof.Rows L2
section
variable {X : Cx} {T : CT} {K : PySem.W.Frag} {mg : Str → Option Value} {P : Program} {w : World} {base : Heap}
/-- class c's method m is a def whose answer is g's -/
structure MethOk (P : Program) (w : World) (K : PySem.W.Frag) (mg : Str → Option Value) (base : Heap) (T : CT) (k c : Nat) (m : Str) (g : List Dt → Option Dt) : Prop where
  ex : ∃ (f : Addr) (fd : FuncData) (ps : List Str) (n : Nat), FnOk P w K mg base CX0 k f fd ps (spF K T n g) ∧ Meth K (T c).1 m f ∧ Cls K (T c).1 ∧ Binds K fd ps [] ∧ m ∉ (T c).2 ∧ ∀ ds d, g ds = some d → ds.length = n
theorem meth_of {x qual m : Str} {st : Stmt} {f : Addr} {fd : FuncData} {ps : List Str} {k n j c : Nat} {g : Env → Option Out} (F : Fun K x qual st f fd) (O : FnOk P w K mg base CX0 k f fd ps (spF K T n (runF n j g))) (M : Meth K (T c).1 m f) (cl : Cls K (T c).1) (hb : Binds K fd ps []) (hm : m ∉ (T c).2) : MethOk P w K mg base T k c m (runF n j g) :=
  ⟨f, fd, ps, n, O, M, cl, hb, hm, fun ds d h => (ite_opt (by unfold runF at h; exact h)).1⟩
/-- all of them, with room for each -/
def AllM (X : Cx) (T : CT) (m : Str) : List (Nat × (List Dt → Option Dt)) → Prop
  | [] => True
  | (c, g) :: l => (∃ k, MethOk X.prog X.w X.K X.mg X.base T k c m g ∧ Room k X.A) ∧ AllM X T m l
theorem allM_nil {m : Str} : AllM X T m [] := trivial
theorem allM_cons {m : Str} {k c : Nat} {g : List Dt → Option Dt} {l : List (Nat × (List Dt → Option Dt))} (M : MethOk X.prog X.w X.K X.mg X.base T k c m g) (hr : Room k X.A) (h : AllM X T m l) : AllM X T m ((c, g) :: l) := ⟨⟨k, M, hr⟩, h⟩
theorem allM_get {m : Str} {c : Nat} {g : List Dt → Option Dt} : ∀ {l : List (Nat × (List Dt → Option Dt))}, AllM X T m l → l.lookup c = some g → ∃ k, MethOk X.prog X.w X.K X.mg X.base T k c m g ∧ Room k X.A
  | [], _, h => by cases h
  | (c', g') :: l, a, h => by
    unfold List.lookup at h
    split at h
    · rename_i e
      cases h
      rw [eq_of_beq e]
      exact a.1
    · exact allM_get a.2 h
def fMeth (cs : List (Nat × (List Dt → Option Dt))) (fo : Env → Option Dt) (fa : Env → Option (List Dt)) : Env → Option Dt := fun r => match fo r with
  | some (.obj c l) => (match cs.lookup c, fa r with
    | some g, some ds => g (.obj c l :: ds)
    | _, _ => none)
  | _ => none
theorem lookup_not {m : Str} : ∀ {fs : List (Str × V)}, m ∉ fs.map Prod.fst → fs.lookup m = none
  | [], _ => rfl
  | (g, v) :: fs, h => by
    have h1 : (m == g) = false := beq_eq_false_iff_ne.mpr fun e => h (by rw [e]; exact List.mem_cons_self)
    unfold List.lookup
    rw [h1]
    exact lookup_not fun q => h (List.mem_cons_of_mem _ q)
theorem de_meth {m : Str} {o e : Expr} {es : List Expr} {apos pos : Pos} {cs : List (Nat × (List Dt → Option Dt))} {fo : Env → Option Dt} {fa : Env → Option (List Dt)} (A : AllM X T m cs) (ho : DE X T o fo) (ha : DA X T (e :: es) fa)
    (hx : ∀ {C f : Addr} {fd : FuncData} {ps : List Str} {sp : Sp} {to : TE} {ta : TA} {k : Nat}, Cls X.K C → Meth X.K C m f → FnOk X.prog X.w X.K X.mg X.base CX0 k f fd ps sp → Room k X.A → Binds X.K fd ps [] → PE X o to → PA X (e :: es) ta → PE X (.Call (.Attribute o m apos) (e :: es) [] pos) (tMeth C m sp [] E0 to ta)) :
    DE X T (.Call (.Attribute o m apos) (e :: es) [] pos) (fMeth cs fo fa) := by
  obtain ⟨to, po, go⟩ := ho.ex
  obtain ⟨ta, pa, ga⟩ := ha.ex
  refine ⟨fun σ H Q => ∃ (C f : Addr) (fd : FuncData) (ps : List Str) (sp : Sp) (k : Nat), (Cls X.K C ∧ Meth X.K C m f ∧ FnOk X.prog X.w X.K X.mg X.base CX0 k f fd ps sp ∧ Room k X.A ∧ Binds X.K fd ps []) ∧ tMeth C m sp [] E0 to ta σ H Q, ⟨fun pins s σ H Q I h => ?_⟩, fun G H σ r d F h Q q => ?_⟩
  · obtain ⟨C, f, fd, ps, sp, k, ⟨h1, h2, h3, h4, h5⟩, h6⟩ := h
    exact (hx h1 h2 h3 h4 h5 po pa).run pins s σ H Q I h6
  · unfold fMeth at h
    split at h
    · rename_i c l e1
      split at h
      · rename_i g ds e2 e3
        obtain ⟨k, M, hr⟩ := allM_get A e2
        obtain ⟨f, fd, ps, n, O, hm, cl, hb, hno, hn⟩ := M.ex
        refine ⟨_, f, fd, ps, _, k, ⟨cl, hm, O, hr, hb⟩, ?_⟩
        refine go G H σ r _ F e1 _ fun v G1 H1 n1 p1 => ?_
        cases p1 with
        | @obj _ a dx fs _ a1 a2 a3 =>
          refine ⟨a, dx, fs, rfl, n1.gh _ _ a1, lookup_not (by rw [a2]; exact hno), ?_⟩
          refine ga G1 H1 σ r ds (F.nx n1) e3 _ fun vs G2 H2 n2 p2 => ?_
          rw [List.append_nil]
          have n := n1.trans n2
          refine ⟨by rw [List.length_cons, p2.length]; exact hn _ d h, G2, .obj c l :: ds, d, n2.gh, .cons (Rp.mono n2.gg (.obj c l) (.obj a1 a2 a3)) p2, h, fun v G3 H3 n3 p3 => q v G3 H3 (n.trans n3) p3⟩
      · cases h
    · cases h
/-! ### len(set(xs)) -/
def intsOf : List Dt → Option (List Int)
  | [] => some []
  | .int i :: l => (intsOf l).map fun is => i :: is
  | _ => none
theorem ints_rp {H : Hp} : ∀ {vs : List V} {ds : List Dt} {is : List Int}, RpA K T H vs ds → intsOf ds = some is → vs = is.map V.int
  | _, _, is, .nil, h => by cases h; rfl
  | _, d :: ds, is, .cons r t, h => by
    cases d with
    | int i =>
      unfold intsOf at h
      cases e : intsOf ds with
      | none => rw [e] at h; cases h
      | some js =>
        rw [e] at h
        cases h
        cases r
        rw [List.map_cons, ints_rp t e]
    | _ => cases h
/-- the unlike ones, as they are met -/
def unlike (is : List Int) : List Int := is.foldl step_dedup []
theorem first_unlike (is : List Int) : firstMet (fun i => is.getD i 0) is.length = unlike is := by
  unfold firstMet unlike
  congr 1
  refine List.ext_getElem (by simp) fun i h1 h2 => ?_
  simp at h1
  rw [List.getElem_map, List.getElem_range, List.getD_eq_getElem?_getD, List.getElem?_eq_getElem h2]
  rfl
theorem unlike_len (is : List Int) : (unlike is).length ≤ is.length := by
  rw [← first_unlike]; exact firstMet_length_le _ _
def tLenU (K : PySem.W.Frag) (ta : TE) : TE := fun σ H Q => ta σ H fun x H1 => ∃ (l : Addr) (is : List Int), x = V.ref l ∧ SqL K H1 l (is.map V.int) ∧ is.length ≤ 4000 ∧ Q (.int (unlike is).length) H1
theorem pe_lenU {a : Expr} {ta : TE} {p p2 q pos : Pos} (hc : X.calm = true) (g1 : Gl X "len") (m1 : X.mg "len" = none) (g2 : Gl X "set") (m2 : X.mg "set" = none) (ha : PE X a ta) (na : starEach [a] X.env = (false, eval a X.env) :: starEach [] X.env := by rfl) :
    PE X (.Call (.Name "len" p) [.Call (.Name "set" p2) [a] [] q] [] pos) (tLenU X.K ta) := by
  constructor
  intro pins s σ H Q I hq
  refine Call_ ?_
  apply ld_blt I g1 m1 PySem.boot_len
  apply PyProof.Rows.callWith_builtin1 ?_ rfl rfl
  apply PyProof.Rows.args_cons ?_ rfl
  refine Call_ ?_
  apply ld_blt I g2 m2 PyProof.Rows.boot_set
  apply PyProof.Rows.callWith_type1 ?_ na rfl
  apply PyProof.Rows.args_cons ?_ na
  refine thn (ha.run pins s σ H _ I hq) fun v s1 h1 => ?_
  obtain ⟨x, H1, I1, r1, l, is, rfl, hl, hb, hQ⟩ := h1
  apply PyProof.Rows.args_nil
  cases r1
  obtain ⟨its, r, pl, hz⟩ := I1.list hl
  have e : its.toArray.size = is.length := by rw [List.size_toArray, ← r.length, List.length_map]
  refine call_set_list (ns := is) (I1.ok.hd hc) pl.isList (by simpa using r.ints) (by rw [e]; unfold scanBound; omega) fun h' tk hS hk => ?_
  rw [e, first_unlike] at hS
  apply PyProof.Rows.args_nil
  obtain ⟨o, es, ep, t, h1, h2, h3, _, _, _, h4, h5⟩ := hS
  have J : Inv X pins σ H1 { s1 with heap := h', toks := tk } := I1.kept fun b o e => hk b o (Heap.lt_size e) e
  have hu := unlike_len is
  have hf : es.size < 4096 := by rw [h5]; omega
  exact call_len_set h1 h2 h3 h4 (by omega) ⟨.int (unlike is).length, H1, J.tok _, ⟨_, by rw [h5]⟩, hQ⟩
def lenUD (d : Dt) : Option Dt := match d with
  | .lst l => (match intsOf l with
    | some is => if is.length ≤ 4000 then some (.int (unlike is).length) else none
    | none => none)
  | _ => none
theorem de_lenU {a : Expr} {fa : Env → Option Dt} {p p2 q pos : Pos} (hc : X.calm = true) (m1 : X.mg "len" = none) (m2 : X.mg "set" = none) (ha : DE X T a fa) (g1 : Gl X "len" := by rfl) (g2 : Gl X "set" := by rfl) (na : starEach [a] X.env = (false, eval a X.env) :: starEach [] X.env := by rfl) :
    DE X T (.Call (.Name "len" p) [.Call (.Name "set" p2) [a] [] q] [] pos) (fUn lenUD fa) := by
  obtain ⟨ta, pa, ga⟩ := ha.ex
  refine ⟨_, pe_lenU hc g1 m1 g2 m2 pa na, fun G H σ r d F h Q k => ?_⟩
  unfold fUn at h
  cases e1 : fa r with
  | none => rw [e1] at h; cases h
  | some x =>
    rw [e1] at h
    replace h : lenUD x = some d := h
    unfold lenUD at h
    split at h
    · rename_i l
      split at h
      · rename_i is e2
        obtain ⟨hb, rfl⟩ := ite_some h
        refine ga G H σ r _ F e1 _ fun v G1 H1 n1 p1 => ?_
        cases p1 with
        | @lst _ xs _ a1 a2 =>
          have := ints_rp a2 e2
          subst this
          exact ⟨_, is, rfl, SqL.of (n1.gh _ _ a1), hb, k _ G1 H1 n1 (.int _)⟩
      · cases h
    · cases h
/-! ### is, is not of truth values -/
def isBD (d e : Dt) : Option Dt := match d, e with
  | .bl a, .bl b => some (.bl (decide (a = b)))
  | _, _ => none
def isnBD (d e : Dt) : Option Dt := match d, e with
  | .bl a, .bl b => some (.bl (!decide (a = b)))
  | _, _ => none
theorem bd_isB : BinD X T (compareOp .Is) isBD := by
  refine ⟨_, op_isBl, fun G H x y d e z gh p q hz Q k => ?_⟩
  unfold isBD at hz
  split at hz
  · cases hz
    cases p
    cases q
    exact ⟨_, _, rfl, rfl, k _ G H (Nx.refl gh) (.bl _)⟩
  · cases hz
theorem bd_isnB : BinD X T (compareOp .IsNot) isnBD := by
  refine ⟨_, op_notBl, fun G H x y d e z gh p q hz Q k => ?_⟩
  unfold isnBD at hz
  split at hz
  · cases hz
    cases p
    cases q
    exact ⟨_, _, rfl, rfl, k _ G H (Nx.refl gh) (.bl _)⟩
  · cases hz
end
end PL

/-! ### defs that are called while no text of a list is under way; str() of data -/
namespace PL
open PySem PySem.Spec PyProof.Rows L2
section
variable {P : Program} {w : World} {K : PySem.W.Frag} {mg : Str → Option Value} {base : Heap} {T : CT}
/-- a def's promise, wherever no guard stands around -/
structure FnG (P : Program) (w : World) (K : PySem.W.Frag) (mg : Str → Option Value) (base : Heap) (k : Nat) (f : Addr) (fd : FuncData) (ps : List Str) (sp : Sp) : Prop where
  len : ∀ vs H Q E, sp vs H Q E → vs.length = ps.length
  go : ∀ (A : Around) (os : List PySem.Env) (s : Shared) (H : Hp) (args : Args) (us : List Value) (vs : List V) (Q : VK) (E : XK), A.guards = some [] → Room k A → Env0 P w K mg base A os s H → BindsTo s fd args (ps.zip us) → Vals vs us → sp vs H Q E →
    codeAny (model P w) A (.call (.ref f) args) (CR CX0 os P w H s Q E) s
theorem fnG_of {k : Nat} {f : Addr} {nm qual : Str} {params : Arguments} {body : List Stmt} {sc : Scope} {dV kV doc pm cdv ct oc : Value} {an od : Option Addr} {osl : Array (Option Value)} {N ps : List Str} {sp : Sp}
    (lk : K.lookup f = some ⟨oc, od, .func (PySem.W.fnOf nm qual params body sc dV kV doc pm an cdv ct), osl⟩) (hcd : PySem.W.codeIn K cdv qual = true) (S : FnScope N ps sc) (len : ∀ vs H Q E, sp vs H Q E → vs.length = ps.length)
    (hb : ∀ (A : Around) (os : List PySem.Env) (s : Shared) (H : Hp) (vs : List V) (Q : VK) (E : XK), (A.deeper (envOfC qual sc s.heap.objs.size f cdv)).guards = some [] → Room k (A.deeper (envOfC qual sc s.heap.objs.size f cdv)) → sp vs H Q E →
      ∃ t, PSs (cxOf CX0 P w K mg base N qual sc f cdv A os s H E) body t ∧ t { nx := fun _ H' => Q .non H', rt := Q } (L2.start N vs) H) :
    FnG P w K mg base (k + 1) f (PySem.W.fnOf nm qual params body sc dV kV doc pm an cdv ct) ps sp := by
  constructor
  · exact len
  intro A os s H args us vs Q E gd room en bd vals hsp
  have kin : K.In s.heap := en.mod.kin.keeps fun c o q => (en.bs c o q).1
  have nol : s.heap.NoLimit := en.mod.nolimit.keeps fun c o q => (en.bs c o q).1
  have kinds : ∀ z ∈ ps.zip us, sc.names.lookup z.1 = some .local ∨ (sc.names.lookup z.1 = some .cell ∧ ((cellsFrom (s.heap.objs.size + 1) sc.names []).lookup z.1).isSome = true) := by
    rintro ⟨n, v⟩ hz
    cases S.par n (List.of_mem_zip hz).1 with
    | inl q => exact .inl q
    | inr q => exact .inr ⟨q, PySem.W.cellsFrom_some _ _ _ (.inl q)⟩
  refine codeAny_call_function room.depth (kin _ _ lk) rfl S.co S.gen rfl (PySem.W.codeRec_of kin hcd) (bd _ _ _ _ (wpAny_newFunctionEnv_cells S.kind kinds fun e he s1 xx => ?_))
  subst he
  refine ⟨nol.keeps xx.toInCall.keep, codeAny_func ?_⟩
  obtain ⟨t, pt, qt⟩ := hb A os s H vs Q E gd (room.deeper _) hsp
  have J : Inv (cxOf CX0 P w K mg base N qual sc f cdv A os s H E) [] (L2.start N vs) H s1 := inv_start S room.hd en (len _ _ _ _ hsp) vals xx
  have ends : ∀ {σ' : L2.St} {H' : Hp} {v : V} {u : Value} {s' : Shared}, Inv (cxOf CX0 P w K mg base N qual sc f cdv A os s H E) [] σ' H' s' → RelV v u → Q v H' → CE os P w H s Q u s' := fun I r q => ⟨_, _, I.os, I.bare, I.base, I.hok, r, q⟩
  refine wpAny_mono (pt.run [] s1 (L2.start N vs) H _ J qt) ?_ fun e s' z => z
  intro fl s' z
  cases fl with
  | next =>
    obtain ⟨σ', H', I, q⟩ := z
    exact ends (v := V.non) (u := Value.none) I rfl q
  | ret u =>
    obtain ⟨v, σ', H', I, r, q⟩ := z
    exact ends I r q
  | brk => exact z.choose_spec.choose_spec.2.elim
  | cont => exact z.choose_spec.choose_spec.2.elim
/-- as a plain def keeps it, so it does there -/
theorem FnG.of {k : Nat} {f : Addr} {fd : FuncData} {ps : List Str} {sp : Sp} (F : FnOk P w K mg base CX0 k f fd ps sp) : FnG P w K mg base k f fd ps sp := ⟨F.len, fun A os s H args us vs Q E _ => F.run A os s H args us vs Q E⟩
theorem FnG.imp {k : Nat} {f : Addr} {fd : FuncData} {ps : List Str} {sp sp' : Sp} (F : FnG P w K mg base k f fd ps sp) (h : ∀ vs H Q E, sp' vs H Q E → sp vs H Q E) : FnG P w K mg base k f fd ps sp' :=
  ⟨fun vs H Q E q => F.len vs H Q E (h vs H Q E q), fun A os s H args us vs Q E g r e b v z => F.go A os s H args us vs Q E g r e b v (h vs H Q E z)⟩
theorem okFG {x qual : Str} {st : Stmt} {f : Addr} {fd : FuncData} {N ps : List Str} {k m : Nat} {g : Env → Option Out} (F : Fun K x qual st f fd) (S : FnScope N ps (defScope st)) (hm : N.length = ps.length + m)
    (hb : ∀ (cdv : Value) (A : Around) (os : List PySem.Env) (s : Shared) (H : Hp) (E : XK), (A.deeper (envOfC qual (defScope st) s.heap.objs.size f cdv)).guards = some [] → Room k (A.deeper (envOfC qual (defScope st) s.heap.objs.size f cdv)) → DSs (cxOf CX0 P w K mg base N qual (defScope st) f cdv A os s H E).nox T (defBody st) g) :
    FnG P w K mg base (k + 1) f fd ps (spF K T ps.length (runF ps.length m g)) := by
  obtain ⟨oc, od, kV, doc, pm, an, cdv, ct, osl, rfl, lk, hcd⟩ := F.ex
  refine fnG_of lk hcd S (fun vs H Q E h => h.1) fun A os s H vs Q E gd hr h => ?_
  obtain ⟨hl, G, ds, d, gh, q, hd, k⟩ := h
  obtain ⟨t, p, gs⟩ := (hb cdv A os s H E gd hr).ex
  refine ⟨t, p.nox, ?_⟩
  have hq := q.length
  unfold runF at hd
  rw [if_pos (show ds.length = ps.length by omega)] at hd
  have S0 := entry (N := N) (m := m) gh q (by omega)
  split at hd
  · rename_i d' e
    cases hd
    exact gs G G H G H _ _ _ S0 e _ fun v G' H' n r => k v G' H' n r
  · rename_i r' e
    cases hd
    exact gs G G H G H _ _ _ S0 e _ fun G' H' σ' S' => k .non G' H' S'.nx .non
  · cases hd
structure CalleeG (P : Program) (w : World) (K : PySem.W.Frag) (mg : Str → Option Value) (base : Heap) (T : CT) (k : Nat) (x : Str) (g : List Dt → Option Dt) : Prop where
  ex : ∃ (f : Addr) (fd : FuncData) (ps : List Str) (n : Nat), FnG P w K mg base k f fd ps (spF K T n g) ∧ mg x = some (.ref f) ∧ PySem.W.keepIn K (.ref f) = true ∧ Binds K fd ps [] ∧ ∀ ds d, g ds = some d → ds.length = n
theorem calleeG_of {x qual y : Str} {st : Stmt} {f : Addr} {fd : FuncData} {ps : List Str} {k n m : Nat} {g : Env → Option Out} (F : Fun K y qual st f fd) (O : FnG P w K mg base k f fd ps (spF K T n (runF n m g))) (hm : mg x = some (.ref f)) (hb : Binds K fd ps []) : CalleeG P w K mg base T k x (runF n m g) :=
  ⟨f, fd, ps, n, O, hm, F.kp, hb, fun ds d h => (ite_opt (by unfold runF at h; exact h)).1⟩
end
section
variable {X : Cx} {T : CT}
theorem run_fnG {k : Nat} {f : Addr} {fd : FuncData} {ps : List Str} {sp : Sp} {pins : List (Addr × Obj)} {σ : L2.St} {H : Hp} {s : Shared} {Q : VK} {us : List Value} {vs : List V} (F : FnG X.prog X.w X.K X.mg X.base k f fd ps sp) (hg : X.A.guards = some []) (hr : Room k X.A) (hb : Binds X.K fd ps []) (I : Inv X pins σ H s) (r : Vals vs us) (h : sp vs H Q E0) :
    wpAny (model X.prog X.w) X.A (call (.ref f) us) (EP X pins σ Q) X.xe s := by
  have hl : us.length = ps.length := by rw [← r.length]; exact F.len _ _ _ _ h
  have bd := hb s us I.kIn (by rw [List.append_nil]; exact hl)
  rw [List.append_nil] at bd
  refine wpAny_call (codeAny_mono (F.go X.A X.stack s H ⟨us, []⟩ us vs Q E0 hg hr I.env0 bd r h) ?_)
  intro z s' hz
  cases z with
  | ok fl => cases fl <;> first | exact I.after hz | exact hz.elim
  | error e => exact pass0 pins σ H s e s' I hz
theorem de_callG {x : Str} {k : Nat} {g : List Dt → Option Dt} {p pos : Pos} {e : Expr} {es : List Expr} {fa : Env → Option (List Dt)} (C : CalleeG X.prog X.w X.K X.mg X.base T k x g) (gd : X.A.guards = some []) (hr : Room k X.A) (ha : DA X T (e :: es) fa) (hg : Gl X x := by rfl)
    (hdb : (x == ("__debug__" : Str)) = false := by decide +kernel) (he : starEach (e :: es) X.env = (false, eval e X.env) :: starEach es X.env := by rfl) (hpl : (backTo pos (starEach es X.env)).any (·.1) = false := by rfl) : DE X T (.Call (.Name x p) (e :: es) [] pos) (fCall g fa) := by
  obtain ⟨f, fd, ps, n, O, hm, hk, hb, hn⟩ := C.ex
  obtain ⟨ta, pa, ga⟩ := ha.ex
  refine ⟨fun σ H Q => ta σ H fun vs H1 => spF X.K T n g vs H1 Q E0, ⟨fun pins s σ H Q I h => ?_⟩, fun G H σ r d F h Q q => ?_⟩
  · refine wpAny_Call_Name_kw (ld_glob I hg hm (PySem.W.callWith_K (h₀ := X.base) I.ok.mod.kin hk (thn (pa.run pos pins s σ H _ I h) ?_) he hpl) hdb)
    rintro us s1 ⟨vs, H1, I1, r, q⟩
    exact ⟨I1.kIn, run_fnG O gd hr hb I1 r q⟩
  · unfold fCall at h
    cases e1 : fa r with
    | none => rw [e1] at h; cases h
    | some ds =>
      rw [e1] at h
      replace h : g ds = some d := h
      refine ga G H σ r ds F e1 _ fun vs G1 H1 n1 p1 => ?_
      exact ⟨by rw [p1.length]; exact hn ds d h, G1, ds, d, n1.gh, p1, h, fun v G2 H2 n2 p2 => q v G2 H2 (n1.trans n2) p2⟩

/-! ### str() -/
def noneL : List Nat := [78, 111, 110, 101]
/-- data whose text is told -/
def strC (p : PyData) : Bool := p.showable && !p.hasDict && p.leavesShort 13 && decide (p.bulk ≤ 1048576)
def strPD (ds : List Dt) : Option Dt := match ds with
  | [.non] => some (.str noneL)
  | [.lst l] => if okD 9 (.lst l) = true ∧ strC (toPy 9 (.lst l)) = true then some (.str (toPy 9 (.lst l)).shown.cps.toList) else none
  | [.tup l] => if okD 9 (.tup l) = true ∧ strC (toPy 9 (.tup l)) = true then some (.str (toPy 9 (.tup l)).shown.cps.toList) else none
  | _ => none
def rStrP (K : PySem.W.Frag) : List V → Hp → VK → Prop := fun vs H Q => (vs = [.non] ∧ Q (.str ⟨noneL.toArray⟩) H) ∨ ∃ (a : Addr) (p : PyData), vs = [.ref a] ∧ Dp K H (.ref a) p ∧ strC p = true ∧ p.depth ≤ 64 ∧ Q (.str p.shown) H
theorem call_strP {k : Nat} (gd : X.A.guards = some []) (hr : Room k X.A) : CallR X (.type "str") (rStrP X.K) := by
  intro pins s σ H xs us Q I r h
  rcases h with ⟨rfl, q⟩ | ⟨a, p, rfl, dp, hc, hd, q⟩
  · cases r with
    | cons r1 r2 =>
      cases r2
      cases r1
      exact PySem.P.str_of_none ⟨.str ⟨noneL.toArray⟩, H, I.tok _, ⟨_, rfl⟩, q⟩
  · cases r with
    | cons r1 r2 =>
      cases r2
      cases (show _ = Value.ref a from r1)
      obtain ⟨as, rd⟩ := Dp.reads I p (.ref a) (.ref a) dp rfl
      unfold strC at hc
      simp only [Bool.and_eq_true, Bool.not_eq_true', decide_eq_true_eq] at hc
      obtain ⟨⟨⟨h1, h2⟩, h3⟩, h4⟩ := hc
      have hu := hr.units
      have hun := hr.un
      refine str_of_reads rd h1 (fun z => by rw [h2] at z; cases z) gd (by omega) (fun b o e => e) (fun h' u tk keep => ?_) (PyData.shown_fits_bulk (B := 13) (by decide) (Nat.le_refl _) h3 h4)
      exact ⟨.str p.shown, H, I.kept (t' := tk) keep, ⟨u, rfl⟩, q⟩
theorem cal_strP {k : Nat} (gd : X.A.guards = some []) (hr : Room k X.A) : CalD X T (.type "str") strPD := by
  refine ⟨_, call_strP gd hr, fun G H xs ds z gh p hz Q k => ?_⟩
  have back : ∀ t : Str, (⟨t.cps.toList.toArray⟩ : Str) = t := fun t => by cases t; simp
  unfold strPD at hz
  split at hz
  · cases hz
    cases p with
    | cons p1 p2 =>
      cases p2
      cases p1
      exact .inl ⟨rfl, k _ G H (Nx.refl gh) (.str noneL)⟩
  · rename_i l
    obtain ⟨hc, rfl⟩ := ite_some hz
    cases p with
    | cons p1 p2 =>
      cases p2
      have dp := dp_of 9 (.lst l) hc.1 (Rp.mono gh (.lst l) p1)
      cases p1 with
      | @lst a _ _ a1 a2 =>
        refine .inr ⟨a, _, rfl, dp, hc.2, Nat.le_trans (depth_of 9 _) (by decide), ?_⟩
        have := k _ G H (Nx.refl gh) (.str (toPy 9 (.lst l)).shown.cps.toList)
        rw [back] at this
        exact this
  · rename_i l
    obtain ⟨hc, rfl⟩ := ite_some hz
    cases p with
    | cons p1 p2 =>
      cases p2
      have dp := dp_of 9 (.tup l) hc.1 (Rp.mono gh (.tup l) p1)
      cases p1 with
      | @tup a _ _ a1 a2 =>
        refine .inr ⟨a, _, rfl, dp, hc.2, Nat.le_trans (depth_of 9 _) (by decide), ?_⟩
        have := k _ G H (Nx.refl gh) (.str (toPy 9 (.tup l)).shown.cps.toList)
        rw [back] at this
        exact this
  · cases hz
end
end PL

/-! ### the law's own call, where no guard stands around -/
namespace PL
open PySem PySem.Spec PyProof.Rows L2
theorem law_callG {P : Program} {w : World} {K : PySem.W.Frag} {mg mb : Str → Option Value} {k : Nat} {fa sa : Addr} {fd : FuncData} {x : Str} {sp : Sp} {s0 : Shared} {us : List Value} {is : List Int} (kin : K.In s0.heap) (ns : s0.heap.Ns mainGlobals mg) (nb : s0.heap.Ns builtinsNs mb)
    (bb : ∀ x : Str, x ≠ "__name__" → mb x = bootBuiltins x) (nol : s0.heap.NoLimit) (gn : s0.gens = #[]) (at_ : s0.heap.get? sa = some { cls := .type "list", data := .seq us.toArray }) (ia : IntsAre us is) (few : is.length ≤ sizeLine) (room : Room k callerA)
    (F : ∀ base : Heap, K.In base → base.Ns mainGlobals mg → FnG P w K mg base k fa fd [x] sp) (bd : ∀ (s : Shared) (u : Value), BindsTo s fd ⟨[u], []⟩ [(x, u)]) (hsp : ∀ H : Hp, Only H → SqL K H sa (is.map V.int) → sp [.ref sa] H (fun v _ => v = .bl true) fun _ _ _ => False)
    (noX : ∀ H e s', CX0 [] H s0 (fun _ _ _ => False) e s' → False) :
    codeAny (model P w) callerA (.call (.ref fa) ⟨[.ref sa], []⟩) (fun r z => r = .ok (.ret (.bool true)) ∧ OldK s0.heap z.heap ∧ z.os = s0.os ∧ AllBare z.gens) s0 := by
  have vals := vals_ints ia
  have same := ia.length
  have main : ∀ H : Hp, Only H → SqL K H sa (is.map V.int) → HOk P w H s0.heap → (∀ c, H c ≠ none → c = sa) → (H sa ≠ none → K.lookup sa = none) →
      codeAny (model P w) callerA (.call (.ref fa) ⟨[.ref sa], []⟩) (fun r z => r = .ok (.ret (.bool true)) ∧ OldK s0.heap z.heap ∧ z.os = s0.os ∧ AllBare z.gens) s0 := by
    intro H only sq ok alone notK
    have keeps : ∀ {c : Addr} {o : Obj}, s0.heap.get? c = some o → H c = none → (hidT s0.heap H).get? c = some o := fun q z => hidT_get q z
    have noDict : ∀ {c : Addr} {o : Obj} {es : Array DictEntry} {n : Nat}, s0.heap.get? c = some o → o.data = .dict es n → H c = none := by
      intro c o es n q d
      cases z : H c with
      | none => rfl
      | some u =>
        have hc := alone c (by rw [z]; simp)
        rw [hc, at_] at q
        cases q
        exact nomatch (show Data.seq us.toArray _ = Data.dict es n from d)
    have spaces : ∀ {c : Addr} {m : Str → Option Value}, s0.heap.Ns c m → (hidT s0.heap H).Ns c m := by
      rintro c m ⟨o, es, n, q, d, r⟩
      exact ⟨o, es, n, keeps q (noDict q d), d, r⟩
    have kinB : K.In (hidT s0.heap H) := by
      intro c o q
      refine keeps (kin c o q) ?_
      cases z : H c with
      | none => rfl
      | some u =>
        have hc := alone c (by rw [z]; simp)
        rw [hc, notK (by rw [← hc, z]; simp)] at q
        cases q
    obtain ⟨mc, n1, n2⟩ := nol
    have md : Mod K mg (hidT s0.heap H) := ⟨kinB, spaces ns, ⟨mb, spaces nb, bb⟩, ⟨mc, spaces n1, n2⟩⟩
    have en : Env0 P w K mg (hidT s0.heap H) callerA [] s0 H := ⟨rfl, md, fun c o q => of_hidT q, Nat.le_of_eq (hidT_size _ _), trivial, fun c hc => (List.not_mem_nil hc).elim, ok, .of_eq gn⟩
    have run := (F _ kinB (spaces ns)).go callerA [] s0 H ⟨[.ref sa], []⟩ [.ref sa] [.ref sa] _ _ rfl room en (bd s0 (.ref sa)) (.cons rfl .nil) (hsp H only sq)
    refine codeAny_mono run ?_
    intro r z hz
    cases r with
    | error e => exact (noX H e z hz).elim
    | ok fl =>
      cases fl with
      | ret u =>
        obtain ⟨v, H', os, bare, un, ok', r', q⟩ := hz
        cases (show v = V.bl true from q)
        cases (show u = Value.bool true from r')
        refine ⟨rfl, OldK.of_keep ?_, os, bare⟩
        intro c o q
        cases h : H c with
        | none => exact un.keep c o q h List.not_mem_nil List.not_mem_nil
        | some t =>
          rcases only c with y | ⟨ob, xs, y⟩
          · rw [h] at y; cases y
          · obtain ⟨e1, _⟩ := ok c _ y
            obtain ⟨e2, _⟩ := ok' c _ (un.frzs c ob _ y)
            rw [q] at e1
            cases e1
            exact e2
      | next => exact hz.elim
      | brk => exact hz.elim
      | cont => exact hz.elim
  cases hk : K.lookup sa with
  | some o =>
    have q := kin sa o hk
    rw [at_] at q
    cases q
    exact main (fun _ => none) (fun _ => .inl rfl) (.inr ⟨_, us.toArray, _, hk, rfl, rfl, rfl, by rw [List.size_toArray, same]; exact few, by simpa using vals⟩) (fun c u z => nomatch z) (fun c z => (z rfl).elim) (fun z => (z rfl).elim)
  | none =>
    obtain ⟨H, hH⟩ : ∃ H : Hp, H = fun c => if c = sa then some (.frz { cls := .type "list", data := .seq us.toArray } (.lst (is.map V.int))) else none := ⟨_, rfl⟩
    have yes : H sa = some (.frz { cls := .type "list", data := .seq us.toArray } (.lst (is.map V.int))) := by rw [hH]; exact if_pos rfl
    have no : ∀ c, c ≠ sa → H c = none := fun c h => by rw [hH]; exact if_neg h
    refine main H (fun c => ?_) (.inl (.inr ⟨_, yes⟩)) (fun c u z => ?_) (fun c z => ?_) fun _ => hk
    · by_cases h : c = sa
      · exact .inr ⟨_, _, by rw [h]; exact yes⟩
      · exact .inl (no c h)
    · by_cases h : c = sa
      · rw [h, yes] at z
        cases z
        rw [h]
        exact ⟨at_, by rw [List.length_map]; exact few, us, _, vals, at_⟩
      · rw [no c h] at z; cases z
    · by_cases h : c = sa
      · exact h
      · exact (z (no c h)).elim
theorem walk_ofG {l : PySem.W.OpenLaw} {n k : Nat} {q : Program} {loose : List Str} {XP : (Str → Option Value) → Heap → Prop} {YP : World → Heap → Prop} {d : DefRec} {K : Params → PySem.W.Frag} {sp : World → Sp} {x : Str} (most : l.most = some n) (few : n ≤ sizeLine) (nodef : d.params.defaults = []) (room : Room k callerA)
    (kin : ∀ (w : World) (h : Heap), YP w h → (K w.params).In h)
    (F : ∀ (w : World) (mg : Str → Option Value) (fa : Addr) (h : Heap), (K w.params).In h → h.Ns mainGlobals mg → mg d.name = some (.ref fa) → ∃ fd : FuncData, (∀ (s : Shared) (u : Value), BindsTo s fd ⟨[u], []⟩ [(x, u)]) ∧ ∀ base : Heap, (K w.params).In base → base.Ns mainGlobals mg → FnG l.prog w (K w.params) mg base k fa fd [x] (sp w))
    (hsp : ∀ (w : World) (H : Hp) (a : Addr) (is : List Int), is.length ≤ n → Only H → SqL (K w.params) H a (is.map V.int) → sp w [.ref a] H (fun v _ => v = .bl true) fun _ _ _ => False) (noX : ∀ (H : Hp) (s : Shared) (e : Value) (s' : Shared), CX0 [] H s (fun _ _ _ => False) e s' → False) :
    PySem.W.WalkO q loose XP YP l.row.toRowW d [] (fun f vs => PySem.call f vs) := by
  refine Att.attach_call most nodef fun w t0 t1 mg mb fa o pm cd doc a us is G Y ho hd hcd hmg hobj hints hlen hg => ?_
  have kx := kin w _ Y
  obtain ⟨fd, hb, hF⟩ := F w mg fa _ kx G.T.g hmg
  refine law_callG kx G.T.g G.T.b G.T.builtins G.T.nolimit hg hobj hints (Nat.le_trans hlen few) room hF hb ?_ ?_
  · intro H hO hS
    exact hsp w H a is hlen hO hS
  · intro H e s'
    exact noX H t1 e s'
end PL

/-! ### defs that answer a new list which nobody else holds -/
namespace PL
open PySem PySem.Spec PyProof.Rows L2
def GSL (K : PySem.W.Frag) (T : CT) (ts : TS) (g : Env → Option (List Dt)) : Prop :=
  ∀ (B G0 H0 G H : Hp) (σ : L2.St) (r : Env) (l : List Dt), St1 K T B G0 H0 G H σ r → g r = some l → ∀ D : Ends, (∀ p vs G' H', Nx G0 H0 G' H' → H0 p = none → G' p = none → H' p = some (.lst vs) → RpA K T G' vs l → D.rt (.ref p) H') → ts D σ H
structure DSsL (X : Cx) (T : CT) (sts : List Stmt) (g : Env → Option (List Dt)) : Prop where
  ex : ∃ ts, PSs X sts ts ∧ GSL X.K T ts g
def fSeqL (a : Env → Option Out) (b : Env → Option (List Dt)) : Env → Option (List Dt) := fun r => match a r with
  | some (.nx r') => b r'
  | _ => none
def spL (K : PySem.W.Frag) (T : CT) (n : Nat) (f : List Dt → Option (List Dt)) : Sp := fun vs H Q _ => vs.length = n ∧ ∃ G ds l, Same G H ∧ RpA K T G vs ds ∧ f ds = some l ∧ ∀ p xs G' H', Nx G H G' H' → H p = none → G' p = none → H' p = some (.lst xs) → RpA K T G' xs l → Q (.ref p) H'
def runL (n m : Nat) (g : Env → Option (List Dt)) (ds : List Dt) : Option (List Dt) := if ds.length = n then g (ds.map Sl.val ++ List.replicate m Sl.no) else none
section
variable {X : Cx} {T : CT}
theorem dssl_cons {st : Stmt} {rest : List Stmt} {a : Env → Option Out} {b : Env → Option (List Dt)} (h1 : DS X T st a) (h2 : DSsL X T rest b) : DSsL X T (st :: rest) (fSeqL a b) := by
  obtain ⟨t, p, g⟩ := h1.ex
  obtain ⟨t2, p2, g2⟩ := h2.ex
  refine ⟨_, pss_cons p p2, fun B G0 H0 G H σ r l S e D m => ?_⟩
  unfold fSeqL at e
  split at e
  · rename_i r' e1
    exact g B G0 H0 G H σ r _ S e1 { D with nx := t2 D } fun G1 H1 σ1 S1 => g2 B G0 H0 G1 H1 σ1 r' l S1 e D m
  · cases e
/-- an own list is given out -/
theorem dssl_own (i : Nat) {x : Str} {p1 pos : Pos} (hi : X.N[i]? = some x := by rfl) (hv : Vis X.env.scope x := by first | exact Or.inl rfl | exact Or.inr (Or.inl rfl)) (hd : (x == ("__debug__" : Str)) = false := by decide +kernel) (hcd : (x == ("__classdict__" : Str)) = false := by decide +kernel) :
    DSsL X T [.Return (some (.Name x p1)) pos] (fun r => gO r i) := by
  refine ⟨_, pss_one (ps_ret (pe_var hi hv hd hcd)), fun B G0 H0 G H σ r l S e D m => ?_⟩
  have hr := gO_iff.mp e
  obtain ⟨p, vs, hσ, hg, hh, q⟩ := S.fits.own i l hr
  exact ⟨.ref p, hσ, m p vs G H S.nx (S.ow i l p hr hσ) hg hh q⟩
/-- a new list is given out -/
theorem dssl_new {e : Expr} {f : Env → Option (List Dt)} {pos : Pos} (he : DL X T e f) : DSsL X T [.Return (some e) pos] f := by
  obtain ⟨te, pe, ge⟩ := he.ex
  refine ⟨_, pss_one (ps_ret pe), fun B G0 H0 G H σ r l S e D m => ?_⟩
  exact ge G H σ r l S.fits e _ fun p vs G1 H1 n1 hp hg hh q => m p vs G1 H1 (S.nx.trans n1) (S.nx.hh.free hp) hg hh q
end
section
variable {P : Program} {w : World} {K : PySem.W.Frag} {mg : Str → Option Value} {base : Heap} {T : CT}
theorem okL {x qual : Str} {st : Stmt} {f : Addr} {fd : FuncData} {N ps : List Str} {k m : Nat} {g : Env → Option (List Dt)} (F : Fun K x qual st f fd) (S : FnScope N ps (defScope st)) (hm : N.length = ps.length + m)
    (hb : ∀ (cdv : Value) (A : Around) (os : List PySem.Env) (s : Shared) (H : Hp) (E : XK), Room k (A.deeper (envOfC qual (defScope st) s.heap.objs.size f cdv)) → DSsL (cxOf CX0 P w K mg base N qual (defScope st) f cdv A os s H E).nox T (defBody st) g) :
    FnOk P w K mg base CX0 (k + 1) f fd ps (spL K T ps.length (runL ps.length m g)) := by
  refine F.ok S (fun vs H Q E h => h.1) (fun cdv A outer s H vs Q E hr h => ?_)
  obtain ⟨hl, G, ds, l, gh, q, hd, k⟩ := h
  obtain ⟨t, p, gs⟩ := (hb cdv A outer s H E hr).ex
  refine ⟨t, p, ?_⟩
  have hq := q.length
  unfold runL at hd
  rw [if_pos (show ds.length = ps.length by omega)] at hd
  exact gs G G H G H _ _ _ (entry (N := N) (m := m) gh q (by omega)) hd _ fun p vs G' H' n h0 h1 h2 h3 => k p vs G' H' n h0 h1 h2 h3
structure CalleeL (P : Program) (w : World) (K : PySem.W.Frag) (mg : Str → Option Value) (base : Heap) (T : CT) (k : Nat) (x : Str) (g : List Dt → Option (List Dt)) : Prop where
  ex : ∃ (f : Addr) (fd : FuncData) (ps : List Str) (n : Nat), FnOk P w K mg base CX0 k f fd ps (spL K T n g) ∧ mg x = some (.ref f) ∧ PySem.W.keepIn K (.ref f) = true ∧ Binds K fd ps [] ∧ ∀ ds d, g ds = some d → ds.length = n
theorem calleeL_of {x qual y : Str} {st : Stmt} {f : Addr} {fd : FuncData} {ps : List Str} {k n m : Nat} {g : Env → Option (List Dt)} (F : Fun K y qual st f fd) (O : FnOk P w K mg base CX0 k f fd ps (spL K T n (runL n m g))) (hm : mg x = some (.ref f)) (hb : Binds K fd ps []) : CalleeL P w K mg base T k x (runL n m g) :=
  ⟨f, fd, ps, n, O, hm, F.kp, hb, fun ds d h => (ite_opt (by unfold runL at h; exact h)).1⟩
end
section
variable {X : Cx} {T : CT}
def fCallL (g : List Dt → Option (List Dt)) (a : Env → Option (List Dt)) : Env → Option (List Dt) := fun r => (a r).bind g
theorem dl_call {x : Str} {k : Nat} {g : List Dt → Option (List Dt)} {p pos : Pos} {e : Expr} {es : List Expr} {fa : Env → Option (List Dt)} (C : CalleeL X.prog X.w X.K X.mg X.base T k x g) (hr : Room k X.A) (ha : DA X T (e :: es) fa) (hg : Gl X x := by rfl)
    (hdb : (x == ("__debug__" : Str)) = false := by decide +kernel) (he : starEach (e :: es) X.env = (false, eval e X.env) :: starEach es X.env := by rfl) (hpl : (backTo pos (starEach es X.env)).any (·.1) = false := by rfl) : DL X T (.Call (.Name x p) (e :: es) [] pos) (fCallL g fa) := by
  obtain ⟨f, fd, ps, n, O, hm, hk, hb, hn⟩ := C.ex
  obtain ⟨ta, pa, ga⟩ := ha.ex
  refine ⟨_, pe_call (E := E0) O hr hg hm hk hb .nil pass0 pa hdb he hpl, fun G H σ r d F h Q q => ?_⟩
  unfold fCallL at h
  cases e1 : fa r with
  | none => rw [e1] at h; cases h
  | some ds =>
    rw [e1] at h
    replace h : g ds = some d := h
    refine ga G H σ r ds F e1 _ fun vs G1 H1 n1 p1 => ?_
    rw [List.append_nil]
    exact ⟨by rw [p1.length]; exact hn ds d h, G1, ds, d, n1.gh, p1, h, fun p xs G2 H2 n2 h0 h1 h2 h3 => q p xs G2 H2 (n1.trans n2) (n1.hh.free h0) h1 h2 h3⟩
end
end PL

/-! ### comprehensions over pairs; zip -/
namespace PL
open PySem PySem.Spec PyProof.Rows L2
def compP (i j : Nat) (c : Env → Option Bool) (e : Env → Option Dt) : List Dt → Env → Option (List Dt)
  | [], _ => some []
  | .tup [x, y] :: xs, r => match c ((r.set i (.val x)).set j (.val y)) with
    | some true => (match e ((r.set i (.val x)).set j (.val y)) with
      | some d => (match compP i j c e xs r with
        | some ds => some (d :: ds)
        | none => none)
      | none => none)
    | some false => compP i j c e xs r
    | none => none
  | _ :: _, _ => none
def fCompP (f : Env → Option (List Dt)) (i j : Nat) (vs : List Nat) (c : Env → Option Bool) (e : Env → Option Dt) : Env → Option (List Dt) := fun r => match f r with
  | some items => if items.length ≤ 100000 then compP i j c e items (wipeE r vs) else none
  | none => none
theorem compP_some {i j : Nat} {c : Env → Option Bool} {e : Env → Option Dt} {r : Env} {d : Dt} {xs ds : List Dt} (h : compP i j c e (d :: xs) r = some ds) : ∃ x y, d = .tup [x, y] ∧
    ((c ((r.set i (.val x)).set j (.val y)) = some false ∧ compP i j c e xs r = some ds) ∨ (c ((r.set i (.val x)).set j (.val y)) = some true ∧ ∃ d' ds', e ((r.set i (.val x)).set j (.val y)) = some d' ∧ compP i j c e xs r = some ds' ∧ ds = d' :: ds')) := by
  unfold compP at h
  split at h
  · rename_i h0; cases h0
  · rename_i x y xs' h0
    cases h0
    refine ⟨x, y, rfl, ?_⟩
    split at h
    · rename_i hc
      split at h
      · rename_i d' he
        split at h
        · rename_i ds' hr
          cases h
          exact .inr ⟨hc, d', ds', he, hr, rfl⟩
        · cases h
      · cases h
    · rename_i hc
      exact .inl ⟨hc, h⟩
    · cases h
  · cases h
theorem compP_len {i j : Nat} {c : Env → Option Bool} {e : Env → Option Dt} {r : Env} {items : List Dt} : ∀ {ds : List Dt}, compP i j c e items r = some ds → ds.length ≤ items.length := by
  induction items with
  | nil => intro ds h; cases h; exact Nat.le_refl _
  | cons x xs ih =>
    intro ds h
    obtain ⟨a, b, _, k | ⟨_, d', ds', _, k, z⟩⟩ := compP_some h
    · have := ih k.2
      rw [List.length_cons]; omega
    · have := ih k
      rw [z, List.length_cons, List.length_cons]; omega
theorem wipe_any {τ : L2.St} {j : Nat} {x : Option V} {vs : List Nat} (h : j ∈ vs) : wipe (τ.set j x) vs = wipe τ vs := by
  apply List.ext_getElem?
  intro i
  by_cases hi : i ∈ vs
  · by_cases hl : i < τ.length
    · rw [wipe_in hi (by rw [List.length_set]; exact hl), wipe_in hi hl]
    · rw [List.getElem?_eq_none (by rw [wipe_length, List.length_set]; omega), List.getElem?_eq_none (by rw [wipe_length]; omega)]
  · rw [wipe_out hi, wipe_out hi, List.getElem?_set_ne (fun e => hi (by rw [← e]; exact h))]
section
variable {X : Cx} {T : CT} {K : PySem.W.Frag}
theorem gl_lcP {wi : TI} {f : Env → Option (List Dt)} {a b : Nat} {vs : List Nat} {c : Env → Option Bool} {e : Env → Option Dt} (hi : GI K T wi f) (ha : a ∈ vs) (hb : b ∈ vs) :
    GL K T (tLc wi (gTup K 2 (gCons (gName a) (gCons (gName b) gNil))) (cT K T c) (cE K T e) vs) (fCompP f a b vs c e) := fun G H σ r total F h Q q => by
  unfold fCompP at h
  cases e1 : f r with
  | none => rw [e1] at h; cases h
  | some items =>
    rw [e1] at h
    obtain ⟨hlen, h⟩ := ite_opt h
    refine hi G H σ r items F e1 _ fun J G1 H1 n1 ok D hD => ?_
    have hHD : H D = none := n1.hh.free hD
    have F1 : Fits K T G1 H1 (wipe σ vs) (wipeE r vs) := (F.nx n1).wipe vs
    have tl : total.length ≤ items.length := compP_len h
    refine ⟨fun i m H' => m = items.length - i ∧ i ≤ items.length ∧ ∃ (G' : Hp) (acc : List V) (dsA dsB : List Dt), Nx G1 H1 G' H' ∧ G' D = none ∧ H' D = some (.lst acc) ∧ RpA K T G' acc dsA ∧ compP a b c e (items.drop i) (wipeE r vs) = some dsB ∧ dsA ++ dsB = total,
      ⟨items.length, by simp, Nat.zero_le _, G1, [], [], total, Nx.newH n1.gh hD, n1.gh.free hD, upd_same, .nil, by simpa using h, rfl⟩, ?_⟩
    rintro i m H' ⟨rfl, hi', G', acc, dsA, dsB, n, hGD, hHD', ra, hc, happ⟩
    by_cases hlt : i < items.length
    · refine .inr ⟨ok.goes i H' hlt (n.gg.trans n.gh), fun H2 => ∃ (G' : Hp) (acc : List V) (dsA dsB : List Dt), Nx G1 H1 G' H2 ∧ G' D = none ∧ H2 D = some (.lst acc) ∧ RpA K T G' acc dsA ∧ compP a b c e (items.drop (i + 1)) (wipeE r vs) = some dsB ∧ dsA ++ dsB = total,
        fun H2 w => ⟨items.length - (i + 1), by omega, rfl, hlt, w⟩, fun x H2 y => ?_⟩
      rw [List.drop_eq_getElem_cons hlt] at hc
      obtain ⟨u, v, hd, hc⟩ := compP_some hc
      obtain ⟨G2, n2, rx⟩ := ok.yields i H' x H2 items[i] (List.getElem?_eq_getElem hlt) (n.gg.trans n.gh) y G' n.gg n.gh
      have hGD2 : G2 D = none := n2.out hGD hHD'
      have hHD2 : H2 D = some (.lst acc) := n2.hh _ _ hHD'
      rw [hd] at rx
      cases rx with
      | @tup p ws _ s1 s2 =>
        cases s2 with
        | @cons v1 _ _ _ r1 s2 =>
          cases s2 with
          | @cons v2 _ _ _ r2 s2 =>
            cases s2
            refine ⟨p, [v1, v2], rfl, SqT.mono n2.gh s1, rfl, v1, [v2], rfl, v2, [], rfl, rfl, ?_⟩
            have F2 : Fits K T G2 H2 (((wipe σ vs).set a (some v1)).set b (some v2)) (((wipeE r vs).set a (.val u)).set b (.val v)) := ((F1.nx (n.trans n2)).set r1).set r2
            refine ⟨by rw [wipe_any hb, wipe_set ha], ?_⟩
            have accl : acc.length < sizeLine := by
              have e1 := ra.length
              have e2 : dsA.length ≤ total.length := by rw [← happ, List.length_append]; omega
              have : (100000 : Nat) < sizeLine := by decide
              omega
            rcases hc with ⟨hb', hrest⟩ | ⟨hb', d, ds, he, hrest, rfl⟩
            · refine ⟨G2, _, false, F2, hb', fun G3 H3 n3 => ?_⟩
              dsimp only
              rw [if_neg Bool.false_ne_true]
              exact ⟨G3, acc, dsA, dsB, (n.trans n2).trans n3, n3.out hGD2 hHD2, n3.hh _ _ hHD2, RpA.mono (n2.gg.trans n3.gg) _ ra, hrest, happ⟩
            · refine ⟨G2, _, true, F2, hb', fun G3 H3 n3 => ?_⟩
              dsimp only
              rw [if_pos rfl]
              refine ⟨G3, _, d, F2.nx n3, he, fun v G4 H4 n4 r4 => ⟨acc, n4.hh _ _ (n3.hh _ _ hHD2), accl, ?_⟩⟩
              have hGD4 : G4 D = none := (n3.trans n4).out hGD2 hHD2
              have n14 := ((n.trans n2).trans n3).trans n4
              refine ⟨G4, acc ++ [v], dsA ++ [d], ds, ⟨n14.gg, fun b o hb => ?_, same_updR n14.gh hGD4, n14.fr, n14.nf.trans (NoF.upd (fun _ _ z => by cases z))⟩, hGD4, upd_same, (RpA.mono ((n2.gg.trans n3.gg).trans n4.gg) _ ra).append (.cons r4 .nil), hrest, by rw [List.append_assoc]; exact happ⟩
              rw [upd_ne (ne_of_none hb hD)]
              exact n14.hh _ _ hb
    · have e : i = items.length := by omega
      subst e
      refine .inl ⟨ok.stops H' (n.gg.trans n.gh), ?_⟩
      rw [List.drop_length] at hc
      cases hc
      rw [List.append_nil] at happ
      subst happ
      exact q D acc G' H' (n1.trans n) hHD hGD hHD' ra
theorem pg_pair {a b : Nat} {x y : Str} {k : Nat} {px py pos : Pos} (hc : X.calm = true) (h1 : PG X (.Name x px) (gName a)) (h2 : PG X (.Name y py) (gName b)) : PG X (.Tuple [.Name x px, .Name y py] k pos) (gTup X.K 2 (gCons (gName a) (gCons (gName b) gNil))) :=
  pg_tup hc (pgs_cons h1 (pgs_cons h2 pgs_nil))
theorem dl_lcP {elt iter : Expr} {x y : Str} {px py tpos : Pos} {tk : Nat} {ifs : List Expr} {scope : Scope} {own : List (Str × Nat)} {pos : Pos} {f : Env → Option (List Dt)} {c : Env → Option Bool} {e : Env → Option Dt} {a b : Nat} (hc : X.calm = true) (hN : X.N.Nodup) (hi : DI X T (.Tuple [.Name x px, .Name y py] tk tpos) iter f) (ok : BlkOk X.N X.env.scope scope own) (ha : a ∈ own.map (·.2)) (hb : b ∈ own.map (·.2))
    (hg : ∀ (s : Shared) (H : Hp) (C : Addr) (cl : List (Str × Addr)) (fp : List Addr), PG (X.blk s H scope (compEnvC scope cl C X.env) fp) (.Tuple [.Name x px, .Name y py] tk tpos) (gTup X.K 2 (gCons (gName a) (gCons (gName b) gNil)))) (ht : ∀ (s : Shared) (H : Hp) (C : Addr) (cl : List (Str × Addr)) (fp : List Addr), DTs (X.blk s H scope (compEnvC scope cl C X.env) fp) T ifs c)
    (he : ∀ (s : Shared) (H : Hp) (C : Addr) (cl : List (Str × Addr)) (fp : List Addr), DE (X.blk s H scope (compEnvC scope cl C X.env) fp) T elt e) (hs : ∀ x, foldedSetIterable iter X.env x = pure x := by intro _; rfl) :
    DL X T (.ListComp elt [⟨.Tuple [.Name x px, .Name y py] tk tpos, iter, ifs, 0⟩] scope pos) (fCompP f a b (own.map (·.2)) c e) := by
  obtain ⟨ti, pi, gi⟩ := hi.ex
  exact ⟨_, pe_lc hc hN pi ok hg (fun s H C cl fp => (ht s H C cl fp).pt) (fun s H C cl fp => (he s H C cl fp).pe) hs, gl_lcP gi ha hb⟩
theorem ds_setLcP (i : Nat) {z : Str} {pz : Pos} {elt iter : Expr} {x y : Str} {px py tpos : Pos} {tk : Nat} {ifs : List Expr} {scope : Scope} {own : List (Str × Nat)} {pos spos : Pos} {f : Env → Option (List Dt)} {c : Env → Option Bool} {e : Env → Option Dt} {a b : Nat} (hc : X.calm = true) (hN : X.N.Nodup) (hi : DI X T (.Tuple [.Name x px, .Name y py] tk tpos) iter f) (ok : BlkOk X.N X.env.scope scope own) (ha : a ∈ own.map (·.2)) (hb : b ∈ own.map (·.2))
    (hg : ∀ (s : Shared) (H : Hp) (C : Addr) (cl : List (Str × Addr)) (fp : List Addr), PG (X.blk s H scope (compEnvC scope cl C X.env) fp) (.Tuple [.Name x px, .Name y py] tk tpos) (gTup X.K 2 (gCons (gName a) (gCons (gName b) gNil)))) (ht : ∀ (s : Shared) (H : Hp) (C : Addr) (cl : List (Str × Addr)) (fp : List Addr), DTs (X.blk s H scope (compEnvC scope cl C X.env) fp) T ifs c)
    (he : ∀ (s : Shared) (H : Hp) (C : Addr) (cl : List (Str × Addr)) (fp : List Addr), DE (X.blk s H scope (compEnvC scope cl C X.env) fp) T elt e)
    (hsw : swapsWith (.ListComp elt [⟨.Tuple [.Name x px, .Name y py] tk tpos, iter, ifs, 0⟩] scope pos) (some (.Name z pz)) spos.line X.env = pure true) (hy : X.N[i]? = some z := by rfl) (hyl : X.env.scope.names.lookup z = some .local := by rfl) (hs : ∀ x, foldedSetIterable iter X.env x = pure x := by intro _; rfl) :
    DS X T (.Assign [.Name z pz] (.ListComp elt [⟨.Tuple [.Name x px, .Name y py] tk tpos, iter, ifs, 0⟩] scope pos) spos) (fSet i (fL (fCompP f a b (own.map (·.2)) c e))) := by
  obtain ⟨ti, pi, gi⟩ := hi.ex
  exact ⟨_, ps_setLc hc hN hy hyl hsw pi ok hg (fun s H C cl fp => (ht s H C cl fp).pt) (fun s H C cl fp => (he s H C cl fp).pe) hs, gs_set (ge_l (gl_lcP gi ha hb))⟩
/-! zip -/
def zipL (as bs : List Dt) : List Dt := List.zipWith (fun x y => .tup [x, y]) as bs
def zipD (ds : List Dt) : Option (List Dt) := match ds with
  | [.lst as, .lst bs] => some (zipL as bs)
  | _ => none
theorem itok_zip {p q : Addr} {xs ys : List V} {as bs : List Dt} {B : Hp} (h1 : SqL K B p xs) (h2 : SqL K B q ys) (r1 : RpA K T B xs as) (r2 : RpA K T B ys bs) : ItOk K T (Itz K p q) B (zipL as bs) := by
  have hl : (zipL as bs).length = min xs.length ys.length := by unfold zipL; rw [List.length_zipWith, r1.length, r2.length]
  refine ⟨fun i H hi e => ?_, fun H e => ⟨xs, ys, e.seq h1, e.seq h2, by rw [hl]; omega⟩, fun i H v H' d hd e y G g1 g2 => ?_⟩
  · rw [hl] at hi
    exact ⟨xs, ys, xs[i]'(by omega), ys[i]'(by omega), e.seq h1, e.seq h2, List.getElem?_eq_getElem (by omega), List.getElem?_eq_getElem (by omega)⟩
  · obtain ⟨A, x, z, rfl, hA, rfl, y1, y2⟩ := y
    have e1 := y1 xs (e.seq h1)
    have e2 := y2 ys (e.seq h2)
    obtain ⟨da, k1, q1⟩ := r1.getV e1
    obtain ⟨db, k2, q2⟩ := r2.getV e2
    unfold zipL at hd
    rw [List.getElem?_zipWith, k1, k2] at hd
    cases hd
    have n := Nx.new (o := .tup [x, z]) g2 hA
    exact ⟨_, n, .tup (SqT.of upd_same) (.cons (Rp.mono (g1.trans n.gg) _ q1) (.cons (Rp.mono (g1.trans n.gg) _ q2) .nil)) (fun _ _ _ => upd_same)⟩
theorem di_zip {e e2 : Expr} {f : Env → Option (List Dt)} {p pos tpos : Pos} {elts : List Expr} {kk : Nat} (hm : X.mg "zip" = none) (ha : DA X T [e, e2] f) (hg : Gl X "zip" := by rfl) (hs : starEach [e, e2] X.env = (false, eval e X.env) :: starEach [e2] X.env := by rfl) (hpl : (backTo pos (starEach [e2] X.env)).any (·.1) = false := by rfl) :
    DI X T (.Tuple elts kk tpos) (.Call (.Name "zip" p) [e, e2] [] pos) (fArgs zipD f) := by
  obtain ⟨ta, pa, ga⟩ := ha.ex
  refine ⟨_, pi_zip hg hm pa hs hpl, fun G H σ r items F e R q => ?_⟩
  unfold fArgs at e
  cases e1 : f r with
  | none => rw [e1] at e; cases e
  | some ds =>
    rw [e1] at e
    replace e : zipD ds = some items := e
    unfold zipD at e
    split at e
    · cases e
      refine ga G H σ r _ F e1 _ fun vs G1 H1 n1 p1 => ?_
      cases p1 with
      | cons p1 p2 =>
        cases p2 with
        | cons p2 p3 =>
          cases p3
          cases p1 with
          | lst a1 a2 =>
            cases p2 with
            | lst b1 b2 => exact ⟨_, _, _, _, rfl, SqL.of (n1.gh _ _ a1), SqL.of (n1.gh _ _ b1), q _ G1 H1 n1 (itok_zip (SqL.of a1) (SqL.of b1) a2 b2)⟩
    · cases e
end
end PL

/-! ### own trees: places within, changes -/
namespace PL
open PySem PySem.Spec PyProof.Rows L2
section
variable {K : PySem.W.Frag} {T : CT} {G H G' H' : Hp}

def kids (H : Hp) : V → Option (List V)
  | .ref a => (match H a with
    | some (.lst vs) => some vs
    | some (.ins _ _ fs) => some (fs.map Prod.snd)
    | _ => none)
  | _ => none
def vAt (H : Hp) : V → List Nat → Option V
  | v, [] => some v
  | v, k :: ks => match kids H v with
    | some vs => (match vs[k]? with
      | some w => vAt H w ks
      | none => none)
    | none => none
def OT.kids : OT → Option (List OT)
  | .node l => some l
  | .ob _ l => some l
  | .leaf _ => none
  | .dic _ _ => none
def OT.withKids : OT → List OT → OT
  | .node _, l => .node l
  | .ob c _, l => .ob c l
  | .leaf d, _ => .leaf d
  | .dic ks l, _ => .dic ks l
def OT.at : OT → List Nat → Option OT
  | t, [] => some t
  | t, k :: ks => match t.kids with
    | some l => (match l[k]? with
      | some u => OT.at u ks
      | none => none)
    | none => none
def OT.put : OT → List Nat → OT → OT
  | _, [], u => u
  | t, k :: ks, u => match t.kids with
    | some l => (match l[k]? with
      | some w => t.withKids (l.set k (OT.put w ks u))
      | none => t)
    | none => t
theorem kids_mono (e : Same H H') {v : V} {vs : List V} (h : kids H v = some vs) : kids H' v = some vs := by
  unfold kids at h ⊢
  split at h
  · rename_i a
    split at h
    · rename_i ws h1
      rw [e _ _ h1]; exact h
    · rename_i h1
      rw [e _ _ h1]; exact h
    · cases h
  · cases h
theorem vAt_mono (e : Same H H') : ∀ {ks : List Nat} {v w : V}, vAt H v ks = some w → vAt H' v ks = some w
  | [], v, w, h => h
  | k :: ks, v, w, h => by
    unfold vAt at h ⊢
    split at h
    · rename_i vs h1
      rw [kids_mono e h1]
      try dsimp only
      split at h
      · rename_i x h2
        first | exact vAt_mono e h | (rw [h2]; exact vAt_mono e h)
      · cases h
    · cases h
theorem vAt_snoc : ∀ {ks : List Nat} {k : Nat} {v w x : V} {vs : List V}, vAt H v ks = some w → kids H w = some vs → vs[k]? = some x → vAt H v (ks ++ [k]) = some x
  | [], k, v, w, x, vs, h, h1, h2 => by
    cases h
    show vAt H v [k] = some x
    unfold vAt
    rw [h1]
    dsimp only
    rw [h2]
    rfl
  | j :: ks, k, v, w, x, vs, h, h1, h2 => by
    show vAt H v (j :: (ks ++ [k])) = some x
    unfold vAt at h ⊢
    split at h
    · rename_i us h3
      try dsimp only
      split at h
      · rename_i y h4
        exact vAt_snoc h h1 h2
      · cases h
    · cases h
theorem OT.at_snoc : ∀ {ks : List Nat} {k : Nat} {t u x : OT} {l : List OT}, t.at ks = some u → u.kids = some l → l[k]? = some x → t.at (ks ++ [k]) = some x
  | [], k, t, u, x, l, h, h1, h2 => by
    cases h
    show OT.at t [k] = some x
    unfold OT.at
    rw [h1]
    dsimp only
    rw [h2]
    rfl
  | j :: ks, k, t, u, x, l, h, h1, h2 => by
    show OT.at t (j :: (ks ++ [k])) = some x
    unfold OT.at at h ⊢
    split at h
    · rename_i us h3
      try dsimp only
      split at h
      · rename_i y h4
        exact OT.at_snoc h h1 h2
      · cases h
    · cases h
mutual
theorem Ow.uniq : ∀ (t : OT) {v : V} {as bs : List Addr}, Ow K T G H v t as → Ow K T G H v t bs → as = bs
  | .leaf d, _, _, _, h, k => by cases h; cases k; rfl
  | .node l, _, _, _, h, k => by
    cases h with
    | node h1 h2 h3 =>
      cases k with
      | node k1 k2 k3 =>
        rw [h1] at k1
        cases k1
        rw [OwA.uniq l h3 k3]
  | .ob c l, _, _, _, h, k => by
    cases h with
    | ob h1 h2 h3 h4 =>
      cases k with
      | ob k1 k2 k3 k4 =>
        rw [h1] at k1
        cases k1
        rw [OwA.uniq l h4 k4]
  | .dic ks l, _, _, _, h, k => by cases h; cases k; rfl
theorem OwA.uniq : ∀ (ts : List OT) {vs : List V} {as bs : List Addr}, OwA K T G H vs ts as → OwA K T G H vs ts bs → as = bs
  | [], _, _, _, h, k => by cases h; cases k; rfl
  | t :: ts, _, _, _, h, k => by
    cases h with
    | cons h1 h2 =>
      cases k with
      | cons k1 k2 => rw [Ow.uniq t h1 k1, OwA.uniq ts h2 k2]
end
/-- one of several -/
theorem OwA.split : ∀ {ts : List OT} {vs : List V} {as : List Addr} {k : Nat} {t : OT}, OwA K T G H vs ts as → ts[k]? = some t →
    ∃ v l1 m l2, vs[k]? = some v ∧ Ow K T G H v t m ∧ as = l1 ++ (m ++ l2) ∧ ∀ H' t' m', Ow K T G H' v t' m' → (∀ a, a ∈ l1 ∨ a ∈ l2 → H' a = H a) → OwA K T G H' vs (ts.set k t') (l1 ++ (m' ++ l2))
  | [], _, _, k, t, h, e => by simp at e
  | u :: us, _, _, 0, t, .cons (v := v) (as := m) (bs := bs) h1 h2, e => by
    simp at e
    subst e
    refine ⟨v, [], m, bs, rfl, h1, rfl, fun H' t' m' q k => ?_⟩
    exact OwA.cons (as := m') (bs := bs) q (OwA.mv (Same.refl G) us h2 (fun a ha => (OwA.inn us h2 a ha).1) (fun a ha => k a (.inr ha)))
  | u :: us, _, _, k + 1, t, .cons (v := v) (as := m0) (bs := bs) h1 h2, e => by
    obtain ⟨w, l1, m, l2, e1, q, rfl, kk⟩ := OwA.split (k := k) (t := t) h2 (by simpa using e)
    refine ⟨w, m0 ++ l1, m, l2, by simpa using e1, q, by simp [List.append_assoc], fun H' t' m' q' hk => ?_⟩
    have r := OwA.cons (Ow.mv (Same.refl G) u h1 (fun a ha => (Ow.inn u h1 a ha).1) (fun a ha => hk a (.inl (List.mem_append_left _ ha)))) (kk H' t' m' q' fun a ha => hk a (ha.imp (List.mem_append_right _) id))
    rw [List.append_assoc]
    exact r
theorem nodup_mid {α : Type} {l1 m l2 m' : List α} {B : α → Prop} (h : (l1 ++ (m ++ l2)).Nodup) (hm : m'.Nodup) (k : ∀ a ∈ m', a ∈ m ∨ a ∉ l1 ++ (m ++ l2)) : (l1 ++ (m' ++ l2)).Nodup := by
  rw [List.nodup_append] at h ⊢
  obtain ⟨h1, h2, h3⟩ := h
  rw [List.nodup_append] at h2 ⊢
  obtain ⟨h4, h5, h6⟩ := h2
  refine ⟨h1, ⟨hm, h5, fun a ha b hb e => ?_⟩, fun a ha b hb e => ?_⟩
  · subst e
    rcases k a ha with z | z
    · exact h6 a z a hb rfl
    · exact z (List.mem_append_right _ (List.mem_append_right _ hb))
  · subst e
    rcases List.mem_append.mp hb with z | z
    · rcases k a z with y | y
      · exact h3 a ha a (List.mem_append_left _ y) rfl
      · exact y (List.mem_append_left _ ha)
    · exact h3 a ha a (List.mem_append_right _ z) rfl
/-- a place within an own tree: what stands there, and how the whole changes with it -/
theorem Ow.place : ∀ {ks : List Nat} {t u : OT} {v : V} {as : List Addr}, Ow K T G H v t as → as.Nodup → t.at ks = some u →
    ∃ w bs, vAt H v ks = some w ∧ Ow K T G H w u bs ∧ (∀ a ∈ bs, a ∈ as) ∧ bs.Nodup ∧
      ∀ H' u' bs', (∀ a ∈ as, a ∉ bs → H' a = H a) → Ow K T G H' w u' bs' → bs'.Nodup → (∀ a ∈ bs', a ∈ bs ∨ a ∉ as) → ∃ as', Ow K T G H' v (t.put ks u') as' ∧ as'.Nodup ∧ ∀ a ∈ as', a ∈ as ∨ a ∈ bs'
  | [], t, u, v, as, h, nd, e => by
    cases e
    exact ⟨v, as, rfl, h, fun a ha => ha, nd, fun H' u' bs' _ q nd' _ => ⟨bs', q, nd', fun a ha => .inr ha⟩⟩
  | k :: ks, .leaf d, u, v, as, h, nd, e => by cases e
  | k :: ks, .dic _ _, u, v, as, h, nd, e => by cases e
  | k :: ks, .node l, u, _, _, .node (a := p) (vs := vs) (as := bs) h1 h2 h3, nd, e => by
    have e' : (match l[k]? with | some u => OT.at u ks | none => none) = some u := e
    split at e'
    · rename_i x hx
      obtain ⟨w0, l1, m, l2, ew, q, rfl, kk⟩ := h3.split hx
      rw [List.nodup_cons] at nd
      obtain ⟨np, nd⟩ := nd
      have ndm : m.Nodup := (List.nodup_append.mp (List.nodup_append.mp nd).2.1).1
      obtain ⟨w, cs, e1, q1, sub, ndc, big⟩ := Ow.place (ks := ks) q ndm e'
      have subm : ∀ a ∈ cs, a ∈ l1 ++ (m ++ l2) := fun a ha => List.mem_append_right _ (List.mem_append_left _ (sub a ha))
      refine ⟨w, cs, ?_, q1, fun a ha => List.mem_cons_of_mem _ (subm a ha), ndc, fun H' u' bs' same q' nd' inn => ?_⟩
      · have hk : kids H (.ref p) = some vs := by
          show (match H p with | some (.lst vs) => some vs | some (.ins _ _ fs) => some (fs.map Prod.snd) | _ => none) = _
          rw [h1]
        unfold vAt
        rw [hk]
        dsimp only
        rw [ew]
        exact e1
      · have out : ∀ a, a ∈ l1 ∨ a ∈ l2 → a ∉ m := fun a ha hm => by
          rw [List.nodup_append] at nd
          rcases ha with ha | ha
          · exact nd.2.2 a ha a (List.mem_append_left _ hm) rfl
          · exact (List.nodup_append.mp nd.2.1).2.2 a hm a ha rfl
        obtain ⟨m', q2, nd2, sub2⟩ := big H' u' bs' (fun a ha hc => same a (List.mem_cons_of_mem _ (List.mem_append_right _ (List.mem_append_left _ ha))) hc) q' nd' (fun a ha => (inn a ha).imp id fun z hm => z (List.mem_cons_of_mem _ (List.mem_append_right _ (List.mem_append_left _ hm))))
        have keep : ∀ a, a ∈ l1 ∨ a ∈ l2 → H' a = H a := fun a ha => same a (List.mem_cons_of_mem _ (ha.elim (List.mem_append_left _) fun z => List.mem_append_right _ (List.mem_append_right _ z))) fun hc => out a ha (sub a hc)
        have hp : p ∉ cs := fun hc => np (subm p hc)
        have far : ∀ a ∈ m', a ∈ m ∨ a ∉ l1 ++ (m ++ l2) := fun a ha => by
          rcases sub2 a ha with z | z
          · exact .inl z
          · rcases inn a z with y | y
            · exact .inl (sub a y)
            · exact .inr fun w => y (List.mem_cons_of_mem _ w)
        refine ⟨p :: (l1 ++ (m' ++ l2)), ?_, ?_, fun a ha => ?_⟩
        · have e2 : (OT.node l).put (k :: ks) u' = .node (l.set k (x.put ks u')) := by
            show (match l[k]? with | some w => (OT.node l).withKids (l.set k (OT.put w ks u')) | none => OT.node l) = _
            rw [hx]
            rfl
          rw [e2]
          exact .node ((same p List.mem_cons_self hp).trans h1) h2 (kk H' _ m' q2 keep)
        · rw [List.nodup_cons]
          refine ⟨fun hm => ?_, nodup_mid (B := fun _ => True) nd nd2 far⟩
          rcases List.mem_append.mp hm with z | z
          · exact np (List.mem_append_left _ z)
          · rcases List.mem_append.mp z with z | z
            · rcases sub2 p z with y | y
              · exact np (List.mem_append_right _ (List.mem_append_left _ y))
              · rcases inn p y with x | x
                · exact hp x
                · exact x List.mem_cons_self
            · exact np (List.mem_append_right _ (List.mem_append_right _ z))
        · rcases List.mem_cons.mp ha with rfl | ha
          · exact .inl List.mem_cons_self
          · rcases List.mem_append.mp ha with z | z
            · exact .inl (List.mem_cons_of_mem _ (List.mem_append_left _ z))
            · rcases List.mem_append.mp z with z | z
              · exact (sub2 a z).imp (fun y => List.mem_cons_of_mem _ (List.mem_append_right _ (List.mem_append_left _ y))) id
              · exact .inl (List.mem_cons_of_mem _ (List.mem_append_right _ (List.mem_append_right _ z)))
    · cases e'
  | k :: ks, .ob c l, u, _, _, .ob (a := p) (dx := dx) (fs := fs) (as := bs) h1 hf h2 h3, nd, e => by
    have e' : (match l[k]? with | some u => OT.at u ks | none => none) = some u := e
    split at e'
    · rename_i x hx
      obtain ⟨w0, l1, m, l2, ew, q, rfl, kk⟩ := h3.split hx
      rw [List.nodup_cons] at nd
      obtain ⟨np, nd⟩ := nd
      have ndm : m.Nodup := (List.nodup_append.mp (List.nodup_append.mp nd).2.1).1
      obtain ⟨w, cs, e1, q1, sub, ndc, big⟩ := Ow.place (ks := ks) q ndm e'
      have subm : ∀ a ∈ cs, a ∈ l1 ++ (m ++ l2) := fun a ha => List.mem_append_right _ (List.mem_append_left _ (sub a ha))
      refine ⟨w, cs, ?_, q1, fun a ha => List.mem_cons_of_mem _ (subm a ha), ndc, fun H' u' bs' same q' nd' inn => ?_⟩
      · have hk : kids H (.ref p) = some (fs.map Prod.snd) := by
          show (match H p with | some (.lst vs) => some vs | some (.ins _ _ fs) => some (fs.map Prod.snd) | _ => none) = _
          rw [h1]
        unfold vAt
        rw [hk]
        dsimp only
        rw [ew]
        exact e1
      · have out : ∀ a, a ∈ l1 ∨ a ∈ l2 → a ∉ m := fun a ha hm => by
          rw [List.nodup_append] at nd
          rcases ha with ha | ha
          · exact nd.2.2 a ha a (List.mem_append_left _ hm) rfl
          · exact (List.nodup_append.mp nd.2.1).2.2 a hm a ha rfl
        obtain ⟨m', q2, nd2, sub2⟩ := big H' u' bs' (fun a ha hc => same a (List.mem_cons_of_mem _ (List.mem_append_right _ (List.mem_append_left _ ha))) hc) q' nd' (fun a ha => (inn a ha).imp id fun z hm => z (List.mem_cons_of_mem _ (List.mem_append_right _ (List.mem_append_left _ hm))))
        have keep : ∀ a, a ∈ l1 ∨ a ∈ l2 → H' a = H a := fun a ha => same a (List.mem_cons_of_mem _ (ha.elim (List.mem_append_left _) fun z => List.mem_append_right _ (List.mem_append_right _ z))) fun hc => out a ha (sub a hc)
        have hp : p ∉ cs := fun hc => np (subm p hc)
        have far : ∀ a ∈ m', a ∈ m ∨ a ∉ l1 ++ (m ++ l2) := fun a ha => by
          rcases sub2 a ha with z | z
          · exact .inl z
          · rcases inn a z with y | y
            · exact .inl (sub a y)
            · exact .inr fun w => y (List.mem_cons_of_mem _ w)
        refine ⟨p :: (l1 ++ (m' ++ l2)), ?_, ?_, fun a ha => ?_⟩
        · have e2 : (OT.ob c l).put (k :: ks) u' = .ob c (l.set k (x.put ks u')) := by
            show (match l[k]? with | some w => (OT.ob c l).withKids (l.set k (OT.put w ks u')) | none => OT.ob c l) = _
            rw [hx]
            rfl
          rw [e2]
          exact .ob ((same p List.mem_cons_self hp).trans h1) hf h2 (kk H' _ m' q2 keep)
        · rw [List.nodup_cons]
          refine ⟨fun hm => ?_, nodup_mid (B := fun _ => True) nd nd2 far⟩
          rcases List.mem_append.mp hm with z | z
          · exact np (List.mem_append_left _ z)
          · rcases List.mem_append.mp z with z | z
            · rcases sub2 p z with y | y
              · exact np (List.mem_append_right _ (List.mem_append_left _ y))
              · rcases inn p y with x | x
                · exact hp x
                · exact x List.mem_cons_self
            · exact np (List.mem_append_right _ (List.mem_append_right _ z))
        · rcases List.mem_cons.mp ha with rfl | ha
          · exact .inl List.mem_cons_self
          · rcases List.mem_append.mp ha with z | z
            · exact .inl (List.mem_cons_of_mem _ (List.mem_append_left _ z))
            · rcases List.mem_append.mp z with z | z
              · exact (sub2 a z).imp (fun y => List.mem_cons_of_mem _ (List.mem_append_right _ (List.mem_append_left _ y))) id
              · exact .inl (List.mem_cons_of_mem _ (List.mem_append_right _ (List.mem_append_right _ z)))
    · cases e'
end

section
variable {K : PySem.W.Frag} {T : CT} {B G0 H0 G H : Hp} {σ : L2.St} {r : Env}
/-- an own tree changes at a place -/
theorem St1.mutAt (S : St1 K T B G0 H0 G H σ r) {N : Addr → Prop} (htr : Tr K T G H (fun a => H0 a = none ∧ ¬ N a) σ r) (hN : ∀ a, N a → H0 a = none ∧ G a = none ∧ ∀ (j : Nat) (ds : List Dt), r[j]? = some (.own ds) → σ[j]? ≠ some (some (.ref a)))
    {i : Nat} {t u : OT} {ks : List Nat} (hr : r[i]? = some (.tre t)) (hu : t.at ks = some u) :
    ∃ v w bs, σ[i]? = some (some v) ∧ vAt H v ks = some w ∧ Ow K T G H w u bs ∧ bs.Nodup ∧ ∀ H' u' bs', (∀ a, a ∉ bs → ¬ N a → H' a = H a) → Same G H' → NoF H H' → Ow K T G H' w u' bs' → bs'.Nodup → (∀ a ∈ bs', a ∈ bs ∨ N a) → (∀ a, N a → a ∉ bs) → St1 K T B G0 H0 G H' σ (r.set i (.tre (t.put ks u'))) := by
  obtain ⟨m, k1, k2, k3⟩ := htr
  obtain ⟨⟨v, hv, q⟩, nd, hP⟩ := k1 i t hr
  obtain ⟨w, bs, e1, q1, sub, ndb, big⟩ := Ow.place q nd hu
  have hi : i < r.length := (List.getElem?_eq_some_iff.mp hr).1
  refine ⟨v, w, bs, hv, e1, q1, ndb, fun H' u' bs' same gh nf' q' nd' inn nb => ?_⟩
  have same' : ∀ a, a ∉ bs → H' a ≠ H a → N a := fun a ha hne => Classical.byContradiction fun hn => hne (same a ha hn)
  obtain ⟨as', q2, nd2, sub2⟩ := big H' u' bs' (fun a ha hb => same a hb (hP a ha).2) q' nd' (fun a ha => (inn a ha).imp id fun hn hm => (hP a hm).2 hn)
  have H0bs : ∀ a ∈ bs, H0 a = none := fun a ha => (hP a (sub a ha)).1
  have backT : ∀ (j : Nat) (x : OT), j ≠ i → (r.set i (.tre (t.put ks u')))[j]? = some (.tre x) → r[j]? = some (.tre x) := fun j x hj e => by
    rw [List.getElem?_set_ne (Ne.symm hj)] at e
    exact e
  have selfT : ∀ (x : OT), (r.set i (.tre (t.put ks u')))[i]? = some (.tre x) → x = t.put ks u' := fun x e => by
    rw [List.getElem?_set_self hi] at e
    cases e; rfl
  have backO : ∀ (j : Nat) (ds : List Dt), (r.set i (.tre (t.put ks u')))[j]? = some (.own ds) → j ≠ i ∧ r[j]? = some (.own ds) := fun j ds e => by
    by_cases hj : j = i
    · subst hj; rw [List.getElem?_set_self hi] at e; cases e
    · rw [List.getElem?_set_ne (Ne.symm hj)] at e
      exact ⟨hj, e⟩
  have as0 : ∀ a ∈ as', a ∈ m i ∨ N a := fun a ha => by
    rcases sub2 a ha with z | z
    · exact .inl z
    · exact (inn a z).imp (sub a) id
  have tr' : Tr K T G H' (fun a => H0 a = none) σ (r.set i (.tre (t.put ks u'))) := by
    refine ⟨fun j => if j = i then as' else m j, fun j x e => ?_, fun j k x y hjk ej ek a ha => ?_, fun j k x ds p ej ek ep => ?_⟩
    · by_cases hj : j = i
      · subst hj
        rw [selfT x e]
        simp only [if_true]
        refine ⟨⟨v, hv, q2⟩, nd2, fun a ha => ?_⟩
        rcases as0 a ha with z | z
        · exact (hP a z).1
        · exact (hN a z).1
      · simp only [hj, if_false]
        obtain ⟨⟨v', hv', q3⟩, nd3, hP3⟩ := k1 j x (backT j x hj e)
        refine ⟨⟨v', hv', Ow.mv (Same.refl G) x q3 (fun a ha => (Ow.inn x q3 a ha).1) fun a ha => same a (fun hb => k2 i j t x (Ne.symm hj) hr (backT j x hj e) a (sub a hb) ha) (hP3 a ha).2⟩, nd3, fun a ha => (hP3 a ha).1⟩
    · by_cases hj : j = i
      · subst hj
        have hk : k ≠ j := Ne.symm hjk
        simp only [if_true] at ha
        simp only [hk, if_false]
        rcases as0 a ha with z | z
        · exact k2 j k t y hjk hr (backT k y hk ek) a z
        · exact fun hm => ((k1 k y (backT k y hk ek)).2.2 a hm).2 z
      · simp only [hj, if_false] at ha
        by_cases hk : k = i
        · subst hk
          simp only [if_true]
          intro hm
          rcases as0 a hm with z | z
          · exact k2 j k x t hjk (backT j x hj ej) hr a ha z
          · exact ((k1 j x (backT j x hj ej)).2.2 a ha).2 z
        · simp only [hk, if_false]
          exact k2 j k x y hjk (backT j x hj ej) (backT k y hk ek) a ha
    · obtain ⟨hk, ek'⟩ := backO k ds ek
      by_cases hj : j = i
      · subst hj
        simp only [if_true]
        intro hm
        rcases as0 p hm with z | z
        · exact k3 j k t ds p hr ek' ep z
        · exact (hN p z).2.2 k ds ek' ep
      · simp only [hj, if_false]
        exact k3 j k x ds p (backT j x hj ej) ek' ep
  refine ⟨⟨gh, by rw [List.length_set]; exact S.fits.len, fun j d h => ?_, fun j ds h => ?_, fun j k ds es p h1 h2 h3 h4 => ?_, tr'.imp fun _ _ => trivial⟩, S.base, ⟨S.nx.gg, fun a o ha => ?_, gh, S.nx.fr, S.nx.nf.trans nf'⟩, fun j ds p h1 h2 => ?_, tr'⟩
  · by_cases hj : j = i
    · subst hj; rw [List.getElem?_set_self hi] at h; cases h
    · rw [List.getElem?_set_ne (Ne.symm hj)] at h
      exact S.fits.val j d h
  · obtain ⟨hj, h⟩ := backO j ds h
    obtain ⟨p, vs, e2, hg, hh, q3⟩ := S.fits.own j ds h
    refine ⟨p, vs, e2, hg, ?_, q3⟩
    rw [same p (fun hb => k3 i j t ds p hr h e2 (sub p hb)) (fun hn => (hN p hn).2.2 j ds h e2)]
    exact hh
  · exact S.fits.sep j k ds es p (backO j ds h1).2 (backO k es h2).2 h3 h4
  · rw [same a (fun hb => by rw [H0bs a hb] at ha; cases ha) (fun hn => by rw [(hN a hn).1] at ha; cases ha)]
    exact S.nx.hh a o ha
  · exact S.ow j ds p (backO j ds h1).2 h2
end
end PL

/-! ### own trees: how they are made -/
namespace PL
open PySem PySem.Spec PyProof.Rows L2
section
variable {K : PySem.W.Frag} {T : CT} {G H G' H' : Hp}
theorem owA_leaves : ∀ {vs : List V} {ds : List Dt}, RpA K T G vs ds → OwA K T G H vs (ds.map .leaf) []
  | _, _, .nil => .nil
  | _, _, .cons r t => OwA.cons (as := []) (bs := []) (.leaf r) (owA_leaves t)
def GU (K : PySem.W.Frag) (T : CT) (te : TE) (f : Env → Option OT) : Prop :=
  ∀ (G H : Hp) (σ : L2.St) (r : Env) (t : OT), Fits K T G H σ r → f r = some t → ∀ Q : VK, (∀ v as G' H', Nx G H G' H' → Ow K T G' H' v t as → as.Nodup → (∀ a ∈ as, H a = none) → Q v H') → te σ H Q
def GUA (K : PySem.W.Frag) (T : CT) (ta : TA) (f : Env → Option (List OT)) : Prop :=
  ∀ (G H : Hp) (σ : L2.St) (r : Env) (ts : List OT), Fits K T G H σ r → f r = some ts → ∀ Q : List V → Hp → Prop, (∀ vs as G' H', Nx G H G' H' → OwA K T G' H' vs ts as → as.Nodup → (∀ a ∈ as, H a = none) → Q vs H') → ta σ H Q
structure DU (X : Cx) (T : CT) (e : Expr) (f : Env → Option OT) : Prop where
  ex : ∃ te, PE X e te ∧ GU X.K T te f
structure DUA (X : Cx) (T : CT) (es : List Expr) (f : Env → Option (List OT)) : Prop where
  ex : ∃ ta, PA X es ta ∧ GUA X.K T ta f
variable {X : Cx}
def uL (f : Env → Option (List Dt)) : Env → Option OT := fun r => (f r).map fun ds => .node (ds.map .leaf)
theorem gu_l {te : TE} {f : Env → Option (List Dt)} (h : GL K T te f) : GU K T te (uL f) := fun G H σ r t F e Q q => by
  unfold uL at e
  cases e1 : f r with
  | none => rw [e1] at e; cases e
  | some ds =>
    rw [e1] at e
    cases e
    refine h G H σ r ds F e1 _ fun p vs G1 H1 n1 hp hg hh q1 => ?_
    exact q (.ref p) [p] G1 H1 n1 (.node hh hg (owA_leaves q1)) (by simp) (fun a ha => by rw [List.mem_singleton.mp ha]; exact hp)
theorem du_l {e : Expr} {f : Env → Option (List Dt)} (h : DL X T e f) : DU X T e (uL f) := by
  obtain ⟨te, pe, ge⟩ := h.ex
  exact ⟨te, pe, gu_l ge⟩
def uNil : Env → Option (List OT) := fun _ => some []
def uCons (a : Env → Option OT) (b : Env → Option (List OT)) : Env → Option (List OT) := fun r => match a r with
  | some t => (match b r with
    | some ts => some (t :: ts)
    | none => none)
  | none => none
theorem dua_nil : DUA X T [] uNil := ⟨_, pa_nil, fun G H σ r ts F e Q q => by
  cases e
  exact q [] [] G H (Nx.refl F.gh) .nil .nil (fun a ha => by cases ha)⟩
theorem dua_cons {e : Expr} {es : List Expr} {a : Env → Option OT} {b : Env → Option (List OT)} (ha : DU X T e a) (hb : DUA X T es b) (hs : starEach (e :: es) X.env = (false, eval e X.env) :: starEach es X.env := by rfl) : DUA X T (e :: es) (uCons a b) := by
  obtain ⟨ta, pa, ga⟩ := ha.ex
  obtain ⟨tb, pb, gb⟩ := hb.ex
  refine ⟨_, pa_cons pa pb hs, fun G H σ r ts F h Q q => ?_⟩
  unfold uCons at h
  split at h
  · rename_i t h1
    split at h
    · rename_i us h2
      cases h
      refine ga G H σ r t F h1 _ fun v as G1 H1 n1 q1 nd1 f1 => ?_
      refine gb G1 H1 σ r us (F.nx n1) h2 _ fun vs bs G2 H2 n2 q2 nd2 f2 => ?_
      refine q (v :: vs) (as ++ bs) G2 H2 (n1.trans n2) (.cons (q1.nx n2) q2) ?_ (fun a ha => ?_)
      · rw [List.nodup_append]
        refine ⟨nd1, nd2, fun a ha b hb e => ?_⟩
        subst e
        obtain ⟨_, o, ho⟩ := Ow.inn t q1 a ha
        rw [f2 a hb] at ho
        cases ho
      · rcases List.mem_append.mp ha with z | z
        · exact f1 a z
        · exact n1.hh.free (f2 a z)
    · cases h
  · cases h
def uLst (a : Env → Option (List OT)) : Env → Option OT := fun r => match a r with
  | some l => if l.length ≤ 100000 then some (.node l) else none
  | none => none
theorem du_lst {es : List Expr} {a : Env → Option (List OT)} {pos : Pos} (ha : DUA X T es a) : DU X T (.List es pos) (uLst a) := by
  obtain ⟨ta, pa, ga⟩ := ha.ex
  refine ⟨_, pe_lst pa, fun G H σ r d F e Q q => ?_⟩
  unfold uLst at e
  split at e
  · rename_i l e1
    obtain ⟨hl, e⟩ := ite_opt e
    cases e
    refine ga G H σ r _ F e1 _ fun vs as G1 H1 n1 p1 nd f1 => ⟨sz5 (by rw [p1.length]; exact hl), fun p hp => ?_⟩
    have n2 := Nx.newH (o := .lst vs) n1.gh hp
    have np : p ∉ as := fun hm => by
      obtain ⟨_, o, ho⟩ := OwA.inn l p1 p hm
      rw [hp] at ho
      cases ho
    exact q (.ref p) (p :: as) G1 _ (n1.trans n2) (.node upd_same (n1.gh.free hp) (p1.nx n2)) (List.nodup_cons.mpr ⟨np, nd⟩) (fun a ha => by
      rcases List.mem_cons.mp ha with rfl | ha
      · exact n1.hh.free hp
      · exact f1 a ha)
  · cases e
/-! ### comprehensions of new things -/
def compU (j : Nat) (c : Env → Option Bool) (e : Env → Option OT) : List Dt → Env → Option (List OT)
  | [], _ => some []
  | x :: xs, r => match c (r.set j (.val x)) with
    | some true => (match e (r.set j (.val x)) with
      | some d => (match compU j c e xs r with
        | some ds => some (d :: ds)
        | none => none)
      | none => none)
    | some false => compU j c e xs r
    | none => none
def uComp (f : Env → Option (List Dt)) (j : Nat) (vs : List Nat) (c : Env → Option Bool) (e : Env → Option OT) : Env → Option OT := fun r => match f r with
  | some items => if items.length ≤ 100000 then (compU j c e items (wipeE r vs)).map .node else none
  | none => none
theorem compU_len {j : Nat} {c : Env → Option Bool} {e : Env → Option OT} {r : Env} : ∀ {items : List Dt} {ds : List OT}, compU j c e items r = some ds → ds.length ≤ items.length
  | [], ds, h => by cases h; exact Nat.le_refl _
  | x :: xs, ds, h => by
    unfold compU at h
    split at h
    · split at h
      · split at h
        · rename_i h2
          cases h
          have := compU_len h2
          rw [List.length_cons, List.length_cons]
          omega
        · cases h
      · cases h
    · have := compU_len h
      rw [List.length_cons]
      omega
    · cases h
def cU (K : PySem.W.Frag) (T : CT) (f : Env → Option OT) : TE := fun σ H Q => ∃ G r t, Fits K T G H σ r ∧ f r = some t ∧ ∀ v as G' H', Nx G H G' H' → Ow K T G' H' v t as → as.Nodup → (∀ a ∈ as, H a = none) → Q v H'
theorem DU.pe {e : Expr} {f : Env → Option OT} (h : DU X T e f) : PE X e (cU X.K T f) := by
  obtain ⟨te, pe, ge⟩ := h.ex
  exact ⟨fun pins s σ H Q I ⟨G, r, d, F, e, q⟩ => pe.run pins s σ H Q I (ge G H σ r d F e Q q)⟩
theorem owA_snoc : ∀ {vs : List V} {ts : List OT} {as bs : List Addr} {v : V} {t : OT}, OwA K T G H vs ts as → Ow K T G H v t bs → OwA K T G H (vs ++ [v]) (ts ++ [t]) (as ++ bs)
  | _, _, _, bs, v, t, .nil, q => by
    have := OwA.cons q OwA.nil
    rw [List.append_nil] at this
    exact this
  | _, _, _, bs, v, t, .cons a b, q => by
    have := OwA.cons a (owA_snoc b q)
    rw [← List.append_assoc] at this
    exact this
theorem gu_lc {wi : TI} {f : Env → Option (List Dt)} {j : Nat} {vs : List Nat} {c : Env → Option Bool} {e : Env → Option OT} (hi : GI K T wi f) (hj : j ∈ vs) : GU K T (tLc wi (gName j) (cT K T c) (cU K T e) vs) (uComp f j vs c e) := fun G H σ r total F h Q q => by
  unfold uComp at h
  cases e1 : f r with
  | none => rw [e1] at h; cases h
  | some items =>
    rw [e1] at h
    obtain ⟨hlen, h⟩ := ite_opt h
    cases e2 : compU j c e items (wipeE r vs) with
    | none => rw [e2] at h; cases h
    | some total' =>
    rw [e2] at h
    cases h
    refine hi G H σ r items F e1 _ fun J G1 H1 n1 ok D hD => ?_
    have hHD : H D = none := n1.hh.free hD
    have F1 : Fits K T G1 H1 (wipe σ vs) (wipeE r vs) := (F.nx n1).wipe vs
    have tl : total'.length ≤ items.length := compU_len e2
    refine ⟨fun i m H' => m = items.length - i ∧ i ≤ items.length ∧ ∃ (G' : Hp) (acc : List V) (as : List Addr) (dsA dsB : List OT), Nx G1 H1 G' H' ∧ G' D = none ∧ H' D = some (.lst acc) ∧ OwA K T G' H' acc dsA as ∧ as.Nodup ∧ (∀ a ∈ as, H1 a = none ∧ a ≠ D) ∧ compU j c e (items.drop i) (wipeE r vs) = some dsB ∧ dsA ++ dsB = total',
      ⟨items.length, by simp, Nat.zero_le _, G1, [], [], [], total', Nx.newH n1.gh hD, n1.gh.free hD, upd_same, .nil, .nil, (fun a ha => by cases ha), by simpa using e2, rfl⟩, ?_⟩
    rintro i m H' ⟨rfl, hi', G', acc, as, dsA, dsB, n, hGD, hHD', ra, nd, fr, hc, happ⟩
    by_cases hlt : i < items.length
    · refine .inr ⟨ok.goes i H' hlt (n.gg.trans n.gh), fun H2 => ∃ (G' : Hp) (acc : List V) (as : List Addr) (dsA dsB : List OT), Nx G1 H1 G' H2 ∧ G' D = none ∧ H2 D = some (.lst acc) ∧ OwA K T G' H2 acc dsA as ∧ as.Nodup ∧ (∀ a ∈ as, H1 a = none ∧ a ≠ D) ∧ compU j c e (items.drop (i + 1)) (wipeE r vs) = some dsB ∧ dsA ++ dsB = total',
        fun H2 w => ⟨items.length - (i + 1), by omega, rfl, hlt, w⟩, fun x H2 y => ?_⟩
      rw [List.drop_eq_getElem_cons hlt] at hc
      obtain ⟨G2, n2, rx⟩ := ok.yields i H' x H2 items[i] (List.getElem?_eq_getElem hlt) (n.gg.trans n.gh) y G' n.gg n.gh
      have hGD2 : G2 D = none := n2.out hGD hHD'
      have hHD2 : H2 D = some (.lst acc) := n2.hh _ _ hHD'
      have F2 : Fits K T G2 H2 ((wipe σ vs).set j (some x)) ((wipeE r vs).set j (.val items[i])) := (F1.nx (n.trans n2)).set rx
      refine ⟨wipe_set hj, ?_⟩
      unfold compU at hc
      have accl : acc.length < sizeLine := by
        have e1 := ra.length
        have e2 : dsA.length ≤ total'.length := by rw [← happ, List.length_append]; omega
        have : (100000 : Nat) < sizeLine := by decide
        omega
      split at hc
      · rename_i hb
        split at hc
        · rename_i d he
          split at hc
          · rename_i ds hrest
            cases hc
            refine ⟨G2, _, true, F2, hb, fun G3 H3 n3 => ?_⟩
            dsimp only
            rw [if_pos rfl]
            refine ⟨G3, _, d, F2.nx n3, he, fun v bs G4 H4 n4 r4 nd4 f4 => ⟨acc, n4.hh _ _ (n3.hh _ _ hHD2), accl, ?_⟩⟩
            have hGD4 : G4 D = none := (n3.trans n4).out hGD2 hHD2
            have n14 := ((n.trans n2).trans n3).trans n4
            have ra4 := ra.nx ((n2.trans n3).trans n4)
            have bD : ∀ a ∈ bs, a ≠ D := fun a ha e => by
              have := f4 a ha
              rw [e, n3.hh _ _ hHD2] at this
              cases this
            have all := owA_snoc ra4 r4
            refine ⟨G4, acc ++ [v], as ++ bs, dsA ++ [d], ds, ⟨n14.gg, fun b o hb => ?_, same_updR n14.gh hGD4, n14.fr, n14.nf.trans (NoF.upd (fun _ _ z => by cases z))⟩, hGD4, upd_same, OwA.mv (Same.refl G4) _ all (fun a ha => (OwA.inn _ all a ha).1) (fun a ha => upd_ne ?_), ?_, fun a ha => ?_, hrest, by rw [List.append_assoc]; exact happ⟩
            · rw [upd_ne (ne_of_none hb hD)]
              exact n14.hh _ _ hb
            · rcases List.mem_append.mp ha with z | z
              · exact (fr a z).2
              · exact bD a z
            · rw [List.nodup_append]
              refine ⟨nd, nd4, fun a ha b hb e => ?_⟩
              subst e
              obtain ⟨_, o, ho⟩ := OwA.inn _ ra a ha
              have := (n2.trans n3).hh _ _ ho
              rw [f4 a hb] at this
              cases this
            · rcases List.mem_append.mp ha with z | z
              · exact fr a z
              · exact ⟨((n.trans n2).trans n3).hh.free (f4 a z), bD a z⟩
          · cases hc
        · cases hc
      · rename_i hb
        refine ⟨G2, _, false, F2, hb, fun G3 H3 n3 => ?_⟩
        dsimp only
        rw [if_neg Bool.false_ne_true]
        exact ⟨G3, acc, as, dsA, dsB, (n.trans n2).trans n3, n3.out hGD2 hHD2, n3.hh _ _ hHD2, ra.nx (n2.trans n3), nd, fr, hc, happ⟩
      · cases hc
    · have e : i = items.length := by omega
      subst e
      refine .inl ⟨ok.stops H' (n.gg.trans n.gh), ?_⟩
      rw [List.drop_length] at hc
      cases hc
      rw [List.append_nil] at happ
      subst happ
      refine q (.ref D) (D :: as) G' H' (n1.trans n) (.node hHD' hGD ra) (List.nodup_cons.mpr ⟨fun hm => (fr D hm).2 rfl, nd⟩) (fun a ha => ?_)
      rcases List.mem_cons.mp ha with rfl | ha
      · exact hHD
      · exact n1.hh.free (fr a ha).1
theorem du_lc {elt iter : Expr} {x : Str} {px : Pos} {ifs : List Expr} {scope : Scope} {own : List (Str × Nat)} {pos : Pos} {f : Env → Option (List Dt)} {c : Env → Option Bool} {e : Env → Option OT} {j : Nat} (hc : X.calm = true) (hN : X.N.Nodup) (hi : DI X T (.Name x px) iter f) (ok : BlkOk X.N X.env.scope scope own) (hj : j ∈ own.map (·.2))
    (hg : ∀ (s : Shared) (H : Hp) (C : Addr) (cl : List (Str × Addr)) (fp : List Addr), PG (X.blk s H scope (compEnvC scope cl C X.env) fp) (.Name x px) (gName j)) (ht : ∀ (s : Shared) (H : Hp) (C : Addr) (cl : List (Str × Addr)) (fp : List Addr), DTs (X.blk s H scope (compEnvC scope cl C X.env) fp) T ifs c)
    (he : ∀ (s : Shared) (H : Hp) (C : Addr) (cl : List (Str × Addr)) (fp : List Addr), DU (X.blk s H scope (compEnvC scope cl C X.env) fp) T elt e) (hs : ∀ x, foldedSetIterable iter X.env x = pure x := by intro _; rfl) :
    DU X T (.ListComp elt [⟨.Name x px, iter, ifs, 0⟩] scope pos) (uComp f j (own.map (·.2)) c e) := by
  obtain ⟨ti, pi, gi⟩ := hi.ex
  exact ⟨_, pe_lc hc hN pi ok hg (fun s H C cl fp => (ht s H C cl fp).pt) (fun s H C cl fp => (he s H C cl fp).pe) hs, gu_lc gi hj⟩
/-! ### read while own lists stand still -/
def flatD : Dt → Bool
  | .non => true
  | .bl _ => true
  | .int _ => true
  | .str _ => true
  | _ => false
mutual
def OT.flat : OT → Bool
  | .leaf d => flatD d
  | .node l => OT.flats l
  | .ob _ l => OT.flats l
  | .dic _ _ => false
def OT.flats : List OT → Bool
  | [] => true
  | t :: l => t.flat && OT.flats l
end
theorem Rp.reG {d : Dt} {v : V} (h : Rp K T G v d) (f : flatD d = true) : Rp K T G' v d := by
  cases h with
  | non => exact .non
  | bl b => exact .bl b
  | int i => exact .int i
  | str l => exact .str l
  | _ => cases f
mutual
theorem Ow.reG : ∀ (t : OT) {v : V} {as : List Addr}, Ow K T G H v t as → t.flat = true → (∀ a ∈ as, G' a = none) → Ow K T G' H v t as
  | .leaf d, _, _, h, f, g => by cases h with | leaf q => exact .leaf (q.reG (by rw [OT.flat] at f; exact f))
  | .node l, _, _, h, f, g => by
    cases h with
    | node h1 h2 h3 => exact .node h1 (g _ List.mem_cons_self) (OwA.reG l h3 (by rw [OT.flat] at f; exact f) fun a ha => g a (List.mem_cons_of_mem _ ha))
  | .ob c l, _, _, h, f, g => by
    cases h with
    | ob h1 h2 h3 h4 => exact .ob h1 h2 (g _ List.mem_cons_self) (OwA.reG l h4 (by rw [OT.flat] at f; exact f) fun a ha => g a (List.mem_cons_of_mem _ ha))
  | .dic ks l, _, _, h, f, g => by rw [OT.flat] at f; cases f
theorem OwA.reG : ∀ (ts : List OT) {vs : List V} {as : List Addr}, OwA K T G H vs ts as → OT.flats ts = true → (∀ a ∈ as, G' a = none) → OwA K T G' H vs ts as
  | [], _, _, h, f, g => by cases h; exact .nil
  | t :: ts, _, _, h, f, g => by
    cases h with
    | cons h1 h2 =>
      rw [OT.flats, Bool.and_eq_true] at f
      exact .cons (Ow.reG t h1 f.1 fun a ha => g a (List.mem_append_left _ ha)) (OwA.reG ts h2 f.2 fun a ha => g a (List.mem_append_right _ ha))
end
def uFrz (f : Env → Option OT) : Env → Option OT := fun r => match f (frzE r) with
  | some t => if t.flat then some t else none
  | none => none
theorem du_frz {e : Expr} {f : Env → Option OT} (h : DU X T e f) : DU X T e (uFrz f) := by
  obtain ⟨te, pe, ge⟩ := h.ex
  refine ⟨te, pe, fun G H σ r t F e Q q => ?_⟩
  unfold uFrz at e
  split at e
  · rename_i t' e1
    obtain ⟨hf, e⟩ := ite_opt e
    cases e
    refine ge H H σ (frzE r) _ F.frz e1 _ fun v as G1 H1 n1 q1 nd f1 => ?_
    exact q v as G H1 ((Nx.refl F.gh).growH n1.hh n1.nf) (Ow.reG _ q1 hf fun a ha => F.gh.free (f1 a ha)) nd f1
  · cases e
def fFrzF (f : Env → Option Dt) : Env → Option Dt := fun r => match f (frzE r) with
  | some d => if flatD d then some d else none
  | none => none
theorem de_frzF {e : Expr} {f : Env → Option Dt} (h : DE X T e f) : DE X T e (fFrzF f) := by
  obtain ⟨te, pe, ge⟩ := h.ex
  refine ⟨te, pe, fun G H σ r d F e Q q => ?_⟩
  unfold fFrzF at e
  split at e
  · rename_i d' e1
    obtain ⟨hf, e⟩ := ite_opt e
    cases e
    exact ge H H σ (frzE r) _ F.frz e1 _ fun v G1 H1 n1 q1 => q v G H1 ((Nx.refl F.gh).growH n1.hh n1.nf) (q1.reG hf)
  · cases e
/-- only the own trees stand still -/
def frzT1 : Sl → Sl
  | .tre t => .val t.toD
  | s => s
def frzTE (r : Env) : Env := r.map frzT1
theorem frzTE_get {r : Env} (i : Nat) : (frzTE r)[i]? = (r[i]?).map frzT1 := by
  unfold frzTE
  rw [List.getElem?_map]
mutual
theorem Ow.rpG (e : Same G G') : ∀ (t : OT) {v : V} {as : List Addr}, Ow K T G H v t as → (∀ a ∈ as, G' a = H a) → Rp K T G' v t.toD
  | .leaf d, _, _, h, _ => by cases h with | leaf q => rw [OT.toD]; exact Rp.mono e d q
  | .node l, _, _, h, k => by cases h with | node h1 h2 h3 => rw [OT.toD]; exact .lst ((k _ List.mem_cons_self).trans h1) (OwA.rpG e l h3 fun a ha => k a (List.mem_cons_of_mem _ ha))
  | .ob c l, _, _, h, k => by cases h with | ob h1 h2 h3 h4 => rw [OT.toD]; exact .obj ((k _ List.mem_cons_self).trans h1) h2 (OwA.rpG e l h4 fun a ha => k a (List.mem_cons_of_mem _ ha))
  | .dic ks l, _, _, h, k => by cases h with | dic h1 h2 h3 h4 => rw [OT.toD]; exact .dic (.inl ((k _ List.mem_cons_self).trans h1)) h3 (RpA.mono e l h4)
theorem OwA.rpG (e : Same G G') : ∀ (ts : List OT) {vs : List V} {as : List Addr}, OwA K T G H vs ts as → (∀ a ∈ as, G' a = H a) → RpA K T G' vs (OT.toDs ts)
  | [], _, _, h, _ => by cases h; rw [OT.toDs]; exact .nil
  | t :: ts, _, _, h, k => by cases h with | cons h1 h2 => rw [OT.toDs]; exact .cons (Ow.rpG e t h1 fun a ha => k a (List.mem_append_left _ ha)) (OwA.rpG e ts h2 fun a ha => k a (List.mem_append_right _ ha))
end
theorem Fits.frzT {σ : L2.St} {r : Env} (F : Fits K T G H σ r) : ∃ G', Same G G' ∧ Fits K T G' H σ (frzTE r) ∧ ∀ a, G' a = G a ∨ ∃ o, G' a = some o ∧ isMut o := by
  classical
  obtain ⟨m, k1, k2, k3⟩ := F.tr
  let W : Addr → Prop := fun a => ∃ i t, r[i]? = some (Sl.tre t) ∧ a ∈ m i
  have inH : ∀ a, W a → G a = none ∧ ∃ o, H a = some o ∧ isMut o := fun a ⟨i, t, e, ha⟩ => by
    obtain ⟨⟨v, _, q⟩, _⟩ := k1 i t e
    exact ⟨(Ow.inn t q a ha).1, Ow.muts t q a ha⟩
  let G' : Hp := fun a => if W a then H a else G a
  have gW : ∀ a, W a → G' a = H a := fun a h => if_pos h
  have gN : ∀ a, ¬ W a → G' a = G a := fun a h => if_neg h
  have gg : Same G G' := fun a o h => by
    rw [gN a fun w => by rw [(inH a w).1] at h; cases h]
    exact h
  have gh : Same G' H := fun a o h => by
    by_cases w : W a
    · rw [gW a w] at h; exact h
    · rw [gN a w] at h; exact F.gh _ _ h
  have backO : ∀ (i : Nat) (ds : List Dt), (frzTE r)[i]? = some (.own ds) → r[i]? = some (.own ds) := fun i ds h => by
    rw [frzTE_get] at h
    cases e : r[i]? with
    | none => rw [e] at h; cases h
    | some s => rw [e] at h; cases s <;> cases h; rfl
  refine ⟨G', gg, ⟨gh, by unfold frzTE; rw [List.length_map]; exact F.len, fun i d h => ?_, fun i ds h => ?_, fun i j ds es p h1 h2 => F.sep i j ds es p (backO i ds h1) (backO j es h2), Tr.nil fun i t h => ?_⟩, fun a => ?_⟩
  · rw [frzTE_get] at h
    cases e : r[i]? with
    | none => rw [e] at h; cases h
    | some s =>
      rw [e] at h
      cases s with
      | no => cases h
      | own l => cases h
      | val d' =>
        cases h
        obtain ⟨v, e1, q⟩ := F.val i d e
        exact ⟨v, e1, Rp.mono gg d q⟩
      | tre t =>
        cases h
        obtain ⟨⟨v, hv, q⟩, _⟩ := k1 i t e
        exact ⟨v, hv, Ow.rpG gg t q fun a ha => gW a ⟨i, t, e, ha⟩⟩
  · obtain ⟨p, vs, e1, hg, hh, q⟩ := F.own i ds (backO i ds h)
    refine ⟨p, vs, e1, ?_, hh, RpA.mono gg ds q⟩
    rw [gN p fun ⟨j, t, e, ha⟩ => k3 j i t ds p e (backO i ds h) e1 ha]
    exact hg
  · rw [frzTE_get] at h
    cases e : r[i]? with
    | none => rw [e] at h; cases h
    | some s => rw [e] at h; cases s <;> cases h
  · by_cases w : W a
    · obtain ⟨_, o, ho, hm⟩ := inH a w
      exact .inr ⟨o, (gW a w).trans ho, hm⟩
    · exact .inl (gN a w)
/-- a plain value or a tuple of such -/
def flatT : Dt → Bool
  | .tup l => l.all flatD
  | d => flatD d
theorem RpA.reG : ∀ {vs : List V} {ds : List Dt}, RpA K T G vs ds → ds.all flatD = true → RpA K T G' vs ds
  | _, _, .nil, _ => .nil
  | _, _, .cons r t, f => by
    rw [List.all_cons, Bool.and_eq_true] at f
    exact .cons (r.reG f.1) (t.reG f.2)
def fFrzT (f : Env → Option Dt) : Env → Option Dt := fun r => match f (frzTE r) with
  | some d => if flatT d then some d else none
  | none => none
theorem de_frzT {e : Expr} {f : Env → Option Dt} (h : DE X T e f) : DE X T e (fFrzT f) := by
  classical
  obtain ⟨te, pe, ge⟩ := h.ex
  refine ⟨te, pe, fun G H σ r d F e Q q => ?_⟩
  unfold fFrzT at e
  split at e
  · rename_i d' e1
    obtain ⟨hf, e⟩ := ite_opt e
    have ed : d' = d := by cases e; rfl
    subst ed
    obtain ⟨G', gg, F', hm⟩ := F.frzT
    refine ge G' H σ (frzTE r) _ F' e1 _ fun v G1 H1 n1 q1 => ?_
    let G2 : Hp := fun a => if Nw H a then G1 a else G a
    have gN : ∀ a, Nw H a → G2 a = G1 a := fun a h => if_pos h
    have gO : ∀ a, ¬ Nw H a → G2 a = G a := fun a h => if_neg h
    have sub : ∀ a o, G2 a = some o → G1 a = some o := fun a o h => by
      by_cases w : Nw H a
      · rw [gN a w] at h; exact h
      · rw [gO a w] at h; exact n1.gg _ _ (gg _ _ h)
    have n2 : Nx G H G2 H1 := by
      refine ⟨fun a o h => ?_, n1.hh, fun a o h => n1.gh _ _ (sub a o h), fun a => ?_, n1.nf⟩
      · by_cases w : Nw H a
        · rw [gN a w]; exact n1.gg _ _ (gg _ _ h)
        · rw [gO a w]; exact h
      · by_cases w : Nw H a
        · exact .inr (.inr w)
        · rw [gO a w]
          cases h : G a with
          | none => exact .inl rfl
          | some o => exact .inr (.inl fun z => by cases z)
    refine q v G2 H1 n2 ?_
    cases d' with
    | tup l =>
      cases q1 with
      | @tup a xs _ a1 a2 a3 =>
        have key : ∀ o, G1 a = some o → ¬ isMut o → G2 a = some o := fun o h hn => by
          by_cases w : Nw H a
          · rw [gN a w]; exact h
          · rw [gO a w]
            rcases n1.fr a with z | z | z
            · rw [h] at z; cases z
            · rcases hm a with y | ⟨o', y, hy⟩
              · rw [← y]
                cases e3 : G' a with
                | none => exact absurd e3 z
                | some o'' =>
                  have := n1.gg _ _ e3
                  rw [h] at this
                  cases this
                  rfl
              · have := n1.gg _ _ y
                rw [h] at this
                cases this
                exact absurd hy hn
            · exact absurd z w
        refine .tup ?_ (a2.reG hf) (fun n ns z => key _ (a3 n ns z) id)
        rcases a1 with (h | ⟨o, h⟩) | h
        · exact .inl (.inl (key _ h id))
        · exact .inl (.inr ⟨o, key _ h id⟩)
        · exact .inr h
    | _ => exact q1.reG hf
  · cases e
end
end PL

/-! ### own trees: statements -/
namespace PL
open PySem PySem.Spec PyProof.Rows L2
section
variable {X : Cx} {T : CT} {K : PySem.W.Frag} {B G0 H0 G H G1 H1 G' H' : Hp} {σ : L2.St} {r : Env}

theorem Fits.setNoX {i : Nat} (x : Option V) (F : Fits K T G H σ r) : Fits K T G H (σ.set i x) (r.set i .no) := by
  have at_i : ∀ (j : Nat) (s : Sl), s ≠ .no → (r.set i .no)[j]? = some s → j ≠ i ∧ r[j]? = some s := fun j s hs h => by
    by_cases hj : j = i
    · subst hj
      by_cases hl : j < r.length
      · rw [List.getElem?_set_self hl] at h
        cases h
        exact absurd rfl hs
      · rw [List.getElem?_eq_none (by simpa using hl)] at h; cases h
    · rw [List.getElem?_set_ne (Ne.symm hj)] at h
      exact ⟨hj, h⟩
  refine ⟨F.gh, by rw [List.length_set, List.length_set]; exact F.len, fun j d h => ?_, fun j ds h => ?_, fun j k ds es p h1 h2 h3 h4 => ?_, F.tr.set (fun t h => by cases h) (fun l h => by cases h)⟩
  · obtain ⟨hj, h⟩ := at_i j _ (fun z => by cases z) h
    rw [List.getElem?_set_ne (Ne.symm hj)]
    exact F.val j d h
  · obtain ⟨hj, h⟩ := at_i j _ (fun z => by cases z) h
    rw [List.getElem?_set_ne (Ne.symm hj)]
    exact F.own j ds h
  · obtain ⟨hj, h1⟩ := at_i j _ (fun z => by cases z) h1
    obtain ⟨hk, h2⟩ := at_i k _ (fun z => by cases z) h2
    rw [List.getElem?_set_ne (Ne.symm hj)] at h3
    rw [List.getElem?_set_ne (Ne.symm hk)] at h4
    exact F.sep j k ds es p h1 h2 h3 h4
theorem St1.setNoX {i : Nat} (x : Option V) (S : St1 K T B G0 H0 G H σ r) : St1 K T B G0 H0 G H (σ.set i x) (r.set i .no) := by
  refine ⟨S.fits.setNoX x, S.base, S.nx, fun j ds p h1 h2 => ?_, S.tr.set (fun t h => by cases h) (fun l h => by cases h)⟩
  by_cases hj : j = i
  · subst hj
    by_cases hl : j < r.length
    · rw [List.getElem?_set_self hl] at h1; cases h1
    · rw [List.getElem?_eq_none (by simpa using hl)] at h1; cases h1
  · rw [List.getElem?_set_ne (Ne.symm hj)] at h1 h2
    exact S.ow j ds p h1 h2
theorem Tr.setTre {P : Addr → Prop} {i : Nat} {v : V} {t : OT} {as : List Addr} (h : Tr K T G H P σ r) (hl : σ.length = r.length) (q : Ow K T G H v t as) (nd : as.Nodup) (np : ∀ a ∈ as, ¬ P a) (no : ∀ (j : Nat) (ds : List Dt) (p : Addr), r[j]? = some (.own ds) → σ[j]? = some (some (.ref p)) → p ∉ as) : Tr K T G H (fun a => P a ∨ a ∈ as) (σ.set i (some v)) (r.set i (.tre t)) := by
  obtain ⟨m, k1, k2, k3⟩ := h
  have back : ∀ (j : Nat) (z : Sl), j ≠ i → (r.set i (.tre t))[j]? = some z → r[j]? = some z := fun j z hj e => by
    rw [List.getElem?_set_ne (Ne.symm hj)] at e
    exact e
  have self : ∀ (x : OT), (r.set i (.tre t))[i]? = some (.tre x) → x = t ∧ i < r.length := fun x e => by
    by_cases hb : i < r.length
    · rw [List.getElem?_set_self hb] at e
      cases e; exact ⟨rfl, hb⟩
    · rw [List.getElem?_eq_none (by simpa using hb)] at e; cases e
  have backO : ∀ (j : Nat) (ds : List Dt), (r.set i (.tre t))[j]? = some (.own ds) → j ≠ i ∧ r[j]? = some (.own ds) := fun j ds e => by
    by_cases hj : j = i
    · subst hj
      by_cases hb : j < r.length
      · rw [List.getElem?_set_self hb] at e; cases e
      · rw [List.getElem?_eq_none (by simpa using hb)] at e; cases e
    · exact ⟨hj, back j _ hj e⟩
  refine ⟨fun j => if j = i then as else m j, fun j x e => ?_, fun j k x y hjk ej ek a ha => ?_, fun j k x ds p ej ek ep => ?_⟩
  · by_cases hj : j = i
    · subst hj
      obtain ⟨rfl, hb⟩ := self x e
      simp only [if_true]
      exact ⟨⟨v, List.getElem?_set_self (by omega), q⟩, nd, fun a ha => .inr ha⟩
    · simp only [hj, if_false]
      rw [List.getElem?_set_ne (Ne.symm hj)]
      obtain ⟨e1, e2, e3⟩ := k1 j x (back j _ hj e)
      exact ⟨e1, e2, fun a ha => .inl (e3 a ha)⟩
  · by_cases hj : j = i
    · subst hj
      have hk : k ≠ j := Ne.symm hjk
      simp only [if_true] at ha
      simp only [hk, if_false]
      exact fun hm => np a ha ((k1 k y (back k _ hk ek)).2.2 a hm)
    · simp only [hj, if_false] at ha
      by_cases hk : k = i
      · subst hk
        simp only [if_true]
        exact fun hm => np a hm ((k1 j x (back j _ hj ej)).2.2 a ha)
      · simp only [hk, if_false]
        exact k2 j k x y hjk (back j _ hj ej) (back k _ hk ek) a ha
  · obtain ⟨hk, ek'⟩ := backO k ds ek
    rw [List.getElem?_set_ne (Ne.symm hk)] at ep
    by_cases hj : j = i
    · subst hj
      simp only [if_true]
      exact no k ds p ek' ep
    · simp only [hj, if_false]
      exact k3 j k x ds p (back j _ hj ej) ek' ep
theorem St1.setTre {i : Nat} {v : V} {t : OT} {as : List Addr} (S : St1 K T B G0 H0 G H σ r) (n : Nx G H G1 H1) (q : Ow K T G1 H1 v t as) (nd : as.Nodup) (f : ∀ a ∈ as, H a = none) : St1 K T B G0 H0 G1 H1 (σ.set i (some v)) (r.set i (.tre t)) := by
  have S1 := S.nx' n
  have no : ∀ (j : Nat) (ds : List Dt) (p : Addr), r[j]? = some (.own ds) → σ[j]? = some (some (.ref p)) → p ∉ as := fun j ds p e1 e2 hm => by
    obtain ⟨p', vs, e3, _, e4, _⟩ := S.fits.own j ds e1
    rw [e2] at e3
    cases e3
    rw [f p hm] at e4
    cases e4
  have tr : Tr K T G1 H1 (fun a => H0 a = none) (σ.set i (some v)) (r.set i (.tre t)) :=
    (Tr.setTre (S.tr.inH.nx n) S.fits.len q nd (fun a ha z => z.2 (f a ha)) no).imp fun a z => z.elim (fun y => y.1) (fun y => S.nx.hh.free (f a y))
  have backO : ∀ (j : Nat) (ds : List Dt), (r.set i (.tre t))[j]? = some (.own ds) → j ≠ i ∧ r[j]? = some (.own ds) := fun j ds e => by
    by_cases hj : j = i
    · subst hj
      by_cases hb : j < r.length
      · rw [List.getElem?_set_self hb] at e; cases e
      · rw [List.getElem?_eq_none (by simpa using hb)] at e; cases e
    · rw [List.getElem?_set_ne (Ne.symm hj)] at e
      exact ⟨hj, e⟩
  refine ⟨⟨S1.fits.gh, by rw [List.length_set, List.length_set]; exact S.fits.len, fun j d h => ?_, fun j ds h => ?_, fun j k ds es p h1 h2 h3 h4 => ?_, tr.imp fun _ _ => trivial⟩, S1.base, S1.nx, fun j ds p h1 h2 => ?_, tr⟩
  · by_cases hj : j = i
    · subst hj
      by_cases hb : j < r.length
      · rw [List.getElem?_set_self hb] at h; cases h
      · rw [List.getElem?_eq_none (by simpa using hb)] at h; cases h
    · rw [List.getElem?_set_ne (Ne.symm hj)] at h ⊢
      exact S1.fits.val j d h
  · obtain ⟨hj, h⟩ := backO j ds h
    rw [List.getElem?_set_ne (Ne.symm hj)]
    exact S1.fits.own j ds h
  · obtain ⟨hj, h1⟩ := backO j ds h1
    obtain ⟨hk, h2⟩ := backO k es h2
    rw [List.getElem?_set_ne (Ne.symm hj)] at h3
    rw [List.getElem?_set_ne (Ne.symm hk)] at h4
    exact S1.fits.sep j k ds es p h1 h2 h3 h4
  · obtain ⟨hj, h1⟩ := backO j ds h1
    rw [List.getElem?_set_ne (Ne.symm hj)] at h2
    exact S.ow j ds p h1 h2
/-! ### a name gets an own tree -/
def fSetU (i : Nat) (f : Env → Option OT) : Env → Option Out := fun r => (f r).map fun t => .nx (r.set i (.tre t))
theorem gs_setU {i : Nat} {te : TE} {f : Env → Option OT} (h : GU K T te f) : GS K T (tAsg te (gName i)) (fSetU i f) := fun B G0 H0 G H σ r o S e D m => by
  unfold fSetU at e
  cases e1 : f r with
  | none => rw [e1] at e; cases e
  | some t =>
    rw [e1] at e
    cases e
    exact h G H σ r t S.fits e1 _ fun v as G1 H1 n1 q nd fr => m G1 H1 _ (S.setTre n1 q nd fr)
theorem ds_setU (i : Nat) {x : Str} {e : Expr} {f : Env → Option OT} {pos pos' : Pos} (hN : X.N.Nodup) (he : DU X T e f) (hi : X.N[i]? = some x := by rfl) (hx : Loc X.env.scope x := by first | exact .inl rfl | exact .inr rfl) (hs : swapsWith e (some (.Name x pos')) pos.line X.env = pure false := by rfl)
    (hf : X.fn x = true ∨ X.env.scope.names.lookup x = some .local := by first | exact .inl rfl | exact .inr rfl) : DS X T (.Assign [.Name x pos'] e pos) (fSetU i f) := by
  obtain ⟨te, pe, ge⟩ := he.ex
  exact ⟨_, ps_set hN hi hx pe hs hf, gs_setU ge⟩
theorem ds_setLcU (i : Nat) {y : Str} {py : Pos} {j : Nat} {elt iter : Expr} {x : Str} {px : Pos} {ifs : List Expr} {scope : Scope} {own : List (Str × Nat)} {pos spos : Pos} {f : Env → Option (List Dt)} {c : Env → Option Bool} {e : Env → Option OT} (hc : X.calm = true) (hN : X.N.Nodup)
    (hi : DI X T (.Name x px) iter f) (ok : BlkOk X.N X.env.scope scope own) (hj : j ∈ own.map (·.2))
    (hg : ∀ (s : Shared) (H : Hp) (C : Addr) (cl : List (Str × Addr)) (fp : List Addr), PG (X.blk s H scope (compEnvC scope cl C X.env) fp) (.Name x px) (gName j)) (ht : ∀ (s : Shared) (H : Hp) (C : Addr) (cl : List (Str × Addr)) (fp : List Addr), DTs (X.blk s H scope (compEnvC scope cl C X.env) fp) T ifs c)
    (he : ∀ (s : Shared) (H : Hp) (C : Addr) (cl : List (Str × Addr)) (fp : List Addr), DU (X.blk s H scope (compEnvC scope cl C X.env) fp) T elt e)
    (hsw : swapsWith (.ListComp elt [⟨.Name x px, iter, ifs, 0⟩] scope pos) (some (.Name y py)) spos.line X.env = pure true) (hy : X.N[i]? = some y := by rfl) (hyl : X.env.scope.names.lookup y = some .local := by rfl) (hs : ∀ x, foldedSetIterable iter X.env x = pure x := by intro _; rfl) :
    DS X T (.Assign [.Name y py] (.ListComp elt [⟨.Name x px, iter, ifs, 0⟩] scope pos) spos) (fSetU i (uComp f j (own.map (·.2)) c e)) := by
  obtain ⟨ti, pi, gi⟩ := hi.ex
  exact ⟨_, ps_setLc hc hN hy hyl hsw pi ok hg (fun s H C cl fp => (ht s H C cl fp).pt) (fun s H C cl fp => (he s H C cl fp).pe) hs, gs_setU (gu_lc gi hj)⟩
/-! ### places by expressions -/
def gT (r : Env) (i : Nat) : Option OT := match r[i]? with | some (.tre t) => some t | _ => none
theorem gT_iff {r : Env} {i : Nat} {t : OT} : gT r i = some t ↔ r[i]? = some (.tre t) := by
  unfold gT
  split
  · rename_i x h; rw [h]; constructor
    · intro q; cases q; rfl
    · intro q; cases q; rfl
  · rename_i h; constructor
    · intro q; cases q
    · intro q; exact absurd q (h _)
theorem Fits.at (F : Fits K T G H σ r) {i : Nat} {t u : OT} {ks : List Nat} (hr : r[i]? = some (.tre t)) (hu : t.at ks = some u) : ∃ v w bs, σ[i]? = some (some v) ∧ vAt H v ks = some w ∧ Ow K T G H w u bs := by
  obtain ⟨m, k1, _⟩ := F.tr
  obtain ⟨⟨v, hv, q⟩, nd, _⟩ := k1 i t hr
  obtain ⟨w, bs, e1, q1, _⟩ := Ow.place q nd hu
  exact ⟨v, w, bs, hv, e1, q1⟩
def GP (K : PySem.W.Frag) (T : CT) (te : TE) (i : Nat) (π : Env → Option (List Nat)) : Prop :=
  ∀ (G H : Hp) (σ : L2.St) (r : Env) (t : OT) (v : V) (ks : List Nat), Fits K T G H σ r → r[i]? = some (.tre t) → σ[i]? = some (some v) → π r = some ks → ∀ Q : VK, (∀ w H', Nx G H G H' → vAt H' v ks = some w → Q w H') → te σ H Q
structure DP (X : Cx) (T : CT) (e : Expr) (i : Nat) (π : Env → Option (List Nat)) : Prop where
  ex : ∃ te, PE X e te ∧ GP X.K T te i π
def pNm : Env → Option (List Nat) := fun _ => some []
theorem dp_name (i : Nat) {x : Str} {pos : Pos} (hN : X.N[i]? = some x := by rfl) (hv : Vis X.env.scope x := by first | exact Or.inl rfl | exact Or.inr (Or.inl rfl) | exact Or.inr (Or.inr rfl)) (hd : (x == ("__debug__" : Str)) = false := by decide +kernel)
    (hcd : (x == ("__classdict__" : Str)) = false := by decide +kernel) : DP X T (.Name x pos) i pNm := ⟨_, pe_var hN hv hd hcd, fun G H σ r t v ks F hr hv e Q q => by
  cases e
  exact ⟨v, hv, q v H (Nx.refl F.gh) rfl⟩⟩
def pIx (i : Nat) (π : Env → Option (List Nat)) (f : Env → Option Dt) : Env → Option (List Nat) := fun r => match gT r i, π r, f (frzE r) with
  | some t, some ks, some (.int k) => (match t.at ks with
    | some (.node l) => (match ixN l.length k with
      | some j => some (ks ++ [j])
      | none => none)
    | _ => none)
  | _, _, _ => none
theorem dp_ix {i : Nat} {π : Env → Option (List Nat)} {f : Env → Option Dt} {o k : Expr} {pos : Pos} (hp : DP X T o i π) (hk : DE X T k f) (hs : PlainIx k := by exact fun _ _ => rfl) : DP X T (.Subscript o k pos) i (pIx i π f) := by
  obtain ⟨tp, pp, gp⟩ := hp.ex
  obtain ⟨tk, pk, gk⟩ := hk.ex
  refine ⟨_, pe_ix ix_list pp pk hs, fun G H σ r t v ks F hr hv e Q q => ?_⟩
  unfold pIx at e
  rw [gT_iff.mpr hr] at e
  split at e
  · rename_i t' ks0 k' e0 e1 e2
    cases e0
    split at e
    · rename_i l e3
      split at e
      · rename_i j e4
        cases e
        refine gp G H σ r t v ks0 F hr hv e1 _ fun w H1 n1 a1 => ?_
        have F1 := F.nx n1
        obtain ⟨v', w', bs, hv', a2, ow⟩ := F1.at hr e3
        rw [hv] at hv'
        cases hv'
        rw [a1] at a2
        cases a2
        refine gk H1 H1 σ (frzE r) _ F1.frz e2 _ fun y G2 H2 n2 p2 => ?_
        cases p2
        cases ow with
        | @node p vs _ as h1 h2 h3 =>
          have hl := h3.length
          have hj : j < vs.length := by rw [hl]; exact ixN_lt e4
          have h4 := n2.hh _ _ h1
          refine ⟨p, vs, k', vs[j], rfl, rfl, SqL.of h4, ?_, q vs[j] H2 (n1.trans ((Nx.refl F1.gh).growH n2.hh n2.nf)) ?_⟩
          · unfold L2.atI
            rw [hl, e4]
            exact List.getElem?_eq_getElem hj
          · refine vAt_snoc (vAt_mono n2.hh a1) ?_ (List.getElem?_eq_getElem hj)
            show (match H2 p with | some (.lst vs) => some vs | some (.ins _ _ fs) => some (fs.map Prod.snd) | _ => none) = _
            rw [h4]
      · cases e
    · cases e
  · cases e
where
  ixN_lt {n : Nat} {k : Int} {j : Nat} (h : ixN n k = some j) : j < n := by
    unfold ixN at h
    split at h
    · obtain ⟨h1, h2⟩ := ite_opt h
      cases h2
      omega
    · obtain ⟨h1, h2⟩ := ite_opt h
      cases h2
      omega
def pFld (i c m : Nat) (π : Env → Option (List Nat)) : Env → Option (List Nat) := fun r => match gT r i, π r with
  | some t, some ks => (match t.at ks with
    | some (.ob c' l) => if c' = c ∧ m < l.length then some (ks ++ [m]) else none
    | _ => none)
  | _, _ => none
theorem dp_fld {i : Nat} {π : Env → Option (List Nat)} {o : Expr} {f : Str} {pos : Pos} (c m : Nat) (cl : Cls X.K (T c).1) (hn : NoAttr X.K (T c).1 f) (nd : (T c).2.Nodup) (hf : (T c).2[m]? = some f) (hp : DP X T o i π) (hb : attributeBase o f X.env (eval o X.env) = eval o X.env := by rfl) :
    DP X T (.Attribute o f pos) i (pFld i c m π) := by
  obtain ⟨tp, pp, gp⟩ := hp.ex
  refine ⟨_, pe_fld pp hb, fun G H σ r t v ks F hr hv e Q q => ?_⟩
  unfold pFld at e
  rw [gT_iff.mpr hr] at e
  split at e
  · rename_i t' ks0 e0 e1
    cases e0
    split at e
    · rename_i c' l e3
      obtain ⟨⟨hc5, hm⟩, e5⟩ := ite_opt e
      subst hc5
      cases e5
      refine gp G H σ r t v ks0 F hr hv e1 _ fun w H1 n1 a1 => ?_
      have F1 := F.nx n1
      obtain ⟨v', w', bs, hv', a2, ow⟩ := F1.at hr e3
      rw [hv] at hv'
      cases hv'
      rw [a1] at a2
      cases a2
      cases ow with
      | @ob _ p dx fs _ as h1 h2 h3 h4 =>
        have hl := h4.length
        have hj : m < (fs.map Prod.snd).length := by rw [hl]; exact hm
        refine ⟨p, _, dx, fs, (fs.map Prod.snd)[m], rfl, h1, cl, hn, lookup_zip (by rw [h2]; exact nd) (by rw [h2]; exact hf) (List.getElem?_eq_getElem hj), q _ H1 n1 ?_⟩
        refine vAt_snoc a1 ?_ (List.getElem?_eq_getElem hj)
        show (match H1 p with | some (.lst vs) => some vs | some (.ins _ _ fs) => some (fs.map Prod.snd) | _ => none) = _
        rw [h1]
    · cases e
  · cases e
/-! ### a list within changes -/
theorem OwA.updN {vs : List V} {l : List OT} {cs : List Addr} {p : Addr} {o : HO} (h : OwA K T G H vs l cs) (hp : p ∉ cs) : OwA K T G (upd H p o) vs l cs :=
  OwA.mv (Same.refl G) l h (fun a ha => (OwA.inn l h a ha).1) (fun a ha => upd_ne fun e => hp (e ▸ ha))
theorem St1.nodeAt (S : St1 K T B G0 H0 G H σ r) (n : Nx G H G1 H1) {N : Addr → Prop} (hN : ∀ a, N a → H a = none ∧ G1 a = none) {i : Nat} {t : OT} {l : List OT} {ks : List Nat} (hr : r[i]? = some (.tre t)) (hu : t.at ks = some (.node l)) :
    ∃ v p vs cs, σ[i]? = some (some v) ∧ vAt H1 v ks = some (.ref p) ∧ H1 p = some (.lst vs) ∧ G1 p = none ∧ OwA K T G1 H1 vs l cs ∧ p ∉ cs ∧ cs.Nodup ∧ (∀ a, a = p ∨ a ∈ cs → ¬ N a) ∧
      ∀ vs' l' cs' H', (∀ a, a ≠ p → a ∉ cs → ¬ N a → H' a = H1 a) → H' p = some (.lst vs') → Same G1 H' → NoF H1 H' → OwA K T G1 H' vs' l' cs' → p ∉ cs' → cs'.Nodup → (∀ a ∈ cs', a ∈ cs ∨ N a) → St1 K T B G0 H0 G1 H' σ (r.set i (.tre (t.put ks (.node l')))) := by
  have S1 := S.nx' n
  have tr : Tr K T G1 H1 (fun a => H0 a = none ∧ ¬ N a) σ r := (S.tr.inH.nx n).imp fun a z => ⟨z.1, fun y => z.2 (hN a y).1⟩
  obtain ⟨v, w, bs, hv, a1, ow, nd, big⟩ := S1.mutAt tr (fun a ha => ⟨S.nx.hh.free (hN a ha).1, (hN a ha).2, fun j ds e1 e2 => by
    obtain ⟨p', vs, e3, _, e4, _⟩ := S.fits.own j ds e1
    rw [e2] at e3
    cases e3
    rw [(hN a ha).1] at e4
    cases e4⟩) hr hu
  have sep : ∀ a ∈ bs, ¬ N a := fun a ha hn => by
    obtain ⟨m, k1, _⟩ := tr
    obtain ⟨⟨v', hv', q⟩, nd', hP⟩ := k1 i t hr
    obtain ⟨w', bs', e1, q1, sub, _⟩ := Ow.place q nd' hu
    rw [hv] at hv'
    cases hv'
    rw [a1] at e1
    cases e1
    have : bs' = bs := by
      exact Ow.uniq _ q1 ow
    exact (hP a (sub a (this ▸ ha))).2 hn
  cases ow with
  | @node p vs _ cs h1 h2 h3 =>
    rw [List.nodup_cons] at nd
    refine ⟨v, p, vs, cs, hv, a1, h1, h2, h3, nd.1, nd.2, fun a ha => sep a (List.mem_cons.mpr ha), fun vs' l' cs' H' same hp gh nf' q np nd' inn => ?_⟩
    refine big H' (.node l') (p :: cs') (fun a ha hn => same a (fun e => ha (by rw [e]; exact List.mem_cons_self)) (fun hm => ha (List.mem_cons_of_mem _ hm)) hn) gh nf' (.node hp h2 q) (List.nodup_cons.mpr ⟨np, nd'⟩) (fun a ha => ?_) (fun a hn ha => sep a ha hn)
    rcases List.mem_cons.mp ha with rfl | ha
    · exact .inl List.mem_cons_self
    · exact (inn a ha).imp (List.mem_cons_of_mem _) id
end
end PL

/-! ### own trees changed in place -/
namespace PL
open PySem PySem.Spec PyProof.Rows L2
section
variable {X : Cx} {T : CT} {K : PySem.W.Frag} {B G0 H0 G H G1 H1 G' H' : Hp} {σ : L2.St} {r : Env}
theorem Fits.treV (F : Fits K T G H σ r) {i : Nat} {t : OT} (hr : r[i]? = some (.tre t)) : ∃ v, σ[i]? = some (some v) := by
  obtain ⟨m, k1, _⟩ := F.tr
  obtain ⟨⟨v, hv, q⟩, nd, _⟩ := k1 i t hr
  exact ⟨v, hv⟩
theorem ixN_lt {n : Nat} {k : Int} {j : Nat} (h : ixN n k = some j) : j < n := by
  unfold ixN at h
  split at h
  · obtain ⟨h1, h2⟩ := ite_opt h
    cases h2
    omega
  · obtain ⟨h1, h2⟩ := ite_opt h
    cases h2
    omega
def noN : Addr → Prop := fun _ => False
/-- places.append(e) -/
def fAppT (i : Nat) (π : Env → Option (List Nat)) (f : Env → Option Dt) : Env → Option Out := fun r => match gT r i, π r, f r with
  | some t, some ks, some d => (match t.at ks with
    | some (.node l) => if l.length ≤ 100000 then some (.nx (r.set i (.tre (t.put ks (.node (l ++ [.leaf d])))))) else none
    | _ => none)
  | _, _, _ => none
theorem ds_appT (i : Nat) {o e : Expr} {π : Env → Option (List Nat)} {f : Env → Option Dt} {pos apos cpos : Pos} (hp : DP X T o i π) (he : DE X T e f)
    (hbase : attributeBase o "append" X.env (eval o X.env) = eval o X.env := by rfl)
    (hfew : ((backTo cpos (starEach (e :: []) X.env)).all (fun x => !x.1) && (backToKw cpos (keywordEach [] X.env)).all (fun x => x.1.isSome) && decide ((e :: ([] : List Expr)).length + ([] : List Keyword).length + (if ([] : List Keyword).isEmpty then 0 else 1) < 30)) = true := by rfl)
    (hline : (apos.endLine == cpos.line) = true := by rfl) (hs : starEach (e :: []) X.env = (false, eval e X.env) :: starEach [] X.env := by rfl) (hplain : (backTo cpos (starEach [] X.env)).any (·.1) = false := by rfl)
    (hsw : swapsWith (.Call (.Attribute o "append" apos) [e] [] cpos) none pos.line X.env = pure false := by rfl) : DS X T (.Expr (.Call (.Attribute o "append" apos) [e] [] cpos) pos) (fAppT i π f) := by
  obtain ⟨tp, pp, gp⟩ := hp.ex
  obtain ⟨te, pe, ge⟩ := he.ex
  refine ⟨_, ps_expr (pe_bm PySem.F.plainAttrs_list PySem.F.slot_list_append PySem.F.type_list_append mt_append pp (pa_cons pe pa_nil hs) hbase hfew hline hs hplain) hsw, fun B G0 H0 G H σ r o S h D m => ?_⟩
  unfold fAppT at h
  split at h
  · rename_i t ks d e1 e2 e3
    split at h
    · rename_i l e4
      obtain ⟨hl, h⟩ := ite_opt h
      cases h
      have hr := gT_iff.mp e1
      obtain ⟨v, hv⟩ := S.fits.treV hr
      refine gp G H σ r t v ks S.fits hr hv e2 _ fun w H1 n1 a1 => ?_
      have S1 := S.nx' n1
      obtain ⟨v1, p, vs, cs, hv1, a2, hh, hg, ow, np, nd, _, big⟩ := S1.nodeAt (Nx.refl S1.fits.gh) (N := noN) (fun a ha => ha.elim) hr e4
      rw [hv] at hv1
      cases hv1
      rw [a1] at a2
      cases a2
      refine ⟨.inl ⟨rfl, vs, SqL.of hh⟩, ?_⟩
      refine ge G H1 σ r d S1.fits e3 _ fun y G2 H2 n2 q2 => ?_
      have hh2 := n2.hh _ _ hh
      obtain ⟨v1, p2, vs2, cs2, hv1, a2, hh', hg2, ow2, np2, nd2, _, big2⟩ := S1.nodeAt n2 (N := noN) (fun a ha => ha.elim) hr e4
      rw [hv] at hv1
      cases hv1
      rw [vAt_mono n2.hh a1] at a2
      cases a2
      rw [hh2] at hh'
      cases hh'
      refine ⟨p, vs, y, rfl, rfl, hh2, by rw [ow.length]; exact Nat.lt_of_le_of_lt hl (by decide), ?_⟩
      refine m G2 _ _ (big2 (vs ++ [y]) (l ++ [.leaf d]) (cs2 ++ []) _ (fun a h1 h2 _ => upd_ne h1) upd_same (same_updR n2.gh hg2) (NoF.upd (fun _ _ z => by cases z)) (owA_snoc (ow2.updN np2) (.leaf q2)) ?_ ?_ ?_)
      · rw [List.append_nil]; exact np2
      · rw [List.append_nil]; exact nd2
      · rw [List.append_nil]; exact fun a ha => .inl ha
    · cases h
  · cases h
/-- places.append(a new tree) -/
def fAppU (i : Nat) (π : Env → Option (List Nat)) (f : Env → Option OT) : Env → Option Out := fun r => match gT r i, π r, f r with
  | some t, some ks, some u => (match t.at ks with
    | some (.node l) => if l.length ≤ 100000 then some (.nx (r.set i (.tre (t.put ks (.node (l ++ [u])))))) else none
    | _ => none)
  | _, _, _ => none
theorem ds_appU (i : Nat) {o e : Expr} {π : Env → Option (List Nat)} {f : Env → Option OT} {pos apos cpos : Pos} (hp : DP X T o i π) (he : DU X T e f)
    (hbase : attributeBase o "append" X.env (eval o X.env) = eval o X.env := by rfl)
    (hfew : ((backTo cpos (starEach (e :: []) X.env)).all (fun x => !x.1) && (backToKw cpos (keywordEach [] X.env)).all (fun x => x.1.isSome) && decide ((e :: ([] : List Expr)).length + ([] : List Keyword).length + (if ([] : List Keyword).isEmpty then 0 else 1) < 30)) = true := by rfl)
    (hline : (apos.endLine == cpos.line) = true := by rfl) (hs : starEach (e :: []) X.env = (false, eval e X.env) :: starEach [] X.env := by rfl) (hplain : (backTo cpos (starEach [] X.env)).any (·.1) = false := by rfl)
    (hsw : swapsWith (.Call (.Attribute o "append" apos) [e] [] cpos) none pos.line X.env = pure false := by rfl) : DS X T (.Expr (.Call (.Attribute o "append" apos) [e] [] cpos) pos) (fAppU i π f) := by
  obtain ⟨tp, pp, gp⟩ := hp.ex
  obtain ⟨te, pe, ge⟩ := he.ex
  refine ⟨_, ps_expr (pe_bm PySem.F.plainAttrs_list PySem.F.slot_list_append PySem.F.type_list_append mt_append pp (pa_cons pe pa_nil hs) hbase hfew hline hs hplain) hsw, fun B G0 H0 G H σ r o S h D m => ?_⟩
  unfold fAppU at h
  split at h
  · rename_i t ks d e1 e2 e3
    split at h
    · rename_i l e4
      obtain ⟨hl, h⟩ := ite_opt h
      cases h
      have hr := gT_iff.mp e1
      obtain ⟨v, hv⟩ := S.fits.treV hr
      refine gp G H σ r t v ks S.fits hr hv e2 _ fun w H1 n1 a1 => ?_
      have S1 := S.nx' n1
      obtain ⟨v1, p, vs, cs, hv1, a2, hh, hg, ow, np, nd, _, big⟩ := S1.nodeAt (Nx.refl S1.fits.gh) (N := noN) (fun a ha => ha.elim) hr e4
      rw [hv] at hv1
      cases hv1
      rw [a1] at a2
      cases a2
      refine ⟨.inl ⟨rfl, vs, SqL.of hh⟩, ?_⟩
      refine ge G H1 σ r d S1.fits e3 _ fun y bs G2 H2 n2 q2 ndb fb => ?_
      have hh2 := n2.hh _ _ hh
      obtain ⟨v1, p2, vs2, cs2, hv1, a2, hh', hg2, ow2, np2, nd2, sep, big2⟩ := S1.nodeAt n2 (N := fun a => a ∈ bs) (fun a ha => ⟨fb a ha, (Ow.inn _ q2 a ha).1⟩) hr e4
      rw [hv] at hv1
      cases hv1
      rw [vAt_mono n2.hh a1] at a2
      cases a2
      rw [hh2] at hh'
      cases hh'
      have pb : p ∉ bs := sep p (.inl rfl)
      refine ⟨p, vs, y, rfl, rfl, hh2, by rw [ow.length]; exact Nat.lt_of_le_of_lt hl (by decide), ?_⟩
      have q3 : Ow X.K T G2 (upd H2 p (.lst (vs ++ [y]))) y d bs := Ow.mv (Same.refl G2) d q2 (fun a ha => (Ow.inn d q2 a ha).1) (fun a ha => upd_ne fun e => pb (e ▸ ha))
      refine m G2 _ _ (big2 (vs ++ [y]) (l ++ [d]) (cs2 ++ bs) _ (fun a h1 h2 _ => upd_ne h1) upd_same (same_updR n2.gh hg2) (NoF.upd (fun _ _ z => by cases z)) (owA_snoc (ow2.updN np2) q3) (fun hm => ?_) ?_ (fun a ha => List.mem_append.mp ha))
      · rcases List.mem_append.mp hm with z | z
        · exact np2 z
        · exact pb z
      · rw [List.nodup_append]
        exact ⟨nd2, ndb, fun a ha b hb e => sep a (.inr ha) (e ▸ hb)⟩
    · cases h
  · cases h
theorem OwA.dropLast : ∀ {vs : List V} {l : List OT} {cs : List Addr}, OwA K T G H vs l cs → ∃ as bs, cs = as ++ bs ∧ OwA K T G H vs.dropLast l.dropLast as
  | _, [], _, .nil => ⟨[], [], rfl, .nil⟩
  | _, [t], _, .cons (as := as) a .nil => ⟨[], as, by simp, .nil⟩
  | _, t :: u :: l, _, .cons (v := v) (as := as) a (.cons (v := w) (vs := ws) (as := cs) (bs := ds) b c) => by
    obtain ⟨xs, ys, e, q⟩ := OwA.dropLast (OwA.cons b c)
    refine ⟨as ++ xs, ys, by rw [List.append_assoc, ← e], ?_⟩
    exact OwA.cons a q
/-- places.pop() -/
def fPopT (i : Nat) (π : Env → Option (List Nat)) : Env → Option Out := fun r => match gT r i, π r with
  | some t, some ks => (match t.at ks with
    | some (.node l) => if l = [] then none else some (.nx (r.set i (.tre (t.put ks (.node l.dropLast)))))
    | _ => none)
  | _, _ => none
theorem ite_optN {α : Type} {c : Prop} [Decidable c] {o : Option α} {z : α} (h : (if c then none else o) = some z) : ¬ c ∧ o = some z := by
  by_cases hc : c
  · rw [if_pos hc] at h; cases h
  · rw [if_neg hc] at h; exact ⟨hc, h⟩

theorem ds_popT (i : Nat) {o : Expr} {π : Env → Option (List Nat)} {pos apos cpos : Pos} (hp : DP X T o i π)
    (hbase : attributeBase o "pop" X.env (eval o X.env) = eval o X.env := by rfl) (hline : (apos.endLine == cpos.line) = true := by rfl)
    (hsw : swapsWith (.Call (.Attribute o "pop" apos) [] [] cpos) none pos.line X.env = pure false := by rfl) : DS X T (.Expr (.Call (.Attribute o "pop" apos) [] [] cpos) pos) (fPopT i π) := by
  obtain ⟨tp, pp, gp⟩ := hp.ex
  refine ⟨_, ps_expr (pe_bm0 PySem.F.plainAttrs_list PySem.F.slot_list_pop PySem.F.type_list_pop mt_pop pp hbase hline) hsw, fun B G0 H0 G H σ r o S h D m => ?_⟩
  unfold fPopT at h
  split at h
  · rename_i t ks e1 e2
    split at h
    · rename_i l e4
      obtain ⟨hl, h⟩ := ite_optN h
      cases h
      have hr := gT_iff.mp e1
      obtain ⟨v, hv⟩ := S.fits.treV hr
      refine gp G H σ r t v ks S.fits hr hv e2 _ fun w H1 n1 a1 => ?_
      have S1 := S.nx' n1
      obtain ⟨v1, p, vs, cs, hv1, a2, hh, hg, ow, np, nd, _, big⟩ := S1.nodeAt (Nx.refl S1.fits.gh) (N := noN) (fun a ha => ha.elim) hr e4
      rw [hv] at hv1
      cases hv1
      rw [a1] at a2
      cases a2
      have hlen := ow.length
      have hpos : 0 < l.length := List.length_pos_iff.mpr hl
      refine ⟨.inl ⟨rfl, vs, SqL.of hh⟩, p, vs, vs[vs.length - 1]'(by omega), rfl, rfl, hh, List.getElem?_eq_getElem _, ?_⟩
      obtain ⟨as, bs, ec, q⟩ := ow.dropLast
      subst ec
      exact m G _ _ (big vs.dropLast l.dropLast as _ (fun a h1 h2 _ => upd_ne h1) upd_same (same_updR S1.fits.gh hg) (NoF.upd (fun _ _ z => by cases z)) (q.updN fun h => np (List.mem_append_left _ h)) (fun h => np (List.mem_append_left _ h)) (List.nodup_append.mp nd).1 (fun a ha => .inl (List.mem_append_left _ ha)))
    · cases h
  · cases h
theorem OwA.reverse : ∀ {l : List OT} {vs : List V} {cs : List Addr}, OwA K T G H vs l cs → ∃ ds, ds.Perm cs ∧ OwA K T G H vs.reverse l.reverse ds
  | [], _, _, .nil => ⟨[], .nil, .nil⟩
  | t :: l, _, _, .cons (as := as) (bs := bs) a b => by
    obtain ⟨ds, p, q⟩ := OwA.reverse b
    refine ⟨ds ++ as, ?_, ?_⟩
    · exact (p.append_right as).trans List.perm_append_comm
    · rw [List.reverse_cons, List.reverse_cons]
      exact owA_snoc q a
/-- places.reverse() -/
def fRevT (i : Nat) (π : Env → Option (List Nat)) : Env → Option Out := fun r => match gT r i, π r with
  | some t, some ks => (match t.at ks with
    | some (.node l) => some (.nx (r.set i (.tre (t.put ks (.node l.reverse)))))
    | _ => none)
  | _, _ => none
theorem ds_revT (i : Nat) {o : Expr} {π : Env → Option (List Nat)} {pos apos cpos : Pos} (hp : DP X T o i π)
    (hbase : attributeBase o "reverse" X.env (eval o X.env) = eval o X.env := by rfl) (hline : (apos.endLine == cpos.line) = true := by rfl)
    (hsw : swapsWith (.Call (.Attribute o "reverse" apos) [] [] cpos) none pos.line X.env = pure false := by rfl) : DS X T (.Expr (.Call (.Attribute o "reverse" apos) [] [] cpos) pos) (fRevT i π) := by
  obtain ⟨tp, pp, gp⟩ := hp.ex
  refine ⟨_, ps_expr (pe_bm0 PySem.F.plainAttrs_list PySem.F.slot_list_reverse PySem.F.type_list_reverse mt_reverse pp hbase hline) hsw, fun B G0 H0 G H σ r o S h D m => ?_⟩
  unfold fRevT at h
  split at h
  · rename_i t ks e1 e2
    split at h
    · rename_i l e4
      cases h
      have hr := gT_iff.mp e1
      obtain ⟨v, hv⟩ := S.fits.treV hr
      refine gp G H σ r t v ks S.fits hr hv e2 _ fun w H1 n1 a1 => ?_
      have S1 := S.nx' n1
      obtain ⟨v1, p, vs, cs, hv1, a2, hh, hg, ow, np, nd, _, big⟩ := S1.nodeAt (Nx.refl S1.fits.gh) (N := noN) (fun a ha => ha.elim) hr e4
      rw [hv] at hv1
      cases hv1
      rw [a1] at a2
      cases a2
      refine ⟨.inl ⟨rfl, vs, SqL.of hh⟩, p, vs, rfl, rfl, hh, ?_⟩
      obtain ⟨ds, pm, q⟩ := ow.reverse
      exact m G _ _ (big vs.reverse l.reverse ds _ (fun a h1 h2 _ => upd_ne h1) upd_same (same_updR S1.fits.gh hg) (NoF.upd (fun _ _ z => by cases z)) (q.updN fun h => np (pm.mem_iff.mp h)) (fun h => np (pm.mem_iff.mp h)) (pm.nodup_iff.mpr nd) (fun a ha => .inl (pm.mem_iff.mp ha)))
    · cases h
  · cases h
theorem OwA.setLeaf : ∀ {l : List OT} {vs : List V} {cs : List Addr} {j : Nat} {v : V} {d : Dt}, OwA K T G H vs l cs → Rp K T G v d → ∃ ds, ds.Sublist cs ∧ OwA K T G H (vs.set j v) (l.set j (.leaf d)) ds
  | [], _, _, j, v, d, .nil, q => ⟨[], .slnil, .nil⟩
  | t :: l, _, _, 0, v, d, .cons (as := as) (bs := bs) a b, q => ⟨bs, List.sublist_append_right as bs, OwA.cons (as := []) (.leaf q) b⟩
  | t :: l, _, _, j + 1, v, d, .cons (as := as) (bs := bs) a b, q => by
    obtain ⟨ds, s, k⟩ := OwA.setLeaf (j := j) b q
    exact ⟨as ++ ds, List.Sublist.append (List.Sublist.refl as) s, .cons a k⟩
/-- places[k] = e -/
def fSetT (i : Nat) (π : Env → Option (List Nat)) (f k : Env → Option Dt) : Env → Option Out := fun r => match gT r i, f r, π r, k (frzE r) with
  | some t, some d, some ks, some (.int z) => (match t.at ks with
    | some (.node l) => (match ixN l.length z with
      | some j => some (.nx (r.set i (.tre (t.put ks (.node (l.set j (.leaf d)))))))
      | none => none)
    | _ => none)
  | _, _, _, _ => none
theorem ds_setT (i : Nat) {o e k : Expr} {π : Env → Option (List Nat)} {f g : Env → Option Dt} {pos spos : Pos} (hp : DP X T o i π) (he : DE X T e f) (hk : DE X T k g)
    (ha : ∀ v, assign (.Subscript o k spos) X.env v = (do
      let ov ← holding [v] (eval o X.env)
      let iv ← holding [v, ov] (eval k X.env)
      standAt spos
      holding [v, ov, iv] (setItem ov iv v)
      release [v, ov, iv] []) := by intro _; rfl)
    (hs : swapsWithSole [.Subscript o k spos] e pos.line X.env = pure false := by rfl) (hw : swappedStores [.Subscript o k spos] e X.env = pure none := by rfl) (h1 : (assignEach [.Subscript o k spos] X.env).map (·.2) = [assign (.Subscript o k spos) X.env] := by rfl) :
    DS X T (.Assign [.Subscript o k spos] e pos) (fSetT i π f g) := by
  obtain ⟨tp, pp, gp⟩ := hp.ex
  obtain ⟨te, pe, ge⟩ := he.ex
  obtain ⟨tk, pk, gk⟩ := hk.ex
  refine ⟨_, ps_asg pe (pg_sub pp pk set_list ha) hs hw h1, fun B G0 H0 G H σ r o S h D m => ?_⟩
  unfold fSetT at h
  split at h
  · rename_i t d ks z e1 e2 e3 e5
    split at h
    · rename_i l e4
      split at h
      · rename_i j e6
        cases h
        have hr := gT_iff.mp e1
        obtain ⟨v, hv⟩ := S.fits.treV hr
        refine ge G H σ r d S.fits e2 _ fun y G1 H1 n1 q1 => ?_
        have S1 := S.nx' n1
        refine gp G1 H1 σ r t v ks S1.fits hr hv e3 _ fun w H2 n2 a1 => ?_
        have S2 := S1.nx' n2
        refine gk H2 H2 σ (frzE r) _ S2.fits.frz e5 _ fun x G3 H3 n3 q3 => ?_
        cases q3
        have S3 := S2.grow n3.hh n3.nf
        obtain ⟨v1, p, vs, cs, hv1, a2, hh, hg, ow, np, nd, _, big⟩ := S3.nodeAt (Nx.refl S3.fits.gh) (N := noN) (fun a ha => ha.elim) hr e4
        rw [hv] at hv1
        cases hv1
        rw [vAt_mono n3.hh a1] at a2
        cases a2
        obtain ⟨ds, sb, q⟩ := ow.setLeaf (j := j) q1
        refine ⟨p, vs, z, j, rfl, rfl, hh, by rw [ow.length]; exact e6, ?_⟩
        exact m G1 _ _ (big (vs.set j y) (l.set j (.leaf d)) ds _ (fun a h1 h2 _ => upd_ne h1) upd_same (same_updR S3.fits.gh hg) (NoF.upd (fun _ _ z => by cases z)) (q.updN fun h => np (sb.subset h)) (fun h => np (sb.subset h)) (nd.sublist sb) (fun a ha => .inl (sb.subset ha)))
      · cases h
    · cases h
  · cases h
/-- x = places; x[k] = e -/
def fAliasT (i x : Nat) (π : Env → Option (List Nat)) (f k : Env → Option Dt) : Env → Option Out := fun r => if x = i ∨ r.length ≤ x then none else match gT r i, π r, f (r.set x .no) with
  | some t, some ks, some d => (match t.at ks with
    | some (.node l) => (match k ((frzE (r.set x .no)).set x (.val (OT.node l).toD)) with
      | some (.int z) => (match ixN l.length z with
        | some j => some (.nx ((r.set x .no).set i (.tre (t.put ks (.node (l.set j (.leaf d)))))))
        | none => none)
      | _ => none)
    | _ => none)
  | _, _, _ => none
theorem fAliasT_some {i x : Nat} {π : Env → Option (List Nat)} {f k : Env → Option Dt} {r : Env} {o : Out} (h : fAliasT i x π f k r = some o) : ∃ t ks d l z j, x ≠ i ∧ x < r.length ∧ gT r i = some t ∧ π r = some ks ∧ f (r.set x .no) = some d ∧ t.at ks = some (.node l) ∧ k ((frzE (r.set x .no)).set x (.val (OT.node l).toD)) = some (.int z) ∧ ixN l.length z = some j ∧ o = .nx ((r.set x .no).set i (.tre (t.put ks (.node (l.set j (.leaf d)))))) := by
  unfold fAliasT at h
  obtain ⟨hne, h⟩ := ite_optN h
  split at h
  · rename_i t ks d e1 e2 e3
    split at h
    · rename_i l e4
      split at h
      · rename_i z e5
        split at h
        · rename_i j e6
          cases h
          exact ⟨t, ks, d, l, z, j, fun e => hne (.inl e), by omega, e1, e2, e3, e4, e5, e6, rfl⟩
        · cases h
      · cases h
    · cases h
  · cases h
theorem dss_aliasT (i j : Nat) {x : Str} {o e k : Expr} {rest : List Stmt} {π : Env → Option (List Nat)} {f g : Env → Option Dt} {b : Env → Option Out} {pos pos' pos2 spos p1 : Pos} (hN : X.N.Nodup) (hp : DP X T o i π) (he : DE X T e f) (hk : DE X T k g) (hb : DSs X T rest b) (hi : X.N[j]? = some x := by rfl) (hx : Loc X.env.scope x := by first | exact .inl rfl | exact .inr rfl)
    (hs0 : swapsWith o (some (.Name x pos')) pos.line X.env = pure false := by rfl) (hf : X.fn x = true ∨ X.env.scope.names.lookup x = some .local := by first | exact .inl rfl | exact .inr rfl)
    (hv : Vis X.env.scope x := by first | exact Or.inl rfl | exact Or.inr (Or.inl rfl)) (hd : (x == ("__debug__" : Str)) = false := by decide +kernel) (hcd : (x == ("__classdict__" : Str)) = false := by decide +kernel)
    (ha : ∀ v, assign (.Subscript (.Name x p1) k spos) X.env v = (do
      let ov ← holding [v] (eval (.Name x p1) X.env)
      let iv ← holding [v, ov] (eval k X.env)
      standAt spos
      holding [v, ov, iv] (setItem ov iv v)
      release [v, ov, iv] []) := by intro _; rfl)
    (hs : swapsWithSole [.Subscript (.Name x p1) k spos] e pos2.line X.env = pure false := by rfl) (hw : swappedStores [.Subscript (.Name x p1) k spos] e X.env = pure none := by rfl) (h1 : (assignEach [.Subscript (.Name x p1) k spos] X.env).map (·.2) = [assign (.Subscript (.Name x p1) k spos) X.env] := by rfl) :
    DSs X T (.Assign [.Name x pos'] o pos :: .Assign [.Subscript (.Name x p1) k spos] e pos2 :: rest) (fSeq (fAliasT i j π f g) b) := by
  obtain ⟨tp, pp, gp⟩ := hp.ex
  obtain ⟨te, pe, ge⟩ := he.ex
  obtain ⟨tk, pk, gk⟩ := hk.ex
  obtain ⟨tb, pb, gb⟩ := hb.ex
  refine ⟨_, pss_cons (ps_set hN hi hx pp hs0 hf) (pss_cons (ps_asg pe (pg_sub (pe_var hi hv hd hcd) pk set_list ha) hs hw h1) pb), fun B G0 H0 G H σ r o S h D m => ?_⟩
  unfold fSeq at h
  cases hA : fAliasT i j π f g r with
  | none => rw [hA] at h; cases h
  | some o1 =>
    rw [hA] at h
    obtain ⟨t, ks, d, l, z, jj, hne, hlt, e1, e2, e3, e4, e5, e6, rfl⟩ := fAliasT_some hA
    replace h : b ((r.set j .no).set i (.tre (t.put ks (.node (l.set jj (.leaf d)))))) = some o := h
    have hr := gT_iff.mp e1
    obtain ⟨v, hv'⟩ := S.fits.treV hr
    refine gp G H σ r t v ks S.fits hr hv' e2 _ fun w H1 n1 a1 => ?_
    have S1 := (S.nx' n1).setNoX (i := j) (some w)
    have hr1 : (r.set j .no)[i]? = some (.tre t) := by rw [List.getElem?_set_ne hne]; exact hr
    have hv1 : (σ.set j (some w))[i]? = some (some v) := by rw [List.getElem?_set_ne hne]; exact hv'
    have hw1 : (σ.set j (some w))[j]? = some (some w) := List.getElem?_set_self (by rw [S.fits.len]; exact hlt)
    refine ge G H1 (σ.set j (some w)) (r.set j .no) d S1.fits e3 _ fun y G2 H2 n2 q2 => ?_
    have S2 := S1.nx' n2
    refine ⟨w, hw1, ?_⟩
    obtain ⟨v2, p, vs, cs, hv2, a2, hh, hg, ow, np, nd, _, _⟩ := S2.nodeAt (Nx.refl S2.fits.gh) (N := noN) (fun a ha => ha.elim) hr1 e4
    rw [hv1] at hv2
    cases hv2
    rw [vAt_mono n2.hh a1] at a2
    cases a2
    have Fz := S2.fits.frz.set (i := j) (v := .ref p) (d := (OT.node l).toD) (by rw [OT.toD]; exact .lst hh (OwA.rp S2.fits.gh l ow))
    have es : (σ.set j (some (.ref p))).set j (some (.ref p)) = σ.set j (some (.ref p)) := by rw [List.set_set]
    rw [es] at Fz
    refine gk H2 H2 _ _ _ Fz e5 _ fun x G3 H3 n3 q3 => ?_
    cases q3
    have S3 := S2.grow n3.hh n3.nf
    obtain ⟨v3, p3, vs3, cs3, hv3, a3, hh3, hg3, ow3, np3, nd3, _, big⟩ := S3.nodeAt (Nx.refl S3.fits.gh) (N := noN) (fun a ha => ha.elim) hr1 e4
    rw [hv1] at hv3
    cases hv3
    rw [vAt_mono (n2.hh.trans n3.hh) a1] at a3
    cases a3
    obtain ⟨ds, sb, q⟩ := ow3.setLeaf (j := jj) q2
    refine ⟨p, vs3, z, jj, rfl, rfl, hh3, by rw [ow3.length]; exact e6, ?_⟩
    exact gb B G0 H0 G2 _ _ _ o (big (vs3.set jj y) (l.set jj (.leaf d)) ds _ (fun a h1 h2 _ => upd_ne h1) upd_same (same_updR S3.fits.gh hg3) (NoF.upd (fun _ _ z => by cases z)) (q.updN fun h => np3 (sb.subset h)) (fun h => np3 (sb.subset h)) (nd3.sublist sb) (fun a ha => .inl (sb.subset ha))) h D m
/-! ### all rows changed: for x in places: x.append(c), x.pop() -/
def GB (K : PySem.W.Frag) (T : CT) (tb : TS) (x : Nat) (op : List OT → Option (List OT)) : Prop :=
  ∀ (G H : Hp) (σ : L2.St) (p : Addr) (ws : List V) (l l' : List OT) (cs : List Addr) (D : Ends), σ[x]? = some (some (.ref p)) → H p = some (.lst ws) → OwA K T G H ws l cs → op l = some l' → (∀ ws', OwA K T G H ws' l' cs → D.nx σ (upd H p (.lst ws'))) → tb D σ H
structure DB (X : Cx) (T : CT) (sts : List Stmt) (x : Nat) (op : List OT → Option (List OT)) : Prop where
  ex : ∃ tb, PSs X sts tb ∧ GB X.K T tb x op
def opApp (c : List Nat) (l : List OT) : Option (List OT) := if l.length ≤ 100000 then some (l ++ [.leaf (.str c)]) else none
theorem db_app (i : Nat) {x c : Str} (cl : List Nat) {pos p1 apos cpos cp : Pos} {j : Nat} (hc : c = ⟨cl.toArray⟩ := by decide +kernel) (hi : X.N[i]? = some x := by rfl) (hv : Vis X.env.scope x := by first | exact Or.inl rfl | exact Or.inr (Or.inl rfl)) (hd : (x == ("__debug__" : Str)) = false := by decide +kernel) (hcd : (x == ("__classdict__" : Str)) = false := by decide +kernel)
    (hbase : attributeBase (.Name x p1) "append" X.env (eval (.Name x p1) X.env) = eval (.Name x p1) X.env := by rfl)
    (hfew : ((backTo cpos (starEach ((.Constant (.str c) j cp) :: []) X.env)).all (fun x => !x.1) && (backToKw cpos (keywordEach [] X.env)).all (fun x => x.1.isSome) && decide (((Expr.Constant (.str c) j cp) :: ([] : List Expr)).length + ([] : List Keyword).length + (if ([] : List Keyword).isEmpty then 0 else 1) < 30)) = true := by rfl)
    (hline : (apos.endLine == cpos.line) = true := by rfl) (hs : starEach ((.Constant (.str c) j cp) :: []) X.env = (false, eval (.Constant (.str c) j cp) X.env) :: starEach [] X.env := by rfl) (hplain : (backTo cpos (starEach [] X.env)).any (·.1) = false := by rfl)
    (hsw : swapsWith (.Call (.Attribute (.Name x p1) "append" apos) [.Constant (.str c) j cp] [] cpos) none pos.line X.env = pure false := by rfl) : DB X T [.Expr (.Call (.Attribute (.Name x p1) "append" apos) [.Constant (.str c) j cp] [] cpos) pos] i (opApp cl) := by
  subst hc
  refine ⟨_, pss_one (ps_expr (pe_bm PySem.F.plainAttrs_list PySem.F.slot_list_append PySem.F.type_list_append mt_append (pe_var hi hv hd hcd) (pa_cons pe_str pa_nil hs) hbase hfew hline hs hplain) hsw), fun G H σ p ws l l' cs D hσ hh ow e k => ?_⟩
  unfold opApp at e
  obtain ⟨hl, e⟩ := ite_opt e
  cases e
  refine ⟨.ref p, hσ, .inl ⟨rfl, ws, SqL.of hh⟩, p, ws, .str ⟨cl.toArray⟩, rfl, rfl, hh, by rw [ow.length]; exact Nat.lt_of_le_of_lt hl (by decide), ?_⟩
  refine k (ws ++ [.str ⟨cl.toArray⟩]) ?_
  have := owA_snoc ow (Ow.leaf (G := G) (H := H) (K := X.K) (T := T) (Rp.str cl))
  rw [List.append_nil] at this
  exact this
def opPop (l : List OT) : Option (List OT) := match l.reverse with
  | .leaf _ :: rest => some rest.reverse
  | _ => none
theorem owA_unsnoc {u : OT} : ∀ {l : List OT} {vs : List V} {cs : List Addr}, OwA K T G H vs (l ++ [u]) cs → ∃ ws v as bs, vs = ws ++ [v] ∧ cs = as ++ bs ∧ OwA K T G H ws l as ∧ Ow K T G H v u bs
  | [], _, _, .cons (v := v) (as := as) a .nil => ⟨[], v, [], as, rfl, by simp, .nil, a⟩
  | t :: l, _, _, .cons (v := v) (as := as) a b => by
    obtain ⟨ws, w, xs, ys, rfl, rfl, q1, q2⟩ := owA_unsnoc (l := l) b
    exact ⟨v :: ws, w, as ++ xs, ys, rfl, by rw [List.append_assoc], .cons a q1, q2⟩
theorem db_pop (i : Nat) {x : Str} {pos p1 apos cpos : Pos} (hi : X.N[i]? = some x := by rfl) (hv : Vis X.env.scope x := by first | exact Or.inl rfl | exact Or.inr (Or.inl rfl)) (hd : (x == ("__debug__" : Str)) = false := by decide +kernel) (hcd : (x == ("__classdict__" : Str)) = false := by decide +kernel)
    (hbase : attributeBase (.Name x p1) "pop" X.env (eval (.Name x p1) X.env) = eval (.Name x p1) X.env := by rfl) (hline : (apos.endLine == cpos.line) = true := by rfl)
    (hsw : swapsWith (.Call (.Attribute (.Name x p1) "pop" apos) [] [] cpos) none pos.line X.env = pure false := by rfl) : DB X T [.Expr (.Call (.Attribute (.Name x p1) "pop" apos) [] [] cpos) pos] i opPop := by
  refine ⟨_, pss_one (ps_expr (pe_bm0 PySem.F.plainAttrs_list PySem.F.slot_list_pop PySem.F.type_list_pop mt_pop (pe_var hi hv hd hcd) hbase hline) hsw), fun G H σ p ws l l' cs D hσ hh ow e k => ?_⟩
  unfold opPop at e
  split at e
  · rename_i d rest hrev
    cases e
    have hl : l = rest.reverse ++ [.leaf d] := by rw [← List.reverse_reverse l, hrev, List.reverse_cons]
    rw [hl] at ow
    obtain ⟨us, v, as, bs, rfl, rfl, q1, q2⟩ := owA_unsnoc ow
    have hb : bs = [] := by cases q2; rfl
    subst hb
    rw [List.append_nil] at k
    refine ⟨.ref p, hσ, .inl ⟨rfl, _, SqL.of hh⟩, p, _, v, rfl, rfl, hh, by simp, ?_⟩
    have := k us q1
    rw [List.dropLast_concat]
    exact this
  · cases e
def opRows (op : List OT → Option (List OT)) : List OT → Option (List OT)
  | [] => some []
  | .node l :: rest => match op l with
    | some l' => (match opRows op rest with
      | some rs => some (.node l' :: rs)
      | none => none)
    | none => none
  | _ => none
theorem opRows_get {op : List OT → Option (List OT)} : ∀ {rows rows' : List OT} {j : Nat} {u : OT}, opRows op rows = some rows' → rows[j]? = some u → ∃ l l', u = .node l ∧ op l = some l' ∧ rows'[j]? = some (.node l')
  | [], _, j, u, h, e => by simp at e
  | t :: ts, rows', j, u, h, e => by
    unfold opRows at h
    split at h
    · rename_i h0; cases h0
    · rename_i l rest heq
      cases heq
      split at h
      · rename_i l' h1
        split at h
        · rename_i rs h2
          cases h
          cases j with
          | zero => simp at e; subst e; exact ⟨l, l', rfl, h1, rfl⟩
          | succ j => exact opRows_get (j := j) h2 (by simpa using e)
        · cases h
      · cases h
    · cases h
theorem opRows_len {op : List OT → Option (List OT)} : ∀ {rows rows' : List OT}, opRows op rows = some rows' → rows'.length = rows.length
  | [], _, h => by cases h; rfl
  | t :: ts, rows', h => by
    unfold opRows at h
    split at h
    · rename_i h0; cases h0
    · rename_i l rest heq
      cases heq
      split at h
      · split at h
        · rename_i rs h2
          cases h
          rw [List.length_cons, List.length_cons, opRows_len h2]
        · cases h
      · cases h
    · cases h
def fForT (i x : Nat) (π : Env → Option (List Nat)) (op : List OT → Option (List OT)) : Env → Option Out := fun r => if x = i ∨ r.length ≤ x then none else match gT r i, π r with
  | some t, some ks => (match t.at ks with
    | some (.node rows) => (match opRows op rows with
      | some rows' => some (.nx ((r.set x .no).set i (.tre (t.put ks (.node rows')))))
      | none => none)
    | _ => none)
  | _, _ => none
theorem ds_forT (i j : Nat) {x : Str} {o : Expr} {body : List Stmt} {π : Env → Option (List Nat)} {op : List OT → Option (List OT)} {pos px : Pos} (hN : X.N.Nodup) (hp : PassesOwn (model X.prog X.w) X.A X.env X.xe) (hc : X.calm = true) (ho : DP X T o i π) (hb : DB X T body j op) (hi : X.N[j]? = some x := by rfl) (hx : Loc X.env.scope x := by first | exact .inl rfl | exact .inr rfl) (hf : X.fn x = true ∨ X.env.scope.names.lookup x = some .local := by first | exact .inl rfl | exact .inr rfl) (hs : ∀ x, foldedSetIterable o X.env x = pure x := by intro _; rfl) :
    DS X T (.For (.Name x px) o body [] pos) (fForT i j π op) := by
  obtain ⟨tp, pp, gp⟩ := ho.ex
  obtain ⟨tb, pb, gb⟩ := hb.ex
  refine ⟨_, ps_for hp hc (pi_list pp) (pg_name hN hi hx hf) pb hs, fun B G0 H0 G H σ r o S h D m => ?_⟩
  unfold fForT at h
  obtain ⟨hne, h⟩ := ite_optN h
  split at h
  · rename_i t ks e1 e2
    split at h
    · rename_i rows e4
      split at h
      · rename_i rows' e5
        cases h
        have hr := gT_iff.mp e1
        have hji : j ≠ i := fun e => hne (.inl e)
        have hjl : j < σ.length := by rw [S.fits.len]; omega
        obtain ⟨v, hv⟩ := S.fits.treV hr
        refine gp G H σ r t v ks S.fits hr hv e2 _ fun w H1 n1 a1 => ?_
        have S1 := S.nx' n1
        obtain ⟨v1, p, vs, cs, hv1, a2, hh, hg, ow, np, nd, _, _⟩ := S1.nodeAt (Nx.refl S1.fits.gh) (N := noN) (fun a ha => ha.elim) hr e4
        rw [hv] at hv1
        cases hv1
        rw [a1] at a2
        cases a2
        have hlen := ow.length
        have hlen' := opRows_len e5
        refine ⟨p, rfl, ⟨vs, SqL.of hh⟩, ?_⟩
        refine ⟨fun k n σ' H' => n = rows.length - k ∧ k ≤ rows.length ∧ (∃ y, σ' = σ.set j y) ∧ (∀ a, a ≠ p → a ∉ cs → H' a = H1 a) ∧ H' p = some (.lst vs) ∧ OwA X.K T G H' vs (rows'.take k ++ rows.drop k) cs, ⟨rows.length, by simp, Nat.zero_le _, ?_, fun _ _ _ => rfl, hh, by simpa using ow⟩, ?_⟩
        · refine ⟨σ[j]?.join, ?_⟩
          rw [List.getElem?_eq_getElem hjl]
          exact (List.set_getElem_self hjl).symm
        rintro k n σ' H' ⟨rfl, hk, ⟨y, rfl⟩, same, hp', ow'⟩
        have SqH : SqL X.K H' p vs := SqL.of hp'
        by_cases hlt : k < rows.length
        · refine .inr ⟨⟨vs, vs[k]'(by omega), SqH, List.getElem?_eq_getElem _⟩, fun σ2 H2 => (∃ y, σ2 = σ.set j y) ∧ (∀ a, a ≠ p → a ∉ cs → H2 a = H1 a) ∧ H2 p = some (.lst vs) ∧ OwA X.K T G H2 vs (rows'.take (k + 1) ++ rows.drop (k + 1)) cs, fun σ2 H2 w => ⟨rows.length - (k + 1), by omega, rfl, hlt, w⟩, fun z H2 yl => ?_⟩
          obtain ⟨hH, yl⟩ := yl
          rw [hH]
          clear hH H2
          have hz := yl vs SqH
          have hu : (rows'.take k ++ rows.drop k)[k]? = some (rows[k]) := by
            rw [List.getElem?_append_right (by rw [List.length_take]; omega), List.length_take, Nat.min_eq_left (by omega), Nat.sub_self, List.getElem?_drop]
            exact List.getElem?_eq_getElem hlt
          obtain ⟨l, l', hul, hop, hr'⟩ := opRows_get e5 (List.getElem?_eq_getElem hlt)
          obtain ⟨wv, l1, mm, l2, hwv, qk, rfl, kk⟩ := ow'.split hu
          rw [hz] at hwv
          cases hwv
          rw [hul] at qk
          cases qk with
          | @node q ws _ as h1 h2 h3 =>
            show tb _ ((σ.set j y).set j (some (.ref q))) H'
            rw [List.set_set]
            have hq : q ∈ l1 ++ (q :: as ++ l2) := List.mem_append_right _ (List.mem_append_left _ List.mem_cons_self)
            have ndm : (q :: as).Nodup := (List.nodup_append.mp (List.nodup_append.mp nd).2.1).1
            have qp : q ≠ p := fun e => np (e ▸ hq)
            refine gb G H' (σ.set j (some (.ref q))) q ws l l' as _ (List.getElem?_set_self hjl) h1 h3 hop fun ws' ow2 => ?_
            refine ⟨⟨_, rfl⟩, fun a ha hc => ?_, ?_, ?_⟩
            · rw [upd_ne fun e => hc (by rw [e]; exact hq)]
              exact same a ha hc
            · rw [upd_ne (Ne.symm qp)]
              exact hp'
            · have hset : rows'.take (k + 1) ++ rows.drop (k + 1) = (rows'.take k ++ rows.drop k).set k (.node l') := by
                apply List.ext_getElem?
                intro b
                rw [List.getElem?_set]
                have len1 : (rows'.take k ++ rows.drop k).length = rows.length := by simp; omega
                by_cases hb : k = b
                · subst hb
                  rw [if_pos rfl, if_pos (by omega), List.getElem?_append_left (by rw [List.length_take]; omega), List.getElem?_take_of_lt (by omega)]
                  exact hr'
                · rw [if_neg hb]
                  by_cases hb2 : b < k
                  · rw [List.getElem?_append_left (by rw [List.length_take]; omega), List.getElem?_append_left (by rw [List.length_take]; omega), List.getElem?_take_of_lt (by omega), List.getElem?_take_of_lt (by omega)]
                  · rw [List.getElem?_append_right (by rw [List.length_take]; omega), List.getElem?_append_right (by rw [List.length_take]; omega), List.length_take, List.length_take, List.getElem?_drop, List.getElem?_drop]
                    congr 1
                    omega
              rw [hset]
              refine kk _ (.node l') (q :: as) (.node upd_same h2 (ow2.updN (List.nodup_cons.mp ndm).1)) (fun a ha => upd_ne fun e => ?_)
              subst e
              rw [List.nodup_append] at nd
              rcases ha with ha | ha
              · exact nd.2.2 a ha a (List.mem_append_left _ List.mem_cons_self) rfl
              · exact (List.nodup_append.mp nd.2.1).2.2 a List.mem_cons_self a ha rfl
        · have hk' : k = rows.length := by omega
          subst hk'
          refine .inl ⟨⟨vs, SqH, by omega⟩, ?_⟩
          have S2 := S1.setNoX (i := j) y
          have hr2 : (r.set j .no)[i]? = some (.tre t) := by rw [List.getElem?_set_ne hji]; exact hr
          have hv2 : (σ.set j y)[i]? = some (some v) := by rw [List.getElem?_set_ne hji]; exact hv
          obtain ⟨v3, p3, vs3, cs3, hv3, a3, hh3, hg3, ow3, np3, nd3, _, big⟩ := S2.nodeAt (Nx.refl S2.fits.gh) (N := noN) (fun a ha => ha.elim) hr2 e4
          rw [hv2] at hv3
          cases hv3
          rw [a1] at a3
          cases a3
          rw [hh] at hh3
          cases hh3
          have hcs : cs3 = cs := OwA.uniq _ ow3 ow
          subst hcs
          have hfin : rows'.take rows.length ++ rows.drop rows.length = rows' := by rw [List.drop_length, List.append_nil, List.take_of_length_le (by omega)]
          rw [hfin] at ow'
          refine m G H' _ (big vs rows' cs3 H' (fun a h1 h2 _ => same a h1 h2) hp' (fun a o ha => ?_) (fun a ob xs hz => ?_) ow' np nd (fun a ha => .inl ha))
          rotate_left
          · by_cases ep : a = p
            · rw [ep, hp'] at hz; cases hz
            · by_cases ec : a ∈ cs3
              · obtain ⟨o3, ho3, hm3⟩ := OwA.muts _ ow' a ec
                rw [ho3] at hz
                cases hz
                exact absurd hm3 id
              · rw [same a ep ec] at hz; exact hz
          have h6 := S1.fits.gh _ _ ha
          rw [same a (fun e => by rw [e, hg] at ha; cases ha) (fun hm => by rw [(OwA.inn _ ow a hm).1] at ha; cases ha)]
          exact h6
      · cases h
    · cases h
  · cases h
end
end PL

/-! ### own trees fixed for good; objects that are own trees -/
namespace PL
open PySem PySem.Spec PyProof.Rows L2
section
variable {X : Cx} {T : CT} {K : PySem.W.Frag} {B G0 H0 G H G1 H1 G' H' : Hp} {σ : L2.St} {r : Env}
def frzTAt (i : Nat) (r : Env) : Env := match r[i]? with | some (.tre t) => r.set i (.val t.toD) | _ => r
theorem St1.frzTr (S : St1 K T B G0 H0 G H σ r) (i : Nat) : ∃ G1, St1 K T B G0 H0 G1 H σ (frzTAt i r) := by
  classical
  unfold frzTAt
  split
  · rename_i t hr
    have hi : i < r.length := (List.getElem?_eq_some_iff.mp hr).1
    obtain ⟨m, k1, k2, k3⟩ := S.tr
    obtain ⟨⟨v, hv, q⟩, nd, hP⟩ := k1 i t hr
    let G1 : Hp := fun a => if a ∈ m i then H a else G a
    have gW : ∀ a, a ∈ m i → G1 a = H a := fun a h => if_pos h
    have gN : ∀ a, a ∉ m i → G1 a = G a := fun a h => if_neg h
    have gg : Same G G1 := fun a o h => by
      rw [gN a fun w => by rw [(Ow.inn t q a w).1] at h; cases h]
      exact h
    have gh : Same G1 H := fun a o h => by
      by_cases w : a ∈ m i
      · rw [gW a w] at h; exact h
      · rw [gN a w] at h; exact S.fits.gh _ _ h
    have back : ∀ (j : Nat) (z : Sl), (∃ t, z = .tre t) ∨ (∃ l, z = .own l) → (r.set i (.val t.toD))[j]? = some z → j ≠ i ∧ r[j]? = some z := fun j z hz e => by
      by_cases hj : j = i
      · subst hj
        rw [List.getElem?_set_self hi] at e
        cases e
        rcases hz with ⟨t, h⟩ | ⟨l, h⟩ <;> cases h
      · rw [List.getElem?_set_ne (Ne.symm hj)] at e
        exact ⟨hj, e⟩
    have tr : Tr K T G1 H (fun a => H0 a = none) σ (r.set i (.val t.toD)) := by
      refine ⟨m, fun j u e => ?_, fun j k u w hjk e1 e2 => k2 j k u w hjk (back j _ (.inl ⟨u, rfl⟩) e1).2 (back k _ (.inl ⟨w, rfl⟩) e2).2, fun j k u fs p e1 e2 e3 => k3 j k u fs p (back j _ (.inl ⟨u, rfl⟩) e1).2 (back k _ (.inr ⟨fs, rfl⟩) e2).2 e3⟩
      obtain ⟨hj, e⟩ := back j _ (.inl ⟨u, rfl⟩) e
      obtain ⟨⟨w, hw, q2⟩, nd2, hP2⟩ := k1 j u e
      exact ⟨⟨w, hw, Ow.mv gg u q2 (fun a ha => by rw [gN a (k2 j i u t hj e hr a ha)]; exact (Ow.inn u q2 a ha).1) (fun a ha => rfl)⟩, nd2, hP2⟩
    refine ⟨G1, ⟨gh, by rw [List.length_set]; exact S.fits.len, fun j d h => ?_, fun j fs h => ?_, fun j k fs gs p h1 h2 h3 h4 => ?_, tr.imp fun _ _ => trivial⟩, S.base.trans gg, ⟨S.nx.gg.trans gg, S.nx.hh, gh, fun a => ?_, S.nx.nf⟩, fun j fs p h1 h2 => S.ow j fs p (back j _ (.inr ⟨fs, rfl⟩) h1).2 h2, tr⟩
    · by_cases hj : j = i
      · subst hj
        rw [List.getElem?_set_self hi] at h
        cases h
        exact ⟨v, hv, Ow.rpG gg t q gW⟩
      · rw [List.getElem?_set_ne (Ne.symm hj)] at h
        obtain ⟨v, e, q⟩ := S.fits.val j d h
        exact ⟨v, e, Rp.mono gg d q⟩
    · obtain ⟨hj, h⟩ := back j _ (.inr ⟨fs, rfl⟩) h
      obtain ⟨p, us, e1, e2, e3, e4⟩ := S.fits.own j fs h
      exact ⟨p, us, e1, by rw [gN p (k3 i j t fs p hr h e1)]; exact e2, e3, RpA.mono gg _ e4⟩
    · exact S.fits.sep j k fs gs p (back j _ (.inr ⟨fs, rfl⟩) h1).2 (back k _ (.inr ⟨gs, rfl⟩) h2).2 h3 h4
    · by_cases w : a ∈ m i
      · exact .inr (.inr (.inl (hP a w)))
      · rw [gN a w]
        exact S.nx.fr a
  · exact ⟨G, S⟩
/-- own trees are fixed ahead of a statement -/
def fFixT (j : Nat) (a : Env → Option Out) : Env → Option Out := fun r => a (frzTAt j r)
theorem ds_fixT (j : Nat) {st : Stmt} {a : Env → Option Out} (h : DS X T st a) : DS X T st (fFixT j a) := by
  obtain ⟨t, p, g⟩ := h.ex
  refine ⟨t, p, fun B G0 H0 G H σ r o S e D m => ?_⟩
  obtain ⟨G1, S1⟩ := S.frzTr j
  exact g B G0 H0 G1 H σ _ o S1 e D m
/-! ### an object whose one field is an own tree -/
def GInU (K : PySem.W.Frag) (T : CT) (c : Nat) (ts : TS) (f : Str) (g : Env → Option OT) : Prop :=
  ∀ (G H : Hp) (σ : L2.St) (r : Env) (t : OT) (x dx : Addr), Fits K T G H σ r → σ[0]? = some (some (.ref x)) → G x = none → H x = some (.ins (T c).1 dx []) → g r = some t →
    ∀ D : Ends, (∀ G' H' v bs, NxB x G H G' H' → G' x = none → H' x = some (.ins (T c).1 dx [(f, v)]) → Ow K T G' H' v t bs → bs.Nodup → (∀ a ∈ bs, H a = none) → D.nx σ H') → ts D σ H
structure DInU (X : Cx) (T : CT) (c : Nat) (sts : List Stmt) (f : Str) (g : Env → Option OT) : Prop where
  ex : ∃ ts, PSs X sts ts ∧ GInU X.K T c ts f g
theorem dinU {c : Nat} {f : Str} {v : Expr} {e : Env → Option OT} {x : Str} {p1 pos' pos : Pos} (cl : Cls X.K (T c).1) (na : NoAttr X.K (T c).1 f) (hv : DU X T v e) (hN : X.N[0]? = some x := by rfl) (hvis : Vis X.env.scope x := by first | exact Or.inl rfl | exact Or.inr (Or.inl rfl))
    (hs : swapsWith v (some (.Attribute (.Name x p1) f pos')) pos.line X.env = pure false := by rfl) (hd : (x == ("__debug__" : Str)) = false := by decide +kernel) (hcd : (x == ("__classdict__" : Str)) = false := by decide +kernel) :
    DInU X T c [.Assign [.Attribute (.Name x p1) f pos'] v pos] f e := by
  obtain ⟨tv, pv, gv⟩ := hv.ex
  refine ⟨_, pss_one (ps_fld (pe_var hN hvis hd hcd) pv hs), fun G H σ r t x dx F hs hG hx he D k => ?_⟩
  refine gv G H σ r t F he _ fun y bs G1 H1 n1 q1 nd f1 => ?_
  refine ⟨.ref x, hs, x, _, dx, [], rfl, n1.hh _ _ hx, cl, na, by decide, ?_⟩
  have nb : x ∉ bs := fun hm => by rw [f1 x hm] at hx; cases hx
  have hG1 : G1 x = none := n1.out hG hx
  refine k G1 _ y bs ⟨n1.gg, fun b o hb h => by rw [upd_ne hb]; exact n1.hh _ _ h, same_updR n1.gh hG1, n1.fr, n1.nf.trans (NoF.upd (fun _ _ z => by cases z))⟩ hG1 upd_same (Ow.mv (Same.refl G1) t q1 (fun a ha => (Ow.inn t q1 a ha).1) (fun a ha => upd_ne fun e => nb (e ▸ ha))) nd f1
def initU (n m : Nat) (g : Env → Option OT) (ds : List Dt) : Option OT := if ds.length = n then g (Sl.no :: ds.map Sl.val ++ List.replicate m Sl.no) else none
def spIU (K : PySem.W.Frag) (T : CT) (c n : Nat) (f : Str) (g : List Dt → Option OT) : Sp := fun vs H Q _ => ∃ G ds t x dx as, vs = .ref x :: as ∧ as.length = n ∧ Same G H ∧ G x = none ∧ H x = some (.ins (T c).1 dx []) ∧ RpA K T G as ds ∧ g ds = some t ∧
  ∀ G' H' v bs, NxB x G H G' H' → G' x = none → H' x = some (.ins (T c).1 dx [(f, v)]) → Ow K T G' H' v t bs → bs.Nodup → (∀ a ∈ bs, H a = none) → Q .non H'
section
variable {P : Program} {w : World} {base : Heap} {mg : Str → Option Value}
theorem okIU {x qual : Str} {st : Stmt} {f : Addr} {fd : FuncData} {N ps : List Str} {k m n c : Nat} {fl : Str} {g : Env → Option OT} (F : Fun K x qual st f fd) (S : FnScope N ps (defScope st)) (hm : N.length = ps.length + m) (hp : ps.length = n + 1)
    (hb : ∀ (cdv : Value) (A : Around) (os : List PySem.Env) (s : Shared) (H : Hp) (E : XK), Room k (A.deeper (envOfC qual (defScope st) s.heap.objs.size f cdv)) → DInU (cxOf CX0 P w K mg base N qual (defScope st) f cdv A os s H E).nox T c (defBody st) fl g) :
    FnOk P w K mg base CX0 (k + 1) f fd ps (spIU K T c n fl (initU n m g)) := by
  refine F.ok S (fun vs H Q E h => ?_) (fun cdv A outer s H vs Q E hr h => ?_)
  · obtain ⟨G, ds, t, x, dx, as, rfl, hl, _⟩ := h
    rw [List.length_cons]; omega
  · obtain ⟨G, ds, t, x, dx, as, rfl, hl, gh, hG, hx, q, hd, k⟩ := h
    obtain ⟨ts, p, gs⟩ := (hb cdv A outer s H E hr).ex
    refine ⟨ts, p, ?_⟩
    have hq := q.length
    unfold initU at hd
    rw [if_pos (show ds.length = n by omega)] at hd
    have no_own : ∀ (i : Nat) (es : List Dt), (Sl.no :: ds.map Sl.val ++ List.replicate m Sl.no)[i]? ≠ some (.own es) := fun i es h => by
      have hm := List.mem_of_getElem? h
      simp at hm
    have no_tre : ∀ (i : Nat) (t : OT), (Sl.no :: ds.map Sl.val ++ List.replicate m Sl.no)[i]? ≠ some (Sl.tre t) := fun i t h => by
      have hm := List.mem_of_getElem? h
      simp at hm
    have F0 : Fits K T G H (L2.start N (.ref x :: as)) (Sl.no :: ds.map Sl.val ++ List.replicate m Sl.no) := by
      refine ⟨gh, ?_, fun i d h => ?_, fun i es h => absurd h (no_own i es), fun i j es fs p h => absurd h (no_own i es), Tr.nil no_tre⟩
      · unfold L2.start
        simp only [List.length_append, List.length_map, List.length_replicate, List.length_cons]
        omega
      · cases i with
        | zero => cases h
        | succ i =>
          have h' : (ds.map Sl.val ++ List.replicate m Sl.no)[i]? = some (.val d) := h
          by_cases hi : i < ds.length
          · rw [List.getElem?_append_left (by simpa using hi), List.getElem?_map, List.getElem?_eq_getElem hi] at h'
            cases h'
            obtain ⟨v, hv, rv⟩ := q.get (List.getElem?_eq_getElem hi)
            refine ⟨v, ?_, rv⟩
            unfold L2.start
            show (List.map some as ++ _)[i]? = _
            rw [List.getElem?_append_left (by rw [List.length_map]; omega), List.getElem?_map, hv]
            rfl
          · rw [List.getElem?_append_right (by simpa using hi), List.getElem?_replicate] at h'
            split at h' <;> cases h'
    exact gs G H _ _ t x dx F0 rfl hG hx hd _ fun G' H' v bs n' g' h' q' nd' f' => k G' H' v bs n' g' h' q' nd' f'
structure MakeOkU (P : Program) (w : World) (K : PySem.W.Frag) (mg : Str → Option Value) (base : Heap) (T : CT) (k c : Nat) (x : Str) (g : List Dt → Option OT) : Prop where
  ex : ∃ (f : Addr) (fd : FuncData) (ps : List Str) (n : Nat) (fl : Str), FnOk P w K mg base CX0 k f fd ps (spIU K T c n fl g) ∧ (T c).2 = [fl] ∧ Mk K (T c).1 f ∧ mg x = some (.ref (T c).1) ∧ Binds K fd ps [] ∧ ∀ ds d, g ds = some d → ds.length = n
theorem makeU_of {x qual y : Str} {st : Stmt} {f : Addr} {fd : FuncData} {ps : List Str} {k n m c : Nat} {fl : Str} {g : Env → Option OT} (F : Fun K y qual st f fd) (O : FnOk P w K mg base CX0 k f fd ps (spIU K T c n fl (initU n m g))) (hfl : (T c).2 = [fl]) (M : Mk K (T c).1 f) (hm : mg x = some (.ref (T c).1)) (hb : Binds K fd ps []) : MakeOkU P w K mg base T k c x (initU n m g) :=
  ⟨f, fd, ps, n, fl, O, hfl, M, hm, hb, fun ds d h => (ite_opt (by unfold initU at h; exact h)).1⟩
end
def uMake (c : Nat) (g : List Dt → Option OT) (a : Env → Option (List Dt)) : Env → Option OT := fun r => match a r with
  | some ds => (match g ds with
    | some t => some (.ob c [t])
    | none => none)
  | none => none
theorem du_make {x : Str} {k c : Nat} {g : List Dt → Option OT} {p pos : Pos} {e : Expr} {es : List Expr} {fa : Env → Option (List Dt)} (C : MakeOkU X.prog X.w X.K X.mg X.base T k c x g) (hr : Room (k + 1) X.A) (ha : DA X T (e :: es) fa) (hg : Gl X x := by rfl)
    (hx : ∀ {f : Addr} {fd : FuncData} {ps : List Str} {sp : Sp} {t : TA}, Mk X.K (T c).1 f → FnOk X.prog X.w X.K X.mg X.base CX0 k f fd ps sp → X.mg x = some (.ref (T c).1) → Binds X.K fd ps [] → PA X (e :: es) t → PE X (.Call (.Name x p) (e :: es) [] pos) (tMake (T c).1 sp [] E0 t)) :
    DU X T (.Call (.Name x p) (e :: es) [] pos) (uMake c g fa) := by
  obtain ⟨f, fd, ps, n, fl, O, hfl, M, hm, hb, hn⟩ := C.ex
  obtain ⟨ta, pa, ga⟩ := ha.ex
  refine ⟨_, hx M O hm hb pa, fun G H σ r d F h Q q => ?_⟩
  unfold uMake at h
  split at h
  · rename_i ds e1
    split at h
    · rename_i t e2
      cases h
      refine ga G H σ r ds F e1 _ fun vs G1 H1 n1 p1 => ?_
      intro x dx hx hdx ne
      have gx : G1 x = none := n1.gh.free hx
      have gdx : G1 dx = none := n1.gh.free hdx
      refine ⟨G1, ds, t, x, dx, vs, by rw [List.append_nil], by rw [p1.length]; exact hn ds t e2, fun b o e => ?_, gx, upd_same, p1, e2, fun G' H' v bs n' g' h' q' nd' f' => ⟨rfl, ?_⟩⟩
      · rw [upd_ne (ne_of_none e gx), upd_ne (ne_of_none e gdx)]
        exact n1.gh _ _ e
      · have xb : x ∉ bs := fun hm => by
          have := f' x hm
          rw [upd_same] at this
          cases this
        refine q (.ref x) (x :: (bs ++ [])) G' H' ⟨n1.gg.trans n'.gg, fun b o e => ?_, n'.gh, fun a => ?_, n1.nf.trans ((NoF.upd (fun _ _ z => by cases z)).trans ((NoF.upd (fun _ _ z => by cases z)).trans n'.nf))⟩ (.ob h' (by rw [hfl]; rfl) g' (.cons q' .nil)) ?_ (fun a ha => ?_)
        · have e1 := n1.hh _ _ e
          have hb : b ≠ x := ne_of_none e1 hx
          refine n'.hh b o hb ?_
          rw [upd_ne hb, upd_ne (ne_of_none e1 hdx)]
          exact e1
        · by_cases ha : a = x
          · exact .inl (by rw [ha]; exact g')
          · rcases n'.fr a with z | z | z
            · exact .inl z
            · rcases n1.fr a with y | y | y
              · exact absurd y z
              · exact .inr (.inl y)
              · exact .inr (.inr y)
            · exact .inr (.inr (((z.upd (fun _ z => by cases z)).2.upd (fun _ z => by cases z)).2.back n1.hh))
        · rw [List.append_nil, List.nodup_cons]
          exact ⟨xb, nd'⟩
        · rw [List.append_nil] at ha
          rcases List.mem_cons.mp ha with rfl | ha
          · exact n1.hh.free hx
          · have h1 := f' a ha
            by_cases hax : a = x
            · exact absurd (hax ▸ ha) xb
            · rw [upd_ne hax] at h1
              by_cases had : a = dx
              · rw [had, upd_same] at h1; cases h1
              · rw [upd_ne had] at h1
                exact n1.hh.free h1
    · cases h
  · cases h
/-! ### defs that answer a new own tree -/
def GSU (K : PySem.W.Frag) (T : CT) (ts : TS) (g : Env → Option OT) : Prop :=
  ∀ (B G0 H0 G H : Hp) (σ : L2.St) (r : Env) (t : OT), St1 K T B G0 H0 G H σ r → g r = some t → ∀ D : Ends, (∀ v as G' H', Nx G0 H0 G' H' → Ow K T G' H' v t as → as.Nodup → (∀ a ∈ as, H0 a = none) → D.rt v H') → ts D σ H
structure DSsU (X : Cx) (T : CT) (sts : List Stmt) (g : Env → Option OT) : Prop where
  ex : ∃ ts, PSs X sts ts ∧ GSU X.K T ts g
def fSeqU (a : Env → Option Out) (b : Env → Option OT) : Env → Option OT := fun r => match a r with
  | some (.nx r') => b r'
  | _ => none
theorem dssu_cons {st : Stmt} {rest : List Stmt} {a : Env → Option Out} {b : Env → Option OT} (h1 : DS X T st a) (h2 : DSsU X T rest b) : DSsU X T (st :: rest) (fSeqU a b) := by
  obtain ⟨t, p, g⟩ := h1.ex
  obtain ⟨t2, p2, g2⟩ := h2.ex
  refine ⟨_, pss_cons p p2, fun B G0 H0 G H σ r l S e D m => ?_⟩
  unfold fSeqU at e
  split at e
  · rename_i r' e1
    exact g B G0 H0 G H σ r _ S e1 { D with nx := t2 D } fun G1 H1 σ1 S1 => g2 B G0 H0 G1 H1 σ1 r' l S1 e D m
  · cases e
theorem dssu_ret {e : Expr} {f : Env → Option OT} {pos : Pos} (he : DU X T e f) : DSsU X T [.Return (some e) pos] f := by
  obtain ⟨te, pe, ge⟩ := he.ex
  refine ⟨_, pss_one (ps_ret pe), fun B G0 H0 G H σ r l S e D m => ?_⟩
  exact ge G H σ r l S.fits e _ fun v as G1 H1 n1 q nd f => m v as G1 H1 (S.nx.trans n1) q nd fun a ha => S.nx.hh.free (f a ha)
def uIf (c : Env → Option Bool) (a b : Env → Option OT) : Env → Option OT := fun r => match c r with
  | some true => a r
  | some false => b r
  | none => none
theorem du_if {a c b : Expr} {fc : Env → Option Bool} {fa fb : Env → Option OT} {pos : Pos} (hc : DT X T c fc) (ha : DU X T a fa) (hb : DU X T b fb) : DU X T (.IfExp c a b pos) (uIf fc fa fb) := by
  obtain ⟨tc, pc, gc⟩ := hc.ex
  obtain ⟨ta, pa, ga⟩ := ha.ex
  obtain ⟨tb, pb, gb⟩ := hb.ex
  refine ⟨_, pe_ifExp pc pa pb, fun G H σ r d F h Q q => ?_⟩
  unfold uIf at h
  split at h
  · rename_i e1
    refine gc G H σ r _ F e1 _ fun G1 H1 n1 => ?_
    show (if true = true then ta σ H1 Q else tb σ H1 Q)
    rw [if_pos rfl]
    exact ga G1 H1 σ r d (F.nx n1) h Q fun v as G2 H2 n2 q2 nd f => q v as G2 H2 (n1.trans n2) q2 nd fun a ha => n1.hh.free (f a ha)
  · rename_i e1
    refine gc G H σ r _ F e1 _ fun G1 H1 n1 => ?_
    show (if false = true then ta σ H1 Q else tb σ H1 Q)
    rw [if_neg Bool.false_ne_true]
    exact gb G1 H1 σ r d (F.nx n1) h Q fun v as G2 H2 n2 q2 nd f => q v as G2 H2 (n1.trans n2) q2 nd fun a ha => n1.hh.free (f a ha)
  · cases h
def spU (K : PySem.W.Frag) (T : CT) (n : Nat) (f : List Dt → Option OT) : Sp := fun vs H Q _ => vs.length = n ∧ ∃ G ds t, Same G H ∧ RpA K T G vs ds ∧ f ds = some t ∧ ∀ v as G' H', Nx G H G' H' → Ow K T G' H' v t as → as.Nodup → (∀ a ∈ as, H a = none) → Q v H'
def runU (n m : Nat) (g : Env → Option OT) (ds : List Dt) : Option OT := if ds.length = n then g (ds.map Sl.val ++ List.replicate m Sl.no) else none
section
variable {P : Program} {w : World} {mg : Str → Option Value} {base : Heap}
theorem okU {x qual : Str} {st : Stmt} {f : Addr} {fd : FuncData} {N ps : List Str} {k m : Nat} {g : Env → Option OT} (F : Fun K x qual st f fd) (S : FnScope N ps (defScope st)) (hm : N.length = ps.length + m)
    (hb : ∀ (cdv : Value) (A : Around) (os : List PySem.Env) (s : Shared) (H : Hp) (E : XK), Room k (A.deeper (envOfC qual (defScope st) s.heap.objs.size f cdv)) → DSsU (cxOf CX0 P w K mg base N qual (defScope st) f cdv A os s H E).nox T (defBody st) g) :
    FnOk P w K mg base CX0 (k + 1) f fd ps (spU K T ps.length (runU ps.length m g)) := by
  refine F.ok S (fun vs H Q E h => h.1) (fun cdv A outer s H vs Q E hr h => ?_)
  obtain ⟨hl, G, ds, l, gh, q, hd, k⟩ := h
  obtain ⟨t, p, gs⟩ := (hb cdv A outer s H E hr).ex
  refine ⟨t, p, ?_⟩
  have hq := q.length
  unfold runU at hd
  rw [if_pos (show ds.length = ps.length by omega)] at hd
  exact gs G G H G H _ _ _ (entry (N := N) (m := m) gh q (by omega)) hd _ fun v as G' H' n h0 h1 h2 => k v as G' H' n h0 h1 h2
structure CalleeU (P : Program) (w : World) (K : PySem.W.Frag) (mg : Str → Option Value) (base : Heap) (T : CT) (k : Nat) (x : Str) (g : List Dt → Option OT) : Prop where
  ex : ∃ (f : Addr) (fd : FuncData) (ps : List Str) (n : Nat), FnOk P w K mg base CX0 k f fd ps (spU K T n g) ∧ mg x = some (.ref f) ∧ PySem.W.keepIn K (.ref f) = true ∧ Binds K fd ps [] ∧ ∀ ds d, g ds = some d → ds.length = n
theorem calleeU_of {x qual y : Str} {st : Stmt} {f : Addr} {fd : FuncData} {ps : List Str} {k n m : Nat} {g : Env → Option OT} (F : Fun K y qual st f fd) (O : FnOk P w K mg base CX0 k f fd ps (spU K T n (runU n m g))) (hm : mg x = some (.ref f)) (hb : Binds K fd ps []) : CalleeU P w K mg base T k x (runU n m g) :=
  ⟨f, fd, ps, n, O, hm, F.kp, hb, fun ds d h => (ite_opt (by unfold runU at h; exact h)).1⟩
end
def uCall (g : List Dt → Option OT) (a : Env → Option (List Dt)) : Env → Option OT := fun r => match a r with
  | some ds => g ds
  | none => none
theorem du_call {x : Str} {k : Nat} {g : List Dt → Option OT} {p pos : Pos} {e : Expr} {es : List Expr} {fa : Env → Option (List Dt)} (C : CalleeU X.prog X.w X.K X.mg X.base T k x g) (hr : Room k X.A) (ha : DA X T (e :: es) fa) (hg : Gl X x := by rfl)
    (hdb : (x == ("__debug__" : Str)) = false := by decide +kernel) (he : starEach (e :: es) X.env = (false, eval e X.env) :: starEach es X.env := by rfl) (hpl : (backTo pos (starEach es X.env)).any (·.1) = false := by rfl) : DU X T (.Call (.Name x p) (e :: es) [] pos) (uCall g fa) := by
  obtain ⟨f, fd, ps, n, O, hm, hk, hb, hn⟩ := C.ex
  obtain ⟨ta, pa, ga⟩ := ha.ex
  refine ⟨_, pe_call (E := E0) O hr hg hm hk hb .nil pass0 pa hdb he hpl, fun G H σ r d F h Q q => ?_⟩
  unfold uCall at h
  split at h
  · rename_i ds e1
    refine ga G H σ r ds F e1 _ fun vs G1 H1 n1 p1 => ?_
    rw [List.append_nil]
    exact ⟨by rw [p1.length]; exact hn ds d h, G1, ds, d, n1.gh, p1, h, fun v as G2 H2 n2 h0 h1 h2 => q v as G2 H2 (n1.trans n2) h0 h1 fun a ha => n1.hh.free (h2 a ha)⟩
  · cases h
end
end PL
namespace PL
open PySem PySem.Spec PyProof.Rows L2
section
variable {X : Cx} {T : CT}
def uE (f : Env → Option Dt) : Env → Option OT := fun r => (f r).map .leaf
theorem du_e {e : Expr} {f : Env → Option Dt} (h : DE X T e f) : DU X T e (uE f) := by
  obtain ⟨te, pe, ge⟩ := h.ex
  refine ⟨te, pe, fun G H σ r t F e Q q => ?_⟩
  unfold uE at e
  cases e1 : f r with
  | none => rw [e1] at e; cases e
  | some d =>
    rw [e1] at e
    cases e
    exact ge G H σ r d F e1 _ fun v G1 H1 n1 q1 => q v [] G1 H1 n1 (.leaf q1) .nil (fun a ha => by cases ha)
end
end PL

/-! ### dicts whose keys are pairs of numbers -/
namespace PL
open PySem PySem.Spec PyProof.Rows L2
section
variable {X : Cx} {T : CT} {K : PySem.W.Frag} {B G0 H0 G H G1 H1 G' H' : Hp} {σ : L2.St} {r : Env}
/-! #### a display of one pair -/
def tDispT (tk tv : TE) : TE := fun σ H Q => ∀ p, H p = none → tk σ (upd H p (.dT [])) fun y H1 => tv σ H1 fun z H2 => H2 p = some (.dT []) ∧ ∃ ks b z', [(y, z)] = [(V.ref b, z')] ∧ H2 b = some (.tup (List.map kV ks)) ∧ Q (.ref p) (upd H2 p (.dT [(ks, z')]))
theorem pe_dispT {k v : Expr} {pos : Pos} {tk tv : TE} (hu : X.A.units + 1 < cLine) (pk : PE X k tk) (pv : PE X v tv) : PE X (.Dict [some k] [v] pos) (tDispT tk tv) := by
  refine ⟨fun pins s σ H Q I q => ?_⟩
  have hshape : (evalEachOpt [some k] X.env).zip (List.map (fun v => do
      let x ← v
      standAt pos
      pure x) (evalEach [v] X.env)) = List.map (fun p => (some p.fst, p.snd)) (pairTrees [some k] [v] X.env pos) := rfl
  rw [arm_eval_Dict, hshape, dictDisplay_pairs _ (by intro h; cases h) (by show 1 < 17; decide)]
  have hn := L2.HOk.fresh I.hok (Nat.le_refl s.heap.objs.size)
  have I1 := L2.Inv.laid (t' := s.toks) I (fun x _ q => Heap.get?_push_of_some { cls := Value.type "dict", data := Data.dict #[] } q) (Nat.le_refl s.heap.objs.size) (dt_empty s.heap (L2.Inv.big I))
  have W := (pps_cons (pos := pos) pk pv pps_nil).run pins _ σ _ (fun ps H2 => H2 s.heap.objs.size = some (.dT []) ∧ ∃ ks b z, ps = [(.ref b, z)] ∧ H2 b = some (.tup (List.map kV ks)) ∧ Q (.ref s.heap.objs.size) (upd H2 s.heap.objs.size (.dT [(ks, z)]))) I1 (q s.heap.objs.size hn)
  refine wpAny_bind (wpAny_standAt (wpAny_bind (wpAny_subDictH (knd := tupleKind (mixKind X.prog X.w)) (by show X.A.units < cLine; omega) (by show 1 ≤ 15; decide) (thn W fun ws s2 x => ?_))))
  obtain ⟨ps, H2, I2, rel, e, ks, b, z, rfl, hb, q2⟩ := x
  cases rel with
  | @cons _ w _ _ r1 r2 =>
    cases r2
    obtain ⟨u1, u2⟩ := w
    obtain ⟨ru1, ru2⟩ := r1
    have eu : u1 = Value.ref b := ru1
    subst eu
    obtain ⟨hz, hs, xs, kt, dd⟩ := dt_of I2.hok e
    cases kt
    obtain ⟨hl, its, hv, o, ho, hc, n, hd⟩ := I2.hok b _ hb
    refine ⟨[(ks, b, u2)], ⟨rfl, rfl, ⟨o, its.toArray, n, ho, hc, hd, by simpa using items_are hv⟩, trivial⟩, dd, fun h' tk dd' hs' => wpAny_pure ?_⟩
    refine ⟨.ref s.heap.objs.size, _, d_write (ob := .dT [(ks, z)]) I2 (by rw [e]; trivial) hs' ?_ ?_, rfl, q2⟩
    · obtain ⟨o', es, ep, h1, _⟩ := dd'
      exact ⟨o', h1⟩
    · obtain ⟨o', es, ep, h1, h2, h3, h4, h5, h6⟩ := dd'
      have hne : b ≠ s.heap.objs.size := fun e' => by rw [e', e] at hb; cases hb
      exact ⟨by show 1 ≤ sizeLine; decide, hs, [(ks, b, u2)], .cons ⟨rfl, (by rw [upd_ne hne]; exact hb), ru2⟩ .nil, o', es, ep, h1, h2, h3, h4, h6⟩

/-! #### what dicts hold -/
def dGet : List (Int × Int) → List Dt → Int × Int → Option Dt
  | k :: ks, d :: ds, q => if k = q then some d else dGet ks ds q
  | _, _, _ => none
def dPutL : List (Int × Int) → List Dt → Int × Int → Dt → List Dt
  | k :: ks, d :: ds, q, x => (if k = q then x else d) :: dPutL ks ds q x
  | _, _, _, _ => []
def dPutK (ks : List (Int × Int)) (q : Int × Int) : List (Int × Int) := if q ∈ ks then ks else ks ++ [q]
def dPutV (ks : List (Int × Int)) (ds : List Dt) (q : Int × Int) (x : Dt) : List Dt := if q ∈ ks then dPutL ks ds q x else ds ++ [x]
theorem kPair_inj {p q : Int × Int} : kPair p = kPair q ↔ p = q := by
  constructor
  · intro h
    unfold kPair at h
    injection h with h1 h2
    injection h2 with h2 _
    injection h1 with h1
    injection h2 with h2
    exact Prod.ext h1 h2
  · rintro rfl; rfl
theorem dget_rep : ∀ {kvs : List (List L2.Key × V)} {ks : List (Int × Int)} {ds : List Dt} {q : Int × Int} {d : Dt}, kvs.map Prod.fst = ks.map kPair → RpA K T G (kvs.map Prod.snd) ds → dGet ks ds q = some d → ∃ v, valV kvs (kPair q) = some v ∧ Rp K T G v d
  | [], [], ds, q, d, _, _, h => by cases ds <;> cases h
  | [], _ :: _, _, _, _, e, _, _ => by cases e
  | _ :: _, [], _, _, _, e, _, _ => by cases e
  | kv :: kvs, k :: ks, [], q, d, _, r, _ => by cases r
  | kv :: kvs, k :: ks, d' :: ds, q, d, e, r, h => by
    rw [List.map_cons, List.map_cons] at e
    injection e with e1 e2
    cases r with
    | cons r1 r2 =>
      unfold dGet at h
      by_cases hk : k = q
      · rw [if_pos hk] at h
        cases h
        exact ⟨kv.2, valV_pos (by rw [e1, hk]), r1⟩
      · rw [if_neg hk] at h
        obtain ⟨v, h1, h2⟩ := dget_rep e2 r2 h
        exact ⟨v, by rw [valV_neg (by rw [e1]; exact fun z => hk (kPair_inj.mp z))]; exact h1, h2⟩
theorem din_rep : ∀ {kvs : List (List L2.Key × V)} {ks : List (Int × Int)} {q : Int × Int}, kvs.map Prod.fst = ks.map kPair → (valV kvs (kPair q)).isSome = decide (q ∈ ks)
  | [], [], q, _ => by rw [valV_nil]; rfl
  | [], _ :: _, _, e => by cases e
  | _ :: _, [], _, e => by cases e
  | kv :: kvs, k :: ks, q, e => by
    rw [List.map_cons, List.map_cons] at e
    injection e with e1 e2
    by_cases hk : k = q
    · rw [valV_pos (by rw [e1, hk])]
      rw [decide_eq_true (by rw [hk]; exact List.mem_cons_self)]; rfl
    · rw [valV_neg (by rw [e1]; exact fun z => hk (kPair_inj.mp z)), din_rep e2]
      congr 1
      apply propext
      rw [List.mem_cons]
      exact ⟨.inr, fun h => h.resolve_left (Ne.symm hk)⟩
theorem dputL_rep {x : Dt} {v : V} (rv : Rp K T G v x) : ∀ {kvs : List (List L2.Key × V)} {ks : List (Int × Int)} {ds : List Dt} {q : Int × Int}, kvs.map Prod.fst = ks.map kPair → RpA K T G (kvs.map Prod.snd) ds →
    (kvs.map fun kv => if kv.1 = kPair q then (kv.1, v) else kv).map Prod.fst = ks.map kPair ∧ RpA K T G ((kvs.map fun kv => if kv.1 = kPair q then (kv.1, v) else kv).map Prod.snd) (dPutL ks ds q x)
  | [], [], ds, q, _, r => by cases r; exact ⟨rfl, .nil⟩
  | [], _ :: _, _, _, e, _ => by cases e
  | _ :: _, [], _, _, e, _ => by cases e
  | kv :: kvs, k :: ks, [], q, _, r => by cases r
  | kv :: kvs, k :: ks, d :: ds, q, e, r => by
    rw [List.map_cons, List.map_cons] at e
    injection e with e1 e2
    cases r with
    | cons r1 r2 =>
      obtain ⟨h1, h2⟩ := dputL_rep rv (q := q) e2 r2
      unfold dPutL
      rw [List.map_cons, List.map_cons, List.map_cons]
      by_cases hk : k = q
      · have : kv.1 = kPair q := by rw [e1, hk]
        rw [if_pos this, if_pos hk]
        exact ⟨by show kv.1 :: _ = kPair k :: _; rw [h1, e1], .cons rv h2⟩
      · have : ¬ kv.1 = kPair q := by rw [e1]; exact fun z => hk (kPair_inj.mp z)
        rw [if_neg this, if_neg hk]
        exact ⟨by show kv.1 :: _ = kPair k :: _; rw [h1, e1], .cons r1 h2⟩
theorem dput_rep {x : Dt} {v : V} (rv : Rp K T G v x) {kvs : List (List L2.Key × V)} {ks : List (Int × Int)} {ds : List Dt} {q : Int × Int} (e : kvs.map Prod.fst = ks.map kPair) (r : RpA K T G (kvs.map Prod.snd) ds) :
    (putK kvs (kPair q) v).map Prod.fst = (dPutK ks q).map kPair ∧ RpA K T G ((putK kvs (kPair q) v).map Prod.snd) (dPutV ks ds q x) := by
  have hin := din_rep (q := q) e
  have hany := valV_any (kPair q) kvs
  rw [hin] at hany
  unfold putK dPutK dPutV
  by_cases h : q ∈ ks
  · rw [if_pos (by rw [hany]; exact decide_eq_true h), if_pos h, if_pos h]
    exact dputL_rep rv e r
  · rw [if_neg (by rw [hany, decide_eq_false h]; exact Bool.false_ne_true), if_neg h, if_neg h]
    exact ⟨by rw [List.map_append, List.map_append, e]; rfl, by rw [List.map_append]; exact r.append (.cons rv .nil)⟩
def keyOf : Dt → Option (Int × Int)
  | .tup [.int i, .int j] => some (i, j)
  | _ => none
def kD (q : Int × Int) : Dt := .tup [.int q.1, .int q.2]
theorem keyOf_some {d : Dt} {q : Int × Int} (h : keyOf d = some q) : d = kD q := by
  unfold keyOf at h
  split at h
  · cases h; rfl
  · cases h
theorem key_rep {v : V} {d : Dt} {q : Int × Int} (r : Rp K T G v d) (h : keyOf d = some q) : ∃ b, v = .ref b ∧ G b = some (.tup (List.map kV (kPair q))) := by
  rw [keyOf_some h] at r
  unfold kD at r
  cases r with
  | @tup a xs _ h1 h2 h3 =>
    cases h2 with
    | cons p1 p2 =>
      cases p2 with
      | cons p2 p3 =>
        cases p3
        cases p1
        cases p2
        exact ⟨a, rfl, h3 q.1 [q.2] rfl⟩
/-! #### reading -/
def dgD (d e : Dt) : Option Dt := match d, keyOf e with
  | .dic ks ds, some q => dGet ks ds q
  | _, _ => none
theorem de_dget {o i : Expr} {fo fi : Env → Option Dt} {pos : Pos} (hu : X.A.units + 1 < cLine) (ho : DE X T o fo) (hi : DE X T i fi) (hs : NoSl i := by exact fun _ _ => rfl) : DE X T (.Subscript o i pos) (fOp dgD fo fi) := by
  obtain ⟨to, po, go⟩ := ho.ex
  obtain ⟨ti, pi, gi⟩ := hi.ex
  refine ⟨_, pe_dget hu po pi hs, fun G H σ r z F h Q q => ?_⟩
  obtain ⟨d, e, h1, h2, h3⟩ := fOp_some h
  unfold dgD at h3
  split at h3
  · rename_i ks ds k hk
    refine go G H σ r _ F h1 _ fun v G1 H1 n1 p1 => ?_
    refine gi G1 H1 σ r _ (F.nx n1) h2 _ fun w G2 H2 n2 p2 => ?_
    obtain ⟨b, rfl, hb⟩ := key_rep p2 hk
    have p1' := Rp.mono n2.gg _ p1
    cases p1' with
    | @dic a kvs _ _ a1 a2 a3 =>
      obtain ⟨u, hu', ru⟩ := dget_rep a2 a3 h3
      exact ⟨a, u, rfl, .inr ⟨kvs, kPair k, b, a1.imp (n2.gh _ _) (fun ⟨o, z⟩ => ⟨o, n2.gh _ _ z⟩), rfl, n2.gh _ _ hb, hu'.symm⟩, q u G2 H2 (n1.trans n2) ru⟩
  · cases h3
def fDIn (b : Bool) (fa fo : Env → Option Dt) : Env → Option Bool := fun r => match fa r, fo r with
  | some e, some (.dic ks _) => (match keyOf e with
    | some q => some (if b then decide (q ∈ ks) else !decide (q ∈ ks))
    | none => none)
  | _, _ => none
theorem dt_din {o i : Expr} {fo fi : Env → Option Dt} {pos : Pos} (hu : X.A.units + 1 < cLine) (hi : DE X T i fi) (ho : DE X T o fo) (hm : behindInMarks .In o = false := by first | exact nomark _ | rfl) : DT X T (.Compare i [.In] [o] pos) (fDIn true fi fo) := by
  obtain ⟨to, po, go⟩ := ho.ex
  obtain ⟨ti, pi, gi⟩ := hi.ex
  refine ⟨_, pt_cmp (pc_din hu pi po) hm, fun G H σ r b F h Q q => ?_⟩
  unfold fDIn at h
  split at h
  · rename_i e ks ds h1 h2
    split at h
    · rename_i k hk
      cases h
      refine gi G H σ r _ F h1 _ fun w G1 H1 n1 p1 => ?_
      refine go G1 H1 σ r _ (F.nx n1) h2 _ fun v G2 H2 n2 p2 => ?_
      obtain ⟨b, rfl, hb⟩ := key_rep p1 hk
      cases p2 with
      | @dic a kvs _ _ a1 a2 a3 =>
        refine ⟨a, valV kvs (kPair k), rfl, .inr ⟨kvs, kPair k, b, a1.imp (n2.gh _ _) (fun ⟨o, z⟩ => ⟨o, n2.gh _ _ z⟩), rfl, n2.gh _ _ (n2.gg _ _ hb), rfl⟩, _, rfl, ?_⟩
        rw [din_rep a2]
        exact q G2 H2 (n1.trans n2)
    · cases h
  · cases h
theorem dt_dnin {o i : Expr} {fo fi : Env → Option Dt} {pos : Pos} (hu : X.A.units + 1 < cLine) (hi : DE X T i fi) (ho : DE X T o fo) (hm : behindInMarks .NotIn o = false := by first | exact nomark _ | rfl) : DT X T (.Compare i [.NotIn] [o] pos) (fDIn false fi fo) := by
  obtain ⟨to, po, go⟩ := ho.ex
  obtain ⟨ti, pi, gi⟩ := hi.ex
  refine ⟨_, pt_cmp (pc_dnotin hu pi po) hm, fun G H σ r b F h Q q => ?_⟩
  unfold fDIn at h
  split at h
  · rename_i e ks ds h1 h2
    split at h
    · rename_i k hk
      cases h
      refine gi G H σ r _ F h1 _ fun w G1 H1 n1 p1 => ?_
      refine go G1 H1 σ r _ (F.nx n1) h2 _ fun v G2 H2 n2 p2 => ?_
      obtain ⟨b, rfl, hb⟩ := key_rep p1 hk
      cases p2 with
      | @dic a kvs _ _ a1 a2 a3 =>
        refine ⟨a, valV kvs (kPair k), rfl, .inr ⟨kvs, kPair k, b, a1.imp (n2.gh _ _) (fun ⟨o, z⟩ => ⟨o, n2.gh _ _ z⟩), rfl, n2.gh _ _ (n2.gg _ _ hb), rfl⟩, _, rfl, ?_⟩
        rw [din_rep a2]
        exact q G2 H2 (n1.trans n2)
    · cases h
  · cases h
/-! #### new dicts, changes -/
theorem du_dic0 {pos : Pos} : DU X T (.Dict [] [] pos) (fun _ => some (.dic [] [])) := by
  refine ⟨_, pe_dnewT, fun G H σ r t F h Q q => ?_⟩
  cases h
  intro p hp
  exact q (.ref p) [p] G _ (Nx.newH F.gh hp) (.dic upd_same (F.gh.free hp) rfl .nil) (by simp) (fun a ha => by rw [List.mem_singleton.mp ha]; exact hp)
def uDic1 (fk fv : Env → Option Dt) : Env → Option OT := fun r => match fk r, fv r with
  | some e, some d => (match keyOf e with
    | some q => some (.dic [q] [d])
    | none => none)
  | _, _ => none
theorem du_dic1 {k v : Expr} {fk fv : Env → Option Dt} {pos : Pos} (hu : X.A.units + 1 < cLine) (hk : DE X T k fk) (hv : DE X T v fv) : DU X T (.Dict [some k] [v] pos) (uDic1 fk fv) := by
  obtain ⟨tk, pk, gk⟩ := hk.ex
  obtain ⟨tv, pv, gv⟩ := hv.ex
  refine ⟨_, pe_dispT hu pk pv, fun G H σ r t F h Q q => ?_⟩
  unfold uDic1 at h
  split at h
  · rename_i e d h1 h2
    split at h
    · rename_i k' hk'
      cases h
      intro p hp
      have n0 := Nx.newH (o := .dT []) F.gh hp
      refine gk G _ σ r _ (F.nx n0) h1 _ fun y G1 H1 n1 p1 => ?_
      refine gv G1 H1 σ r _ ((F.nx n0).nx n1) h2 _ fun z G2 H2 n2 p2 => ?_
      have n12 := n1.trans n2
      have hp2 : H2 p = some (.dT []) := n12.hh _ _ upd_same
      have gp : G2 p = none := n12.out (F.gh.free hp) upd_same
      obtain ⟨b, rfl, hb⟩ := key_rep p1 hk'
      refine ⟨hp2, kPair k', b, z, rfl, n2.hh _ _ (n1.gh _ _ hb), ?_⟩
      have n := n0.trans n12
      refine q (.ref p) [p] G2 _ ⟨n.gg, fun a o ha => ?_, same_updR n.gh gp, n.fr, n.nf.trans (NoF.upd (fun _ _ z => by cases z))⟩ (.dic upd_same gp rfl (.cons p2 .nil)) (by simp) (fun a ha => by rw [List.mem_singleton.mp ha]; exact hp)
      rw [upd_ne (ne_of_none ha hp)]
      exact n.hh _ _ ha
    · cases h
  · cases h
def fDPut (i : Nat) (fk fv : Env → Option Dt) : Env → Option Out := fun r => match gT r i, fv r, fk r with
  | some (.dic ks ds), some d, some e => (match keyOf e with
    | some q => if ks.length ≤ 100000 then some (.nx (r.set i (.tre (.dic (dPutK ks q) (dPutV ks ds q d))))) else none
    | none => none)
  | _, _, _ => none
theorem ds_dput (i : Nat) {x : Str} {k v : Expr} {fk fv : Env → Option Dt} {pos p1 spos : Pos} (hu : X.A.units + 1 < cLine) (hk : DE X T k fk) (hv : DE X T v fv) (hi : X.N[i]? = some x := by rfl) (hvis : Vis X.env.scope x := by first | exact Or.inl rfl | exact Or.inr (Or.inl rfl)) (hd : (x == ("__debug__" : Str)) = false := by decide +kernel) (hcd : (x == ("__classdict__" : Str)) = false := by decide +kernel)
    (hs : swapsWith v (some (.Subscript (.Name x p1) k spos)) pos.line X.env = pure false := by rfl) : DS X T (.Assign [.Subscript (.Name x p1) k spos] v pos) (fDPut i fk fv) := by
  obtain ⟨tk, pk, gk⟩ := hk.ex
  obtain ⟨tv, pv, gv⟩ := hv.ex
  refine ⟨_, ps_dput hu (pe_var hi hvis hd hcd) pk pv hs, fun B G0 H0 G H σ r o S h D m => ?_⟩
  unfold fDPut at h
  split at h
  · rename_i ks ds d e e1 e2 e3
    split at h
    · rename_i q hq
      obtain ⟨hl, h⟩ := ite_opt h
      cases h
      have hr := gT_iff.mp e1
      refine gv G H σ r d S.fits e2 _ fun z G1 H1 n1 q1 => ?_
      have S1 := S.nx' n1
      obtain ⟨w, hw⟩ := S1.fits.treV hr
      refine ⟨w, hw, ?_⟩
      refine gk G1 H1 σ r e S1.fits e3 _ fun y G2 H2 n2 q2 => ?_
      have S2 := S1.nx' n2
      obtain ⟨b, rfl, hb⟩ := key_rep q2 hq
      obtain ⟨w', w2, bs, hw', ea, ow, nd, big⟩ := S2.mutAt (N := noN) (S2.tr.imp fun a z => ⟨z, id⟩) (fun a ha => ha.elim) hr (u := .dic ks ds) (ks := []) rfl
      rw [hw] at hw'
      cases hw'
      cases ea
      cases ow with
      | @dic p kvs _ _ h1 h2 h3 h4 =>
        obtain ⟨k1, k2⟩ := dput_rep (Rp.mono n2.gg d q1) (q := q) h3 h4
        have hlen : kvs.length < sizeLine := by
          have e5 := congrArg List.length h3
          rw [List.length_map, List.length_map] at e5
          rw [e5]
          exact Nat.lt_of_le_of_lt hl (by decide)
        refine ⟨p, _, rfl, .inr ⟨kvs, kPair q, b, h1, rfl, n2.gh _ _ hb, hlen, rfl⟩, ?_⟩
        exact m G2 _ _ (big _ (.dic (dPutK ks q) (dPutV ks ds q d)) [p] (fun a ha _ => upd_ne fun e => ha (by rw [e]; exact List.mem_singleton_self _)) (same_updR n2.gh h2) (NoF.upd (fun _ _ z => by cases z)) (.dic upd_same h2 k1 k2) (by simp) (fun a ha => .inl ha) (fun a ha _ => ha.elim))
    · cases h
  · cases h
/-! #### its keys as a list -/
def fListD (i : Nat) : Env → Option (List Dt) := fun r => match gT r i with
  | some (.dic ks _) => some (ks.map kD)
  | _ => none
theorem keys_rep : ∀ {kvs : List (List L2.Key × V)} {ks : List (Int × Int)} {bs : List Addr}, kvs.map Prod.fst = ks.map kPair → IsKeys H kvs bs → (∀ b ∈ bs, G' b = H b) → RpA K T G' (bs.map V.ref) (ks.map kD)
  | [], [], _, _, .nil, _ => .nil
  | [], _ :: _, _, e, _, _ => by cases e
  | _ :: _, [], _, e, _, _ => by cases e
  | kv :: kvs, k :: ks, _, e, .cons (b := b) h t, g => by
    rw [List.map_cons, List.map_cons] at e
    injection e with e1 e2
    have hb : G' b = some (.tup [.int k.1, .int k.2]) := by
      rw [g b List.mem_cons_self, h, e1]; rfl
    exact .cons (.tup (SqT.of hb) (.cons (.int _) (.cons (.int _) .nil)) (fun _ _ _ => hb)) (keys_rep e2 t fun b hb => g b (List.mem_cons_of_mem _ hb))
theorem dl_listD (i : Nat) {f x : Str} {p1 p pos : Pos} (hc : X.calm = true) (hm : X.mg f = none) (hi : X.N[i]? = some x := by rfl) (hvis : Vis X.env.scope x := by first | exact Or.inl rfl | exact Or.inr (Or.inl rfl)) (hd : (x == ("__debug__" : Str)) = false := by decide +kernel) (hcd : (x == ("__classdict__" : Str)) = false := by decide +kernel) (hv : bootBuiltins f = some (.type "list") := by decide +kernel) (hg : Gl X f := by rfl)
    (hn : f ≠ "__name__" := by decide +kernel) (hdb : (f == ("__debug__" : Str)) = false := by decide +kernel) (hs : starEach (.Name x p1 :: []) X.env = (false, eval (.Name x p1) X.env) :: starEach [] X.env := by rfl) (hpl : (backTo pos (starEach [] X.env)).any (·.1) = false := by rfl) :
    DL X T (.Call (.Name f p) [.Name x p1] [] pos) (fListD i) := by
  classical
  refine ⟨_, pe_callTy (call_list_dT hc) hg hm hv (pa_cons (pe_var hi hvis hd hcd) pa_nil hs) hn hdb hs hpl, fun G H σ r d F h Q q => ?_⟩
  unfold fListD at h
  split at h
  · rename_i ks ds e1
    cases h
    have hr := gT_iff.mp e1
    obtain ⟨v, w, as, hv', ea, ow⟩ := F.at hr (u := .dic ks ds) (ks := []) rfl
    cases ea
    refine ⟨v, hv', ?_⟩
    cases ow with
    | @dic a kvs _ _ h1 h2 h3 h4 =>
      refine ⟨a, kvs, rfl, .inl h1, fun p bs hp isk => ?_⟩
      let G1 : Hp := fun b => if b ∈ bs then H b else G b
      have gB : ∀ b, b ∈ bs → G1 b = H b := fun b h => if_pos h
      have gN : ∀ b, b ∉ bs → G1 b = G b := fun b h => if_neg h
      have isT : ∀ {kvs : List (List L2.Key × V)} {bs : List Addr}, IsKeys H kvs bs → ∀ b ∈ bs, ∃ xs, H b = some (.tup xs) := by
        intro kvs bs h
        induction h with
        | nil => intro b hb; cases hb
        | cons h t ih =>
          intro b hb
          rcases List.mem_cons.mp hb with rfl | hb
          · exact ⟨_, h⟩
          · exact ih b hb
      have nx : Nx G H G1 H := by
        refine ⟨fun b o hb => ?_, Same.refl H, fun b o hb => ?_, fun b => ?_, NoF.refl H⟩
        · by_cases w : b ∈ bs
          · rw [gB b w]; exact F.gh _ _ hb
          · rw [gN b w]; exact hb
        · by_cases w : b ∈ bs
          · rw [gB b w] at hb; exact hb
          · rw [gN b w] at hb; exact F.gh _ _ hb
        · by_cases w : b ∈ bs
          · exact .inr (.inr (.inr (isT isk b w)))
          · rw [gN b w]
            cases z : G b with
            | none => exact .inl rfl
            | some o => exact .inr (.inl fun y => by cases y)
      have nn := Nx.newH (o := .lst (bs.map V.ref)) nx.gh hp
      exact q p _ G1 _ (nx.trans nn) hp (nx.gh.free hp) upd_same (keys_rep h3 isk gB)
  · cases h
end
end PL
namespace PL
open PySem PySem.Spec PyProof.Rows L2
theorem room1 {k : Nat} {A : Around} (h : Room k A) : A.units + 1 < cLine := by have := room65 h; omega
end PL

/-! ### a dict's keys walked; own dicts handed on -/
namespace PL
open PySem PySem.Spec PyProof.Rows L2
section
variable {X : Cx} {T : CT} {K : PySem.W.Frag} {B G0 H0 G H G1 H1 G' H' : Hp} {σ : L2.St} {r : Env}
def lockH (d : Addr) (o : HO) (X : Hp) : Hp := fun a => if a = d then (match X a with | none => none | some _ => some o) else X a
theorem lock_ne {d a : Addr} {o : HO} {X : Hp} (h : a ≠ d) : lockH d o X a = X a := if_neg h
theorem lock_at {d : Addr} {o u : HO} {X : Hp} (h : X d = some u) : lockH d o X d = some o := by
  unfold lockH
  rw [if_pos rfl, h]
theorem lock_no {d a : Addr} {o : HO} {X : Hp} : lockH d o X a = none ↔ X a = none := by
  unfold lockH
  by_cases h : a = d
  · rw [if_pos h]
    cases X a <;> simp
  · rw [if_neg h]
theorem lock_upd {d : Addr} {o u : HO} {X : Hp} (h : X d = some u) : lockH d o X = upd X d o := by
  funext a
  by_cases e : a = d
  · subst e; rw [lock_at h, upd_same]
  · rw [lock_ne e, upd_ne e]
theorem lock_same {d : Addr} {o : HO} {X Y : Hp} (h : Same X Y) : Same (lockH d o X) (lockH d o Y) := fun b x e => by
  by_cases hb : b = d
  · subst hb
    cases hx : X b with
    | none => rw [lock_no.mpr hx] at e; cases e
    | some u =>
      rw [lock_at hx] at e
      rw [lock_at (h _ _ hx)]
      exact e
  · rw [lock_ne hb] at e ⊢
    exact h _ _ e
variable {d : Addr} {od : Obj} {kv0 : List (List L2.Key × V)}
theorem lock_keep {X : Hp} (hX : X d = none ∨ X d = some (.dT kv0)) {a : Addr} {o : HO} (h : X a = some o) (ho : o ≠ .dT kv0) : lockH d (.frz od (.dT kv0)) X a = some o := by
  by_cases e : a = d
  · subst e
    rcases hX with z | z
    · rw [z] at h; cases h
    · rw [z] at h; cases h; exact absurd rfl ho
  · rw [lock_ne e]; exact h
mutual
theorem Rp.lock {X : Hp} (hX : X d = none ∨ X d = some (.dT kv0)) : ∀ (x : Dt) {v : V}, Rp K T X v x → Rp K T (lockH d (.frz od (.dT kv0)) X) v x
  | .non, _, h => by cases h; exact .non
  | .bl b, _, h => by cases h; exact .bl b
  | .int i, _, h => by cases h; exact .int i
  | .str l, _, h => by cases h; exact .str l
  | .lst ds, _, h => by cases h with | lst h1 h2 => exact .lst (lock_keep hX h1 (fun z => by cases z)) (RpA.lock hX ds h2)
  | .tup ds, _, h => by
    cases h with
    | tup h1 h2 h3 =>
      refine .tup ?_ (RpA.lock hX ds h2) (fun n ns z => lock_keep hX (h3 n ns z) (fun z => by cases z))
      rcases h1 with (h | ⟨o, h⟩) | h
      · exact .inl (.inl (lock_keep hX h (fun z => by cases z)))
      · exact .inl (.inr ⟨o, lock_keep hX h (fun z => by cases z)⟩)
      · exact .inr h
  | .scr ns, _, h => by
    cases h with
    | scr h1 =>
      refine .scr ?_
      rcases h1 with (h | ⟨o, h⟩) | h
      · exact .inl (.inl (lock_keep hX h (fun z => by cases z)))
      · exact .inl (.inr ⟨o, lock_keep hX h (fun z => by cases z)⟩)
      · exact .inr h
  | .obj c ds, _, h => by cases h with | obj h1 h2 h3 => exact .obj (lock_keep hX h1 (fun z => by cases z)) h2 (RpA.lock hX ds h3)
  | .dic ks ds, _, h => by
    cases h with
    | @dic a kvs _ _ h1 h2 h3 =>
      refine .dic ?_ h2 (RpA.lock hX ds h3)
      rcases h1 with h | ⟨o, h⟩
      · by_cases e : a = d
        · subst e
          rcases hX with z | z
          · rw [z] at h; cases h
          · rw [z] at h
            cases h
            exact .inr ⟨od, lock_at z⟩
        · exact .inl (by rw [lock_ne e]; exact h)
      · exact .inr ⟨o, lock_keep hX h (fun z => by cases z)⟩
  | .adr a, _, h => by cases h; exact .adr a
  | .ty n, _, h => by cases h; exact .ty n
  | .cls k, _, h => by cases h; exact .cls k
  | .man m q e, _, h => by cases h with | man h1 => exact .man (lock_keep hX h1 (fun z => by cases z))
theorem RpA.lock {X : Hp} (hX : X d = none ∨ X d = some (.dT kv0)) : ∀ (ds : List Dt) {vs : List V}, RpA K T X vs ds → RpA K T (lockH d (.frz od (.dT kv0)) X) vs ds
  | [], _, h => by cases h; exact .nil
  | x :: ds, _, h => by cases h with | cons h1 h2 => exact .cons (Rp.lock hX x h1) (RpA.lock hX ds h2)
end
theorem unlock_keep {Y : Hp} (hY : Y d = some (.frz od (.dT kv0))) {a : Addr} {o : HO} (h : Y a = some o) (ho : o ≠ .frz od (.dT kv0)) : upd Y d (.dT kv0) a = some o := by
  by_cases e : a = d
  · subst e
    rw [hY] at h; cases h; exact absurd rfl ho
  · rw [upd_ne e]; exact h
mutual
theorem Rp.unlock {Y : Hp} (hY : Y d = some (.frz od (.dT kv0))) : ∀ (x : Dt) {v : V}, Rp K T Y v x → Rp K T (upd Y d (.dT kv0)) v x
  | .non, _, h => by cases h; exact .non
  | .bl b, _, h => by cases h; exact .bl b
  | .int i, _, h => by cases h; exact .int i
  | .str l, _, h => by cases h; exact .str l
  | .lst ds, _, h => by cases h with | lst h1 h2 => exact .lst (unlock_keep hY h1 (fun z => by cases z)) (RpA.unlock hY ds h2)
  | .tup ds, _, h => by
    cases h with
    | tup h1 h2 h3 =>
      refine .tup ?_ (RpA.unlock hY ds h2) (fun n ns z => unlock_keep hY (h3 n ns z) (fun z => by cases z))
      rcases h1 with (h | ⟨o, h⟩) | h
      · exact .inl (.inl (unlock_keep hY h (fun z => by cases z)))
      · exact .inl (.inr ⟨o, unlock_keep hY h (fun z => by cases z)⟩)
      · exact .inr h
  | .scr ns, _, h => by
    cases h with
    | scr h1 =>
      refine .scr ?_
      rcases h1 with (h | ⟨o, h⟩) | h
      · exact .inl (.inl (unlock_keep hY h (fun z => by cases z)))
      · exact .inl (.inr ⟨o, unlock_keep hY h (fun z => by cases z)⟩)
      · exact .inr h
  | .obj c ds, _, h => by cases h with | obj h1 h2 h3 => exact .obj (unlock_keep hY h1 (fun z => by cases z)) h2 (RpA.unlock hY ds h3)
  | .dic ks ds, _, h => by
    cases h with
    | @dic a kvs _ _ h1 h2 h3 =>
      refine .dic ?_ h2 (RpA.unlock hY ds h3)
      by_cases e : a = d
      · subst e
        rcases h1 with h | ⟨o, h⟩
        · rw [hY] at h; cases h
        · rw [hY] at h; cases h; exact .inl upd_same
      · rw [upd_ne e]; exact h1
  | .adr a, _, h => by cases h; exact .adr a
  | .ty n, _, h => by cases h; exact .ty n
  | .cls k, _, h => by cases h; exact .cls k
  | .man m q e, _, h => by cases h with | man h1 => exact .man (unlock_keep hY h1 (fun z => by cases z))
theorem RpA.unlock {Y : Hp} (hY : Y d = some (.frz od (.dT kv0))) : ∀ (ds : List Dt) {vs : List V}, RpA K T Y vs ds → RpA K T (upd Y d (.dT kv0)) vs ds
  | [], _, h => by cases h; exact .nil
  | x :: ds, _, h => by cases h with | cons h1 h2 => exact .cons (Rp.unlock hY x h1) (RpA.unlock hY ds h2)
end
mutual
theorem Ow.lock (hG : G d = some (.dT kv0)) : ∀ (t : OT) {v : V} {as : List Addr}, Ow K T G H v t as → Ow K T (lockH d (.frz od (.dT kv0)) G) (lockH d (.frz od (.dT kv0)) H) v t as
  | .leaf x, _, _, h => by cases h with | leaf q => exact .leaf (Rp.lock (.inr hG) x q)
  | .node l, _, _, h => by
    cases h with
    | @node a _ _ _ h1 h2 h3 =>
      have e : a ≠ d := fun z => by rw [z, hG] at h2; cases h2
      exact .node (by rw [lock_ne e]; exact h1) (lock_no.mpr h2) (OwA.lock hG l h3)
  | .ob c l, _, _, h => by
    cases h with
    | @ob _ a _ _ _ _ h1 h2 h3 h4 =>
      have e : a ≠ d := fun z => by rw [z, hG] at h3; cases h3
      exact .ob (by rw [lock_ne e]; exact h1) h2 (lock_no.mpr h3) (OwA.lock hG l h4)
  | .dic ks l, _, _, h => by
    cases h with
    | @dic a _ _ _ h1 h2 h3 h4 =>
      have e : a ≠ d := fun z => by rw [z, hG] at h2; cases h2
      exact .dic (by rw [lock_ne e]; exact h1) (lock_no.mpr h2) h3 (RpA.lock (.inr hG) l h4)
theorem OwA.lock (hG : G d = some (.dT kv0)) : ∀ (ts : List OT) {vs : List V} {as : List Addr}, OwA K T G H vs ts as → OwA K T (lockH d (.frz od (.dT kv0)) G) (lockH d (.frz od (.dT kv0)) H) vs ts as
  | [], _, _, h => by cases h; exact .nil
  | t :: ts, _, _, h => by cases h with | cons h1 h2 => exact .cons (Ow.lock hG t h1) (OwA.lock hG ts h2)
end
mutual
theorem Ow.unlock (hG : G d = some (.frz od (.dT kv0))) : ∀ (t : OT) {v : V} {as : List Addr}, Ow K T G H v t as → Ow K T (upd G d (.dT kv0)) (upd H d (.dT kv0)) v t as
  | .leaf x, _, _, h => by cases h with | leaf q => exact .leaf (Rp.unlock hG x q)
  | .node l, _, _, h => by
    cases h with
    | @node a _ _ _ h1 h2 h3 =>
      have e : a ≠ d := fun z => by rw [z, hG] at h2; cases h2
      exact .node (by rw [upd_ne e]; exact h1) (by rw [upd_ne e]; exact h2) (OwA.unlock hG l h3)
  | .ob c l, _, _, h => by
    cases h with
    | @ob _ a _ _ _ _ h1 h2 h3 h4 =>
      have e : a ≠ d := fun z => by rw [z, hG] at h3; cases h3
      exact .ob (by rw [upd_ne e]; exact h1) h2 (by rw [upd_ne e]; exact h3) (OwA.unlock hG l h4)
  | .dic ks l, _, _, h => by
    cases h with
    | @dic a _ _ _ h1 h2 h3 h4 =>
      have e : a ≠ d := fun z => by rw [z, hG] at h2; cases h2
      exact .dic (by rw [upd_ne e]; exact h1) (by rw [upd_ne e]; exact h2) h3 (RpA.unlock hG l h4)
theorem OwA.unlock (hG : G d = some (.frz od (.dT kv0))) : ∀ (ts : List OT) {vs : List V} {as : List Addr}, OwA K T G H vs ts as → OwA K T (upd G d (.dT kv0)) (upd H d (.dT kv0)) vs ts as
  | [], _, _, h => by cases h; exact .nil
  | t :: ts, _, _, h => by cases h with | cons h1 h2 => exact .cons (Ow.unlock hG t h1) (OwA.unlock hG ts h2)
end
theorem Tr.lock {P P' : Addr → Prop} (hG : G d = some (.dT kv0)) (hP : ∀ a, P a → P' a) (h : Tr K T G H P σ r) : Tr K T (lockH d (.frz od (.dT kv0)) G) (lockH d (.frz od (.dT kv0)) H) P' σ r := by
  obtain ⟨m, k1, k2, k3⟩ := h
  refine ⟨m, fun i t e => ?_, k2, k3⟩
  obtain ⟨⟨v, hv, q⟩, nd, p⟩ := k1 i t e
  exact ⟨⟨v, hv, Ow.lock hG t q⟩, nd, fun a ha => hP a (p a ha)⟩
theorem Tr.unlock {P P' : Addr → Prop} (hG : G d = some (.frz od (.dT kv0))) (hP : ∀ a, P a → P' a) (h : Tr K T G H P σ r) : Tr K T (L2.upd G d (.dT kv0)) (L2.upd H d (.dT kv0)) P' σ r := by
  obtain ⟨m, k1, k2, k3⟩ := h
  refine ⟨m, fun i t e => ?_, k2, k3⟩
  obtain ⟨⟨v, hv, q⟩, nd, p⟩ := k1 i t e
  exact ⟨⟨v, hv, Ow.unlock hG t q⟩, nd, fun a ha => hP a (p a ha)⟩
theorem St1.lock (S : St1 K T B G0 H0 G H σ r) (hG : G d = some (.dT kv0)) : St1 K T (lockH d (.frz od (.dT kv0)) B) (lockH d (.frz od (.dT kv0)) G0) (lockH d (.frz od (.dT kv0)) H0) (lockH d (.frz od (.dT kv0)) G) (lockH d (.frz od (.dT kv0)) H) σ r := by
  have hH := S.fits.gh _ _ hG
  refine ⟨⟨lock_same S.fits.gh, S.fits.len, fun i x h => ?_, fun i ds h => ?_, S.fits.sep, S.fits.tr.lock hG fun _ z => z⟩, lock_same S.base, ⟨lock_same S.nx.gg, lock_same S.nx.hh, lock_same S.nx.gh, fun a => ?_, fun a ob xs z => ?_⟩, fun i ds p h1 h2 => lock_no.mpr (S.ow i ds p h1 h2), S.tr.lock hG fun a z => lock_no.mpr z⟩
  · obtain ⟨v, e, q⟩ := S.fits.val i x h
    exact ⟨v, e, Rp.lock (.inr hG) x q⟩
  · obtain ⟨p, vs, e, hg, hh, q⟩ := S.fits.own i ds h
    exact ⟨p, vs, e, lock_no.mpr hg, lock_keep (.inr hH) hh (fun z => by cases z), RpA.lock (.inr hG) ds q⟩
  · rcases S.nx.fr a with z | z | z | ⟨xs, z⟩
    · exact .inl (lock_no.mpr z)
    · exact .inr (.inl fun y => z (lock_no.mp y))
    · exact .inr (.inr (.inl (lock_no.mpr z)))
    · by_cases e : a = d
      · subst e
        have := S.nx.hh _ _ z
        rw [hH] at this
        cases this
      · exact .inr (.inr (.inr ⟨xs, by rw [lock_ne e]; exact z⟩))
  · by_cases e : a = d
    · subst e
      rw [lock_at hH] at z
      cases z
    · rw [lock_ne e] at z ⊢
      exact S.nx.nf a ob xs z
theorem St1.unlock {σ0 : L2.St} {r0 : Env} (S : St1 K T B G0 H0 G H σ0 r0) (hG : G d = some (.dT kv0)) (S2 : St1 K T (lockH d (.frz od (.dT kv0)) G) (lockH d (.frz od (.dT kv0)) G0) (lockH d (.frz od (.dT kv0)) H0) G' H' σ r) : G' d = some (.frz od (.dT kv0)) ∧ St1 K T B G0 H0 (upd G' d (.dT kv0)) (upd H' d (.dT kv0)) σ r := by
  have hH := S.fits.gh _ _ hG
  have hG' : G' d = some (.frz od (.dT kv0)) := S2.base _ _ (lock_at hG)
  have hH' := S2.fits.gh _ _ hG'
  have up : ∀ (Y Z : Hp), (∀ o, Y d = some o → o = .dT kv0) → Same (lockH d (.frz od (.dT kv0)) Y) Z → Same Y (upd Z d (.dT kv0)) := fun Y Z hY e b o h => by
    by_cases hb : b = d
    · subst hb
      rw [upd_same, hY o h]
    · rw [upd_ne hb]
      exact e _ _ (by rw [lock_ne hb]; exact h)
  have isG : ∀ (Y : Hp), Same Y G → ∀ o, Y d = some o → o = .dT kv0 := fun Y e o h => by
    have := e _ _ h
    rw [hG] at this
    cases this; rfl
  have isH : ∀ o, H0 d = some o → o = .dT kv0 := fun o h => by
    have := S.nx.hh _ _ h
    rw [hH] at this
    cases this; rfl
  refine ⟨hG', ⟨same_upd2 S2.fits.gh, S2.fits.len, fun i x h => ?_, fun i ds h => ?_, S2.fits.sep, S2.fits.tr.unlock hG' fun _ z => z⟩, ?_, ⟨up G0 G' (isG G0 S.nx.gg) S2.nx.gg, up H0 H' isH S2.nx.hh, same_upd2 S2.nx.gh, fun a => ?_, fun a ob xs z => ?_⟩, fun i ds p h1 h2 => lock_no.mp (S2.ow i ds p h1 h2), S2.tr.unlock hG' fun a z => lock_no.mp z⟩
  · obtain ⟨v, e, q⟩ := S2.fits.val i x h
    exact ⟨v, e, Rp.unlock hG' x q⟩
  · obtain ⟨p, vs, e, hg, hh, q⟩ := S2.fits.own i ds h
    have hp : p ≠ d := fun z => by rw [z, hG'] at hg; cases hg
    exact ⟨p, vs, e, by rw [upd_ne hp]; exact hg, by rw [upd_ne hp]; exact hh, RpA.unlock hG' ds q⟩
  · exact S.base.trans (up G G' (isG G (Same.refl G)) S2.base)
  · by_cases e : a = d
    · subst e
      rcases S.nx.fr a with z | z | z
      · rw [hG] at z; cases z
      · exact .inr (.inl z)
      · exact .inr (.inr z)
    · rw [upd_ne e]
      rcases S2.nx.fr a with z | z | z
      · exact .inl z
      · exact .inr (.inl fun y => z (lock_no.mpr y))
      · rcases z with z | ⟨xs, z⟩
        · exact .inr (.inr (.inl (lock_no.mp z)))
        · rw [lock_ne e] at z
          exact .inr (.inr (.inr ⟨xs, z⟩))
  · by_cases e : a = d
    · rw [e, upd_same] at z
      cases z
    · rw [upd_ne e] at z
      have := S2.nx.nf a ob xs z
      rw [lock_ne e] at this
      exact this
/-! #### the loop -/
theorem for_core {t : Dt → Env → Option Env} {b : Env → Option Out} {g : TG} {tb : TS} (gg : GG K T g t) (gb : GS K T tb b) {J : It} {items : List Dt} {r' : Env} (S1 : St1 K T G1 G0 H0 G1 H1 σ r) (ok : ItOk K T J G1 items) (e : loopF t b items r = some (.nx r')) (D : Ends) (m : ∀ G' H' σ', St1 K T G1 G0 H0 G' H' σ' r' → D.nx σ' H') :
    ∃ W : Nat → Nat → L2.St → Hp → Prop, (∃ n, W 0 n σ H1) ∧ ∀ (i n : Nat) (σ : L2.St) (H : Hp), W i n σ H → J.stop i H ∧ D.nx σ H ∨ J.go i H ∧ ∃ N : L2.St → Hp → Prop, (∀ σ' H', N σ' H' → ∃ n', n' < n ∧ W (i + 1) n' σ' H') ∧ ∀ x H', J.yld i H x H' → g x σ H' fun σ2 H2 => tb { nx := N, rt := D.rt, bk := D.nx, ct := N } σ2 H2 := by
  refine ⟨fun i n σ' H' => n = items.length - i ∧ i ≤ items.length ∧ ∃ G' r'', St1 K T G1 G0 H0 G' H' σ' r'' ∧ loopF t b (items.drop i) r'' = some (.nx r'), ⟨items.length, by simp, Nat.zero_le _, G1, r, S1, by simpa using e⟩, ?_⟩
  rintro i n σ' H' ⟨rfl, hi', G', r'', S', hl⟩
  have e1G : Same G1 H' := S'.base.trans S'.fits.gh
  by_cases hlt : i < items.length
  · refine .inr ⟨ok.goes i H' hlt e1G, fun σ2 H2 => ∃ G2 r2, St1 K T G1 G0 H0 G2 H2 σ2 r2 ∧ loopF t b (items.drop (i + 1)) r2 = some (.nx r'), fun σ2 H2 w => ⟨items.length - (i + 1), by omega, rfl, hlt, w⟩, fun x H2 y => ?_⟩
    rw [List.drop_eq_getElem_cons hlt] at hl
    obtain ⟨G2, n2, rx⟩ := ok.yields i H' x H2 items[i] (List.getElem?_eq_getElem hlt) e1G y G' S'.base S'.fits.gh
    unfold loopF at hl
    split at hl
    · cases hl
    · rename_i r1 ht
      refine gg G1 G0 H0 G2 H2 σ' r'' x items[i] r1 (S'.nx' n2) rx ht _ fun G3 H3 σ3 S3 => ?_
      split at hl
      · rename_i r2 hb2
        exact gb G1 G0 H0 G3 H3 σ3 r1 _ S3 hb2 _ fun G4 H4 σ4 S4 => ⟨G4, r2, S4, hl⟩
      · rename_i r2 hb2
        exact gb G1 G0 H0 G3 H3 σ3 r1 _ S3 hb2 _ fun G4 H4 σ4 S4 => ⟨G4, r2, S4, hl⟩
      · rename_i r2 hb2
        cases hl
        exact gb G1 G0 H0 G3 H3 σ3 r1 _ S3 hb2 _ fun G4 H4 σ4 S4 => m G4 H4 σ4 S4
      · cases hl
      · cases hl
  · have e : i = items.length := by omega
    subst e
    rw [List.drop_length] at hl
    cases hl
    exact .inl ⟨ok.stops H' e1G, m G' H' σ' S'⟩
theorem itok_keys {o : Obj} {kvs : List (List L2.Key × V)} {ks : List (Int × Int)} {B : Hp} (hB : B d = some (.frz o (.dT kvs))) (hk : kvs.map Prod.fst = ks.map kPair) : ItOk K T (Itkt d o kvs) B (ks.map kD) := by
  have hl : kvs.length = ks.length := by
    have := congrArg List.length hk
    rw [List.length_map, List.length_map] at this
    exact this
  refine ⟨fun i H hi e => ⟨e _ _ hB, by rw [List.length_map] at hi; omega⟩, fun H e => ⟨e _ _ hB, by rw [List.length_map]; omega⟩, fun i H x H' dd hd e y G g1 g2 => ?_⟩
  obtain ⟨rfl, k, v, q, hq, rfl, hh⟩ := y
  rw [List.getElem?_map] at hd
  have hk' : (kvs.map Prod.fst)[i]? = some k := by rw [List.getElem?_map, hq]; rfl
  rw [hk, List.getElem?_map] at hk'
  cases e1 : ks[i]? with
  | none => rw [e1] at hd; cases hd
  | some kk =>
    rw [e1] at hd hk'
    cases hd
    cases hk'
    have hq' : H' q = some (.tup [.int kk.1, .int kk.2]) := hh
    let G1 : Hp := fun b => if b = q then H' q else G b
    have gq : G1 q = H' q := if_pos rfl
    have gN : ∀ b, b ≠ q → G1 b = G b := fun b h => if_neg h
    refine ⟨G1, ⟨fun b o hb => ?_, Same.refl H', fun b o hb => ?_, fun b => ?_, NoF.refl H'⟩, ?_⟩
    · by_cases w : b = q
      · rw [w, gq]; rw [w] at hb; exact g2 _ _ hb
      · rw [gN b w]; exact hb
    · by_cases w : b = q
      · rw [w, gq] at hb; rw [w]; exact hb
      · rw [gN b w] at hb; exact g2 _ _ hb
    · by_cases w : b = q
      · exact .inr (.inr (.inr ⟨_, by rw [w]; exact hq'⟩))
      · rw [gN b w]
        cases z : G b with
        | none => exact .inl rfl
        | some o => exact .inr (.inl fun y => by cases y)
    · have h1 : G1 q = some (.tup [.int kk.1, .int kk.2]) := gq.trans hq'
      exact .tup (SqT.of h1) (.cons (.int _) (.cons (.int _) .nil)) (fun _ _ _ => h1)
def fForD (i : Nat) (t : Dt → Env → Option Env) (b : Env → Option Out) : Env → Option Out := fun r => match gV r i with
  | some (.dic ks _) => (match loopF t b (ks.map kD) r with
    | some (.nx r') => some (.nx r')
    | _ => none)
  | _ => none
theorem PS.or {st : Stmt} {a b : TS} (h1 : PS X st a) (h2 : PS X st b) : PS X st (fun D σ H => a D σ H ∨ b D σ H) := ⟨fun pins s σ H D I h => h.elim (h1.run pins s σ H D I) (h2.run pins s σ H D I)⟩
theorem ds_forD (i : Nat) {x : Str} {tg : Expr} {body : List Stmt} {t : Dt → Env → Option Env} {b : Env → Option Out} {pos px : Pos} (hp : PassesOwn (model X.prog X.w) X.A X.env X.xe) (hc : X.calm = true) (hg : DG X T tg t) (hb : DSs X T body b) (hi : X.N[i]? = some x := by rfl) (hvis : Vis X.env.scope x := by first | exact Or.inl rfl | exact Or.inr (Or.inl rfl)) (hd : (x == ("__debug__" : Str)) = false := by decide +kernel) (hcd : (x == ("__classdict__" : Str)) = false := by decide +kernel) (hs : ∀ y, foldedSetIterable (.Name x px) X.env y = pure y := by intro _; rfl) :
    DS X T (.For tg (.Name x px) body [] pos) (fForD i t b) := by
  obtain ⟨g, pg, gg⟩ := hg.ex
  obtain ⟨tb, pb, gb⟩ := hb.ex
  refine ⟨_, PS.or (ps_lock (ps_for hp hc (pi_keys (pe_var hi hvis hd hcd)) pg pb hs)) (ps_for hp hc (pi_keys (pe_var hi hvis hd hcd)) pg pb hs), fun B G0 H0 G H σ r o S h D m => ?_⟩
  unfold fForD at h
  split at h
  · rename_i ks ds e1
    split at h
    · rename_i r' e2
      cases h
      obtain ⟨v, hσ, q⟩ := S.fits.val i _ (gV_iff.mp e1)
      have S0 : St1 X.K T G G0 H0 G H σ r := ⟨S.fits, Same.refl _, S.nx, S.ow, S.tr⟩
      cases q with
      | @dic a kvs _ _ h1 h2 h3 =>
        rcases h1 with h1 | ⟨od, h1⟩
        · refine .inl ⟨a, .dT kvs, S.fits.gh _ _ h1, trivial, fun od => ?_⟩
          refine ⟨.ref a, hσ, a, od, rfl, .inr ⟨kvs, upd_same, ?_⟩⟩
          have SL := S0.lock (od := od) h1
          rw [lock_upd (X := H) (S.fits.gh _ _ h1)] at SL
          exact for_core gg gb SL (itok_keys (lock_at h1) h2) e2 _ fun G' H' σ' S' => by
            obtain ⟨hG', SU⟩ := S.unlock h1 S'
            exact ⟨S'.fits.gh _ _ hG', m _ _ _ SU⟩
        · refine .inr ⟨.ref a, hσ, a, od, rfl, .inr ⟨kvs, S.fits.gh _ _ h1, ?_⟩⟩
          exact for_core gg gb S0 (itok_keys h1 h2) e2 _ fun G' H' σ' S' => m G' H' σ' ⟨S'.fits, S.base.trans S'.base, S'.nx, S'.ow, S'.tr⟩
    · cases h
  · cases h
end
end PL

/-! ### a def that is handed an own dict -/
namespace PL
open PySem PySem.Spec PyProof.Rows L2
section
variable {X : Cx} {T : CT} {K : PySem.W.Frag} {B G0 H0 G H G1 H1 G' H' : Hp} {σ : L2.St} {r : Env}
def hideH (p : Addr) (X : Hp) : Hp := fun a => if a = p then none else X a
theorem hide_ne {p a : Addr} {X : Hp} (h : a ≠ p) : hideH p X a = X a := if_neg h
theorem hide_at {p : Addr} {X : Hp} : hideH p X p = none := if_pos rfl
theorem hide_some {p a : Addr} {X : Hp} {o : HO} (h : hideH p X a = some o) : a ≠ p ∧ X a = some o := by
  by_cases e : a = p
  · rw [e, hide_at] at h; cases h
  · exact ⟨e, by rw [hide_ne e] at h; exact h⟩
theorem hide_same {p : Addr} {X : Hp} : Same (hideH p X) X := fun a o h => (hide_some h).2
/-- the promise: the last value is an own dict -/
def spD (K : PySem.W.Frag) (T : CT) (n : Nat) (f : List Dt → List (Int × Int) → List Dt → Option OT) : Sp := fun vs H Q _ => ∃ G ds ks l t p kvs ws, vs = ws ++ [.ref p] ∧ ws.length = n ∧ Same G H ∧ G p = none ∧ H p = some (.dT kvs) ∧ kvs.map Prod.fst = ks.map kPair ∧ RpA K T G (kvs.map Prod.snd) l ∧ RpA K T G ws ds ∧ f ds ks l = some t ∧
  ∀ v as G' H', Nx G (hideH p H) G' H' → Ow K T G' H' v t as → as.Nodup → (∀ a ∈ as, hideH p H a = none) → Q v H'
def runD (n m : Nat) (g : Env → Option OT) (ds : List Dt) (ks : List (Int × Int)) (l : List Dt) : Option OT := if ds.length = n then g (ds.map Sl.val ++ Sl.tre (.dic ks l) :: List.replicate m Sl.no) else none
theorem dssu_own (i : Nat) {x : Str} {p1 pos : Pos} (hi : X.N[i]? = some x := by rfl) (hv : Vis X.env.scope x := by first | exact Or.inl rfl | exact Or.inr (Or.inl rfl)) (hd : (x == ("__debug__" : Str)) = false := by decide +kernel) (hcd : (x == ("__classdict__" : Str)) = false := by decide +kernel) :
    DSsU X T [.Return (some (.Name x p1)) pos] (fun r => gT r i) := by
  refine ⟨_, pss_one (ps_ret (pe_var hi hv hd hcd)), fun B G0 H0 G H σ r t S e D m => ?_⟩
  have hr := gT_iff.mp e
  obtain ⟨mm, k1, _⟩ := S.tr
  obtain ⟨⟨v, hv', ow⟩, nd, hP⟩ := k1 i t hr
  exact ⟨v, hv', m v (mm i) G H S.nx ow nd hP⟩
section
variable {P : Program} {w : World} {mg : Str → Option Value} {base : Heap}
theorem okDd {x qual : Str} {st : Stmt} {f : Addr} {fd : FuncData} {N ps : List Str} {k m n : Nat} {g : Env → Option OT} (F : Fun K x qual st f fd) (S : FnScope N ps (defScope st)) (hm : N.length = ps.length + m) (hp : ps.length = n + 1)
    (hb : ∀ (cdv : Value) (A : Around) (os : List PySem.Env) (s : Shared) (H : Hp) (E : XK), Room k (A.deeper (envOfC qual (defScope st) s.heap.objs.size f cdv)) → DSsU (cxOf CX0 P w K mg base N qual (defScope st) f cdv A os s H E).nox T (defBody st) g) :
    FnOk P w K mg base CX0 (k + 1) f fd ps (spD K T n (runD n m g)) := by
  refine F.ok S (fun vs H Q E h => ?_) (fun cdv A outer s H vs Q E hr h => ?_)
  · obtain ⟨G, ds, ks, l, t, p, kvs, ws, rfl, hl, _⟩ := h
    rw [List.length_append, List.length_singleton]; omega
  · obtain ⟨G, ds, ks, l, t, p, kvs, ws, rfl, hl, gh, gp, hpp, e1, e2, q, hd, kk⟩ := h
    obtain ⟨tt, pp, gs⟩ := (hb cdv A outer s H E hr).ex
    refine ⟨tt, pp, ?_⟩
    have hq := q.length
    have hdl : ds.length = n := by omega
    unfold runD at hd
    rw [if_pos hdl] at hd
    have getV : ∀ (i : Nat) (s : Sl), (ds.map Sl.val ++ Sl.tre (.dic ks l) :: List.replicate m Sl.no)[i]? = some s → (i < n ∧ ∃ d, ds[i]? = some d ∧ s = .val d) ∨ (i = n ∧ s = .tre (.dic ks l)) ∨ s = .no := fun i s h => by
      by_cases hi : i < n
      · rw [List.getElem?_append_left (by rw [List.length_map]; omega), List.getElem?_map] at h
        cases hx : ds[i]? with
        | none => rw [hx] at h; cases h
        | some d => rw [hx] at h; cases h; exact .inl ⟨hi, d, rfl, rfl⟩
      · rw [List.getElem?_append_right (by rw [List.length_map]; omega), List.length_map] at h
        by_cases hi2 : i = n
        · rw [show i - ds.length = 0 by omega] at h
          cases h
          exact .inr (.inl ⟨hi2, rfl⟩)
        · rw [show i - ds.length = (i - ds.length - 1) + 1 by omega, List.getElem?_cons_succ, List.getElem?_replicate] at h
          split at h
          · cases h; exact .inr (.inr rfl)
          · cases h
    have startN : ∀ i v, (ws ++ [V.ref p])[i]? = some v → (start N (ws ++ [.ref p]))[i]? = some (some v) := fun i v h => by
      unfold L2.start
      have hi := (List.getElem?_eq_some_iff.mp h).1
      rw [List.getElem?_append_left (by rw [List.length_map]; exact hi), List.getElem?_map, h]
      rfl
    have atP : (start N (ws ++ [.ref p]))[n]? = some (some (.ref p)) := startN n _ (by rw [List.getElem?_append_right (by omega), show n - ws.length = 0 by omega]; rfl)
    have ow : Ow K T G H (.ref p) (.dic ks l) [p] := .dic hpp gp e1 e2
    have tr : Tr K T G H (fun a => hideH p H a = none) (start N (ws ++ [.ref p])) (ds.map Sl.val ++ Sl.tre (.dic ks l) :: List.replicate m Sl.no) := by
      refine ⟨fun _ => [p], fun i t h => ?_, fun i j t u hij h1 h2 => ?_, fun i j t es p' h1 h2 => ?_⟩
      · rcases getV i _ h with ⟨_, d, _, z⟩ | ⟨hi, z⟩ | z
        · cases z
        · cases z
          refine ⟨⟨.ref p, by rw [hi]; exact atP, ow⟩, by simp, fun a ha => by rw [List.mem_singleton.mp ha]; exact hide_at⟩
        · cases z
      · rcases getV i _ h1 with ⟨_, d, _, z⟩ | ⟨hi, z⟩ | z
        · cases z
        · rcases getV j _ h2 with ⟨_, d, _, z⟩ | ⟨hj, z⟩ | z
          · cases z
          · exact absurd (hi.trans hj.symm) hij
          · cases z
        · cases z
      · rcases getV j _ h2 with ⟨_, d, _, z⟩ | ⟨hi, z⟩ | z <;> cases z
    have no_own : ∀ (i : Nat) (es : List Dt), (ds.map Sl.val ++ Sl.tre (.dic ks l) :: List.replicate m Sl.no)[i]? ≠ some (.own es) := fun i es h => by
      rcases getV i _ h with ⟨_, d, _, z⟩ | ⟨hi, z⟩ | z <;> cases z
    have S0 : St1 K T G G (hideH p H) G H (start N (ws ++ [.ref p])) (ds.map Sl.val ++ Sl.tre (.dic ks l) :: List.replicate m Sl.no) := by
      refine ⟨⟨gh, ?_, fun i d h => ?_, fun i es h => absurd h (no_own i es), fun i j es fs q h => absurd h (no_own i es), tr.imp fun _ _ => trivial⟩, Same.refl G, ⟨Same.refl G, fun b o hb => hide_same b o hb, gh, fun a => ?_, fun a ob xs z => by rw [hide_ne fun e => by rw [e, hpp] at z; cases z]; exact z⟩, fun i es q h => absurd h (no_own i es), tr⟩
      · unfold L2.start
        simp only [List.length_append, List.length_map, List.length_replicate, List.length_cons, List.length_nil]
        omega
      · rcases getV i _ h with ⟨hi, d', hd', z⟩ | ⟨hi, z⟩ | z
        · cases z
          obtain ⟨v, hv, rv⟩ := q.get hd'
          exact ⟨v, startN i v (by rw [List.getElem?_append_left (by omega)]; exact hv), rv⟩
        · cases z
        · cases z
      · cases z : G a with
        | none => exact .inl rfl
        | some o => exact .inr (.inl fun y => by cases y)
    exact gs G G (hideH p H) G H _ _ _ S0 hd _ fun v as G' H' nx q' nd fr => kk v as G' H' nx q' nd fr
structure CalleeD (P : Program) (w : World) (K : PySem.W.Frag) (mg : Str → Option Value) (base : Heap) (T : CT) (k : Nat) (x : Str) (n : Nat) (g : List Dt → List (Int × Int) → List Dt → Option OT) : Prop where
  ex : ∃ (f : Addr) (fd : FuncData) (ps : List Str), FnOk P w K mg base CX0 k f fd ps (spD K T n g) ∧ mg x = some (.ref f) ∧ PySem.W.keepIn K (.ref f) = true ∧ Binds K fd ps []
theorem calleeD_of {x qual y : Str} {st : Stmt} {f : Addr} {fd : FuncData} {ps : List Str} {k n m : Nat} {g : Env → Option OT} (F : Fun K y qual st f fd) (O : FnOk P w K mg base CX0 k f fd ps (spD K T n (runD n m g))) (hm : mg x = some (.ref f)) (hb : Binds K fd ps []) : CalleeD P w K mg base T k x n (runD n m g) :=
  ⟨f, fd, ps, O, hm, F.kp, hb⟩
end
/-- behind the call: the dict handed on is gone, what came is fixed -/
theorem St1.called (S : St1 K T B G0 H0 G H σ r) {p : Addr} {kvs : List (List L2.Key × V)} (hp : H p = some (.dT kvs)) (h0 : H0 p = none) (hg : G p = none) (hown : ∀ (j : Nat) (ds : List Dt), r[j]? = some (.own ds) → σ[j]? ≠ some (some (.ref p))) (htr : Tr K T G H (fun a => H0 a = none ∧ a ≠ p) σ r) (n : Nx G (hideH p H) G' H') {v : V} {t : OT} {as : List Addr} (q : Ow K T G' H' v t as) (fr : ∀ a ∈ as, hideH p H a = none) :
    ∃ G2, St1 K T B G0 H0 G2 H' σ r ∧ Rp K T G2 v t.toD := by
  classical
  let G2 : Hp := fun a => if a ∈ as then H' a else G' a
  have gW : ∀ a, a ∈ as → G2 a = H' a := fun a h => if_pos h
  have gN : ∀ a, a ∉ as → G2 a = G' a := fun a h => if_neg h
  have gg : Same G' G2 := fun a o h => by
    rw [gN a fun w => by rw [(Ow.inn t q a w).1] at h; cases h]
    exact h
  have gh : Same G2 H' := fun a o h => by
    by_cases w : a ∈ as
    · rw [gW a w] at h; exact h
    · rw [gN a w] at h; exact n.gh _ _ h
  have keep : ∀ a o, H a = some o → a ≠ p → H' a = some o := fun a o h e => n.hh _ _ (by rw [hide_ne e]; exact h)
  have out : ∀ a o, H a = some o → isMut o → a ≠ p → G a = none → G2 a = none := fun a o h hm e g => by
    have h1 : hideH p H a = some o := by rw [hide_ne e]; exact h
    rw [gN a fun w => by rw [fr a w] at h1; cases h1]
    exact n.out g h1 (mut_not hm)
  have trm : ∀ P : Addr → Prop, Tr K T G H (fun a => P a ∧ a ≠ p) σ r → Tr K T G2 H' P σ r := fun P h => by
    obtain ⟨m, k1, k2, k3⟩ := h
    refine ⟨m, fun i u e => ?_, k2, k3⟩
    obtain ⟨⟨w, hw, ow⟩, nd, hP⟩ := k1 i u e
    refine ⟨⟨w, hw, Ow.mv (n.gg.trans gg) u ow (fun a ha => ?_) (fun a ha => ?_)⟩, nd, fun a ha => (hP a ha).1⟩
    · obtain ⟨o, ho, hm⟩ := Ow.muts u ow a ha
      exact out a o ho hm (hP a ha).2 (Ow.inn u ow a ha).1
    · obtain ⟨o, ho, hm⟩ := Ow.muts u ow a ha
      rw [ho]
      exact keep a o ho (hP a ha).2
  refine ⟨G2, ⟨⟨gh, S.fits.len, fun i d h => ?_, fun i ds h => ?_, S.fits.sep, trm _ (htr.imp fun a z => ⟨trivial, z.2⟩)⟩, S.base.trans (n.gg.trans gg), ⟨S.nx.gg.trans (n.gg.trans gg), fun a o h => ?_, gh, fun a => ?_, fun a ob xs z => S.nx.nf a ob xs (hide_some (n.nf a ob xs z)).2⟩, S.ow, trm _ htr⟩, Ow.rpG gg t q gW⟩
  · obtain ⟨w, e, qq⟩ := S.fits.val i d h
    exact ⟨w, e, Rp.mono (n.gg.trans gg) d qq⟩
  · obtain ⟨a, vs, e, hga, hha, qq⟩ := S.fits.own i ds h
    have hne : a ≠ p := fun z => hown i ds h (z ▸ e)
    exact ⟨a, vs, e, out a _ hha trivial hne hga, keep a _ hha hne, RpA.mono (n.gg.trans gg) ds qq⟩
  · have h1 := S.nx.hh _ _ h
    have hne : a ≠ p := fun z => by rw [z, h0] at h; cases h
    exact keep a o h1 hne
  · by_cases w : a ∈ as
    · refine .inr (.inr (.inl ?_))
      by_cases e : a = p
      · rw [e]; exact h0
      · have := fr a w
        rw [hide_ne e] at this
        exact S.nx.hh.free this
    · rw [gN a w]
      rcases n.fr a with z | z | z
      · exact .inl z
      · rcases S.nx.fr a with y | y | y
        · exact absurd y z
        · exact .inr (.inl y)
        · exact .inr (.inr y)
      · by_cases e : a = p
        · exact .inr (.inr (.inl (by rw [e]; exact h0)))
        · refine .inr (.inr (Nw.back S.nx.hh ?_))
          unfold Nw at z ⊢
          rw [hide_ne e] at z
          exact z
/-- a name that held an own tree holds nothing any more -/
theorem Tr.drop {P : Addr → Prop} {i : Nat} {p : Addr} {x : Option V} {ks : List (Int × Int)} {l : List Dt} (h : Tr K T G H P σ r) (hr : r[i]? = some (.tre (.dic ks l))) (hs : σ[i]? = some (some (.ref p))) : Tr K T G H (fun a => P a ∧ a ≠ p) (σ.set i x) (r.set i .no) := by
  obtain ⟨m, k1, k2, k3⟩ := h
  have hi : i < r.length := (List.getElem?_eq_some_iff.mp hr).1
  have mp : p ∈ m i := by
    obtain ⟨⟨v, hv, ow⟩, _⟩ := k1 i _ hr
    rw [hs] at hv
    cases hv
    generalize m i = as at ow
    cases ow with
    | dic h1 h2 h3 h4 => exact List.mem_singleton_self _
  have back : ∀ (j : Nat) (z : Sl), (∃ t, z = .tre t) ∨ (∃ l, z = .own l) → (r.set i .no)[j]? = some z → j ≠ i ∧ r[j]? = some z := fun j z hz e => by
    by_cases hj : j = i
    · subst hj
      rw [List.getElem?_set_self hi] at e
      cases e
      rcases hz with ⟨t, h⟩ | ⟨l, h⟩ <;> cases h
    · rw [List.getElem?_set_ne (Ne.symm hj)] at e
      exact ⟨hj, e⟩
  refine ⟨m, fun j t e => ?_, fun j k t u hjk e1 e2 => k2 j k t u hjk (back j _ (.inl ⟨t, rfl⟩) e1).2 (back k _ (.inl ⟨u, rfl⟩) e2).2, fun j k t es q e1 e2 e3 => ?_⟩
  · obtain ⟨hj, e⟩ := back j _ (.inl ⟨t, rfl⟩) e
    obtain ⟨h1, h2, h3⟩ := k1 j t e
    rw [List.getElem?_set_ne (Ne.symm hj)]
    exact ⟨h1, h2, fun a ha => ⟨h3 a ha, fun z => k2 j i t _ hj e hr a ha (z ▸ mp)⟩⟩
  · obtain ⟨hj, e1⟩ := back j _ (.inl ⟨t, rfl⟩) e1
    obtain ⟨hk, e2⟩ := back k _ (.inr ⟨es, rfl⟩) e2
    rw [List.getElem?_set_ne (Ne.symm hk)] at e3
    exact k3 j k t es q e1 e2 e3
/-- y = f(a, b, x): x an own dict -/
def fCallN (i j : Nat) (g : List Dt → List (Int × Int) → List Dt → Option OT) (fa fb : Env → Option Dt) : Env → Option Out := fun r => match fa r, fb r, gT r j with
  | some a, some b, some (.dic ks l) => (match g [a, b] ks l with
    | some t => some (.nx ((r.set j .no).set i (.val t.toD)))
    | none => none)
  | _, _, _ => none
theorem ds_callN (i j : Nat) {y x f : Str} {k : Nat} {g : List Dt → List (Int × Int) → List Dt → Option OT} {ea eb : Expr} {fa fb : Env → Option Dt} {p cpos px pos pos' : Pos} (hN : X.N.Nodup) (C : CalleeD X.prog X.w X.K X.mg X.base T k f 2 g) (hr : Room k X.A) (ha : DE X T ea fa) (hb : DE X T eb fb)
    (hi : X.N[i]? = some y := by rfl) (hx : Loc X.env.scope y := by first | exact .inl rfl | exact .inr rfl) (hf : X.fn y = true ∨ X.env.scope.names.lookup y = some .local := by first | exact .inl rfl | exact .inr rfl)
    (hj : X.N[j]? = some x := by rfl) (hvis : Vis X.env.scope x := by first | exact Or.inl rfl | exact Or.inr (Or.inl rfl)) (hd : (x == ("__debug__" : Str)) = false := by decide +kernel) (hcd : (x == ("__classdict__" : Str)) = false := by decide +kernel) (hg : Gl X f := by rfl) (hdb : (f == ("__debug__" : Str)) = false := by decide +kernel)
    (h1 : starEach [ea, eb, .Name x px] X.env = (false, eval ea X.env) :: starEach [eb, .Name x px] X.env := by rfl) (h2 : starEach [eb, .Name x px] X.env = (false, eval eb X.env) :: starEach [.Name x px] X.env := by rfl) (h3 : starEach [.Name x px] X.env = (false, eval (.Name x px) X.env) :: starEach [] X.env := by rfl) (hpl : (backTo cpos (starEach [eb, .Name x px] X.env)).any (·.1) = false := by rfl)
    (hs : swapsWith (.Call (.Name f p) [ea, eb, .Name x px] [] cpos) (some (.Name y pos')) pos.line X.env = pure false := by rfl) :
    DS X T (.Assign [.Name y pos'] (.Call (.Name f p) [ea, eb, .Name x px] [] cpos) pos) (fCallN i j g fa fb) := by
  obtain ⟨fA, fd, ps, O, hm, hk, hbd⟩ := C.ex
  obtain ⟨ta, pa, ga⟩ := ha.ex
  obtain ⟨tb, pb, gb⟩ := hb.ex
  refine ⟨_, ps_set hN hi hx (pe_call (E := E0) O hr hg hm hk hbd .nil pass0 (pa_cons pa (pa_cons pb (pa_cons (pe_var hj hvis hd hcd) pa_nil h3) h2) h1) hdb h1 hpl) hs hf, fun B G0 H0 G H σ r o S h D m => ?_⟩
  unfold fCallN at h
  split at h
  · rename_i a b ks l e1 e2 e3
    split at h
    · rename_i t e4
      cases h
      have hrj := gT_iff.mp e3
      refine ga G H σ r a S.fits e1 _ fun v1 G1 H1 n1 q1 => ?_
      refine gb G1 H1 σ r b (S.fits.nx n1) e2 _ fun v2 G2 H2 n2 q2 => ?_
      have S2 := (S.nx' n1).nx' n2
      obtain ⟨v3, w3, as3, hv3, ea3, ow⟩ := S2.fits.at hrj (u := .dic ks l) (ks := []) rfl
      cases ea3
      refine ⟨v3, hv3, ?_⟩
      cases ow with
      | @dic pd kvs _ _ h4 h5 h6 h7 =>
        refine ⟨G2, [a, b], ks, l, t, pd, kvs, [v1, v2], rfl, rfl, S2.fits.gh, h5, h4, h6, h7, .cons (Rp.mono n2.gg a q1) (.cons q2 .nil), e4, fun v as G' H' nx q nd fr => ?_⟩
        have h0 : H0 pd = none := by
          obtain ⟨mm, k1, _⟩ := S2.tr
          obtain ⟨⟨v', hv', ow'⟩, _, hP⟩ := k1 j _ hrj
          rw [hv3] at hv'
          cases hv'
          generalize mm j = as' at ow' hP
          cases ow' with
          | dic _ _ _ _ => exact hP _ (List.mem_singleton_self _)
        have S3 := S2.setNoX (i := j) σ[j]?.join
        have es : σ.set j σ[j]?.join = σ := by
          have hjl : j < σ.length := (List.getElem?_eq_some_iff.mp hv3).1
          rw [List.getElem?_eq_getElem hjl]
          exact List.set_getElem_self hjl
        have htr := S2.tr.drop (x := σ[j]?.join) hrj hv3
        rw [es] at S3 htr
        obtain ⟨G3, S4, rp⟩ := S3.called h4 h0 h5 (fun jj es' e5 e6 => by
          obtain ⟨a', vs', e7, _, e8, _⟩ := S3.fits.own jj es' e5
          rw [e6] at e7
          cases e7
          rw [h4] at e8
          cases e8) htr nx q fr
        exact m G3 H' _ (S4.set rp)
    · cases h
  · cases h
/-- y = f(a, b, {..}) -/
def fCallU (i : Nat) (g : List Dt → List (Int × Int) → List Dt → Option OT) (fa fb : Env → Option Dt) (fu : Env → Option OT) : Env → Option Out := fun r => match fa r, fb r, fu r with
  | some a, some b, some (.dic ks l) => (match g [a, b] ks l with
    | some t => some (.nx (r.set i (.val t.toD)))
    | none => none)
  | _, _, _ => none
theorem ds_callU (i : Nat) {y f : Str} {k : Nat} {g : List Dt → List (Int × Int) → List Dt → Option OT} {ea eb eu : Expr} {fa fb : Env → Option Dt} {fu : Env → Option OT} {p cpos pos pos' : Pos} (hN : X.N.Nodup) (C : CalleeD X.prog X.w X.K X.mg X.base T k f 2 g) (hr : Room k X.A) (ha : DE X T ea fa) (hb : DE X T eb fb) (hu : DU X T eu fu)
    (hi : X.N[i]? = some y := by rfl) (hx : Loc X.env.scope y := by first | exact .inl rfl | exact .inr rfl) (hf : X.fn y = true ∨ X.env.scope.names.lookup y = some .local := by first | exact .inl rfl | exact .inr rfl) (hg : Gl X f := by rfl) (hdb : (f == ("__debug__" : Str)) = false := by decide +kernel)
    (h1 : starEach [ea, eb, eu] X.env = (false, eval ea X.env) :: starEach [eb, eu] X.env := by rfl) (h2 : starEach [eb, eu] X.env = (false, eval eb X.env) :: starEach [eu] X.env := by rfl) (h3 : starEach [eu] X.env = (false, eval eu X.env) :: starEach [] X.env := by rfl) (hpl : (backTo cpos (starEach [eb, eu] X.env)).any (·.1) = false := by rfl)
    (hs : swapsWith (.Call (.Name f p) [ea, eb, eu] [] cpos) (some (.Name y pos')) pos.line X.env = pure false := by rfl) :
    DS X T (.Assign [.Name y pos'] (.Call (.Name f p) [ea, eb, eu] [] cpos) pos) (fCallU i g fa fb fu) := by
  obtain ⟨fA, fd, ps, O, hm, hk, hbd⟩ := C.ex
  obtain ⟨ta, pa, ga⟩ := ha.ex
  obtain ⟨tb, pb, gb⟩ := hb.ex
  obtain ⟨tu, pu, gu⟩ := hu.ex
  refine ⟨_, ps_set hN hi hx (pe_call (E := E0) O hr hg hm hk hbd .nil pass0 (pa_cons pa (pa_cons pb (pa_cons pu pa_nil h3) h2) h1) hdb h1 hpl) hs hf, fun B G0 H0 G H σ r o S h D m => ?_⟩
  unfold fCallU at h
  split at h
  · rename_i a b ks l e1 e2 e3
    split at h
    · rename_i t e4
      cases h
      refine ga G H σ r a S.fits e1 _ fun v1 G1 H1 n1 q1 => ?_
      refine gb G1 H1 σ r b (S.fits.nx n1) e2 _ fun v2 G2 H2 n2 q2 => ?_
      have S2 := (S.nx' n1).nx' n2
      refine gu G2 H2 σ r _ S2.fits e3 _ fun v3 as3 G3 H3 n3 ow nd3 fr3 => ?_
      have S3 := S2.nx' n3
      cases ow with
      | @dic pd kvs _ _ h4 h5 h6 h7 =>
        have hnew : H2 pd = none := fr3 pd (List.mem_singleton_self _)
        refine ⟨G3, [a, b], ks, l, t, pd, kvs, [v1, v2], rfl, rfl, S3.fits.gh, h5, h4, h6, h7, .cons (Rp.mono (n2.gg.trans n3.gg) a q1) (.cons (Rp.mono n3.gg b q2) .nil), e4, fun v as G' H' nx q nd fr => ?_⟩
        obtain ⟨G4, S4, rp⟩ := S3.called h4 (S2.nx.hh.free hnew) h5 (fun jj es' e5 e6 => by
          obtain ⟨a', vs', e7, _, e8, _⟩ := S2.fits.own jj es' e5
          rw [e6] at e7
          cases e7
          rw [hnew] at e8
          cases e8) ((S2.tr.inH.nx n3).imp fun a z => ⟨z.1, fun e => z.2 (by rw [e]; exact hnew)⟩) nx q fr
        exact m G4 H' _ (S4.set rp)
    · cases h
  · cases h
end
end PL

/-! ### tuple(..); sorted lists of tuples of texts -/
namespace PL
open PySem PySem.Spec PyProof.Rows L2
abbrev KS := List (List Nat)
def ltK (a b : KS) : Bool := decide (a < b)
theorem swo_ltK {α : Type} (k : α → KS) : SrtO.Swo fun v u => ltK (k v) (k u) := by
  refine ⟨fun x y h => ?_, fun x y z h1 h2 => ?_⟩
  · exact decide_eq_false (List.lt_asymm (of_decide_eq_true h))
  · have a := List.not_lt.mp (of_decide_eq_false h1)
    have b := List.not_lt.mp (of_decide_eq_false h2)
    exact decide_eq_false (List.not_lt.mpr (List.le_trans a b))
theorem ltK_eq {a b : KS} (h1 : ltK a b = false) (h2 : ltK b a = false) : a = b :=
  List.le_antisymm (List.not_lt.mp (of_decide_eq_false h2)) (List.not_lt.mp (of_decide_eq_false h1))
/-! #### the value of a text, raw -/
def IsS (u : Value) (l : List Nat) : Prop := ∃ t, u = .str ⟨l.toArray⟩ t
theorem isS_of {l : List Nat} {u : Value} (h : RelV (.str ⟨l.toArray⟩) u) : IsS u l := h
section
variable {prog : Program} {w : World} {A : Around} {s : Shared}
theorem kat_strs {Q : Bool → Shared → Prop} {fin : Bool} : ∀ (as bs : KS) (us vs : List Value) (i : Nat), Paired IsS us as → Paired IsS vs bs → fin = decide (as.length < bs.length) → Q (ltK as bs) s → PySem.W.KatLex prog w A true fin Q (us.zip vs) i s
  | [], bs, us, vs, i, hu, hv, hf, q => by
    cases hu
    show Q fin s
    rw [hf]
    have : ltK [] bs = decide (([] : KS).length < bs.length) := by
      cases bs with
      | nil => rfl
      | cons b bs =>
        have h1 : ltK [] (b :: bs) = true := decide_eq_true (List.nil_lt_cons _ _)
        rw [h1]
        exact (decide_eq_true (Nat.succ_pos _)).symm
    rw [← this]
    exact q
  | a :: as, [], us, vs, i, hu, hv, hf, q => by
    cases hv
    rw [List.zip_nil_right]
    show Q fin s
    rw [hf]
    have h1 : ltK (a :: as) [] = false := decide_eq_false (List.not_lt_nil _)
    rw [h1] at q
    exact q
  | a :: as, b :: bs, us, vs, i, hu, hv, hf, q => by
    cases hu with
    | cons u1 u2 =>
      cases hv with
      | cons v1 v2 =>
        obtain ⟨t, rfl⟩ := u1
        obtain ⟨t', rfl⟩ := v1
        rw [List.zip_cons_cons]
        refine PySem.W.kat_cons (SeqAt.EqAt.str_str _ t _ t' prog w _ _ ?_)
        refine PySem.W.kat_go (fun e => ?_) (fun e => ?_)
        · have e1 : (⟨a.toArray⟩ : Str) = ⟨b.toArray⟩ := by simpa using e
          have e2 : a = b := by
            have := congrArg (fun z : Str => z.cps.toList) e1
            exact this
          refine PySem.W.kat_yes (kat_strs as bs _ _ (i + 1) u2 v2 ?_ ?_)
          · rw [hf, List.length_cons, List.length_cons]
            congr 1
            exact propext (by omega)
          · have : ltK (a :: as) (b :: bs) = ltK as bs := by
              unfold ltK
              congr 1
              rw [List.cons_lt_cons_iff]
              exact propext ⟨fun z => z.elim (fun z => absurd z (by rw [e2]; exact List.lt_irrefl _)) (·.2), fun z => .inr ⟨e2, z⟩⟩
            rw [← this]
            exact q
        · have e2 : ¬ a = b := fun z => by
            subst z
            simp at e
          have this : ltK (a :: as) (b :: bs) = decide (a < b) := by
            unfold ltK
            congr 1
            rw [List.cons_lt_cons_iff]
            exact propext ⟨fun z => z.elim id fun z => absurd z.1 e2, .inl⟩
          rw [this] at q
          refine PySem.W.kat_no ?_
          cases i with
          | zero => exact oneLt_str q
          | succ i => exact PySem.W.kat_one _ _ (PyProof.Rows.lt_str q)
/-- a tuple of texts, raw -/
def IsK (h : Heap) (v : Value) (k : KS) : Prop := ∃ a o its n, v = .ref a ∧ h.get? a = some o ∧ o.cls = .type "tuple" ∧ o.data = .seq its n ∧ Paired IsS its.toList k
theorem IsK.keeps {h h' : Heap} {v : Value} {k : KS} (x : IsK h v k) (kp : ∀ b o, h.get? b = some o → o.cls = .type "tuple" → h'.get? b = some o) : IsK h' v k := by
  obtain ⟨a, o, its, n, e, ho, hc, hd, hp⟩ := x
  exact ⟨a, o, its, n, e, kp a o ho hc, hc, hd, hp⟩
theorem ks_cmp {vs : List Value} {k : Value → KS} (hp : ∀ v ∈ vs, IsK s.heap v (k v)) : SrtO.Cmp prog w A s (tuples' true) (fun p => p.1 ∈ vs) (SrtO.lt2 fun v u => ltK (k v) (k u)) := by
  intro p q hm hm'
  obtain ⟨a, o, xs, n, e, ho, hc, hd, hx⟩ := hp _ hm
  obtain ⟨b, o', ys, m, e', ho', hc', hd', hy⟩ := hp _ hm'
  rw [e, e']
  refine PySem.W.kat_lt ho hd ho' hd' (kat_strs (k p.1) (k q.1) _ _ 0 hx hy ?_ ⟨rfl, rfl⟩)
  have h1 := Paired.length hx
  have h2 := Paired.length hy
  rw [Array.length_toList] at h1 h2
  rw [h1, h2]
theorem ks_firsts {h : Heap} {k : Value → KS} : ∀ {vs : List Value}, (∀ v ∈ vs, IsK h v (k v) ∧ k v ≠ []) → ∃ fs : List Value, PySem.W.KatTups h vs fs ∧ fs.length = vs.length ∧ ∀ f ∈ fs, ∃ l, IsS f l
  | [], _ => ⟨[], PySem.W.KatTups.nil, rfl, fun _ hm => by cases hm⟩
  | v :: vs, hp => by
    obtain ⟨fs, h1, h2, h3⟩ := ks_firsts (vs := vs) fun u hm => hp u (List.mem_cons_of_mem _ hm)
    obtain ⟨⟨a, o, xs, n, e, ho, hc, hd, hx⟩, hne⟩ := hp v List.mem_cons_self
    generalize hl : xs.toList = l at hx
    generalize k v = kv at hx hne
    cases hx with
    | nil => exact absurd rfl hne
    | @cons u k0 us ks r1 r2 =>
      subst e
      have hf : xs[0]? = some u := by rw [← Array.getElem?_toList, hl]; rfl
      refine ⟨u :: fs, PySem.W.KatTups.cons ho hc hd hf h1, by rw [List.length_cons, List.length_cons, h2], fun f hm => ?_⟩
      rcases List.mem_cons.mp hm with rfl | hm
      · exact ⟨_, r1⟩
      · exact h3 f hm
theorem ks_sortable {a : Addr} {vs : List Value} {k : Value → KS} (h0 : 0 < vs.length) (hp : ∀ v ∈ vs, IsK s.heap v (k v) ∧ k v ≠ []) (ha : ∀ o, s.heap.get? a = some o → o.cls ≠ .type "tuple") : SrtO.SortableO prog w A s a vs fun v u => ltK (k v) (k u) := by
  intro h' keep
  have hp' : ∀ v ∈ vs, IsK h' v (k v) ∧ k v ≠ [] := fun v hm => ⟨(hp v hm).1.keeps fun b o e c => keep b o (fun z => by subst z; exact ha o e c) e, (hp v hm).2⟩
  obtain ⟨fs, h1, h2, h3⟩ := ks_firsts hp'
  refine ⟨tuples' true, fun Q E hq => ?_, ks_cmp fun v hm => (hp' v hm).1⟩
  refine PySem.W.kat_kind (T := .type "str") h1 (by omega) (fun f hm => ?_) (by rfl) ?_
  · obtain ⟨l, t, rfl⟩ := h3 f hm
    exact PySem.W.Looks.now
  · have e : (Value.type "str" != Value.type "tuple") = true := by decide +kernel
    rw [e]
    exact hq
end
/-! #### as a rule -/
def vsK (k : KS) : List V := k.map fun l => .str ⟨l.toArray⟩
def keyH (h : Heap) : Value → KS
  | .ref a => match h.get? a with
    | some o => (match o.data with
      | .seq its _ => its.toList.map fun u => (match u with | .str x _ => x.cps.toList | _ => [])
      | _ => [])
    | none => []
  | _ => []
def AtK (K : PySem.W.Frag) (H : Hp) (x : V) (k : KS) : Prop := k ≠ [] ∧ ∃ t, x = .ref t ∧ SqT K H t (vsK k)
theorem isS_vals : ∀ {k : KS} {us : List Value}, Vals (vsK k) us → Paired IsS us k ∧ us.map (fun u => (match u with | .str x _ => x.cps.toList | _ => [])) = k
  | [], _, h => by cases h; exact ⟨.nil, rfl⟩
  | l :: k, _, h => by
    cases h with
    | cons r t =>
      obtain ⟨h1, h2⟩ := isS_vals t
      obtain ⟨tk, rfl⟩ := r
      exact ⟨.cons ⟨tk, rfl⟩ h1, by rw [List.map_cons, h2]⟩
theorem atK_val {X : Cx} {pins : List (Addr × Obj)} {σ : L2.St} {H : Hp} {s : Shared} (I : Inv X pins σ H s) {x : V} {u : Value} {k : KS} (h : AtK X.K H x k) (r : RelV x u) : IsK s.heap u k ∧ keyH s.heap u = k ∧ L2.backV u = x := by
  obtain ⟨_, t, rfl, hs⟩ := h
  obtain rfl : u = .ref t := r
  obtain ⟨its, rv, ⟨o, ho, hc, n, hd⟩, _⟩ := I.tuple hs
  obtain ⟨h1, h2⟩ := isS_vals rv
  refine ⟨⟨t, o, its.toArray, n, rfl, ho, hc, hd, by rw [List.toList_toArray]; exact h1⟩, ?_, rfl⟩
  show (match s.heap.get? t with | some o => _ | none => _) = k
  rw [ho]
  show (match o.data with | .seq its _ => _ | _ => _) = k
  rw [hd]
  show its.toArray.toList.map _ = k
  rw [List.toList_toArray]
  exact h2
def rSortK (K : PySem.W.Frag) : List V → Hp → VK → Prop := fun vs H Q => ∃ (a : Addr) (xs : List V) (ks : List KS), vs = [V.ref a] ∧ SqL K H a xs ∧ Paired (AtK K H) xs ks ∧
  ∀ (zs : List (V × KS)) p, zs.Perm (xs.zip ks) → zs.Pairwise (fun x y => ltK y.2 x.2 = false) → H p = none → Q (.ref p) (upd H p (.lst (zs.map Prod.fst)))
theorem cr_sortK {X : Cx} : CallR X (.builtin "sorted") (rSortK X.K) := by
  intro pins s σ H vs us Q I r h
  obtain ⟨a, xs, ks, rfl, hs, hx, q⟩ := h
  obtain ⟨its, rv, hl, hz⟩ := I.list hs
  cases r with
  | @cons _ u _ us r1 r2 =>
    cases r2
    obtain rfl : u = Value.ref a := r1
    have all : ∀ {xs : List V} {ks : List KS} {its : List Value}, Paired (AtK X.K H) xs ks → Vals xs its → (∀ v ∈ its, IsK s.heap v (keyH s.heap v) ∧ keyH s.heap v ≠ [] ∧ ∃ t, v = .ref t) ∧ its.map (fun u => (L2.backV u, keyH s.heap u)) = xs.zip ks := by
      intro xs ks its hp
      induction hp generalizing its with
      | nil => intro rv; cases rv; exact ⟨fun v hv => (by cases hv), rfl⟩
      | @cons x k xs ks p1 p2 ih =>
        intro rv
        cases rv with
        | @cons _ u _ us r1 r2 =>
          obtain ⟨h1, h2, h3⟩ := atK_val I p1 r1
          obtain ⟨i1, i2⟩ := ih r2
          refine ⟨fun v hv => ?_, by rw [List.map_cons, List.zip_cons_cons, i2, h2, h3]⟩
          rcases List.mem_cons.mp hv with rfl | hv
          · obtain ⟨hne, t, rfl, _⟩ := p1
            exact ⟨by rw [h2]; exact h1, by rw [h2]; exact hne, t, r1⟩
          · exact i1 v hv
    obtain ⟨hk, hzip⟩ := all hx rv
    refine SrtO.sorted_ord (swo_ltK (keyH s.heap)) hl.isList (by rw [← rv.length]; exact hz) (fun h2 h₁ b hb kk => ?_) fun out h1 h2 => ?_
    · refine ks_sortable (s := { s with heap := h₁ }) (by omega) (fun v hm => ⟨(hk v hm).1.keeps fun c o e _ => (kk c o e).2, (hk v hm).2.1⟩) fun o e => ?_
      have e' : some o = some (seqObj "list" its.toArray 0) := e.symm.trans hb
      cases e'
      intro c
      exact absurd (Value.type.inj c) (by decide)
    · have hperm := h2.perm
      have hzp : (out.map fun u => (L2.backV u, keyH s.heap u)).Perm (xs.zip ks) := by
        rw [← hzip]
        exact hperm.map _
      have hsort : (out.map fun u => (L2.backV u, keyH s.heap u)).Pairwise (fun x y => ltK y.2 x.2 = false) := List.pairwise_map.mpr h1
      have h3 : ∀ u ∈ out, ∃ t, u = Value.ref t := fun u hu => (hk u (hperm.mem_iff.mp hu)).2.2
      have hfst : (out.map fun u => (L2.backV u, keyH s.heap u)).map Prod.fst = out.map L2.backV := by rw [List.map_map]; rfl
      have qq := q _ (s.heap.objs.size + 1) hzp hsort (I.hok.fresh (Nat.le_succ _))
      rw [hfst] at qq
      obtain ⟨ep, he⟩ := PyProof.Rows.sortedAll_at s.heap its out.toArray
      have hlen : (out.map L2.backV).length ≤ sizeLine := by rw [List.length_map, hperm.length_eq, ← rv.length]; exact hz
      exact ⟨.ref (s.heap.objs.size + 1), upd H (s.heap.objs.size + 1) (.lst (out.map L2.backV)), I.laid (t' := s.toks) (fun _ _ => PyProof.Rows.sortedAll_old) (Nat.le_succ _) ⟨hlen, out, ep, L2.vals_back h3, he⟩, rfl, qq⟩
/-! #### over data -/
def strsK : List Dt → Option KS
  | [] => some []
  | .str l :: r => (strsK r).map (l :: ·)
  | _ :: _ => none
def keyD : Dt → Option KS
  | .tup l => match strsK l with
    | some [] => none
    | o => o
  | _ => none
def keysD : List Dt → Option (List KS)
  | [] => some []
  | d :: r => match keyD d, keysD r with
    | some k, some ks => some (k :: ks)
    | _, _ => none
def tupK (k : KS) : Dt := .tup (k.map .str)
def insK (k : KS) : List KS → List KS
  | [] => [k]
  | x :: l => if ltK x k = true then x :: insK k l else k :: x :: l
def sortK : List KS → List KS
  | [] => []
  | k :: l => insK k (sortK l)
theorem insK_perm (k : KS) : ∀ l, (insK k l).Perm (k :: l)
  | [] => List.Perm.refl _
  | x :: l => by
    unfold insK
    split
    · exact ((insK_perm k l).cons x).trans (List.Perm.swap k x l)
    · exact List.Perm.refl _
theorem sortK_perm : ∀ l, (sortK l).Perm l
  | [] => List.Perm.refl _
  | k :: l => (insK_perm k (sortK l)).trans ((sortK_perm l).cons k)
abbrev SdK (l : List KS) : Prop := l.Pairwise fun x y => ltK y x = false
theorem insK_sd {k : KS} : ∀ {l : List KS}, SdK l → SdK (insK k l)
  | [], _ => List.pairwise_singleton _ _
  | x :: l, h => by
    obtain ⟨h1, h2⟩ := List.pairwise_cons.mp h
    have O := swo_ltK (fun z : KS => z)
    unfold insK
    split
    · rename_i hx
      refine List.pairwise_cons.mpr ⟨fun y hy => ?_, insK_sd h2⟩
      rcases List.mem_cons.mp ((insK_perm k l).mem_iff.mp hy) with rfl | hy
      · exact O.asym _ _ hx
      · exact h1 y hy
    · rename_i hx
      have hx' : ltK x k = false := by
        cases z : ltK x k with
        | true => exact absurd z hx
        | false => rfl
      refine List.pairwise_cons.mpr ⟨fun y hy => ?_, h⟩
      rcases List.mem_cons.mp hy with rfl | hy
      · exact hx'
      · exact O.tr _ _ _ hx' (h1 y hy)
theorem sortK_sd : ∀ l, SdK (sortK l)
  | [] => List.Pairwise.nil
  | k :: l => insK_sd (sortK_sd l)
theorem sd_uniq : ∀ {l m : List KS}, SdK l → SdK m → l.Perm m → l = m
  | [], m, _, _, p => (List.nil_perm.mp p).symm
  | x :: l, [], _, _, p => absurd p.length_eq (by simp)
  | x :: l, y :: m, h, k, p => by
    obtain ⟨h1, h2⟩ := List.pairwise_cons.mp h
    obtain ⟨k1, k2⟩ := List.pairwise_cons.mp k
    have e : x = y := by
      rcases List.mem_cons.mp (p.mem_iff.mp List.mem_cons_self) with e | hx
      · exact e
      · rcases List.mem_cons.mp (p.mem_iff.mpr List.mem_cons_self) with e | hy
        · exact e.symm
        · exact ltK_eq (k1 x hx) (h1 y hy)
    subst e
    rw [sd_uniq h2 k2 p.cons_inv]
def sortD : List Dt → Option Dt
  | [.lst l] => (keysD l).map fun ks => .lst ((sortK ks).map tupK)
  | _ => none
section
variable {X : Cx} {T : CT} {K : PySem.W.Frag} {G H : Hp}
theorem strsK_eq : ∀ {l : List Dt} {k : KS}, strsK l = some k → l = k.map .str
  | [], k, h => by cases h; rfl
  | d :: l, k, h => by
    cases d with
    | str x =>
      rw [strsK] at h
      cases e : strsK l with
      | none => rw [e] at h; cases h
      | some k' =>
        rw [e] at h
        cases h
        rw [strsK_eq e]; rfl
    | _ => cases h
theorem keyD_eq {d : Dt} {k : KS} (h : keyD d = some k) : d = tupK k ∧ k ≠ [] := by
  cases d with
  | tup l =>
    rw [keyD] at h
    cases e : strsK l with
    | none => rw [e] at h; cases h
    | some k' =>
      rw [e] at h
      cases k' with
      | nil => cases h
      | cons a b =>
        cases h
        exact ⟨by rw [strsK_eq e]; rfl, by simp⟩
  | _ => cases h
theorem rpK_vals : ∀ {k : KS} {vs : List V}, RpA K T G vs (k.map .str) → vs = vsK k
  | [], _, h => by cases h; rfl
  | l :: k, _, h => by
    cases h with
    | cons r t =>
      cases r
      rw [rpK_vals t]; rfl
theorem keysD_at (gh : Same G H) : ∀ {l : List Dt} {xs : List V} {ks : List KS}, keysD l = some ks → RpA K T G xs l → Paired (AtK K H) xs ks ∧ l = ks.map tupK
  | [], _, ks, h, r => by cases h; cases r; exact ⟨.nil, rfl⟩
  | d :: l, _, ks, h, r => by
    cases r with
    | cons r1 r2 =>
      rw [keysD] at h
      split at h
      · rename_i k ks' h1 h2
        cases h
        obtain ⟨rfl, hne⟩ := keyD_eq h1
        obtain ⟨h3, rfl⟩ := keysD_at gh h2 r2
        unfold tupK at r1
        cases r1 with
        | tup a1 a2 a3 =>
          rw [rpK_vals a2] at a1
          exact ⟨.cons ⟨hne, _, rfl, SqT.mono gh a1⟩ h3, rfl⟩
      · cases h
theorem rpa_mem : ∀ {xs : List V} {ks : List KS}, RpA K T G xs (ks.map tupK) → ∀ z ∈ xs.zip ks, Rp K T G z.1 (tupK z.2)
  | [], ks, _, z, hz => by rw [List.zip_nil_left] at hz; cases hz
  | x :: xs, [], _, z, hz => by rw [List.zip_nil_right] at hz; cases hz
  | x :: xs, k :: ks, r, z, hz => by
    cases r with
    | cons r1 r2 =>
      rw [List.zip_cons_cons] at hz
      rcases List.mem_cons.mp hz with rfl | hz
      · exact r1
      · exact rpa_mem r2 z hz
theorem rpa_of : ∀ {zs : List (V × KS)}, (∀ z ∈ zs, Rp K T G z.1 (tupK z.2)) → RpA K T G (zs.map Prod.fst) ((zs.map Prod.snd).map tupK)
  | [], _ => .nil
  | z :: zs, h => .cons (h z List.mem_cons_self) (rpa_of fun y hy => h y (List.mem_cons_of_mem _ hy))
theorem cal_sorted : CalD X T (.builtin "sorted") sortD := by
  refine ⟨_, cr_sortK, fun G H xs ds d gh p hz Q k => ?_⟩
  unfold sortD at hz
  split at hz
  · rename_i l
    cases e : keysD l with
    | none => rw [e] at hz; cases hz
    | some ks =>
      rw [e] at hz
      cases hz
      cases p with
      | cons p1 p2 =>
        cases p2
        cases p1 with
        | @lst a vs _ a1 a2 =>
          obtain ⟨h1, rfl⟩ := keysD_at gh e a2
          refine ⟨a, vs, ks, rfl, SqL.of (gh _ _ a1), h1, fun zs q hp hs hq => ?_⟩
          have hlen := Paired.length h1
          have e1 : (vs.zip ks).map Prod.snd = ks := by rw [List.map_snd_zip (by omega)]
          have e2 : zs.map Prod.snd = sortK ks := by
            refine sd_uniq (List.pairwise_map.mpr hs) (sortK_sd ks) ?_
            have := hp.map Prod.snd
            rw [e1] at this
            exact this.trans (sortK_perm ks).symm
          have n := Nx.new (o := .lst (zs.map Prod.fst)) gh hq
          refine k _ _ _ n (.lst upd_same (RpA.mono n.gg _ ?_))
          rw [← e2]
          exact rpa_of fun z hz => rpa_mem a2 z (hp.mem_iff.mp hz)
  · cases hz
/-! #### tuple(x) -/
def tupleD : List Dt → Option Dt
  | [.lst l] => if l.length ≤ 100000 then some (.tup l) else none
  | _ => none
theorem cr_tuple : CallR X (.type "tuple") (fun vs H Q => ∃ x, vs = [x] ∧ kTup X.K x H Q) := by
  intro pins s σ H vs us Q I r h
  obtain ⟨x, rfl, q⟩ := h
  cases r with
  | cons r1 r2 =>
    cases r2
    exact rl_tuple pins s σ H x _ Q I r1 q
theorem cal_tuple : CalD X T (.type "tuple") tupleD := by
  refine ⟨_, cr_tuple, fun G H xs ds d gh p hz Q k => ?_⟩
  unfold tupleD at hz
  split at hz
  · rename_i l
    split at hz
    · cases hz
      cases p with
      | cons p1 p2 =>
        cases p2
        cases p1 with
        | @lst a vs _ a1 a2 =>
          refine ⟨_, rfl, .inl ⟨a, vs, rfl, SqL.of (gh _ _ a1), fun q hq => ?_⟩⟩
          have n := Nx.new (o := .tup vs) gh hq
          exact k _ _ _ n (.tup (SqT.of upd_same) (RpA.mono n.gg _ a2) fun _ _ _ => upd_same)
    · cases hz
  · cases hz
end
end PL

/-! Judgements that carry tokens: the texts of tuples that are held by their objects were given out before. -/
namespace PL
open PySem PySem.Spec PyProof.Rows L2

def TokOk (n : Nat) : Value → Prop
  | .str _ t => t ≠ 0 ∧ t < n
  | _ => True
theorem TokOk.le {n m : Nat} (h : n ≤ m) : ∀ {u : Value}, TokOk n u → TokOk m u := fun {u} k => by
  cases u <;> first | trivial | exact ⟨k.1, Nat.lt_of_lt_of_le k.2 h⟩
def GoodO (n : Nat) (o : Obj) : Prop := ∀ xs k, o.data = .seq xs k → ∀ u ∈ xs.toList, TokOk n u
theorem GoodO.le {n m : Nat} {o : Obj} (h : n ≤ m) (g : GoodO n o) : GoodO m o := fun xs k e u hu => (g xs k e u hu).le h
structure TokH (H : Hp) (n : Nat) : Prop where
  pos : 1 ≤ n
  good : ∀ a o xs, H a = some (.frz o (.tup xs)) → GoodO n o
theorem TokH.nf {H H' : Hp} {n m : Nat} (g : TokH H n) (f : NoF H H') (h : n ≤ m) : TokH H' m := ⟨Nat.le_trans g.pos h, fun a o xs e => (g.good a o xs (f a o xs e)).le h⟩

/-- as Nx, but frozen tuples may be new -/
structure Nx0 (G H G' H' : Hp) : Prop where
  gg : Same G G'
  hh : Same H H'
  gh : Same G' H'
  fr : ∀ a, G' a = none ∨ G a ≠ none ∨ Nw H a
theorem Nx.n0 {G H G' H' : Hp} (n : Nx G H G' H') : Nx0 G H G' H' := ⟨n.gg, n.hh, n.gh, n.fr⟩
theorem Nx0.trans {G H G1 H1 G2 H2 : Hp} (a : Nx0 G H G1 H1) (b : Nx0 G1 H1 G2 H2) : Nx0 G H G2 H2 := by
  refine ⟨a.gg.trans b.gg, a.hh.trans b.hh, b.gh, fun x => ?_⟩
  rcases b.fr x with h | h | h
  · exact .inl h
  · rcases a.fr x with q | q | q
    · exact absurd q h
    · exact .inr (.inl q)
    · exact .inr (.inr q)
  · exact .inr (.inr (h.back a.hh))
theorem Nx0.growH {G H G1 H1 H2 : Hp} (a : Nx0 G H G1 H1) (e : Same H1 H2) : Nx0 G H G1 H2 := ⟨a.gg, a.hh.trans e, a.gh.trans e, a.fr⟩
theorem Nx0.out {G H G1 H1 : Hp} (a : Nx0 G H G1 H1) {p : Addr} {o : HO} (hg : G p = none) (hh : H p = some o) (ho : ∀ xs, o ≠ .tup xs := by intro _ z; cases z) : G1 p = none := by
  rcases a.fr p with h | h | h | ⟨xs, h⟩
  · exact h
  · exact absurd hg h
  · rw [hh] at h; cases h
  · rw [hh] at h; cases h; exact absurd rfl (ho xs)
section
variable {K : PySem.W.Frag} {T : CT} {G H G' H' B G0 H0 : Hp} {P : Addr → Prop} {σ : L2.St} {r : Env}
theorem Ow.nx0 {t : OT} {v : V} {as : List Addr} (h : Ow K T G H v t as) (n : Nx0 G H G' H') : Ow K T G' H' v t as :=
  Ow.mv n.gg t h (fun a m => by obtain ⟨h1, _⟩ := Ow.inn t h a m; obtain ⟨o, h2, h3⟩ := Ow.muts t h a m; exact n.out h1 h2 (mut_not h3)) (fun a m => by obtain ⟨h1, o, h2⟩ := Ow.inn t h a m; rw [h2]; exact n.hh _ _ h2)
theorem Tr.nx0 (h : Tr K T G H P σ r) (n : Nx0 G H G' H') : Tr K T G' H' P σ r := by
  obtain ⟨m, h1, h2, h3⟩ := h
  refine ⟨m, fun i t e => ?_, h2, h3⟩
  obtain ⟨⟨v, hv, q⟩, nd, p⟩ := h1 i t e
  exact ⟨⟨v, hv, q.nx0 n⟩, nd, p⟩
theorem Fits.nx0 (F : Fits K T G H σ r) (N : Nx0 G H G' H') : Fits K T G' H' σ r := by
  refine ⟨N.gh, F.len, fun i d h => ?_, fun i ds h => ?_, F.sep, F.tr.nx0 N⟩
  · obtain ⟨v, e, q⟩ := F.val i d h
    exact ⟨v, e, Rp.mono N.gg d q⟩
  · obtain ⟨p, vs, e, hg, hh, q⟩ := F.own i ds h
    exact ⟨p, vs, e, N.out hg hh, N.hh _ _ hh, RpA.mono N.gg ds q⟩

structure StT (K : PySem.W.Frag) (T : CT) (B G0 H0 G H : Hp) (σ : L2.St) (r : Env) : Prop where
  fits : Fits K T G H σ r
  base : Same B G
  nx : Nx0 G0 H0 G H
  ow : ∀ (i : Nat) (ds : List Dt) (p : Addr), r[i]? = some (.own ds) → σ[i]? = some (some (.ref p)) → H0 p = none
  tr : Tr K T G H (fun a => H0 a = none) σ r
theorem St1.toT (S : St1 K T B G0 H0 G H σ r) : StT K T B G0 H0 G H σ r := ⟨S.fits, S.base, S.nx.n0, S.ow, S.tr⟩
theorem StT.nx0 (S : StT K T B G0 H0 G H σ r) (n : Nx0 G H G' H') : StT K T B G0 H0 G' H' σ r := ⟨S.fits.nx0 n, S.base.trans n.gg, S.nx.trans n, S.ow, S.tr.nx0 n⟩
theorem StT.grow (S : StT K T B G0 H0 G H σ r) (e : Same H H') : StT K T B G0 H0 G H' σ r := S.nx0 ((Nx.refl S.fits.gh).n0.growH e)
theorem StT.set {i : Nat} {v : V} {d : Dt} (S : StT K T B G0 H0 G H σ r) (q : Rp K T G v d) : StT K T B G0 H0 G H (σ.set i (some v)) (r.set i (.val d)) := by
  refine ⟨S.fits.set q, S.base, S.nx, fun j ds p h1 h2 => ?_, S.tr.set (fun t h => by cases h) (fun l h => by cases h)⟩
  by_cases hj : j = i
  · subst hj
    by_cases hl : j < r.length
    · rw [List.getElem?_set_self hl] at h1; cases h1
    · rw [List.getElem?_eq_none (by simpa using hl)] at h1; cases h1
  · rw [List.getElem?_set_ne (Ne.symm hj)] at h1 h2
    exact S.ow j ds p h1 h2
/-- as a state that begins here: own lists and trees are left out of what was there -/
theorem StT.here (S : StT K T B G0 H0 G H σ r) : ∃ H1, St1 K T B G H1 G H σ r ∧ (∀ {G' H' : Hp}, Nx G H1 G' H' → Nx0 G0 H0 G' H' ∧ NoF H H') ∧ ∀ a, H1 a = none → H0 a = none := by
  obtain ⟨m, m1, m2, m3⟩ := S.tr
  let own : Addr → Prop := fun a => (∃ (i : Nat) (ds : List Dt), r[i]? = some (Sl.own ds) ∧ σ[i]? = some (some (V.ref a))) ∨ ∃ (i : Nat) (t : OT), r[i]? = some (Sl.tre t) ∧ a ∈ m i
  have dec : ∀ a, Decidable (own a) := fun a => Classical.propDecidable _
  obtain ⟨H1, hH⟩ : ∃ H1 : Hp, H1 = fun a => if own a then none else H a := ⟨_, rfl⟩
  have yes : ∀ {a}, own a → H1 a = none := fun h => by rw [hH]; exact if_pos h
  have no : ∀ {a}, ¬ own a → H1 a = H a := fun h => by rw [hH]; exact if_neg h
  have ownN : ∀ {a}, own a → H0 a = none ∧ G a = none ∧ ∃ o, H a = some o ∧ isMut o := fun {a} h => by
    rcases h with ⟨i, ds, e1, e2⟩ | ⟨i, t, e1, e2⟩
    · obtain ⟨p, vs, e3, g, hh, _⟩ := S.fits.own i ds e1
      rw [e2] at e3
      cases e3
      exact ⟨S.ow i ds a e1 e2, g, _, hh, trivial⟩
    · obtain ⟨⟨v, hv, q⟩, _, hP⟩ := m1 i t e1
      exact ⟨hP a e2, (Ow.inn t q a e2).1, Ow.muts t q a e2⟩
  have le : Same H1 H := fun a o e => by
    by_cases h : own a
    · rw [yes h] at e; cases e
    · rw [no h] at e; exact e
  have h0 : ∀ a, H1 a = none → H0 a = none := fun a e => by
    by_cases h : own a
    · exact (ownN h).1
    · rw [no h] at e
      exact S.nx.hh.free e
  refine ⟨H1, ⟨S.fits, S.base, ⟨Same.refl G, le, S.fits.gh, fun a => ?_, fun a o xs e => ?_⟩, fun i ds p e1 e2 => yes (.inl ⟨i, ds, e1, e2⟩), ⟨m, fun i t e => ⟨(m1 i t e).1, (m1 i t e).2.1, fun a ha => yes (.inr ⟨i, t, e, ha⟩)⟩, m2, m3⟩⟩, fun {G' H'} N => ⟨⟨S.nx.gg.trans N.gg, fun a o e => ?_, N.gh, fun a => ?_⟩, fun a o xs e => le _ _ (N.nf a o xs e)⟩, h0⟩
  · cases h : G a with
    | none => exact .inl rfl
    | some o => exact .inr (.inl (fun z => by cases z))
  · by_cases h : own a
    · obtain ⟨_, _, o', e', mu⟩ := ownN h
      rw [e] at e'
      cases e'
      exact mu.elim
    · rw [no h]; exact e
  · by_cases h : own a
    · rw [(ownN h).1] at e; cases e
    · exact N.hh a o (by rw [no h]; exact S.nx.hh a o e)
  · rcases N.fr a with h | h | h
    · exact .inl h
    · rcases S.nx.fr a with q | q | q
      · exact absurd q h
      · exact .inr (.inl q)
      · exact .inr (.inr q)
    · rcases h with h | ⟨xs, h⟩
      · exact .inr (.inr (.inl (h0 a h)))
      · exact .inr (.inr (Nw.back S.nx.hh (.inr ⟨xs, le _ _ h⟩)))
theorem St1.backT {H1 : Hp} (h0 : ∀ a, H1 a = none → H0 a = none) (S' : St1 K T B G H1 G' H' σ r) (n : Nx0 G0 H0 G' H') : StT K T B G0 H0 G' H' σ r :=
  ⟨S'.fits, S'.base, n, fun i ds p e1 e2 => h0 p (S'.ow i ds p e1 e2), S'.tr.imp h0⟩
end

/-! ### expressions -/
section
variable {X : Cx} {T : CT}
abbrev Mo (X : Cx) : Model := model X.prog X.w
/-- what is wanted behind: a value of told data -/
def WE (X : Cx) (T : CT) (pins : List (Addr × Obj)) (σ : L2.St) (G H : Hp) (d : Dt) : Value → Shared → Prop := fun u s' => ∃ v G' H', TokH H' s'.toks ∧ Inv X pins σ H' s' ∧ RelV v u ∧ Nx0 G H G' H' ∧ Rp X.K T G' v d
def WT (X : Cx) (pins : List (Addr × Obj)) (σ : L2.St) (G H : Hp) (b : Bool) : Bool → Shared → Prop := fun c s' => c = b ∧ ∃ G' H', TokH H' s'.toks ∧ Inv X pins σ H' s' ∧ Nx0 G H G' H'
def DET (X : Cx) (T : CT) (e : Expr) (f : Env → Option Dt) : Prop :=
  ∀ (pins : List (Addr × Obj)) (s : Shared) (σ : L2.St) (G H : Hp) (r : Env) (d : Dt), TokH H s.toks → Inv X pins σ H s → Fits X.K T G H σ r → f r = some d → wpAny (model X.prog X.w) X.A (eval e X.env) (WE X T pins σ G H d) X.xe s
def DTT (X : Cx) (T : CT) (e : Expr) (f : Env → Option Bool) : Prop :=
  ∀ (pins : List (Addr × Obj)) (s : Shared) (σ : L2.St) (G H : Hp) (r : Env) (b : Bool), TokH H s.toks → Inv X pins σ H s → Fits X.K T G H σ r → f r = some b → wpAny (model X.prog X.w) X.A (isTrue e X.env (eval e X.env)) (WT X pins σ G H b) X.xe s
/-- tokens only grow -/
theorem wtk {α : Type} {t : Sem α} {Q Q' : α → Shared → Prop} {M : Model} {A : Around} {E : Value → Shared → Prop} {s : Shared} (h : wpAny M A t Q E s) (hQ : ∀ a s', s.toks ≤ s'.toks → Q a s' → Q' a s') : wpAny M A t Q' E s :=
  wpAny_mono (wpAny_toks_of (Nat.le_refl _) h) (fun a s' q => hQ a s' q.1 q.2) fun _ _ z => z.2
theorem DE.t {e : Expr} {f : Env → Option Dt} (h : DE X T e f) : DET X T e f := by
  intro pins s σ G H r d g I F hf
  obtain ⟨te, pe, ge⟩ := h.ex
  refine wtk (pe.run pins s σ H (fun v H' => ∃ G', Nx G H G' H' ∧ Rp X.K T G' v d) I (ge G H σ r d F hf _ fun v G' H' n p => ⟨G', n, p⟩)) ?_
  rintro u s' hk ⟨v, H', I', r', G', n, p⟩
  exact ⟨v, G', H', g.nf n.nf hk, I', r', n.n0, p⟩
theorem DT.t {e : Expr} {f : Env → Option Bool} (h : DT X T e f) : DTT X T e f := by
  intro pins s σ G H r b g I F hf
  obtain ⟨te, pe, ge⟩ := h.ex
  refine wtk (pe.run pins s σ H (fun c H' => c = b ∧ ∃ G', Nx G H G' H') I (ge G H σ r b F hf _ fun G' H' n => ⟨rfl, G', n⟩)) ?_
  rintro c s' hk ⟨H', I', e, G', n⟩
  exact ⟨e, G', H', g.nf n.nf hk, I', n.n0⟩
/-- one value-level step behind a token-carrying expression -/
theorem WE.then {pins : List (Addr × Obj)} {σ : L2.St} {G H G1 H1 : Hp} {s1 : Shared} {t : Sem Value} {z : Dt} (g : TokH H1 s1.toks) (n0 : Nx0 G H G1 H1)
    (h : wpAny (model X.prog X.w) X.A t (EP X pins σ fun v H' => ∃ G', Nx G1 H1 G' H' ∧ Rp X.K T G' v z) X.xe s1) : wpAny (model X.prog X.w) X.A t (WE X T pins σ G H z) X.xe s1 := by
  refine wtk h ?_
  rintro u s' hk ⟨v, H', I', r', G', n, p⟩
  exact ⟨v, G', H', g.nf n.nf hk, I', r', n0.trans n.n0, p⟩
end
end PL

/-! Token-carrying judgements: expressions and tests. -/
namespace PL
open PySem PySem.Spec PyProof.Rows L2
section
variable {X : Cx} {T : CT}
/-- a, then b, then a step on both values -/
theorem det_two {a b : Expr} {fa fb : Env → Option Dt} {f : Dt → Dt → Option Dt} {fn : Value → Value → Sem Value} (ho : BinD X T fn f) (ha : DET X T a fa) (hb : DET X T b fb) {pins : List (Addr × Obj)} {s : Shared} {σ : L2.St} {G H : Hp} {r : Env} {d : Dt}
    {Q : Value → Shared → Prop} (g : TokH H s.toks) (I : Inv X pins σ H s) (F : Fits X.K T G H σ r) (h : fOp f fa fb r = some d) (hQ : ∀ u s', WE X T pins σ G H d u s' → Q u s') :
    wpAny (model X.prog X.w) X.A (eval a X.env) (fun v s1 => wpAny (model X.prog X.w) X.A (eval b X.env) (fun u s2 => wpAny (model X.prog X.w) X.A (fn v u) Q X.xe s2) X.xe s1) X.xe s := by
  obtain ⟨x, y, e1, e2, hz⟩ := fOp_some h
  obtain ⟨rr, o1, o2⟩ := ho.ex
  refine thn (ha pins s σ G H r x g I F e1) ?_
  rintro v s1 ⟨xv, G1, H1, g1, I1, r1, n1, p1⟩
  refine thn (hb pins s1 σ G1 H1 r y g1 I1 (F.nx0 n1) e2) ?_
  rintro u s2 ⟨yv, G2, H2, g2, I2, r2, n2, p2⟩
  refine thn ?_ hQ
  exact WE.then g2 (n1.trans n2) (o1 pins s2 σ H2 xv yv v u _ I2 r1 r2 (o2 G2 H2 xv yv x y d n2.gh (Rp.mono n2.gg x p1) p2 hz _ fun w G' H' n p => ⟨G', n, p⟩))
theorem det_bin {op : Operator} {f : Dt → Dt → Option Dt} {a b : Expr} {fa fb : Env → Option Dt} {pos : Pos} (ho : BinD X T (binaryOp op) f) (ha : DET X T a fa) (hb : DET X T b fb) : DET X T (.BinOp a op b pos) (fOp f fa fb) :=
  fun pins s σ G H r d g I F h => wpAny_BinOp (det_two ho ha hb g I F h fun _ _ z => z)
theorem det_cmp {op : CmpOp} {f : Dt → Dt → Option Dt} {a b : Expr} {fa fb : Env → Option Dt} {pos : Pos} (ho : BinD X T (compareOp op) f) (ha : DET X T a fa) (hb : DET X T b fb) (hm : behindInMarks op b = false := by first | exact nomark _ | rfl) : DET X T (.Compare a [op] [b] pos) (fOp f fa fb) :=
  fun pins s σ G H r d g I F h => wpAny_Compare1 (det_two ho ha hb g I F h fun _ _ z => z) hm
theorem asB_some {f : Env → Option Dt} {r : Env} {b : Bool} (h : asB f r = some b) : f r = some (.bl b) := by
  unfold asB at h
  split at h
  · rename_i c e; cases h; exact e
  · cases h
theorem dtt_cmp {op : CmpOp} {f : Dt → Dt → Option Dt} {a b : Expr} {fa fb : Env → Option Dt} {pos : Pos} (ho : BinD X T (compareOp op) f) (ha : DET X T a fa) (hb : DET X T b fb) (hm : behindInMarks op b = false := by first | exact nomark _ | rfl) : DTT X T (.Compare a [op] [b] pos) (asB (fOp f fa fb)) := by
  intro pins s σ G H r c g I F h
  refine wpAny_isTrue_Compare1 (det_two ho ha hb g I F (asB_some h) ?_) hm
  rintro v s1 ⟨x, G1, H1, g1, I1, r1, n1, p1⟩
  cases p1
  cases r1
  exact wpAny_truthy_bool ⟨rfl, G1, H1, g1, I1, n1⟩
/-- an expression that answers a bool, as a test -/
theorem dtt_val {e : Expr} {f : Env → Option Dt} (h : DET X T e f) (he : ∀ whole, isTrue e X.env whole = (do let v ← whole; standAt e.pos; holding [v] (truthy v)) := by intro _; rfl) : DTT X T e (asB f) := by
  intro pins s σ G H r c g I F hf
  refine isTrue_plain (thn (h pins s σ G H r _ g I F (asB_some hf)) ?_) (he _)
  rintro v s1 ⟨x, G1, H1, g1, I1, r1, n1, p1⟩
  cases p1
  cases r1
  exact wpAny_truthy_bool ⟨rfl, G1, H1, g1, I1, n1⟩
theorem det_if {c a b : Expr} {fc : Env → Option Bool} {fa fb : Env → Option Dt} {pos : Pos} (hc : DTT X T c fc) (ha : DET X T a fa) (hb : DET X T b fb) : DET X T (.IfExp c a b pos) (fIf fc fa fb) := by
  intro pins s σ G H r d g I F h
  unfold fIf at h
  split at h
  · rename_i e
    refine wpAny_IfExp (thn (hc pins s σ G H r true g I F e) ?_)
    rintro k s1 ⟨rfl, G1, H1, g1, I1, n1⟩
    show wpAny _ _ (eval a X.env) _ _ _
    refine thn (ha pins s1 σ G1 H1 r d g1 I1 (F.nx0 n1) h) ?_
    rintro u s2 ⟨v, G2, H2, g2, I2, r2, n2, p2⟩
    exact ⟨v, G2, H2, g2, I2, r2, n1.trans n2, p2⟩
  · rename_i e
    refine wpAny_IfExp (thn (hc pins s σ G H r false g I F e) ?_)
    rintro k s1 ⟨rfl, G1, H1, g1, I1, n1⟩
    show wpAny _ _ (eval b X.env) _ _ _
    refine thn (hb pins s1 σ G1 H1 r d g1 I1 (F.nx0 n1) h) ?_
    rintro u s2 ⟨v, G2, H2, g2, I2, r2, n2, p2⟩
    exact ⟨v, G2, H2, g2, I2, r2, n1.trans n2, p2⟩
  · cases h
/-- a chain of and, whatever its whole is -/
def DWT (X : Cx) (T : CT) (e : Expr) (f : Env → Option Bool) : Prop :=
  ∀ (wh : Sem Value) (pins : List (Addr × Obj)) (s : Shared) (σ : L2.St) (G H : Hp) (r : Env) (b : Bool), TokH H s.toks → Inv X pins σ H s → Fits X.K T G H σ r → f r = some b → wpAny (model X.prog X.w) X.A (isTrue e X.env wh) (WT X pins σ G H b) X.xe s
theorem DW.t {e : Expr} {f : Env → Option Bool} (h : DW X T e f) : DWT X T e f := by
  intro wh pins s σ G H r b g I F hf
  obtain ⟨te, pe, ge⟩ := h.ex
  refine wtk (pe.run wh pins s σ H (fun c H' => c = b ∧ ∃ G', Nx G H G' H') I (ge G H σ r b F hf _ fun G' H' n => ⟨rfl, G', n⟩)) ?_
  rintro c s' hk ⟨H', I', e, G', n⟩
  exact ⟨e, G', H', g.nf n.nf hk, I', n.n0⟩
theorem dtt_w {e : Expr} {f : Env → Option Bool} (h : DWT X T e f) : DTT X T e f := fun pins s σ G H r b g I F e => h _ pins s σ G H r b g I F e
theorem dwt_and1 {a : Expr} {fa : Env → Option Bool} {pos : Pos} (ha : DTT X T a fa) : DWT X T (.BoolOp .And [a] pos) fa := by
  intro wh pins s σ G H r b g I F h
  refine isTrue_and (thn (ha pins s σ G H r b g I F h) ?_)
  rintro c s1 ⟨rfl, e⟩
  cases c with
  | true => exact isTrue_and_nil ⟨rfl, e⟩
  | false => exact ⟨rfl, e⟩
theorem dwt_and {a b : Expr} {rest : List Expr} {fa fb : Env → Option Bool} {pos : Pos} (ha : DTT X T a fa) (hb : DWT X T (.BoolOp .And (b :: rest) pos) fb) : DWT X T (.BoolOp .And (a :: b :: rest) pos) (fAnd fa fb) := by
  intro wh pins s σ G H r d g I F h
  unfold fAnd at h
  split at h
  · rename_i e
    refine isTrue_and (thn (ha pins s σ G H r true g I F e) ?_)
    rintro c s1 ⟨rfl, G1, H1, g1, I1, n1⟩
    show wpAny _ _ (isTrue _ _ wh) _ _ _
    refine thn (hb wh pins s1 σ G1 H1 r d g1 I1 (F.nx0 n1) h) ?_
    rintro u s2 ⟨e2, G2, H2, g2, I2, n2⟩
    exact ⟨e2, G2, H2, g2, I2, n1.trans n2⟩
  · rename_i e
    cases h
    refine isTrue_and (thn (ha pins s σ G H r false g I F e) ?_)
    rintro c s1 ⟨rfl, q⟩
    exact ⟨rfl, q⟩
  · cases h
end
end PL

/-! Token-carrying judgements: parts of lists and texts, join, argument lists, triples held by their objects. -/
namespace PL
open PySem PySem.Spec PyProof.Rows L2
section
variable {X : Cx} {T : CT}
theorem DO.t {e : Option Expr} {f : Env → Option (Option Int)} (h : DO X T e f) {pins : List (Addr × Obj)} {s : Shared} {σ : L2.St} {G H : Hp} {r : Env} {o : Option Int} (g : TokH H s.toks) (I : Inv X pins σ H s) (F : Fits X.K T G H σ r) (hf : f r = some o) :
    wpAny (model X.prog X.w) X.A (evalPart e X.env) (fun u s' => ∃ G' H', TokH H' s'.toks ∧ Inv X pins σ H' s' ∧ IsPart u o ∧ Nx0 G H G' H') X.xe s := by
  obtain ⟨te, pe, ge⟩ := h.ex
  refine wtk (pe.run pins s σ H (fun c H' => c = o ∧ ∃ G', Nx G H G' H') I (ge G H σ r o F hf _ fun G' H' n => ⟨rfl, G', n⟩)) ?_
  rintro u s' hk ⟨c, H', I', ip, e, G', n⟩
  subst e
  exact ⟨G', H', g.nf n.nf hk, I', ip, n.n0⟩
theorem det_slice {e : Expr} {lo hi : Option Expr} {fe : Env → Option Dt} {fl fh : Env → Option (Option Int)} {pos p2 : Pos} (he : DET X T e fe) (hl : DO X T lo fl) (hh : DO X T hi fh) : DET X T (.Subscript e (.Slice lo hi none p2) pos) (fSlice fe fl fh) := by
  intro pins s σ G H r d g I F h
  unfold fSlice at h
  cases e1 : fe r with
  | none => rw [e1] at h; cases h
  | some x =>
    cases e2 : fl r with
    | none => rw [e1, e2] at h; cases h
    | some l =>
      cases e3 : fh r with
      | none => rw [e1, e2, e3] at h; cases h
      | some u =>
        rw [e1, e2, e3] at h
        replace h : sliceD x l u = some d := h
        refine Subscript_ (thn (he pins s σ G H r x g I F e1) ?_)
        rintro v s1 ⟨xv, G1, H1, g1, I1, r1, n1, p1⟩
        refine wpAny_Slice (thn (hl.t g1 I1 (F.nx0 n1) e2) ?_)
        rintro vl s2 ⟨G2, H2, g2, I2, pl, n2⟩
        refine thn (hh.t g2 I2 (F.nx0 (n1.trans n2)) e3) ?_
        rintro vu s3 ⟨G3, H3, g3, I3, pu, n3⟩
        rw [evalPart_none]
        refine wpAny_pure ?_
        have I4 : Inv X pins σ H3 { s3 with heap := s3.heap.push { cls := .type "slice", data := .fields #[vl, vu, .none] } } := I3.kept (t' := s3.toks) fun b ob q => Heap.get?_push_of_some _ q
        have p3 := Rp.mono (n2.gg.trans n3.gg) _ p1
        have n := (n1.trans n2).trans n3
        obtain ⟨Ty, id, hT, ht, hg⟩ := (sl_str.or sl_list) pins { s3 with heap := s3.heap.push { cls := .type "slice", data := .fields #[vl, vu, .none] } } σ H3 xv v vl vu l u s3.heap.objs.size (fun v H' => ∃ G', Nx G3 H3 G' H' ∧ Rp X.K T G' v d) I4 r1 (Heap.IsSliceOf.new ..) pl pu (by
          unfold sliceD at h
          split at h
          · obtain ⟨hc, rfl⟩ := ite_some h
            cases p3
            refine .inl ⟨_, rfl, by rw [str_len]; exact sz6 hc, G3, Nx.refl n3.gh, ?_⟩
            unfold cutS
            rw [str_len, List.toList_toArray]
            exact .str _
          · cases h
            cases p3 with
            | @lst _ xs _ a1 a2 =>
              refine .inr ⟨_, _, rfl, SqL.of (n3.gh _ _ a1), fun p hp => ?_⟩
              have n4 := Nx.new (o := .lst (cutV xs l u)) n3.gh hp
              exact ⟨_, n4, .lst upd_same (RpA.mono n4.gg _ (a2.cut l u))⟩
          · rename_i ns
            cases h
            cases p3 with
            | scr a1 =>
              refine .inr ⟨_, _, rfl, n3.gh.seq a1, fun p hp => ?_⟩
              have n4 := Nx.new (o := .lst (cutV (ns.map V.int) l u)) n3.gh hp
              have r1 : RpA X.K T G3 (cutV (ns.map V.int) l u) (cutL (ns.map Dt.int) l u) := (rpA_ints ns).cut l u
              rw [cut_map] at r1
              exact ⟨_, n4, .lst upd_same (RpA.mono n4.gg _ r1)⟩
          · cases h)
        show wpAny (model X.prog X.w) X.A (subscriptTail e (.Slice lo hi none p2) v (.ref s3.heap.objs.size)) (WE X T pins σ G H d) X.xe { s3 with heap := s3.heap.push { cls := .type "slice", data := .fields #[vl, vu, .none] } }
        exact WE.then (s1 := { s3 with heap := s3.heap.push { cls := .type "slice", data := .fields #[vl, vu, .none] } }) g3 n (tail_any (ops := [.ref s3.heap.objs.size, v]) ht hT hg (by with_unfolding_all rfl))
theorem det_step {e st : Expr} {lo hi : Option Expr} {fe : Env → Option Dt} {fl fh fs : Env → Option (Option Int)} {pos p2 : Pos} (he : DET X T e fe) (hl : DO X T lo fl) (hh : DO X T hi fh) (hs : DO X T (some st) fs)
    (hsub : ∀ a b, subscripted (.Slice lo hi (some st) p2) false (.ref a) (.ref b) = operate [.ref a, .ref b] (getItem (.ref a) (.ref b)) := by intro _ _; with_unfolding_all rfl) : DET X T (.Subscript e (.Slice lo hi (some st) p2) pos) (fStep fe fl fh fs) := by
  intro pins s σ G H r d g I F h
  unfold fStep at h
  cases e1 : fe r with
  | none => rw [e1] at h; cases h
  | some x =>
    cases e2 : fl r with
    | none => rw [e1, e2] at h; cases h
    | some l =>
      cases e3 : fh r with
      | none => rw [e1, e2, e3] at h; cases h
      | some u =>
        cases e4 : fs r with
        | none => rw [e1, e2, e3, e4] at h; cases h
        | some o =>
          rw [e1, e2, e3, e4] at h
          replace h : stepD x l u o = some d := h
          refine Subscript_ (thn (he pins s σ G H r x g I F e1) ?_)
          rintro v s1 ⟨xv, G1, H1, g1, I1, r1, n1, p1⟩
          refine wpAny_Slice (thn (hl.t g1 I1 (F.nx0 n1) e2) ?_)
          rintro vl s2 ⟨G2, H2, g2, I2, pl, n2⟩
          refine thn (hh.t g2 I2 (F.nx0 (n1.trans n2)) e3) ?_
          rintro vu s3 ⟨G3, H3, g3, I3, pu, n3⟩
          refine thn (hs.t g3 I3 (F.nx0 ((n1.trans n2).trans n3)) e4) ?_
          rintro vs s4 ⟨G4, H4, g4, I4, ps, n4⟩
          have p4 := Rp.mono ((n2.gg.trans n3.gg).trans n4.gg) _ p1
          have n := ((n1.trans n2).trans n3).trans n4
          unfold stepD at h
          split at h
          · rename_i ds
            obtain ⟨⟨h0, hlen⟩, rfl⟩ := ite_some h
            cases p4 with
            | @lst a xs _ a1 a2 =>
              cases r1
              have I5 : Inv X pins σ H4 { s4 with heap := s4.heap.push { cls := .type "slice", data := .fields #[vl, vu, vs] } } := I4.kept (t' := s4.toks) fun b ob q => Heap.get?_push_of_some _ q
              have hlen' : (pickL xs l u o).length ≤ 1000000 := by rw [pick_len a2.length]; exact hlen
              obtain ⟨its, r, ht, hz⟩ := I5.list (SqL.of (n4.gh _ _ a1))
              have hlen2 := r.length
              show wpAny (model X.prog X.w) X.A (subscriptTail e (.Slice lo hi (some st) p2) (.ref a) (.ref s4.heap.objs.size)) (WE X T pins σ G H _) X.xe { s4 with heap := s4.heap.push { cls := .type "slice", data := .fields #[vl, vu, vs] } }
              refine WE.then (s1 := { s4 with heap := s4.heap.push { cls := .type "slice", data := .fields #[vl, vu, vs] } }) g4 n ?_
              refine tail_any (ops := [.ref a, .ref s4.heap.objs.size]) ht.isList.typeIs (PySem.slot_list_getitem.lookup) ?_ (hsub _ _)
              refine wpAny_getItem_list_slice ht.isList (Heap.IsSliceOf.new _ vl vu vs) pl pu ps h0 ?_ (by rw [List.size_toArray]; omega)
              have hp : slicePick its.toArray l u o = (pickL its l u o).toArray := by
                unfold slicePick pickL
                rw [List.size_toArray]
                have e : (fun i : Nat => its.toArray[i]?) = fun i => its[i]? := funext fun i => List.getElem?_toArray
                rw [e]
              rw [hp]
              have hfr := I5.hok.fresh (Nat.le_refl _)
              have n6 := Nx.new (o := .lst (pickL xs l u o)) n4.gh hfr
              refine ⟨.ref _, _, I5.laid (t' := s4.toks) (o := .lst (pickL xs l u o)) (fun b ob q => Heap.get?_push_of_some _ q) (Nat.le_refl _) ?_, rfl, _, n6, .lst upd_same (RpA.mono n6.gg _ ?_)⟩
              · refine ⟨Nat.le_trans hlen' (by decide), pickL its l u o, 0, ?_, Heap.get?_push_size _ rfl⟩
                unfold pickL
                rw [hlen2]
                exact vals_pick r _
              · have hl2 := a2.length
                unfold pickL
                rw [hl2]
                exact rpa_pick a2 _
          · cases h
theorem det_join {o e : Expr} {fo fe : Env → Option Dt} {apos pos : Pos} (ho : DET X T o fo) (he : DET X T e fe) (hs : starEach [e] X.env = [(false, eval e X.env)] := by rfl) (hbase : attributeBase o "join" X.env (eval o X.env) = eval o X.env := by rfl) (hline : (apos.endLine == pos.line) = true := by rfl) :
    DET X T (.Call (.Attribute o "join" apos) [e] [] pos) (fOp joinD fo fe) := by
  intro pins s σ G H r d g I F h
  obtain ⟨x, y, e1, e2, hz⟩ := fOp_some h
  unfold joinD at hz
  split at hz
  · rename_i sep l
    split at hz
    · rename_i bs e3
      obtain ⟨hc, rfl⟩ := ite_some hz
      refine PySem.Call_method1 hbase hs hline (thn (ho pins s σ G H r _ g I F e1) ?_)
      rintro v s1 ⟨xv, G1, H1, g1, I1, r1, n1, p1⟩
      cases p1
      obtain ⟨t, rfl⟩ := _root_.id r1
      refine ⟨"str", _, PySem.F.plainAttrs_str, PySem.F.slot_str_join, PySem.F.type_str_join, typeIs_str _ _ _, (fun _ e => nomatch e), Calls.callWith_builtin rfl (Calls.evalArgs_plain (Calls.spliced_cons ?_))⟩
      refine thn (he pins s1 σ G1 H1 r _ g1 I1 (F.nx0 n1) e2) ?_
      rintro u s2 ⟨yv, G2, H2, g2, I2, r2, n2, p2⟩
      refine Calls.spliced_nil ?_
      cases p2 with
      | lst a1 a2 =>
        have := strs_rp a2 e3
        subst this
        refine WE.then g2 (n1.trans n2) (mt_join pins s2 σ H2 _ [_] _ [u] _ I2 r1 (.cons r2 .nil) ⟨_, _, _, rfl, rfl, .inl (SqL.of (n2.gh _ _ a1)), ?_, G2, Nx.refl n2.gh, ?_⟩)
        · rw [List.map_map, List.length_map, str_len]
          have : ((fun x : Str => x.length) ∘ fun l : List Nat => (⟨l.toArray⟩ : Str)) = List.length := by
            funext l
            exact str_len l
          rw [show (List.map ((fun x : Str => x.length) ∘ fun l : List Nat => (⟨l.toArray⟩ : Str)) bs) = bs.map List.length by rw [this]]
          omega
        · rw [TL.join_eq, join_str]
          exact .str _
    · cases hz
  · cases hz
/-! ### argument lists -/
def WA (X : Cx) (T : CT) (pins : List (Addr × Obj)) (σ : L2.St) (G H : Hp) (ds : List Dt) : List Value → Shared → Prop := fun us s' => ∃ vs G' H', TokH H' s'.toks ∧ Inv X pins σ H' s' ∧ Vals vs us ∧ Nx0 G H G' H' ∧ RpA X.K T G' vs ds
def DAT (X : Cx) (T : CT) (es : List Expr) (f : Env → Option (List Dt)) : Prop :=
  ∀ (pos : Pos) (pins : List (Addr × Obj)) (s : Shared) (σ : L2.St) (G H : Hp) (r : Env) (ds : List Dt), TokH H s.toks → Inv X pins σ H s → Fits X.K T G H σ r → f r = some ds →
    wpAny (model X.prog X.w) X.A (spliced (backTo pos (starEach es X.env))) (WA X T pins σ G H ds) X.xe s
theorem DA.t {es : List Expr} {f : Env → Option (List Dt)} (h : DA X T es f) : DAT X T es f := by
  intro pos pins s σ G H r ds g I F hf
  obtain ⟨te, pe, ge⟩ := h.ex
  refine wtk (pe.run pos pins s σ H (fun vs H' => ∃ G', Nx G H G' H' ∧ RpA X.K T G' vs ds) I (ge G H σ r ds F hf _ fun v G' H' n p => ⟨G', n, p⟩)) ?_
  rintro us s' hk ⟨vs, H', I', r', G', n, p⟩
  exact ⟨vs, G', H', g.nf n.nf hk, I', r', n.n0, p⟩
theorem dat_nil : DAT X T [] fNil := da_nil.t
theorem dat_cons {e : Expr} {es : List Expr} {a : Env → Option Dt} {b : Env → Option (List Dt)} (ha : DET X T e a) (hb : DAT X T es b) (hs : starEach (e :: es) X.env = (false, eval e X.env) :: starEach es X.env := by rfl) : DAT X T (e :: es) (fCons a b) := by
  intro pos pins s σ G H r ds g I F h
  unfold fCons at h
  cases e1 : a r with
  | none => rw [e1] at h; cases h
  | some x =>
    cases e2 : b r with
    | none => rw [e1, e2] at h; cases h
    | some xs =>
      rw [e1, e2] at h
      cases h
      rw [hs]
      show wpAny _ _ (spliced ((false, eval e X.env) :: backTo pos (starEach es X.env))) _ _ s
      refine Calls.spliced_cons (thn (ha pins s σ G H r x g I F e1) ?_)
      rintro v s1 ⟨xv, G1, H1, g1, I1, r1, n1, p1⟩
      refine thn (hb pos pins s1 σ G1 H1 r xs g1 I1 (F.nx0 n1) e2) ?_
      rintro us s2 ⟨vs, G2, H2, g2, I2, r2, n2, p2⟩
      exact ⟨_, G2, H2, g2, I2, .cons r1 r2, n1.trans n2, .cons (Rp.mono n2.gg x p1) p2⟩
/-- three written texts: a triple held by its object -/
theorem det_man {x y z : Str} (m q e : List Nat) {j0 j1 j2 : Nat} {c0 c1 c2 pos : Pos} {k1} (hx : x = ⟨m.toArray⟩ := by decide +kernel) (hy : y = ⟨q.toArray⟩ := by decide +kernel) (hz : z = ⟨e.toArray⟩ := by decide +kernel) :
    DET X T (.Tuple [.Constant (.str x) j0 c0, .Constant (.str y) j1 c1, .Constant (.str z) j2 c2] k1 pos) (fC (.man m q e)) := by
  subst hx hy hz
  intro pins s σ G H r d g I F h
  cases h
  refine wpAny_Tuple_spliced ?_
  show wpAny _ _ (spliced ((false, eval (.Constant (.str ⟨m.toArray⟩) j0 c0) X.env) :: backTo pos (starEach [.Constant (.str ⟨q.toArray⟩) j1 c1, .Constant (.str ⟨e.toArray⟩) j2 c2] X.env))) _ _ s
  refine Calls.spliced_cons (Calls.Constant_str ?_)
  show wpAny _ _ (spliced ((false, eval (.Constant (.str ⟨q.toArray⟩) j1 c1) X.env) :: backTo pos (starEach [.Constant (.str ⟨e.toArray⟩) j2 c2] X.env))) _ _ _
  refine Calls.spliced_cons (Calls.Constant_str ?_)
  show wpAny _ _ (spliced ((false, eval (.Constant (.str ⟨e.toArray⟩) j2 c2) X.env) :: backTo pos (starEach [] X.env))) _ _ _
  refine Calls.spliced_cons (Calls.Constant_str (Calls.spliced_nil ?_))
  have h3 : (3 : Nat) ≤ sizeLine := by decide
  have hp := g.pos
  have hfr : H s.heap.objs.size = none := I.hok.fresh (Nat.le_refl _)
  obtain ⟨o, ho⟩ : ∃ o : Obj, o = { cls := .type "tuple", data := .seq #[.str ⟨m.toArray⟩ s.toks, .str ⟨q.toArray⟩ (s.toks + 1), .str ⟨e.toArray⟩ (s.toks + 1 + 1)] } := ⟨_, rfl⟩
  have good : GoodO (s.toks + 1 + 1 + 1) o := fun xs k ed u hu => by
    rw [ho] at ed
    cases ed
    simp only [List.mem_cons, List.not_mem_nil, or_false] at hu
    rcases hu with rfl | rfl | rfl
    · exact ⟨Nat.ne_of_gt hp, by show s.toks < s.toks + 1 + 1 + 1; omega⟩
    · exact ⟨Nat.succ_ne_zero _, by show s.toks + 1 < s.toks + 1 + 1 + 1; omega⟩
    · exact ⟨Nat.succ_ne_zero _, by show s.toks + 1 + 1 < s.toks + 1 + 1 + 1; omega⟩
  refine ⟨h3, .ref s.heap.objs.size, upd G s.heap.objs.size (.frz o (.tup [.str ⟨m.toArray⟩, .str ⟨q.toArray⟩, .str ⟨e.toArray⟩])), upd H s.heap.objs.size (.frz o (.tup [.str ⟨m.toArray⟩, .str ⟨q.toArray⟩, .str ⟨e.toArray⟩])), ⟨by show 1 ≤ s.toks + 1 + 1 + 1; omega, fun a ob xs ea => ?_⟩, ?_, rfl, ?_, .man (upd_same)⟩
  · by_cases ha : a = s.heap.objs.size
    · rw [ha, upd_same] at ea
      cases ea
      exact good
    · rw [upd_ne ha] at ea
      exact (g.good a ob xs ea).le (by show s.toks ≤ s.toks + 1 + 1 + 1; omega)
  · refine I.laid (t' := s.toks + 1 + 1 + 1) (fun b u e => Heap.get?_push_of_some _ e) (Nat.le_refl _) ⟨by rw [ho]; exact Heap.get?_push_size _ rfl, h3, [.str ⟨m.toArray⟩ s.toks, .str ⟨q.toArray⟩ (s.toks + 1), .str ⟨e.toArray⟩ (s.toks + 1 + 1)], .cons ⟨_, rfl⟩ (.cons ⟨_, rfl⟩ (.cons ⟨_, rfl⟩ .nil)), ⟨_, Heap.get?_push_size _ rfl, rfl, _, rfl⟩⟩
  · refine ⟨same_new (F.gh.free hfr), same_new hfr, same_upd2 F.gh, fun a => ?_⟩
    by_cases ha : a = s.heap.objs.size
    · exact .inr (.inr (.inl (by rw [ha]; exact hfr)))
    · rw [upd_ne ha]
      cases q : G a with
      | none => exact .inl rfl
      | some o => exact .inr (.inl (fun z => by cases z))
end
end PL

/-! Token-carrying judgements: statements. -/
namespace PL
open PySem PySem.Spec PyProof.Rows L2
section
variable {X : Cx} {T : CT}
/-- how a statement ends -/
def MtT (X : Cx) (T : CT) (pins : List (Addr × Obj)) (B G0 H0 : Hp) (o : Out) (fl : Flow) (s' : Shared) : Prop := match o with
  | .nx r' => fl = .next ∧ ∃ G' H' σ', TokH H' s'.toks ∧ Inv X pins σ' H' s' ∧ StT X.K T B G0 H0 G' H' σ' r'
  | .bk r' => fl = .brk ∧ ∃ G' H' σ', TokH H' s'.toks ∧ Inv X pins σ' H' s' ∧ StT X.K T B G0 H0 G' H' σ' r'
  | .ct r' => fl = .cont ∧ ∃ G' H' σ', TokH H' s'.toks ∧ Inv X pins σ' H' s' ∧ StT X.K T B G0 H0 G' H' σ' r'
  | .rt d => ∃ u v G' H' σ', fl = .ret u ∧ TokH H' s'.toks ∧ Inv X pins σ' H' s' ∧ RelV v u ∧ Nx0 G0 H0 G' H' ∧ Rp X.K T G' v d
def DST (X : Cx) (T : CT) (st : Stmt) (g : Env → Option Out) : Prop :=
  ∀ (pins : List (Addr × Obj)) (s : Shared) (B G0 H0 G H : Hp) (σ : L2.St) (r : Env) (o : Out), TokH H s.toks → Inv X pins σ H s → StT X.K T B G0 H0 G H σ r → g r = some o → wpAny (model X.prog X.w) X.A (exec st X.env) (MtT X T pins B G0 H0 o) X.xe s
def DSTs (X : Cx) (T : CT) (sts : List Stmt) (g : Env → Option Out) : Prop :=
  ∀ (pins : List (Addr × Obj)) (s : Shared) (B G0 H0 G H : Hp) (σ : L2.St) (r : Env) (o : Out), TokH H s.toks → Inv X pins σ H s → StT X.K T B G0 H0 G H σ r → g r = some o → wpAny (model X.prog X.w) X.A (execs sts X.env) (MtT X T pins B G0 H0 o) X.xe s
/-- a plain statement's ends -/
def endsT (X : Cx) (T : CT) (B G H1 : Hp) (o : Out) : Ends where
  nx := fun σ' H' => ∃ r' G', o = .nx r' ∧ St1 X.K T B G H1 G' H' σ' r'
  rt := fun v H' => ∃ d G', o = .rt d ∧ Nx G H1 G' H' ∧ Rp X.K T G' v d
  bk := fun σ' H' => ∃ r' G', o = .bk r' ∧ St1 X.K T B G H1 G' H' σ' r'
  ct := fun σ' H' => ∃ r' G', o = .ct r' ∧ St1 X.K T B G H1 G' H' σ' r'
theorem mt_endsT {B G H1 : Hp} (o : Out) : Mt X.K T B G H1 (endsT X T B G H1 o) o := by
  cases o with
  | nx r => exact fun G' H' σ' S' => ⟨r, G', rfl, S'⟩
  | rt d => exact fun v G' H' n p => ⟨d, G', rfl, n, p⟩
  | bk r => exact fun G' H' σ' S' => ⟨r, G', rfl, S'⟩
  | ct r => exact fun G' H' σ' S' => ⟨r, G', rfl, S'⟩
theorem sp_mtT {pins : List (Addr × Obj)} {B G0 H0 G H H1 : Hp} {o : Out} {fl : Flow} {s s' : Shared} (g : TokH H s.toks) (hk : s.toks ≤ s'.toks) (conv : ∀ {G' H' : Hp}, Nx G H1 G' H' → Nx0 G0 H0 G' H' ∧ NoF H H') (h0 : ∀ a, H1 a = none → H0 a = none)
    (h : SP X pins (endsT X T B G H1 o) fl s') : MtT X T pins B G0 H0 o fl s' := by
  cases fl with
  | next =>
    obtain ⟨σ', H', I', r', G', rfl, S'⟩ := h
    obtain ⟨n, f⟩ := conv S'.nx
    exact ⟨rfl, G', H', σ', g.nf f hk, I', S'.backT h0 n⟩
  | brk =>
    obtain ⟨σ', H', I', r', G', rfl, S'⟩ := h
    obtain ⟨n, f⟩ := conv S'.nx
    exact ⟨rfl, G', H', σ', g.nf f hk, I', S'.backT h0 n⟩
  | cont =>
    obtain ⟨σ', H', I', r', G', rfl, S'⟩ := h
    obtain ⟨n, f⟩ := conv S'.nx
    exact ⟨rfl, G', H', σ', g.nf f hk, I', S'.backT h0 n⟩
  | ret u =>
    obtain ⟨v, σ', H', I', rv, d, G', rfl, N, p⟩ := h
    obtain ⟨n, f⟩ := conv N
    exact ⟨u, v, G', H', σ', rfl, g.nf f hk, I', rv, n, p⟩
theorem DS.t {st : Stmt} {a : Env → Option Out} (h : DS X T st a) : DST X T st a := by
  intro pins s B G0 H0 G H σ r o g I S e
  obtain ⟨ts, ps, gs⟩ := h.ex
  obtain ⟨H1, S1, conv, h0⟩ := S.here
  exact wtk (ps.run pins s σ H (endsT X T B G H1 o) I (gs B G H1 G H σ r o S1 e _ (mt_endsT o))) fun fl s' hk q => sp_mtT g hk conv h0 q
theorem DSs.t {st : List Stmt} {a : Env → Option Out} (h : DSs X T st a) : DSTs X T st a := by
  intro pins s B G0 H0 G H σ r o g I S e
  obtain ⟨ts, ps, gs⟩ := h.ex
  obtain ⟨H1, S1, conv, h0⟩ := S.here
  exact wtk (ps.run pins s σ H (endsT X T B G H1 o) I (gs B G H1 G H σ r o S1 e _ (mt_endsT o))) fun fl s' hk q => sp_mtT g hk conv h0 q
theorem dsts_cons {st : Stmt} {rest : List Stmt} {a b : Env → Option Out} (h1 : DST X T st a) (h2 : DSTs X T rest b) : DSTs X T (st :: rest) (fSeq a b) := by
  intro pins s B G0 H0 G H σ r o g I S e
  unfold fSeq at e
  cases e1 : a r with
  | none => rw [e1] at e; cases e
  | some o1 =>
    rw [e1] at e
    refine wpAny_execs_cons (thn (h1 pins s B G0 H0 G H σ r o1 g I S e1) fun fl s1 q => ?_)
    cases o1 with
    | nx r' =>
      obtain ⟨rfl, G1, H1, σ1, g1, I1, S1⟩ := q
      exact h2 pins s1 B G0 H0 G1 H1 σ1 r' o g1 I1 S1 e
    | rt d =>
      cases e
      obtain ⟨u, v, G1, H1, σ1, rfl, q⟩ := q
      exact ⟨u, v, G1, H1, σ1, rfl, q⟩
    | bk r' =>
      cases e
      obtain ⟨rfl, q⟩ := q
      exact ⟨rfl, q⟩
    | ct r' =>
      cases e
      obtain ⟨rfl, q⟩ := q
      exact ⟨rfl, q⟩
theorem dsts_one {st : Stmt} {a : Env → Option Out} (h1 : DST X T st a) : DSTs X T [st] a := by
  intro pins s B G0 H0 G H σ r o g I S e
  refine wpAny_execs_cons (thn (h1 pins s B G0 H0 G H σ r o g I S e) fun fl s1 q => ?_)
  cases o with
  | nx r' =>
    obtain ⟨rfl, q⟩ := q
    exact wpAny_execs_nil ⟨rfl, q⟩
  | rt d =>
    obtain ⟨u, v, G1, H1, σ1, rfl, q⟩ := q
    exact ⟨u, v, G1, H1, σ1, rfl, q⟩
  | bk r' =>
    obtain ⟨rfl, q⟩ := q
    exact ⟨rfl, q⟩
  | ct r' =>
    obtain ⟨rfl, q⟩ := q
    exact ⟨rfl, q⟩
theorem dst_frz (j : Nat) {st : Stmt} {a : Env → Option Out} (h : DST X T st a) : DST X T st (fFrz j a) := by
  intro pins s B G0 H0 G H σ r o g I S e
  obtain ⟨H1, S1, conv, h0⟩ := S.here
  obtain ⟨G1, S2⟩ := S1.frzAt j
  exact h pins s B G0 H0 G1 H σ _ o g I (S2.backT h0 (conv S2.nx).1) e
theorem dst_set (i : Nat) {x : Str} {e : Expr} {f : Env → Option Dt} {pos pos' : Pos} (hN : X.N.Nodup) (he : DET X T e f) (hi : X.N[i]? = some x := by rfl) (hx : Loc X.env.scope x := by first | exact .inl rfl | exact .inr rfl) (hs : swapsWith e (some (.Name x pos')) pos.line X.env = pure false := by rfl)
    (hf : X.fn x = true ∨ X.env.scope.names.lookup x = some .local := by first | exact .inl rfl | exact .inr rfl) : DST X T (.Assign [.Name x pos'] e pos) (fSet i f) := by
  intro pins s B G0 H0 G H σ r o g I S h
  unfold fSet at h
  cases e1 : f r with
  | none => rw [e1] at h; cases h
  | some d =>
    rw [e1] at h
    cases h
    refine wpAny_Assign_Name (thn (he pins s σ G H r d g I S.fits e1) ?_) hs
    rintro v s1 ⟨xv, G1, H1, g1, I1, r1, n1, p1⟩
    refine wtk (store_ok (Q := fun _ s2 => Inv X pins (σ.set i (some xv)) H1 s2) I1 hN hi hx r1 (fun s2 I2 => I2) hf) fun _ s2 hk I2 => ?_
    exact ⟨rfl, G1, H1, _, g1.nf (NoF.refl _) hk, I2, (S.nx0 n1).set p1⟩
theorem dst_if {c : Expr} {a b : List Stmt} {fc : Env → Option Bool} {fa fb : Env → Option Out} {pos : Pos} (hc : DTT X T c fc) (ha : DSTs X T a fa) (hb : DSTs X T b fb) : DST X T (.If c a b pos) (fIfS fc fa fb) := by
  intro pins s B G0 H0 G H σ r o g I S e
  unfold fIfS at e
  split at e
  · rename_i e1
    refine wpAny_If (thn (hc pins s σ H H (frzE r) true g I S.fits.frz e1) ?_)
    rintro k s1 ⟨rfl, G1, H1, g1, I1, n1⟩
    exact ha pins s1 B G0 H0 G H1 σ r o g1 I1 (S.grow n1.hh) e
  · rename_i e1
    refine wpAny_If (thn (hc pins s σ H H (frzE r) false g I S.fits.frz e1) ?_)
    rintro k s1 ⟨rfl, G1, H1, g1, I1, n1⟩
    exact hb pins s1 B G0 H0 G H1 σ r o g1 I1 (S.grow n1.hh) e
  · cases e
theorem dst_ret {e : Expr} {f : Env → Option Dt} {pos : Pos} (he : DET X T e f) : DST X T (.Return (some e) pos) (fRet f) := by
  intro pins s B G0 H0 G H σ r o g I S h
  unfold fRet at h
  cases e1 : f r with
  | none => rw [e1] at h; cases h
  | some d =>
    rw [e1] at h
    cases h
    refine wpAny_Return_some (thn (he pins s σ G H r d g I S.fits e1) ?_)
    rintro v s1 ⟨xv, G1, H1, g1, I1, r1, n1, p1⟩
    exact ⟨v, xv, G1, H1, σ, rfl, g1, I1, r1, S.nx.trans n1, p1⟩
theorem dst_expr {e : Expr} {f : Env → Option Dt} {pos : Pos} (he : DET X T e f) (hs : swapsWith e none pos.line X.env = pure false := by rfl) : DST X T (.Expr e pos) (fDrop f) := by
  intro pins s B G0 H0 G H σ r o g I S h
  unfold fDrop at h
  cases e1 : f r with
  | none => rw [e1] at h; cases h
  | some d =>
    rw [e1] at h
    cases h
    refine wpAny_Expr_any (thn (he pins s σ G H r d g I S.fits e1) ?_) I.quiet hs
    rintro v s1 ⟨xv, G1, H1, g1, I1, r1, n1, p1⟩
    exact ⟨rfl, G1, H1, σ, g1, I1, S.nx0 n1⟩
/-- x, y = a, b -/
def fPar2 (i j : Nat) (f : Env → Option (List Dt)) : Env → Option Out := fun r => match f r with
  | some [a, b] => some (.nx ((r.set i (.val a)).set j (.val b)))
  | _ => none
theorem dst_par2 (i j : Nat) {x y : Str} {a b : Expr} {f : Env → Option (List Dt)} {px py pt pos pt2 : Pos} {kt k2} (hc : X.calm = true) (hN : X.N.Nodup) (ha : DAT X T [a, b] f) (hij : i ≠ j) (hi : X.N[i]? = some x := by rfl) (hj : X.N[j]? = some y := by rfl)
    (hw : swappedStores [.Tuple [.Name x px, .Name y py] kt pt] (.Tuple [a, b] k2 pt2) X.env = pure (some [x, y]) := by rfl) (hx : X.env.scope.names.lookup x = some .local := by rfl) (hy : X.env.scope.names.lookup y = some .local := by rfl)
    (hs : swapsWithSole [.Tuple [.Name x px, .Name y py] kt pt] (.Tuple [a, b] k2 pt2) pos.line X.env = pure false := by rfl) :
    DST X T (.Assign [.Tuple [.Name x px, .Name y py] kt pt] (.Tuple [a, b] k2 pt2) pos) (fPar2 i j f) := by
  intro pins s B G0 H0 G H σ r o g I S h
  unfold fPar2 at h
  split at h
  · rename_i d1 d2 e1
    cases h
    rw [exec_Assign_arm]
    refine wpAny_bind (wpAny_standAt ?_)
    rw [hs]
    refine wpAny_bind (wpAny_pure ?_)
    rw [if_neg (by decide)]
    refine wpAny_bind (Tuple_ (thn (ha _ pins s σ G H r _ g I S.fits e1) ?_))
    rintro us s1 ⟨vs, G1, H1, g1, I1, r1, n1, p1⟩
    cases p1 with
    | @cons v1 _ _ _ p1 p1' =>
    cases p1' with
    | @cons v2 _ _ _ p2 p2' =>
    cases p2'
    cases r1 with
    | @cons _ u1 _ _ rv r1' =>
    cases r1' with
    | @cons _ u2 _ _ rw' r2' =>
    cases r2'
    refine wpAny_newObj_type ?_ (by show 2 ≤ sizeLine; decide)
    have I2 : Inv X pins σ H1 { s1 with heap := s1.heap.push { cls := .type "tuple", data := .seq [u1, u2].toArray } } := I1.kept (t' := s1.toks) fun b o e => Heap.get?_push_of_some _ e
    rw [hw]
    refine wpAny_bind (wpAny_pure ?_)
    show wpAny (model X.prog X.w) X.A (do rule "assign.swapped-stores"; let items ← unpackItems (.ref s1.heap.objs.size) 2 none; assignInOrder [fun v => bindName X.env y v, fun v => bindName X.env x v] items.reverse; pure Flow.next) _ _ _
    refine wpAny_bind (wpAny_rule (wpAny_bind (unpackItems_tuple (items := #[u1, u2]) (I.ok.hd hc) (IsTup.new s1.heap _) fun h' hx' => ?_)))
    have I3 := I2.kept (h' := h') (t' := s1.toks) fun b o e => hx' b o (Nat.ne_of_lt (Heap.lt_size e)) e
    show wpAny _ _ (assignInOrder [fun v => bindName X.env y v, fun v => bindName X.env x v] [u2, u1] >>= fun _ => pure Flow.next) _ _ _
    have main : wpAny (model X.prog X.w) X.A (assignInOrder [fun v => bindName X.env y v, fun v => bindName X.env x v] [u2, u1] >>= fun _ => pure Flow.next) (fun fl s3 => fl = Flow.next ∧ Inv X pins ((σ.set i (some v1)).set j (some v2)) H1 s3) X.xe { s1 with heap := h' } := by
      refine wpAny_bind (assignInOrder_cons (wpAny_bindName (store_ok I3 hN hj (.inl hy) rw' (fun s2 I4 => ?_) (.inr hy))))
      refine assignInOrder_cons (wpAny_bindName (store_ok I4 hN hi (.inl hx) rv (fun s3 I5 => assignInOrder_nil (wpAny_pure ?_)) (.inr hx)))
      rw [List.set_comm _ _ (Ne.symm hij)] at I5
      exact ⟨rfl, I5⟩
    refine wtk main fun fl s3 hk q => ?_
    exact ⟨q.1, G1, H1, _, g1.nf (NoF.refl _) hk, q.2, ((S.nx0 n1).set p1).set p2⟩
  · cases h
end
end PL

/-! Token-carrying judgements: loops, comprehensions. -/
namespace PL
open PySem PySem.Spec PyProof.Rows L2
section
variable {X : Cx} {T : CT}
theorem thnK {α : Type} {t : Sem α} {Q Q' : α → Shared → Prop} {M : Model} {A : Around} {E : Value → Shared → Prop} {s : Shared} (h : wpAny M A t Q (fun _ _ => False) s) (hQ : ∀ a s', s.toks ≤ s'.toks → Q a s' → Q' a s') : wpAny M A t Q' E s :=
  wpAny_mono (wpAny_toks_of (Nat.le_refl _) h) (fun a s' q => hQ a s' q.1 q.2) fun _ _ z => False.elim z.2
/-- what a loop walks -/
def DIT (X : Cx) (T : CT) (tg iter : Expr) (f : Env → Option (List Dt)) : Prop :=
  ∀ (pins : List (Addr × Obj)) (s : Shared) (σ : L2.St) (G H : Hp) (r : Env) (items : List Dt), TokH H s.toks → Inv X pins σ H s → Fits X.K T G H σ r → f r = some items →
    wpAny (model X.prog X.w) X.A (eval iter X.env) (fun v s1 => wpAny (model X.prog X.w) X.A (pyIter v) (fun itv s2 => ∃ n, n ≤ s2.toks ∧ PIE X pins σ tg (fun J H' => TokH H' n ∧ ∃ G', Nx0 G H G' H' ∧ ItOk X.K T J G' items) itv s2) X.xe s1) X.xe s
theorem DI.t {tg iter : Expr} {f : Env → Option (List Dt)} (h : DI X T tg iter f) : DIT X T tg iter f := by
  intro pins s σ G H r items g I F hf
  obtain ⟨ti, pi, gi⟩ := h.ex
  refine wtk (pi.run pins s σ H (fun J H' => TokH H' s.toks ∧ ∃ G', Nx0 G H G' H' ∧ ItOk X.K T J G' items) I (gi G H σ r items F hf _ fun J G' H' n ok => ⟨g.nf n.nf (Nat.le_refl _), G', n.n0, ok⟩)) fun v s1 hk q => ?_
  exact wtk q fun itv s2 hk2 z => ⟨s.toks, Nat.le_trans hk hk2, z⟩
def fLs (f : Env → Option Dt) : Env → Option (List Dt) := fun r => match f r with
  | some (.lst l) => some l
  | _ => none
theorem dit_list {tg e : Expr} {f : Env → Option Dt} (h : DET X T e f) : DIT X T tg e (fLs f) := by
  intro pins s σ G H r items g I F hf
  unfold fLs at hf
  split at hf
  · rename_i l e1
    cases hf
    refine thn (h pins s σ G H r _ g I F e1) ?_
    rintro v s1 ⟨x, G1, H1, g1, I1, r1, n1, p1⟩
    cases p1 with
    | @lst a xs _ a1 a2 =>
      cases r1
      obtain ⟨its, rv, p, hz⟩ := I1.list (SqL.of (n1.gh _ _ a1))
      refine wpAny_pyIter_list p.isList ?_
      refine ⟨s1.toks, Nat.le_refl _, s1.heap.objs.size, [s1.heap.objs.size], _, _, H1, rfl, I1.kept (t' := s1.toks) fun b o e => Heap.get?_push_of_some _ e, turn_list a _, ⟨_, Heap.get?_push_size _ rfl, rfl, rfl⟩, fun b hb => ?_, g1, G1, n1, itok_list (SqL.of a1) a2⟩
      have e : b = s1.heap.objs.size := by simpa using hb
      subst e
      exact I1.fpOk (Nat.le_refl _) (I1.hok.fresh (Nat.le_refl _))
  · cases hf
theorem MtT.unpin {pins pl : List (Addr × Obj)} {B G0 H0 : Hp} {d : Dt} {fl : Flow} {s' : Shared} (h : MtT X T (pins ++ pl) B G0 H0 (.rt d) fl s') : MtT X T pins B G0 H0 (.rt d) fl s' := by
  obtain ⟨u, v, G', H', σ', e, g, I, q⟩ := h
  exact ⟨u, v, G', H', σ', e, g, I.unpinned, q⟩
theorem dst_for {tg iter : Expr} {body : List Stmt} {f : Env → Option (List Dt)} {t : Dt → Env → Option Env} {b : Env → Option Out} {pos : Pos} (hp : PassesOwn (model X.prog X.w) X.A X.env X.xe) (hc : X.calm = true) (hi : DIT X T tg iter f) (hg : DG X T tg t) (hb : DSTs X T body b) (hs : ∀ x, foldedSetIterable iter X.env x = pure x := by intro _; rfl) :
    DST X T (.For tg iter body [] pos) (fFor f t b) := by
  intro pins s B G0 H0 G H σ r o g I S h
  unfold fFor at h
  cases e1 : f r with
  | none => rw [e1] at h; cases h
  | some items =>
    rw [e1] at h
    replace h : loopF t b items r = some o := h
    obtain ⟨tgr, pg, gg⟩ := hg.ex
    refine wpAny_For (thn (hi pins s σ G H r items g I S.fits e1) fun v s1 h1 => thn h1 fun itv s2 h2 => ?_) hs
    obtain ⟨n0, hn0, it, fp, tn, J, H2, e, I2, W, st2, f2, g2, G2, n2, ok⟩ := h2
    subst e
    have S2 : StT X.K T G2 G0 H0 G2 H2 σ r := ⟨S.fits.nx0 n2, Same.refl _, S.nx.trans n2, S.ow, S.tr.nx0 n2⟩
    have down : ∀ {G3 H3 : Hp} {σ3 : L2.St} {r3 : Env}, StT X.K T G2 G0 H0 G3 H3 σ3 r3 → StT X.K T B G0 H0 G3 H3 σ3 r3 := fun S3 => ⟨S3.fits, S.base.trans (n2.gg.trans S3.base), S3.nx, S3.ow, S3.tr⟩
    have stat : ∀ {H' : Hp}, (∀ b ∈ fp, H' b = none) → ∀ b ∈ fp, FpOk X pins H' b := fun hn b hb => ⟨hn b hb, (f2 b hb).2⟩
    refine codeAny_forLoop_any (fun n s' => ∃ i σ' H' G' r', TokH H' s'.toks ∧ Inv X pins σ' H' s' ∧ tn i s'.heap ∧ (∀ b ∈ fp, H' b = none) ∧ n = items.length - i ∧ i ≤ items.length ∧ StT X.K T G2 G0 H0 G' H' σ' r' ∧ loopF t b (items.drop i) r' = some o) ?_ items.length
      ⟨0, σ, H2, G2, r, g2.nf (NoF.refl _) hn0, I2, st2, fun b hb => (f2 b hb).1, by simp, Nat.zero_le _, S2, by simpa using h⟩
    rintro n s3 ⟨i, σ3, H3, G3, r3, g3, I3, st3, fr3, rfl, hi', S3, hl⟩
    have eG : Same G2 H3 := S3.base.trans S3.fits.gh
    by_cases hlt : i < items.length
    · rw [List.drop_eq_getElem_cons hlt] at hl
      refine wpAny_passesOwn hp (wtk (W.item X rfl rfl rfl hc i pins s3 σ3 H3 X.xe I3 (stat fr3) st3 (ok.goes i H3 hlt eG)) fun rr s4 hk4 q4 => ?_)
      obtain ⟨u, hr, h4⟩ := q4
      subst hr
      refine wpAny_passesOwn hp (wtk h4 fun _ s5 hk5 q5 => ?_)
      obtain ⟨x, H5, I5, r5, y5, st5, fr5⟩ := q5
      obtain ⟨G5, n5, rx⟩ := ok.yields i H3 x H5 items[i] (List.getElem?_eq_getElem hlt) eG y5 G3 S3.base S3.fits.gh
      have g5 : TokH H5 s5.toks := g3.nf n5.nf (Nat.le_trans hk4 hk5)
      have S5 := S3.nx0 n5.n0
      unfold loopF at hl
      split at hl
      · cases hl
      · rename_i r1 ht
        obtain ⟨H1', S1, conv, h0⟩ := S5.here
        have I5' := I5.pinned (stat fr5) (W.obj _ _ st5)
        refine wpAny_passesOwn hp (wtk (pg.run _ s5 σ3 H5 x u (fun σ6 H6 => ∃ G6, St1 X.K T G2 G5 H1' G6 H6 σ6 r1) I5' r5 (gg G2 G5 H1' G5 H5 σ3 r3 x items[i] r1 S1 rx ht _ fun G6 H6 σ6 S6 => ⟨G6, S6⟩)) fun _ s6 hk6 q6 => ?_)
        obtain ⟨σ6, H6, I6, G6, S6⟩ := q6
        obtain ⟨n6, f6⟩ := conv S6.nx
        have g6 : TokH H6 s6.toks := g5.nf f6 hk6
        have S6' := S6.backT h0 n6
        have again : ∀ {σ7 : L2.St} {G7 H7 : Hp} {r7 : Env} {s7 : Shared}, TokH H7 s7.toks → Inv X (pins ++ pinsAt fp s5.heap) σ7 H7 s7 → StT X.K T G2 G0 H0 G7 H7 σ7 r7 → loopF t b (items.drop (i + 1)) r7 = some o →
            ∃ m, m < items.length - i ∧ ∃ i σ' H' G' r', TokH H' s7.toks ∧ Inv X pins σ' H' s7 ∧ tn i s7.heap ∧ (∀ b ∈ fp, H' b = none) ∧ m = items.length - i ∧ i ≤ items.length ∧ StT X.K T G2 G0 H0 G' H' σ' r' ∧ loopF t b (items.drop i) r' = some o := fun {σ7 G7 H7 r7 s7} g7 I7 S7 l7 => by
          refine ⟨items.length - (i + 1), by omega, i + 1, σ7, H7, G7, r7, g7, I7.unpinned, W.keep _ _ _ st5 fun b hb o e => (I7.pin (b, o) (List.mem_append_right _ (List.mem_append_right _ (mem_pinsAt hb e)))).1, fun b hb => ?_, rfl, hlt, S7, l7⟩
          obtain ⟨o, e, d⟩ := W.obj _ _ st5 b hb
          exact (I7.pin (b, o) (List.mem_append_right _ (List.mem_append_right _ (mem_pinsAt hb e)))).2.1
        split at hl
        · rename_i r2 hb2
          refine wpAny_passesOwn hp (thn (hb _ s6 G2 G0 H0 G6 H6 σ6 r1 _ g6 I6 S6' hb2) fun fl s7 q7 => ?_)
          obtain ⟨rfl, G7, H7, σ7, g7, I7, S7⟩ := q7
          exact again g7 I7 S7 hl
        · rename_i r2 hb2
          refine wpAny_passesOwn hp (thn (hb _ s6 G2 G0 H0 G6 H6 σ6 r1 _ g6 I6 S6' hb2) fun fl s7 q7 => ?_)
          obtain ⟨rfl, G7, H7, σ7, g7, I7, S7⟩ := q7
          exact again g7 I7 S7 hl
        · rename_i r2 hb2
          cases hl
          refine wpAny_passesOwn hp (thn (hb _ s6 G2 G0 H0 G6 H6 σ6 r1 _ g6 I6 S6' hb2) fun fl s7 q7 => ?_)
          obtain ⟨rfl, G7, H7, σ7, g7, I7, S7⟩ := q7
          exact ⟨rfl, G7, H7, σ7, g7, I7.unpinned, down S7⟩
        · rename_i d hb2
          cases hl
          refine wpAny_passesOwn hp (thn (hb _ s6 G2 G0 H0 G6 H6 σ6 r1 _ g6 I6 S6' hb2) fun fl s7 q7 => ?_)
          obtain ⟨w, v, G7, H7, σ7, rfl, g7, I7, q⟩ := q7
          exact ⟨w, v, G7, H7, σ7, rfl, g7, I7.unpinned, q⟩
        · cases hl
    · have e : i = items.length := by omega
      subst e
      rw [List.drop_length] at hl
      cases hl
      refine wpAny_passesOwn hp (wtk (W.done X rfl rfl rfl hc items.length pins s3 σ3 H3 X.xe I3 (stat fr3) st3 (ok.stops H3 eG)) fun rr s4 hk4 q4 => ?_)
      obtain ⟨hr, I4⟩ := q4
      subst hr
      exact wpAny_execs_nil ⟨rfl, G3, H3, σ3, g3.nf (NoF.refl _) hk4, I4, down S3⟩
/-- [elt for x in iter], the item carrying tokens -/
theorem det_lc {elt iter : Expr} {x : Str} {px : Pos} {scope : Scope} {own : List (Str × Nat)} {pos : Pos} {f : Env → Option (List Dt)} {e : Env → Option Dt} {j : Nat} (hc : X.calm = true) (hN : X.N.Nodup) (hi : DIT X T (.Name x px) iter f) (ok : BlkOk X.N X.env.scope scope own) (hj : j ∈ own.map (·.2))
    (hg : ∀ (s : Shared) (H : Hp) (C : Addr) (cl : List (Str × Addr)) (fp : List Addr), PG (X.blk s H scope (compEnvC scope cl C X.env) fp) (.Name x px) (gName j))
    (he : ∀ (s : Shared) (H : Hp) (C : Addr) (cl : List (Str × Addr)) (fp : List Addr), DET (X.blk s H scope (compEnvC scope cl C X.env) fp) T elt e) (hs : ∀ x, foldedSetIterable iter X.env x = pure x := by intro _; rfl) :
    DET X T (.ListComp elt [⟨.Name x px, iter, [], 0⟩] scope pos) (fL (fComp f j (own.map (·.2)) fYes e)) := by
  intro pins s σ G H r d g I F h
  unfold fL at h
  cases e0 : fComp f j (own.map (·.2)) fYes e r with
  | none => rw [e0] at h; cases h
  | some total =>
  rw [e0] at h
  cases h
  unfold fComp at e0
  cases e1 : f r with
  | none => rw [e1] at e0; cases e0
  | some items =>
  rw [e1] at e0
  obtain ⟨hlen, h⟩ := ite_opt e0
  have tl : total.length ≤ items.length := compL_len h
  have hfree : ∀ y ∈ scope.names, y.2 = .free → ∃ c, X.env.cells.lookup y.1 = some c := fun y hy e => by
    rcases ok.free y hy e with k | k
    · exact I.ok.has _ (.inl k)
    · exact I.ok.has _ (.inr k)
  rw [eval_ListComp]
  refine wpAny_comprehension_free (use := none) rfl hs (closure_ok hfree) ok.kind (fun y hy e => by rw [ok.uniq y hy, e])
    (thn (hi pins s σ G H r items g I F e1) fun xv s1 hx => thn hx fun itv s2 h2 => ?_)
  obtain ⟨n0, hn0, it, fp, tn, J, H2, e', I2, W, st2, f2, g2, G2, n2, iok⟩ := h2
  subst e'
  refine wpAny_newObj_type (newEnv_comp ?_) (by show 0 ≤ sizeLine; decide)
  generalize hD : s2.heap.objs.size = D
  have hDn : H2 D = none := I2.hok.fresh (Nat.le_of_eq hD)
  have hHD : H D = none := n2.hh.free hDn
  have F2 : Fits X.K T G2 H2 (wipe σ (own.map (·.2))) (wipeE r (own.map (·.2))) := (F.nx0 n2).wipe _
  generalize hs3 : ({ s2 with heap := s2.heap.push { cls := .type "list", data := .seq ([] : List Value).toArray } } : Shared) = s3
  have I3 : Inv X pins σ (upd H2 D (.lst [])) s3 := by
    rw [← hs3]
    refine I2.laid (t' := s2.toks) (fun b o e => Heap.get?_push_of_some _ e) (Nat.le_of_eq hD) ⟨Nat.zero_le _, [], 0, .nil, ?_⟩
    rw [← hD]
    exact Heap.get?_push_size _ rfl
  have h3 : s3.heap = s2.heap.push { cls := .type "list", data := .seq ([] : List Value).toArray } := by rw [← hs3]
  have t3 : s3.toks = s2.toks := by rw [← hs3]
  have sz : ∀ b ∈ fp, b < s2.heap.objs.size := fun b hb => by
    obtain ⟨o, e, _⟩ := W.obj _ _ st2 b hb
    exact Heap.lt_size e
  have f3 : ∀ b ∈ fp, FpOk X pins (upd H2 D (.lst [])) b ∧ b < s3.heap.objs.size := fun b hb => by
    have hlt := sz b hb
    refine ⟨⟨?_, (f2 b hb).2⟩, by rw [h3, Heap.size_push]; exact Nat.lt_succ_of_lt hlt⟩
    rw [upd_ne (by rw [← hD]; exact Nat.ne_of_lt hlt)]
    exact (f2 b hb).1
  have st3 : tn 0 s3.heap := W.keep _ _ _ st2 fun b _ o e => by rw [h3]; exact Heap.get?_push_of_some _ e
  have I4 := block_start I3 ok hN f3
  have pg := hg s3 (upd H2 D (.lst [])) s3.heap.objs.size (cellsFrom (s3.heap.objs.size + 1) scope.names (cloFrom X.env.cells scope.names [])) fp
  have pe := he s3 (upd H2 D (.lst [])) s3.heap.objs.size (cellsFrom (s3.heap.objs.size + 1) scope.names (cloFrom X.env.cells scope.names [])) fp
  show codeAny _ _ (.compStart (.ListComp elt [⟨.Name x px, iter, [], 0⟩] scope pos) 0 (.ref it) (.ref D) (compEnvC scope (cellsFrom (s3.heap.objs.size + 1) scope.names (cloFrom X.env.cells scope.names [])) s3.heap.objs.size X.env)) (compPost (model X.prog X.w) X.A X.xe none (WE X T pins σ G H (.lst total)) (.ref D) s3.heap.objs.size) { s3 with heap := pushCells (s3.heap.push { cls := .type "dict", data := .dict #[] }) scope.names }
  have nfp : ∀ b ∈ fp, (upd H2 D (.lst [])) b = none := fun b hb => (f3 b hb).1.1
  generalize hce : compEnvC scope (cellsFrom (s3.heap.objs.size + 1) scope.names (cloFrom X.env.cells scope.names [])) s3.heap.objs.size X.env = ce at I4 pg pe ⊢
  have cL : ce.locals = s3.heap.objs.size := by subst hce; rfl
  have nD : Nx G2 H2 G2 (upd H2 D (.lst [])) := Nx.newH n2.gh hDn
  have uD : (upd H2 D (.lst [])) D = some (.lst []) := upd_same
  generalize hH3 : upd H2 D (.lst []) = H3 at I3 I4 pg pe nfp f3 nD uD
  generalize hs4 : ({ s3 with heap := pushCells (s3.heap.push { cls := .type "dict", data := .dict #[] }) scope.names } : Shared) = s4 at I4 ⊢
  have t4 : s4.toks = s2.toks := by rw [← hs4]; exact t3
  have st4 : tn 0 s4.heap := W.keep _ _ _ st3 fun b _ o e => by rw [← hs4]; exact pushCells_keeps _ _ _ _ (Heap.get?_push_of_some _ e)
  have stat : ∀ {σ' : L2.St} {H' : Hp} {s' : Shared}, Inv (X.blk s3 H3 scope ce fp) [] σ' H' s' → (∀ b ∈ fp, H' b = none) → ∀ b ∈ fp, FpOk (X.blk s3 H3 scope ce fp) [] H' b := fun {σ' H' s'} I' hn b hb =>
    ⟨hn b hb, (I'.ok.exf b hb).1, I'.ok.exfs b hb, .inl hb, fun x c e => (I'.ok.exf b hb).2 x c e, fun p hp => absurd (show p ∈ ([] : List (Addr × Obj)) ++ [] from hp) (by simp)⟩
  have loop : codeAny (model X.prog X.w) X.A (.compLoop (.ListComp elt [⟨.Name x px, iter, [], 0⟩] scope pos) 0 (.ref it) (.ref D) ce) (compPost (model X.prog X.w) X.A X.xe none (WE X T pins σ G H (.lst total)) (.ref D) s3.heap.objs.size) s4 := by
    refine compLoop_any (fun n s' => ∃ i H' G' acc dsA dsB, TokH H' s'.toks ∧ Inv (X.blk s3 H3 scope ce fp) [] (wipe σ (own.map (·.2))) H' s' ∧ tn i s'.heap ∧ (∀ b ∈ fp, H' b = none) ∧ n = items.length - i ∧ i ≤ items.length ∧ Nx0 G2 H2 G' H' ∧ G' D = none ∧ H' D = some (.lst acc) ∧ RpA X.K T G' acc dsA ∧ compL j fYes e (items.drop i) (wipeE r (own.map (·.2))) = some dsB ∧ dsA ++ dsB = total) ?_ items.length
      ⟨0, H3, G2, [], [], total, g2.nf nD.nf (by rw [t4]; exact hn0), I4, st4, nfp, by simp, Nat.zero_le _, nD.n0, n2.gh.free hDn, uD, .nil, by simpa using h, rfl⟩
    rintro n s5 ⟨i, H5, G5, acc, dsA, dsB, g5, I5, st5, n5, rfl, hi', nx5, hGD, hHD5, ra, hcm, happ⟩
    have eG : Same G2 H5 := nx5.gg.trans nx5.gh
    by_cases hlt : i < items.length
    · have ti := W.item (X.blk s3 H3 scope ce fp) rfl rfl rfl hc i [] s5 _ H5 (fun _ _ => False) I5 (stat I5 n5) st5 (iok.goes i H5 hlt eG)
      refine thnK ti fun rr s6 hk6 q6 => ?_
      obtain ⟨u, hr, h6⟩ := q6
      subst hr
      refine thnK h6 fun _ s7 hk7 q7 => ?_
      obtain ⟨xv, H7, I7, r7, y7, st7, n7⟩ := q7
      obtain ⟨G7, nx7, rx⟩ := iok.yields i H5 xv H7 items[i] (List.getElem?_eq_getElem hlt) eG y7 G5 nx5.gg nx5.gh
      have g7 : TokH H7 s7.toks := g5.nf nx7.nf (Nat.le_trans hk6 hk7)
      have hGD7 : G7 D = none := nx7.out hGD hHD5
      have hHD7 : H7 D = some (.lst acc) := nx7.hh _ _ hHD5
      have I7' := I7.pinned (stat I7 n7) (W.obj _ _ st7)
      rw [List.drop_eq_getElem_cons hlt] at hcm
      unfold compL at hcm
      have accl : acc.length < sizeLine := by
        have e1 := ra.length
        have e2 : dsA.length ≤ total.length := by rw [← happ, List.length_append]; omega
        have : (100000 : Nat) < sizeLine := by decide
        omega
      have pgr := pg.run _ s7 _ H7 xv u (fun σ8 H8 => σ8 = (wipe σ (own.map (·.2))).set j (some xv) ∧ H8 = H7) I7' r7 ⟨rfl, rfl⟩
      refine thnK pgr fun _ s8 hk8 q8 => ?_
      obtain ⟨σ8, H8, I8, rfl, rfl⟩ := q8
      refine wpAny_tests_nil ?_
      rw [if_pos rfl]
      have pin' : ∀ {σ' : L2.St} {H' : Hp} {s' : Shared}, Inv (X.blk s3 H3 scope ce fp) ([] ++ pinsAt fp s7.heap) σ' H' s' → ∀ b ∈ fp, ∀ o, s7.heap.get? b = some o → s'.heap.get? b = some o ∧ H' b = none := fun I' b hb o e =>
        let z := I'.pin (b, o) (List.mem_append_right _ (List.mem_append_right _ (mem_pinsAt hb e)))
        ⟨z.1, z.2.1⟩
      split at hcm
      · split at hcm
        · rename_i d' he'
          split at hcm
          · rename_i ds hrest
            cases hcm
            refine thnF (pe _ s8 _ G7 H8 _ d' (g7.nf (NoF.refl _) hk8) I8 (((F2.nx0 nx5).nx nx7).set rx) he') ?_
            rintro z s10 ⟨yv, G10, H10, g10, I10, r10, nx10, p10⟩
            have hD10 : H10 D = some (.lst acc) := nx10.hh _ _ hHD7
            have hGD10 : G10 D = none := nx10.out hGD7 hHD7
            refine thnK (app_ok (X := X.blk s3 H3 scope ce fp) (Q := fun _ s11 => Inv (X.blk s3 H3 scope ce fp) ([] ++ pinsAt fp s7.heap) _ (upd H10 D (.lst (acc ++ [yv]))) s11) I10 hD10 accl r10 fun s11 I11 => I11) fun _ s11 hk11 I11 => ?_
            have n14 := (nx5.trans nx7.n0).trans nx10
            refine ⟨items.length - (i + 1), by omega, i + 1, upd H10 D (.lst (acc ++ [yv])), G10, acc ++ [yv], dsA ++ [d'], ds, g10.nf (NoF.upd (fun _ _ z => by cases z)) hk11, (I11.unpinned (pins := [])).weak (by rw [List.length_set]) (fun k v e => ?_), W.keep _ _ _ st7 fun b hb o e => (pin' I11 b hb o e).1, fun b hb => ?_, rfl, hlt,
              ⟨n14.gg, fun b o hb => ?_, same_updR n14.gh hGD10, n14.fr⟩, hGD10, upd_same, (RpA.mono (nx7.gg.trans nx10.gg) _ ra).append (.cons p10 .nil), hrest, by rw [List.append_assoc]; exact happ⟩
            · have hw8 : wipe ((wipe σ (own.map (·.2))).set j (some xv)) (own.map (·.2)) = wipe σ (own.map (·.2)) := wipe_set hj
              rw [← hw8] at e
              exact (wipe_some e).1
            · obtain ⟨o, e, _⟩ := W.obj _ _ st7 b hb
              exact (pin' I11 b hb o e).2
            · rw [upd_ne (ne_of_none hb hDn)]
              exact n14.hh _ _ hb
          · cases hcm
        · cases hcm
      · rename_i hb
        cases hb
      · cases hcm
    · have e : i = items.length := by omega
      subst e
      rw [List.drop_length] at hcm
      cases hcm
      rw [List.append_nil] at happ
      subst happ
      have td := W.done (X.blk s3 H3 scope ce fp) rfl rfl rfl hc items.length [] s5 _ H5 (fun _ _ => False) I5 (stat I5 n5) st5 (iok.stops H5 eG)
      refine thnK td fun rr s6 hk6 q6 => ?_
      obtain ⟨hr, I6⟩ := q6
      subst hr
      have I7 : Inv X pins σ H5 s6 := I3.call' (ch := fp) I6.os I6.base I6.hok I6.bare fun b hb => ⟨(f3 b hb).1.2.2.2.1, (f3 b hb).1.2.1, (f3 b hb).1.2.2.2.2.1, (f3 b hb).1.2.2.2.2.2⟩
      have nC : H5 s3.heap.objs.size = none := by
        have z : H5 ce.locals = none := I6.free
        rw [cL] at z
        exact z
      obtain ⟨m, hn, _⟩ := I6.loc
      have hn : s6.heap.Ns ce.locals m := hn
      rw [cL] at hn
      obtain ⟨f0, f1, f2', f3', f4, f5⟩ := I3.fpOk (Nat.le_refl _) nC
      have nn := n2.trans nx5
      refine ⟨m, hn, fun h'' sb => ⟨.ref D, upd G5 D (.lst acc), H5, g5.nf (NoF.refl _) hk6, I7.turned (t' := s6.toks) (fun b o hb e => (sb.2 b hb).trans e) f0 f1 f3' f4 f5, rfl, ⟨nn.gg.trans (same_new hGD), nn.hh, same_updL nn.gh hHD5, fun a => ?_⟩, .lst upd_same (RpA.mono (same_new hGD) _ ra)⟩⟩
      by_cases ha : a = D
      · exact .inr (.inr (by rw [ha]; exact .inl hHD))
      · rw [upd_ne ha]
        exact nn.fr a
  exact codeAny_compStart_list loop (W.self X.A 0 _ _ _ st4 loop)
end
end PL

/-! Token-carrying judgements: defs that answer data or refuse, their calls, raise. -/
namespace PL
open PySem PySem.Spec PyProof.Rows L2
section
variable {P : Program} {w : World} {K : PySem.W.Frag} {mg : Str → Option Value} {base : Heap} {T : CT}
/-- what a call leaves: data, or a refusal of the class c -/
def CRT (os : List PySem.Env) (P : Program) (w : World) (K : PySem.W.Frag) (T : CT) (G H : Hp) (s : Shared) (res : Except Nat Dt) (r : Result) (s' : Shared) : Prop := match r, res with
  | .ok (.ret u), .ok d => ∃ v G' H', s'.os = s.os ∧ AllBare s'.gens ∧ Un (frs os) [] H H' s.heap s'.heap ∧ HOk P w H' s'.heap ∧ RelV v u ∧ TokH H' s'.toks ∧ Nx0 G H G' H' ∧ Rp K T G' v d
  | .error e, .error c => ∃ n, n ≤ s'.toks ∧ L2.CX P w os H s (fun cls dd H' => cls = .ref (T c).1 ∧ dd = none ∧ ∃ G', TokH H' n ∧ Nx0 G H G' H') e s'
  | _, _ => False
structure FnX (P : Program) (w : World) (K : PySem.W.Frag) (mg : Str → Option Value) (base : Heap) (T : CT) (k : Nat) (f : Addr) (fd : FuncData) (ps : List Str) (g : List Dt → Option (Except Nat Dt)) : Prop where
  len : ∀ ds res, g ds = some res → ds.length = ps.length
  go : ∀ (A : Around) (os : List PySem.Env) (s : Shared) (G H : Hp) (args : Args) (us : List Value) (vs : List V) (ds : List Dt) (res : Except Nat Dt), A.guards = some [] → Room k A → Env0 P w K mg base A os s H → BindsTo s fd args (ps.zip us) → Vals vs us → TokH H s.toks → Same G H → RpA K T G vs ds → g ds = some res →
    codeAny (model P w) A (.call (.ref f) args) (CRT os P w K T G H s res) s
end

/-! ### raising, in the context -/
section
variable {X : Cx} {T : CT}
/-- in the air, the slots as they were: ahead of a refusal of the class c -/
def XF (X : Cx) (T : CT) (σ : L2.St) (G H : Hp) (c : Nat) (u : Value) (s' : Shared) : Prop :=
  ∃ n, n ≤ s'.toks ∧ XE X (fun cls d σ' H' => cls = .ref (T c).1 ∧ d = none ∧ σ' = σ ∧ ∃ G', TokH H' n ∧ Nx0 G H G' H') u s'
def DEX (X : Cx) (T : CT) (e : Expr) (f : Env → Option (Except Nat Dt)) : Prop :=
  ∀ (pins : List (Addr × Obj)) (s : Shared) (σ : L2.St) (G H : Hp) (r : Env) (res : Except Nat Dt) (Q : Value → Shared → Prop) (E : Value → Shared → Prop), TokH H s.toks → Inv X pins σ H s → Fits X.K T G H σ r → f r = some res →
    (∀ d u s', res = .ok d → WE X T pins σ G H d u s' → Q u s') → (∀ c u s', res = .error c → XF X T σ G H c u s' → E u s') → wpAny (model X.prog X.w) X.A (eval e X.env) Q E s
/-- a statement's refusal: with the names as they stand -/
def XS (X : Cx) (T : CT) (B G0 H0 : Hp) (c : Nat) (r' : Env) (u : Value) (s' : Shared) : Prop :=
  ∃ n, n ≤ s'.toks ∧ XE X (fun cls d σ' H' => cls = .ref (T c).1 ∧ d = none ∧ ∃ G', TokH H' n ∧ StT X.K T B G0 H0 G' H' σ' r') u s'
abbrev OutX := Except (Nat × Env) Out
def DSX (X : Cx) (T : CT) (st : Stmt) (g : Env → Option OutX) : Prop :=
  ∀ (pins : List (Addr × Obj)) (s : Shared) (B G0 H0 G H : Hp) (σ : L2.St) (r : Env) (o : OutX) (Q : Flow → Shared → Prop) (E : Value → Shared → Prop), TokH H s.toks → Inv X pins σ H s → StT X.K T B G0 H0 G H σ r → g r = some o →
    (∀ out fl s', o = .ok out → MtT X T pins B G0 H0 out fl s' → Q fl s') → (∀ c r' u s', o = .error (c, r') → XS X T B G0 H0 c r' u s' → E u s') → wpAny (model X.prog X.w) X.A (exec st X.env) Q E s
def DSXs (X : Cx) (T : CT) (sts : List Stmt) (g : Env → Option OutX) : Prop :=
  ∀ (pins : List (Addr × Obj)) (s : Shared) (B G0 H0 G H : Hp) (σ : L2.St) (r : Env) (o : OutX) (Q : Flow → Shared → Prop) (E : Value → Shared → Prop), TokH H s.toks → Inv X pins σ H s → StT X.K T B G0 H0 G H σ r → g r = some o →
    (∀ out fl s', o = .ok out → MtT X T pins B G0 H0 out fl s' → Q fl s') → (∀ c r' u s', o = .error (c, r') → XS X T B G0 H0 c r' u s' → E u s') → wpAny (model X.prog X.w) X.A (execs sts X.env) Q E s
theorem toE {α : Type} {t : Sem α} {Q Q' : α → Shared → Prop} {M : Model} {A : Around} {E E' : Value → Shared → Prop} {s : Shared} (hx : ∀ u s, ¬ E u s) (h : wpAny M A t Q E s) (hQ : ∀ a s, Q a s → Q' a s) : wpAny M A t Q' E' s := wpAny_mono h hQ fun _ _ z => absurd z (hx _ _)
theorem XS.same {B G0 H0 G H : Hp} {σ : L2.St} {r : Env} (S : StT X.K T B G0 H0 G H σ r) {c : Nat} {u : Value} {s' : Shared} (h : XF X T σ G H c u s') : XS X T B G0 H0 c r u s' := by
  obtain ⟨n, hn, a, B', sI, pins, σ', H', cls, d, e, I, nb, up, sky, na, os, ag, e1, e2, e3, G', tk, nx⟩ := h
  exact ⟨n, hn, a, B', sI, pins, σ', H', cls, d, e, I, nb, up, sky, na, os, ag, e1, e2, G', tk, by rw [e3]; exact S.nx0 nx⟩

def fOkE (f : Env → Option Dt) : Env → Option (Except Nat Dt) := fun r => (f r).map .ok
theorem dex_ok {e : Expr} {f : Env → Option Dt} (hx : ∀ u s, ¬ X.xe u s) (h : DET X T e f) : DEX X T e (fOkE f) := by
  intro pins s σ G H r res Q E g I F hf hQ hE
  unfold fOkE at hf
  cases e1 : f r with
  | none => rw [e1] at hf; cases hf
  | some d =>
    rw [e1] at hf
    cases hf
    exact toE hx (h pins s σ G H r d g I F e1) fun u s' q => hQ d u s' rfl q
def fOkS (a : Env → Option Out) : Env → Option OutX := fun r => (a r).map .ok
theorem dsx_ok {st : Stmt} {a : Env → Option Out} (hx : ∀ u s, ¬ X.xe u s) (h : DST X T st a) : DSX X T st (fOkS a) := by
  intro pins s B G0 H0 G H σ r o Q E g I S hf hQ hE
  unfold fOkS at hf
  cases e1 : a r with
  | none => rw [e1] at hf; cases hf
  | some d =>
    rw [e1] at hf
    cases hf
    exact toE hx (h pins s B G0 H0 G H σ r d g I S e1) fun u s' q => hQ d u s' rfl q
theorem dsxs_ok {st : List Stmt} {a : Env → Option Out} (hx : ∀ u s, ¬ X.xe u s) (h : DSTs X T st a) : DSXs X T st (fOkS a) := by
  intro pins s B G0 H0 G H σ r o Q E g I S hf hQ hE
  unfold fOkS at hf
  cases e1 : a r with
  | none => rw [e1] at hf; cases hf
  | some d =>
    rw [e1] at hf
    cases hf
    exact toE hx (h pins s B G0 H0 G H σ r d g I S e1) fun u s' q => hQ d u s' rfl q
/-- where nothing is refused -/
theorem dst_of {st : Stmt} {a : Env → Option Out} {g : Env → Option OutX} (h : DSX X T st g) (ha : ∀ r o, a r = some o → g r = some (.ok o)) : DST X T st a := by
  intro pins s B G0 H0 G H σ r o g I S e
  exact h pins s B G0 H0 G H σ r (.ok o) _ _ g I S (ha r o e) (fun out fl s' e q => by cases e; exact q) (fun c r' u s' e => by cases e)
theorem dsxs_nil : DSXs X T [] (fun r => some (.ok (.nx r))) := by
  intro pins s B G0 H0 G H σ r o Q E g I S e hQ hE
  cases e
  exact wpAny_execs_nil (hQ _ _ _ rfl ⟨rfl, G, H, σ, g, I, S⟩)
def fSeqX (a b : Env → Option OutX) : Env → Option OutX := fun r => match a r with
  | some (.ok (.nx r')) => b r'
  | o => o
theorem dsxs_cons {st : Stmt} {rest : List Stmt} {a b : Env → Option OutX} (h1 : DSX X T st a) (h2 : DSXs X T rest b) : DSXs X T (st :: rest) (fSeqX a b) := by
  intro pins s B G0 H0 G H σ r o Q E g I S e hQ hE
  unfold fSeqX at e
  cases e1 : a r with
  | none => rw [e1] at e; cases e
  | some o1 =>
    rw [e1] at e
    refine wpAny_execs_cons (h1 pins s B G0 H0 G H σ r o1 _ _ g I S e1 (fun out fl s1 eo q => ?_) fun c r' u s' eo q => ?_)
    · subst eo
      cases out with
      | nx r' =>
        obtain ⟨rfl, G1, H1, σ1, g1, I1, S1⟩ := q
        exact h2 pins s1 B G0 H0 G1 H1 σ1 r' o Q E g1 I1 S1 e hQ hE
      | rt d =>
        cases e
        obtain ⟨u, v, G1, H1, σ1, rfl, q⟩ := q
        exact hQ _ _ _ rfl ⟨u, v, G1, H1, σ1, rfl, q⟩
      | bk r' =>
        cases e
        obtain ⟨rfl, q⟩ := q
        exact hQ _ _ _ rfl ⟨rfl, q⟩
      | ct r' =>
        cases e
        obtain ⟨rfl, q⟩ := q
        exact hQ _ _ _ rfl ⟨rfl, q⟩
    · subst eo
      cases e
      exact hE _ _ _ _ rfl q
def fIfX (c : Env → Option Bool) (a b : Env → Option OutX) : Env → Option OutX := fun r => match c (frzE r) with
  | some true => a r
  | some false => b r
  | none => none
theorem dsx_if {c : Expr} {a b : List Stmt} {fc : Env → Option Bool} {fa fb : Env → Option OutX} {pos : Pos} (hx : ∀ u s, ¬ X.xe u s) (hc : DTT X T c fc) (ha : DSXs X T a fa) (hb : DSXs X T b fb) : DSX X T (.If c a b pos) (fIfX fc fa fb) := by
  intro pins s B G0 H0 G H σ r o Q E g I S e hQ hE
  unfold fIfX at e
  split at e
  · rename_i e1
    refine wpAny_If (toE hx (hc pins s σ H H (frzE r) true g I S.fits.frz e1) ?_)
    rintro k s1 ⟨rfl, G1, H1, g1, I1, n1⟩
    exact ha pins s1 B G0 H0 G H1 σ r o Q E g1 I1 (S.grow n1.hh) e hQ hE
  · rename_i e1
    refine wpAny_If (toE hx (hc pins s σ H H (frzE r) false g I S.fits.frz e1) ?_)
    rintro k s1 ⟨rfl, G1, H1, g1, I1, n1⟩
    exact hb pins s1 B G0 H0 G H1 σ r o Q E g1 I1 (S.grow n1.hh) e hQ hE
  · cases e
def fRetX (f : Env → Option (Except Nat Dt)) : Env → Option OutX := fun r => match f r with
  | some (.ok d) => some (.ok (.rt d))
  | some (.error c) => some (.error (c, r))
  | none => none
theorem dsx_ret {e : Expr} {f : Env → Option (Except Nat Dt)} {pos : Pos} (he : DEX X T e f) : DSX X T (.Return (some e) pos) (fRetX f) := by
  intro pins s B G0 H0 G H σ r o Q E g I S h hQ hE
  unfold fRetX at h
  split at h
  · rename_i d e1
    cases h
    refine wpAny_Return_some (he pins s σ G H r _ _ _ g I S.fits e1 (fun d' u s' ed q => ?_) fun c u s' ec => by cases ec)
    cases ed
    obtain ⟨xv, G1, H1, g1, I1, r1, n1, p1⟩ := q
    exact hQ _ _ _ rfl ⟨u, xv, G1, H1, σ, rfl, g1, I1, r1, S.nx.trans n1, p1⟩
  · rename_i c e1
    cases h
    refine wpAny_Return_some (he pins s σ G H r _ _ _ g I S.fits e1 (fun d' u s' ed => by cases ed) fun c' u s' ec q => ?_)
    cases ec
    exact hE _ _ _ _ rfl (XS.same S q)
  · cases h
def fDropX (f : Env → Option (Except Nat Dt)) : Env → Option OutX := fun r => match f r with
  | some (.ok d) => some (.ok (.nx r))
  | some (.error c) => some (.error (c, r))
  | none => none
theorem dsx_expr {e : Expr} {f : Env → Option (Except Nat Dt)} {pos : Pos} (he : DEX X T e f) (hs : swapsWith e none pos.line X.env = pure false := by rfl) : DSX X T (.Expr e pos) (fDropX f) := by
  intro pins s B G0 H0 G H σ r o Q E g I S h hQ hE
  unfold fDropX at h
  split at h
  · rename_i d e1
    cases h
    refine wpAny_Expr_any (he pins s σ G H r _ _ _ g I S.fits e1 (fun d' u s' ed q => ?_) fun c u s' ec => by cases ec) I.quiet hs
    cases ed
    obtain ⟨xv, G1, H1, g1, I1, r1, n1, p1⟩ := q
    exact hQ _ _ _ rfl ⟨rfl, G1, H1, σ, g1, I1, S.nx0 n1⟩
  · rename_i c e1
    cases h
    refine wpAny_Expr_any (he pins s σ G H r _ _ _ g I S.fits e1 (fun d' u s' ed => by cases ed) fun c' u s' ec q => ?_) I.quiet hs
    cases ec
    exact hE _ _ _ _ rfl (XS.same S q)
  · cases h
end

/-! ### the body of a def -/
section
variable {P : Program} {w : World} {K : PySem.W.Frag} {mg : Str → Option Value} {base : Heap} {T : CT}
def runX (n m : Nat) (g : Env → Option OutX) (ds : List Dt) : Option (Except Nat Dt) := if ds.length = n then
    (match g (ds.map Sl.val ++ List.replicate m Sl.no) with
      | some (.ok (.rt d)) => some (.ok d)
      | some (.ok (.nx _)) => some (.ok .non)
      | some (.error (c, _)) => some (.error c)
      | _ => none)
  else none
theorem runX_len {n m : Nat} {g : Env → Option OutX} {ds : List Dt} {res : Except Nat Dt} (h : runX n m g ds = some res) : ds.length = n := by
  unfold runX at h
  split at h
  · assumption
  · cases h
theorem okX {x qual : Str} {st : Stmt} {f : Addr} {fd : FuncData} {N ps : List Str} {k m : Nat} {g : Env → Option OutX} (F : Fun K x qual st f fd) (S : FnScope N ps (defScope st)) (hm : N.length = ps.length + m)
    (hb : ∀ (cdv : Value) (A : Around) (os : List PySem.Env) (s : Shared) (H : Hp) (E : XK), (A.deeper (envOfC qual (defScope st) s.heap.objs.size f cdv)).guards = some [] → Room k (A.deeper (envOfC qual (defScope st) s.heap.objs.size f cdv)) → DSXs (cxOf (L2.CX P w) P w K mg base N qual (defScope st) f cdv A os s H E).nox T (defBody st) g) :
    FnX P w K mg base T (k + 1) f fd ps (runX ps.length m g) := by
  obtain ⟨oc, od, kV, doc, pm, an, cdv, ct, osl, rfl, lk, hcd⟩ := F.ex
  refine ⟨fun ds res h => runX_len h, fun A os s G H args us vs ds res gd room en bd vals tk gh rp hg => ?_⟩
  have hl := runX_len hg
  have hvl : vs.length = ps.length := by rw [rp.length]; exact hl
  have kin : K.In s.heap := en.mod.kin.keeps fun c o q => (en.bs c o q).1
  have nol : s.heap.NoLimit := en.mod.nolimit.keeps fun c o q => (en.bs c o q).1
  have kinds : ∀ z ∈ ps.zip us, (defScope st).names.lookup z.1 = some .local ∨ ((defScope st).names.lookup z.1 = some .cell ∧ ((cellsFrom (s.heap.objs.size + 1) (defScope st).names []).lookup z.1).isSome = true) := by
    rintro ⟨n, v⟩ hz
    cases S.par n (List.of_mem_zip hz).1 with
    | inl q => exact .inl q
    | inr q => exact .inr ⟨q, PySem.W.cellsFrom_some _ _ _ (.inl q)⟩
  obtain ⟨E, hEE⟩ : ∃ E : XK, E = fun cls dd H' => cls = .ref (T 0).1 := ⟨_, rfl⟩
  refine codeAny_call_function room.depth (kin _ _ lk) rfl S.co S.gen rfl (PySem.W.codeRec_of kin hcd) (bd _ _ _ _ ?_)
  refine wtk (wpAny_newFunctionEnv_cells (Q := fun e s1 => e = envOfC qual (defScope st) s.heap.objs.size f cdv ∧ InCallC s s.heap.objs.size (bindL (envOfC qual (defScope st) s.heap.objs.size f cdv).kindOf (ps.zip us) fun _ => none) (cellsFrom (s.heap.objs.size + 1) (defScope st).names []) (bindC (envOfC qual (defScope st) s.heap.objs.size f cdv).kindOf (ps.zip us) fun _ => none) s1) S.kind kinds fun e he s1 xx => by subst he; exact ⟨rfl, xx⟩) ?_
  rintro e s1 hk ⟨rfl, xx⟩
  refine ⟨nol.keeps xx.toInCall.keep, codeAny_func ?_⟩
  have J0 : Inv (cxOf (L2.CX P w) P w K mg base N qual (defScope st) f cdv A os s H E) [] (L2.start N vs) H s1 := inv_start S room.hd en hvl vals xx
  have J := J0.wish fun _ _ => False
  have body := hb cdv A os s H E gd (room.deeper _)
  unfold runX at hg
  rw [if_pos hl] at hg
  have S0 := (entry (K := K) (T := T) (N := N) (m := m) gh rp (by omega)).toT
  cases eo : g (ds.map Sl.val ++ List.replicate m Sl.no) with
  | none => rw [eo] at hg; cases hg
  | some o =>
    rw [eo] at hg
    refine body [] s1 G G H G H (L2.start N vs) _ o _ _ (tk.nf (NoF.refl H) hk) J S0 eo (fun out fl s' e1 q => ?_) fun c r' u s' e1 q => ?_
    · subst e1
      cases out with
      | nx r' =>
        cases hg
        obtain ⟨rfl, G', H', σ', g', I', S'⟩ := q
        exact ⟨.non, G', H', I'.os, I'.bare, I'.base, I'.hok, rfl, g', S'.nx, .non⟩
      | rt d =>
        cases hg
        obtain ⟨u, v, G', H', σ', rfl, g', I', rv, n', p'⟩ := q
        exact ⟨v, G', H', I'.os, I'.bare, I'.base, I'.hok, rv, g', n', p'⟩
      | bk r' => cases hg
      | ct r' => cases hg
    · subst e1
      cases hg
      obtain ⟨n, hn, x⟩ := q
      have lv := XE.leave (E := fun cls dd H' => cls = .ref (T c).1 ∧ dd = none ∧ ∃ G', TokH H' n ∧ Nx0 G H G' H') (E₁ := fun _ _ => False) rfl rfl rfl (fun cls d σ H' ⟨h1, h2, G', h3, h4⟩ => ⟨h1, h2, G', h3, h4.nx⟩) x
      exact wpAny_mono (wpAny_toks_of hn lv) (fun _ s'' z => ⟨n, z.1, z.2⟩) fun _ _ z => z.2.elim
structure CalleeX (P : Program) (w : World) (K : PySem.W.Frag) (mg : Str → Option Value) (base : Heap) (T : CT) (k : Nat) (x : Str) (g : List Dt → Option (Except Nat Dt)) : Prop where
  ex : ∃ (f : Addr) (fd : FuncData) (ps : List Str), FnX P w K mg base T k f fd ps g ∧ mg x = some (.ref f) ∧ PySem.W.keepIn K (.ref f) = true ∧ Binds K fd ps []
theorem calleeX_of {x qual y : Str} {st : Stmt} {f : Addr} {fd : FuncData} {ps : List Str} {k : Nat} {g : List Dt → Option (Except Nat Dt)} (F : Fun K y qual st f fd) (O : FnX P w K mg base T k f fd ps g) (hm : mg x = some (.ref f)) (hb : Binds K fd ps []) : CalleeX P w K mg base T k x g :=
  ⟨f, fd, ps, O, hm, F.kp, hb⟩
end
section
variable {X : Cx} {T : CT}
theorem run_fnX {k : Nat} {f : Addr} {fd : FuncData} {ps : List Str} {g : List Dt → Option (Except Nat Dt)} {pins : List (Addr × Obj)} {σ : L2.St} {G H : Hp} {s : Shared} {Q E : Value → Shared → Prop} {us : List Value} {vs : List V} {ds : List Dt} {res : Except Nat Dt} (F : FnX X.prog X.w X.K X.mg X.base T k f fd ps g) (hg : X.A.guards = some []) (hr : Room k X.A) (hb : Binds X.K fd ps []) (I : Inv X pins σ H s) (tk : TokH H s.toks) (gh : Same G H) (r : Vals vs us) (rp : RpA X.K T G vs ds) (h : g ds = some res)
    (hQ : ∀ d u s', res = .ok d → WE X T pins σ G H d u s' → Q u s') (hE : ∀ c u s', res = .error c → XF X T σ G H c u s' → E u s') : wpAny (model X.prog X.w) X.A (call (.ref f) us) Q E s := by
  have hl : us.length = ps.length := by rw [← r.length, rp.length]; exact F.len _ _ h
  have bd := hb s us I.kIn (by rw [List.append_nil]; exact hl)
  rw [List.append_nil] at bd
  refine wpAny_call (codeAny_mono (F.go X.A X.stack s G H ⟨us, []⟩ us vs ds res hg hr I.env0 bd r tk gh rp h) ?_)
  intro z s' hz
  cases z with
  | ok fl =>
    cases fl with
    | ret u =>
      cases res with
      | ok d =>
        obtain ⟨v, G', H', os, bare, un, hok, rv, tk', nx, rp'⟩ := hz
        obtain ⟨v2, H2, I2, rv2, rfl, rfl⟩ := I.after (Q := fun a b => a = v ∧ b = H') (u := u) ⟨v, H', os, bare, un, hok, rv, rfl, rfl⟩
        exact hQ d u s' rfl ⟨_, G', _, tk', I2, rv2, nx, rp'⟩
      | error c => exact hz.elim
    | next => cases res <;> exact hz.elim
    | brk => cases res <;> exact hz.elim
    | cont => cases res <;> exact hz.elim
  | error e =>
    cases res with
    | ok d => exact hz.elim
    | error c =>
      obtain ⟨n, hn, x⟩ := hz
      exact hE c e s' rfl ⟨n, hn, XE.of_call I (fun cls d H' ⟨h1, h2, G', h3, h4⟩ => ⟨h1, h2, rfl, G', h3, h4⟩) x⟩
def fCallX (g : List Dt → Option (Except Nat Dt)) (fa : Env → Option (List Dt)) : Env → Option (Except Nat Dt) := fun r => (fa r).bind g
theorem dex_call {x : Str} {k : Nat} {g : List Dt → Option (Except Nat Dt)} {p pos : Pos} {e : Expr} {es : List Expr} {fa : Env → Option (List Dt)} (C : CalleeX X.prog X.w X.K X.mg X.base T k x g) (hx : ∀ u s, ¬ X.xe u s) (gd : X.A.guards = some []) (hr : Room k X.A) (ha : DAT X T (e :: es) fa) (hg : Gl X x := by rfl)
    (hdb : (x == ("__debug__" : Str)) = false := by decide +kernel) (he : starEach (e :: es) X.env = (false, eval e X.env) :: starEach es X.env := by rfl) (hpl : (backTo pos (starEach es X.env)).any (·.1) = false := by rfl) : DEX X T (.Call (.Name x p) (e :: es) [] pos) (fCallX g fa) := by
  obtain ⟨f, fd, ps, O, hm, hk, hb⟩ := C.ex
  intro pins s σ G H r res Q E tk I F h hQ hE
  unfold fCallX at h
  cases e1 : fa r with
  | none => rw [e1] at h; cases h
  | some ds =>
    rw [e1] at h
    replace h : g ds = some res := h
    refine wpAny_Call_Name_kw (ld_glob I hg hm (PySem.W.callWith_K (h₀ := X.base) I.ok.mod.kin hk (toE hx (ha pos pins s σ G H r ds tk I F e1) ?_) he hpl) hdb)
    rintro us s1 ⟨vs, G1, H1, tk1, I1, rv, n1, rp⟩
    refine ⟨I1.kIn, run_fnX O gd hr hb I1 tk1 n1.gh rv rp h (fun d u s' e q => hQ d u s' e ?_) fun c u s' e q => hE c u s' e ?_⟩
    · obtain ⟨v, G2, H2, g2, I2, r2, n2, p2⟩ := q
      exact ⟨v, G2, H2, g2, I2, r2, n1.trans n2, p2⟩
    · obtain ⟨n, hn, a, B', sI, pins, σ', H', cls, d, e, I, nb, up, sky, na, os, ag, e1, e2, e3, G', tk, nx⟩ := q
      exact ⟨n, hn, a, B', sI, pins, σ', H', cls, d, e, I, nb, up, sky, na, os, ag, e1, e2, e3, G', tk, n1.trans nx⟩
theorem dex_call0 {x : Str} {k : Nat} {g : List Dt → Option (Except Nat Dt)} {p pos : Pos} (C : CalleeX X.prog X.w X.K X.mg X.base T k x g) (gd : X.A.guards = some []) (hr : Room k X.A) (hg : Gl X x := by rfl)
    (hdb : (x == ("__debug__" : Str)) = false := by decide +kernel) : DEX X T (.Call (.Name x p) [] [] pos) (fun _ => g []) := by
  obtain ⟨f, fd, ps, O, hm, hk, hb⟩ := C.ex
  intro pins s σ G H r res Q E tk I F h hQ hE
  refine wpAny_Call_Name_kw (ld_glob I hg hm (PySem.W.callWith_K0 I.kIn hk ?_) hdb)
  exact run_fnX (us := []) O gd hr hb I tk F.gh .nil .nil h hQ hE
def okOf (g : List Dt → Option (Except Nat Dt)) : List Dt → Option Dt := fun ds => match g ds with
  | some (.ok d) => some d
  | _ => none
def okE (f : Env → Option (Except Nat Dt)) : Env → Option Dt := fun r => match f r with
  | some (.ok d) => some d
  | _ => none
theorem det_okE {e : Expr} {f : Env → Option (Except Nat Dt)} (h : DEX X T e f) : DET X T e (okE f) := by
  intro pins s σ G H r d g I F hf
  unfold okE at hf
  split at hf
  · rename_i d' e1
    cases hf
    exact h pins s σ G H r _ _ _ g I F e1 (fun d u s' e q => by cases e; exact q) fun c u s' e => by cases e
  · cases hf
theorem det_callX {x : Str} {k : Nat} {g : List Dt → Option (Except Nat Dt)} {p pos : Pos} {e : Expr} {es : List Expr} {fa : Env → Option (List Dt)} (C : CalleeX X.prog X.w X.K X.mg X.base T k x g) (hx : ∀ u s, ¬ X.xe u s) (gd : X.A.guards = some []) (hr : Room k X.A) (ha : DAT X T (e :: es) fa) (hg : Gl X x := by rfl)
    (hdb : (x == ("__debug__" : Str)) = false := by decide +kernel) (he : starEach (e :: es) X.env = (false, eval e X.env) :: starEach es X.env := by rfl) (hpl : (backTo pos (starEach es X.env)).any (·.1) = false := by rfl) : DET X T (.Call (.Name x p) (e :: es) [] pos) (fCall (okOf g) fa) := by
  have h : DET X T (.Call (.Name x p) (e :: es) [] pos) _ := det_okE (dex_call (p := p) (pos := pos) C hx gd hr ha hg hdb he hpl)
  intro pins s σ G H r d g I F hf
  refine h pins s σ G H r d g I F ?_
  unfold fCall at hf
  unfold okE fCallX
  cases e1 : fa r with
  | none => rw [e1] at hf; cases hf
  | some ds =>
    rw [e1] at hf
    exact hf
theorem det_callX0 {x : Str} {k : Nat} {g : List Dt → Option (Except Nat Dt)} {p pos : Pos} (C : CalleeX X.prog X.w X.K X.mg X.base T k x g) (gd : X.A.guards = some []) (hr : Room k X.A) (hg : Gl X x := by rfl)
    (hdb : (x == ("__debug__" : Str)) = false := by decide +kernel) : DET X T (.Call (.Name x p) [] [] pos) (fun _ => okOf g []) := det_okE (dex_call0 C gd hr hg hdb)
end
end PL

/-! Raw steps: expressions that leave the heap as it is, their tokens told. -/
namespace PL
open PySem PySem.Spec PyProof.Rows L2
/-! ### replace, one sign for a text -/
def replL (c : Nat) (z l : List Nat) : List Nat := l.flatMap fun k => if k = c then z else [k]
theorem replL_append (c : Nat) (z a b : List Nat) : replL c z (a ++ b) = replL c z a ++ replL c z b := by
  unfold replL
  rw [List.flatMap_append]
theorem replL_free (c : Nat) (z : List Nat) : ∀ l : List Nat, c ∉ l → replL c z l = l
  | [], _ => rfl
  | k :: r, h => by
    have h1 : ¬ k = c := fun e => h (e ▸ List.mem_cons_self ..)
    have h2 : c ∉ r := fun m => h (List.mem_cons_of_mem _ m)
    have ih := replL_free c z r h2
    unfold replL at ih ⊢
    rw [List.flatMap_cons, if_neg h1, ih]
    rfl
theorem replL_one (c : Nat) (z : List Nat) : replL c z [c] = z := by simp [replL]
theorem replL_join (c : Nat) (z : Str) : ∀ parts : List Str, (∀ p ∈ parts, c ∉ p.cps.toList) → replL c z.cps.toList (Str.join ⟨#[c]⟩ parts).cps.toList = (Str.join z parts).cps.toList
  | [], _ => rfl
  | [p], h => replL_free c _ _ (h p (List.mem_singleton.mpr rfl))
  | p :: q :: r, h => by
    have ih := replL_join c z (q :: r) fun a ha => h a (List.mem_cons_of_mem _ ha)
    show replL c z.cps.toList (p ++ ⟨#[c]⟩ ++ Str.join ⟨#[c]⟩ (q :: r)).cps.toList = (p ++ z ++ Str.join z (q :: r)).cps.toList
    simp only [Str.cps_append, Array.toList_append]
    rw [replL_append, replL_append, ih, replL_free c _ _ (h p (List.mem_cons_self ..))]
    show p.cps.toList ++ replL c z.cps.toList [c] ++ _ = _
    rw [replL_one]
theorem replace_repl (x z : Str) (c : Nat) : (Txt.replace x ⟨#[c]⟩ z).cps.toList = replL c z.cps.toList x.cps.toList := by
  rw [StrLaws.replace_one, ← replL_join c z _ (StrLaws.split_free x c), StrLaws.join_split]
theorem replace_str (x z : List Nat) (c : Nat) : Txt.replace (⟨x.toArray⟩ : Str) ⟨#[c]⟩ ⟨z.toArray⟩ = ⟨(replL c z x).toArray⟩ := by
  have h := replace_repl ⟨x.toArray⟩ ⟨z.toArray⟩ c
  cases e : Txt.replace (⟨x.toArray⟩ : Str) ⟨#[c]⟩ ⟨z.toArray⟩ with
  | mk cps =>
    rw [e] at h
    have h' : cps.toList = replL c z x := h
    rw [← h', Array.toArray_toList]
theorem replL_len (c : Nat) (z : List Nat) : ∀ l : List Nat, (replL c z l).length ≤ l.length * (z.length + 1)
  | [] => by simp [replL]
  | k :: r => by
    have ih := replL_len c z r
    unfold replL at ih ⊢
    rw [List.flatMap_cons, List.length_append, List.length_cons, Nat.succ_mul]
    by_cases h : k = c
    · rw [if_pos h]; omega
    · rw [if_neg h, List.length_singleton]; omega

/-! ### raw states -/
section
variable {X : Cx} {T : CT} {pins : List (Addr × Obj)} {H : Hp} {ρ : Str → Option Value} {n0 : Nat} {s : Shared}
structure RSt (X : Cx) (pins : List (Addr × Obj)) (H : Hp) (ρ : Str → Option Value) (n0 : Nat) (s : Shared) : Prop where
  inv : ∃ σ, Inv X pins σ H s
  ns : s.heap.Ns X.env.locals ρ
  tk : n0 ≤ s.toks
theorem RSt.tok (R : RSt X pins H ρ n0 s) {k : Nat} (h : s.toks ≤ k) : RSt X pins H ρ n0 { s with toks := k } := by
  obtain ⟨σ, I⟩ := R.inv
  exact ⟨⟨σ, I.tok k⟩, R.ns, Nat.le_trans R.tk h⟩
def RX (X : Cx) (pins : List (Addr × Obj)) (H : Hp) (ρ : Str → Option Value) (n0 : Nat) (e : Expr) (φ : Nat → Nat → Value → Prop) : Prop :=
  ∀ (s : Shared) (Q E : Value → Shared → Prop), RSt X pins H ρ n0 s → (∀ u k, s.toks ≤ k → φ s.toks k u → Q u { s with toks := k }) → wpAny (model X.prog X.w) X.A (eval e X.env) Q E s
def RT (X : Cx) (pins : List (Addr × Obj)) (H : Hp) (ρ : Str → Option Value) (n0 : Nat) (e : Expr) (b : Bool) : Prop :=
  ∀ (s : Shared) (Q : Bool → Shared → Prop) (E : Value → Shared → Prop), RSt X pins H ρ n0 s → (∀ k, s.toks ≤ k → Q b { s with toks := k }) → wpAny (model X.prog X.w) X.A (isTrue e X.env (eval e X.env)) Q E s
/-- a chain of and, whatever its whole is -/
def RW (X : Cx) (pins : List (Addr × Obj)) (H : Hp) (ρ : Str → Option Value) (n0 : Nat) (e : Expr) (b : Bool) : Prop :=
  ∀ (wh : Sem Value) (s : Shared) (Q : Bool → Shared → Prop) (E : Value → Shared → Prop), RSt X pins H ρ n0 s → (∀ k, s.toks ≤ k → Q b { s with toks := k }) → wpAny (model X.prog X.w) X.A (isTrue e X.env wh) Q E s
/-- a text, its token given out from a on, ahead of k -/
def φNew (x : Str) : Nat → Nat → Value → Prop := fun a k u => ∃ t : Nat, u = .str x t ∧ a ≤ t ∧ t < k
/-- a text, its token out already -/
def φOld (x : Str) : Nat → Nat → Value → Prop := fun a k u => ∃ t : Nat, u = .str x t ∧ t ≠ 0 ∧ t < k
def φStr (x : Str) : Nat → Nat → Value → Prop := fun a k u => ∃ t, u = .str x t
theorem RX.imp {e : Expr} {φ ψ : Nat → Nat → Value → Prop} (h : RX X pins H ρ n0 e φ) (hi : ∀ a k u, n0 ≤ a → a ≤ k → φ a k u → ψ a k u) : RX X pins H ρ n0 e ψ := fun s Q E R q => h s Q E R fun u k hk z => q u k hk (hi _ _ _ R.tk hk z)
theorem RX.newOld {e : Expr} {x : Str} (h : RX X pins H ρ n0 e (φNew x)) (h0 : 1 ≤ n0) : RX X pins H ρ n0 e (φOld x) := h.imp fun a k u ha hk ⟨t, e1, e2, e3⟩ => ⟨t, e1, by omega, e3⟩
theorem RX.newStr {e : Expr} {x : Str} (h : RX X pins H ρ n0 e (φNew x)) : RX X pins H ρ n0 e (φStr x) := h.imp fun a k u _ _ ⟨t, e1, _⟩ => ⟨t, e1⟩
theorem RX.oldStr {e : Expr} {x : Str} (h : RX X pins H ρ n0 e (φOld x)) : RX X pins H ρ n0 e (φStr x) := h.imp fun a k u _ _ ⟨t, e1, _⟩ => ⟨t, e1⟩
theorem rx_name {x : Str} {u : Value} {pos : Pos} (hm : ρ x = some u) (hk : X.env.kindOf x = some .local := by rfl) (hd : (x == ("__debug__" : Str)) = false := by decide +kernel) : RX X pins H ρ n0 (.Name x pos) (fun _ _ v => v = u) := fun s Q E R q => by
  obtain ⟨σ, I⟩ := R.inv
  exact wpAny_Name (wpAny_loadName_local I.ok.kind hk R.ns hm (q u s.toks (Nat.le_refl _) rfl)) hd
theorem rx_nameStr {x : Str} {y : Str} {t : Tok} {pos : Pos} (hm : ρ x = some (.str y t)) (hk : X.env.kindOf x = some .local := by rfl) (hd : (x == ("__debug__" : Str)) = false := by decide +kernel) : RX X pins H ρ n0 (.Name x pos) (φStr y) :=
  (rx_name hm hk hd).imp fun _ _ _ _ _ e => ⟨t, e⟩
theorem rx_nameOld {x : Str} {y : Str} {t : Nat} {pos : Pos} (hm : ρ x = some (.str y t)) (h1 : t ≠ 0) (h2 : t < n0) (hk : X.env.kindOf x = some .local := by rfl) (hd : (x == ("__debug__" : Str)) = false := by decide +kernel) : RX X pins H ρ n0 (.Name x pos) (φOld y) :=
  (rx_name hm hk hd).imp fun _ _ _ h3 h4 e => ⟨t, e, h1, by omega⟩
theorem rx_str {x : Str} {j : Nat} {pos : Pos} : RX X pins H ρ n0 (.Constant (.str x) j pos) (φNew x) := fun s Q E R q => Calls.Constant_str (q _ (s.toks + 1) (Nat.le_succ _) ⟨s.toks, rfl, Nat.le_refl _, Nat.lt_succ_self _⟩)
theorem rx_strL {x : Str} (l : List Nat) {j : Nat} {pos : Pos} (h : x = ⟨l.toArray⟩ := by decide +kernel) : RX X pins H ρ n0 (.Constant (.str x) j pos) (φNew ⟨l.toArray⟩) := by
  subst h
  exact rx_str
theorem rx_none {j : Nat} {pos : Pos} : RX X pins H ρ n0 (.Constant .none j pos) (fun _ _ v => v = .none) := fun s Q E R q => by
  refine wpAny_pure ?_
  exact q _ s.toks (Nat.le_refl _) rfl
theorem rx_add {a b : Expr} {x y : List Nat} {pos : Pos} (ha : RX X pins H ρ n0 a (φStr ⟨x.toArray⟩)) (hb : RX X pins H ρ n0 b (φStr ⟨y.toArray⟩)) (hx : x ≠ []) (hy : y ≠ []) (hz : x.length + y.length ≤ 16777216) : RX X pins H ρ n0 (.BinOp a .Add b pos) (φNew ⟨(x ++ y).toArray⟩) := fun s Q E R q => by
  refine wpAny_BinOp (ha s _ E R fun u k hk hu => hb _ _ E (R.tok hk) fun v k2 hk2 hv => ?_)
  obtain ⟨t, rfl⟩ := hu
  obtain ⟨t', rfl⟩ := hv
  refine PySem.P.add_str ?_
  have h1 : ((⟨x.toArray⟩ : Str).length == 0) = false := by
    rw [str_len]
    cases x with
    | nil => exact absurd rfl hx
    | cons a l => rfl
  have h2 : ((⟨y.toArray⟩ : Str).length == 0) = false := by
    rw [str_len]
    cases y with
    | nil => exact absurd rfl hy
    | cons a l => rfl
  rw [h1, h2]
  simp only [Bool.false_eq_true, if_false]
  have e : (⟨x.toArray⟩ : Str) ++ ⟨y.toArray⟩ = ⟨(x ++ y).toArray⟩ := by
    show (⟨x.toArray ++ y.toArray⟩ : Str) = _
    simp
  have ez : sizeLine = 16777216 := sizeLine_eq
  rw [e]
  refine ⟨?_, ?_⟩
  · rw [str_len, List.length_append, ez]; exact hz
  · exact q _ (k2 + 1) (by show s.toks ≤ k2 + 1; have h1 : s.toks ≤ k := hk; have h2 : k ≤ k2 := hk2; omega) ⟨k2, rfl, by show s.toks ≤ k2; have h1 : s.toks ≤ k := hk; have h2 : k ≤ k2 := hk2; omega, Nat.lt_succ_self _⟩
/-- a + b, one of which may be empty -/
theorem rx_addS {a b : Expr} {x y : List Nat} {pos : Pos} (ha : RX X pins H ρ n0 a (φStr ⟨x.toArray⟩)) (hb : RX X pins H ρ n0 b (φStr ⟨y.toArray⟩)) (hz : x.length + y.length ≤ 16777216) : RX X pins H ρ n0 (.BinOp a .Add b pos) (φStr ⟨(x ++ y).toArray⟩) := fun s Q E R q => by
  refine wpAny_BinOp (ha s _ E R fun u k hk hu => hb _ _ E (R.tok hk) fun v k2 hk2 hv => ?_)
  obtain ⟨t, rfl⟩ := hu
  obtain ⟨t', rfl⟩ := hv
  have e : (⟨x.toArray⟩ : Str) ++ ⟨y.toArray⟩ = ⟨(x ++ y).toArray⟩ := by
    show (⟨x.toArray ++ y.toArray⟩ : Str) = _
    simp
  have main := PyProof.Rows.add_str (prog := X.prog) (w := X.w) (A := X.A) (E := E) (s := { s with toks := k2 }) (x := ⟨x.toArray⟩) (y := ⟨y.toArray⟩) (t := t) (u := t') (Q := fun v s' => ∃ t3 tk, v = .str (⟨x.toArray⟩ ++ ⟨y.toArray⟩) t3 ∧ s' = { s with toks := tk }) (fun t3 tk => ⟨t3, tk, rfl, rfl⟩) (by rw [str_len, str_len, sizeLine_eq]; exact hz)
  refine wtk main ?_
  rintro v s' hk3 ⟨t3, tk, rfl, rfl⟩
  exact q _ tk (by have h1 : s.toks ≤ k := hk; have h2 : k ≤ k2 := hk2; have h3 : k2 ≤ tk := hk3; omega) ⟨t3, by rw [e]⟩
/-- o.replace(a, b) -/
theorem rx_rep {o a b : Expr} {x z : List Nat} {c : Nat} {apos pos : Pos} (ho : RX X pins H ρ n0 o (φStr ⟨x.toArray⟩)) (ha : RX X pins H ρ n0 a (φOld ⟨#[c]⟩)) (hb : RX X pins H ρ n0 b (φNew ⟨z.toArray⟩)) (hz : x.length + (x.length + 1) * z.length ≤ 16777216) (hz1 : z.length ≠ 1)
    (hs : starEach [a, b] X.env = [(false, eval a X.env), (false, eval b X.env)] := by rfl) (hbase : attributeBase o "replace" X.env (eval o X.env) = eval o X.env := by rfl) (hline : (apos.endLine == pos.line) = true := by rfl) :
    RX X pins H ρ n0 (.Call (.Attribute o "replace" apos) [a, b] [] pos) (φStr ⟨(replL c z x).toArray⟩) := fun s Q E R q => by
  refine PySem.Call_method2 hbase hs hline (ho s _ E R fun u k hk hu => ?_)
  obtain ⟨t, rfl⟩ := hu
  refine ⟨"str", _, PySem.F.plainAttrs_str, PySem.F.slot_str_replace, PySem.F.type_str_replace, typeIs_str _ _ _, (fun _ e => nomatch e), Calls.callWith_builtin rfl (Calls.evalArgs_plain (Calls.spliced_cons ?_))⟩
  refine ha _ _ E (R.tok hk) fun ua k2 hk2 hua => ?_
  obtain ⟨ta, rfl, h1, h2⟩ := hua
  refine Calls.spliced_cons (hb _ _ E ((R.tok hk).tok hk2) fun ub k3 hk3 hub => ?_)
  obtain ⟨tb, rfl, h3, h4⟩ := hub
  refine Calls.spliced_nil ?_
  have hn2 := R.tk
  have e1 : s.toks ≤ k := hk
  have e2 : k ≤ k2 := hk2
  have e3 : k2 ≤ k3 := hk3
  have e4 : k2 ≤ tb := h3
  have main := PySem.SC.replace (prog := X.prog) (w := X.w) (A := X.A) (E := E) (s := { s with toks := k3 }) (x := ⟨x.toArray⟩) (y := ⟨#[c]⟩) (z := ⟨z.toArray⟩) (t := t) (u := ta) (v := tb) (Q := fun v s' => ∃ t3 tk, v = .str (Txt.replace ⟨x.toArray⟩ ⟨#[c]⟩ ⟨z.toArray⟩) t3 ∧ s' = { s with toks := tk }) h1 (Nat.ne_of_gt (Nat.lt_of_lt_of_le (Nat.pos_of_ne_zero h1) (Nat.le_trans (Nat.le_of_lt h2) e4))) (Nat.ne_of_lt (Nat.lt_of_lt_of_le h2 e4)) (beq_eq_false_iff_ne.mpr fun e => hz1 (by have := congrArg Str.length e; rw [str_len] at this; exact this.symm)) (by rw [str_len, str_len]; exact hz)
    (fun t3 tk => ⟨t3, tk, rfl, rfl⟩)
  refine wtk main ?_
  rintro v s' hk4 ⟨t3, tk, rfl, rfl⟩
  exact q _ tk (by have h5 : k3 ≤ tk := hk4; omega) ⟨t3, by rw [replace_str]⟩
/-- one sign in a text, or not -/
theorem rx_notin {a b : Expr} {x : List Nat} {c : Nat} {pos : Pos} (ha : RX X pins H ρ n0 a (φStr ⟨#[c]⟩)) (hb : RX X pins H ρ n0 b (φStr ⟨x.toArray⟩)) (hm : behindInMarks .NotIn b = false := by rfl) : RX X pins H ρ n0 (.Compare a [.NotIn] [b] pos) (fun _ _ v => v = .bool (!decide (c ∈ x))) := fun s Q E R q => by
  refine wpAny_Compare1 (ha s _ E R fun u k hk hu => hb _ _ E (R.tok hk) fun v k2 hk2 hv => ?_) hm
  obtain ⟨t, rfl⟩ := hu
  obtain ⟨t', rfl⟩ := hv
  refine PyProof.Rows.notIn_str ?_
  rw [PySem.StrLaws.found_one]
  exact q _ k2 (by have h1 : s.toks ≤ k := hk; have h2 : k ≤ k2 := hk2; omega) (by simp)
theorem rx_eq {a b : Expr} {x y : List Nat} {pos : Pos} (ha : RX X pins H ρ n0 a (φStr ⟨x.toArray⟩)) (hb : RX X pins H ρ n0 b (φStr ⟨y.toArray⟩)) (hm : behindInMarks .Eq b = false := by first | exact nomark _ | rfl) : RX X pins H ρ n0 (.Compare a [.Eq] [b] pos) (fun _ _ v => v = .bool (decide (x = y))) := fun s Q E R q => by
  refine wpAny_Compare1 (ha s _ E R fun u k hk hu => hb _ _ E (R.tok hk) fun v k2 hk2 hv => ?_) hm
  obtain ⟨t, rfl⟩ := hu
  obtain ⟨t', rfl⟩ := hv
  refine PySem.P.eq_str ?_
  have h1 : s.toks ≤ k := hk
  have h2 : k ≤ k2 := hk2
  refine q _ k2 (by omega) ?_
  by_cases h : x = y
  · subst h; simp
  · simp [h]
/-- as a test -/
theorem rt_val {e : Expr} {b : Bool} (h : RX X pins H ρ n0 e (fun _ _ v => v = .bool b)) (he : ∀ whole, isTrue e X.env whole = (do let v ← whole; standAt e.pos; holding [v] (truthy v)) := by intro _; rfl) : RT X pins H ρ n0 e b := fun s Q E R q => by
  refine isTrue_plain (h s _ E R fun u k hk hu => ?_) (he _)
  subst hu
  exact wpAny_truthy_bool (q k hk)
theorem rt_notin {a b : Expr} {x : List Nat} {c : Nat} {pos : Pos} (ha : RX X pins H ρ n0 a (φStr ⟨#[c]⟩)) (hb : RX X pins H ρ n0 b (φStr ⟨x.toArray⟩)) (hm : behindInMarks .NotIn b = false := by rfl) : RT X pins H ρ n0 (.Compare a [.NotIn] [b] pos) (!decide (c ∈ x)) := fun s Q E R q => by
  refine wpAny_isTrue_Compare1 (ha s _ E R fun u k hk hu => hb _ _ E (R.tok hk) fun v k2 hk2 hv => ?_) hm
  obtain ⟨t, rfl⟩ := hu
  obtain ⟨t', rfl⟩ := hv
  refine PyProof.Rows.notIn_str ?_
  rw [PySem.StrLaws.found_one]
  refine wpAny_truthy_bool ?_
  have := q k2 (by have h1 : s.toks ≤ k := hk; have h2 : k ≤ k2 := hk2; omega)
  simpa using this
theorem rt_eq {a b : Expr} {x y : List Nat} {pos : Pos} (ha : RX X pins H ρ n0 a (φStr ⟨x.toArray⟩)) (hb : RX X pins H ρ n0 b (φStr ⟨y.toArray⟩)) (hm : behindInMarks .Eq b = false := by first | exact nomark _ | rfl) : RT X pins H ρ n0 (.Compare a [.Eq] [b] pos) (decide (x = y)) := fun s Q E R q => by
  refine wpAny_isTrue_Compare1 (ha s _ E R fun u k hk hu => hb _ _ E (R.tok hk) fun v k2 hk2 hv => ?_) hm
  obtain ⟨t, rfl⟩ := hu
  obtain ⟨t', rfl⟩ := hv
  refine PySem.P.eq_str (wpAny_truthy_bool ?_)
  have h1 : s.toks ≤ k := hk
  have h2 : k ≤ k2 := hk2
  have := q k2 (by omega)
  have e : ((⟨x.toArray⟩ : Str).cps.toList == (⟨y.toArray⟩ : Str).cps.toList) = decide (x = y) := by
    show (x == y) = decide (x = y)
    by_cases h : x = y
    · subst h; simp
    · simp [h]
  rw [e]
  exact this
theorem rw_and1 {a : Expr} {b : Bool} {pos : Pos} (ha : RT X pins H ρ n0 a b) : RW X pins H ρ n0 (.BoolOp .And [a] pos) b := fun wh s Q E R q => by
  refine isTrue_and (ha s _ E R fun k hk => ?_)
  cases b with
  | true => exact isTrue_and_nil (q k hk)
  | false => exact q k hk
theorem rw_and {a b : Expr} {rest : List Expr} {p q : Bool} {pos : Pos} (ha : RT X pins H ρ n0 a p) (hb : RW X pins H ρ n0 (.BoolOp .And (b :: rest) pos) q) : RW X pins H ρ n0 (.BoolOp .And (a :: b :: rest) pos) (p && q) := fun wh s Q E R k => by
  refine isTrue_and (ha s _ E R fun k1 hk => ?_)
  cases p with
  | true => exact hb wh _ Q E (R.tok hk) fun k2 hk2 => k k2 (by have h1 : s.toks ≤ k1 := hk; have h2 : k1 ≤ k2 := hk2; omega)
  | false => exact k k1 hk
theorem rt_w {e : Expr} {b : Bool} (h : RW X pins H ρ n0 e b) : RT X pins H ρ n0 e b := fun s Q E R q => h _ s Q E R q
theorem rx_one {op : BoolOp} {a : Expr} {φ : Nat → Nat → Value → Prop} {pos : Pos} (ha : RX X pins H ρ n0 a φ) : RX X pins H ρ n0 (.BoolOp op [a] pos) φ := fun s Q E R q => BoolOp_one (ha s Q E R q)
theorem rx_and {a b : Expr} {rest : List Expr} {p q : Bool} {pos : Pos} (ha : RX X pins H ρ n0 a (fun _ _ v => v = .bool p)) (hb : RX X pins H ρ n0 (.BoolOp .And (b :: rest) pos) (fun _ _ v => v = .bool q)) : RX X pins H ρ n0 (.BoolOp .And (a :: b :: rest) pos) (fun _ _ v => v = .bool (p && q)) := fun s Q E R k => by
  refine BoolOp_and (ha s _ E R fun u k1 hk hu => ?_)
  subst hu
  refine wpAny_truthy_bool ?_
  cases p with
  | true => exact hb _ Q E (R.tok hk) fun v k2 hk2 hv => k v k2 (by have h1 : s.toks ≤ k1 := hk; have h2 : k1 ≤ k2 := hk2; omega) hv
  | false => exact k _ k1 hk rfl
theorem rx_ifT {c a b : Expr} {t : Bool} {φ : Nat → Nat → Value → Prop} {pos : Pos} (hc : RT X pins H ρ n0 c t) (ha : t = true → RX X pins H ρ n0 a φ) (hb : t = false → RX X pins H ρ n0 b φ) (hφ : ∀ a a' k u, a' ≤ a → φ a k u → φ a' k u) : RX X pins H ρ n0 (.IfExp c a b pos) φ := fun s Q E R q => by
  refine wpAny_IfExp (hc s _ E R fun k hk => ?_)
  cases t with
  | true => exact ha rfl _ Q E (R.tok hk) fun v k2 hk2 hv => q v k2 (by have h1 : s.toks ≤ k := hk; have h2 : k ≤ k2 := hk2; omega) (hφ _ _ _ _ hk hv)
  | false => exact hb rfl _ Q E (R.tok hk) fun v k2 hk2 hv => q v k2 (by have h1 : s.toks ≤ k := hk; have h2 : k ≤ k2 := hk2; omega) (hφ _ _ _ _ hk hv)

/-! ### stores -/
theorem Inv.stored {σ : L2.St} {i : Nat} {x : Str} {u : Value} {m : Str → Option Value} {h' : Heap} {tk : Nat} (I : Inv X pins σ H s) (hN : X.N.Nodup) (hi : X.N[i]? = some x) (hk : X.env.kindOf x = some .local) (hn : s.heap.Ns X.env.locals m) (hn' : h'.Ns X.env.locals (fun y => if y = x then some u else m y)) (hs : Heap.SameBut X.env.locals s.heap h') :
    Inv X pins (σ.set i none) H { s with heap := h', toks := tk } := by
  obtain ⟨m', hm', hl⟩ := id I.loc
  have em : m' = m := hm'.eq_nsMap.trans hn.eq_nsMap.symm
  subst em
  have neL : ∀ b o, X.s_0.heap.get? b = some o → b ≠ X.env.locals := fun b o e => Nat.ne_of_lt (Nat.lt_of_lt_of_le (Heap.lt_size e) I.ok.above)
  refine ⟨I.ok, I.os, I.bare, ⟨fun b o e n hb hx => ?_, fun b o e n hb hx => ?_, I.base.free, fun b o e hx => ?_, I.base.tups, I.base.frzs, I.base.tbls⟩, ⟨_, hn', fun j y v' e1 e2 e3 => ?_⟩, fun y c e => ?_, I.free, I.freeC, fun p hp => ?_, fun b ob e => ?_, by simpa using I.len⟩
  · exact (hs.2 b (neL b o e)).trans (I.base.keep b o e n hb hx)
  · obtain ⟨sl, e1⟩ := I.base.slot b o e n hb hx
    exact ⟨sl, (hs.2 b (neL b o e)).trans e1⟩
  · obtain ⟨o', e1⟩ := I.base.there b o e hx
    exact ⟨o', (hs.2 b (neL b o e)).trans e1⟩
  · by_cases hj : j = i
    · subst hj
      by_cases hlt : j < σ.length
      · rw [List.getElem?_set_self hlt] at e2; cases e2
      · rw [List.getElem?_eq_none (by simpa using hlt)] at e2; cases e2
    · rw [List.getElem?_set_ne (Ne.symm hj)] at e2
      obtain ⟨u', r', q⟩ := hl j y v' e1 e2 e3
      refine ⟨u', r', ?_⟩
      rcases q with ⟨k, e⟩ | ⟨k, c, e, z⟩
      · have ny : y ≠ x := fun e => hj (nodup_ix hN e1 (e ▸ hi))
        exact .inl ⟨k, (if_neg ny).trans e⟩
      · exact .inr ⟨k, c, e, z.sameBut hs (I.cne y c e)⟩
  · obtain ⟨w', z⟩ := I.cell y c e
    exact ⟨w', z.sameBut hs (I.cne y c e)⟩
  · obtain ⟨e, n, ne, nf, d⟩ := I.pin p hp
    exact ⟨(hs.2 p.1 ne).trans e, n, ne, nf, d⟩
  · refine (I.hok b ob e).stay (fun c w' hc q => (hs.2 c ?_).trans q) (fun _ q => q) fun _ _ q => q
    intro z
    subst z
    rcases hc with hc | hc
    · rw [← hc, I.free] at e; cases e
    · rw [I.free] at hc; cases hc
def updN (ρ : Str → Option Value) (x : Str) (u : Value) : Str → Option Value := fun y => if y = x then some u else ρ y
theorem updN_same {x : Str} {u : Value} : updN ρ x u x = some u := if_pos rfl
theorem updN_ne {x y : Str} {u : Value} (h : y ≠ x) : updN ρ x u y = ρ y := if_neg h
theorem store_raw {i : Nat} {x : Str} {u : Value} {Q : Unit → Shared → Prop} {E : Value → Shared → Prop} (R : RSt X pins H ρ n0 s) (hN : X.N.Nodup) (hi : X.N[i]? = some x) (hk : X.env.kindOf x = some .local) (h : ∀ s', RSt X pins H (updN ρ x u) n0 s' → s.toks ≤ s'.toks → Q () s') : wpAny (model X.prog X.w) X.A (storeName X.env x u) Q E s := by
  obtain ⟨σ, I⟩ := R.inv
  have hcls : (X.env.scope.kind == .class || (X.env.scope.kind == .module && X.env.locals != X.env.globals)) = false := by rw [I.ok.kind]; rfl
  refine wpAny_storeName_local hk R.ns (fun h' hn' hs => ?_) hcls
  exact h _ ⟨⟨_, Inv.stored I hN hi hk R.ns hn' hs⟩, hn', Nat.le_trans R.tk (Nat.le_succ _)⟩ (Nat.le_succ _)
theorem raw_set (i : Nat) {x : Str} {e : Expr} {φ : Nat → Nat → Value → Prop} {pos pos' : Pos} {Q : Flow → Shared → Prop} {E : Value → Shared → Prop} (R : RSt X pins H ρ n0 s) (hN : X.N.Nodup) (he : RX X pins H ρ n0 e φ) (h : ∀ u k s', φ s.toks k u → k ≤ s'.toks → s.toks ≤ s'.toks → RSt X pins H (updN ρ x u) n0 s' → Q .next s')
    (hi : X.N[i]? = some x := by rfl) (hk : X.env.kindOf x = some .local := by rfl) (hs : swapsWith e (some (.Name x pos')) pos.line X.env = pure false := by rfl) : wpAny (model X.prog X.w) X.A (exec (.Assign [.Name x pos'] e pos) X.env) Q E s := by
  refine wpAny_Assign_Name (he s _ E R fun u k hk1 hu => ?_) hs
  exact store_raw (R.tok hk1) hN hi hk fun s' R' hk' => h u k s' hu hk' (Nat.le_trans hk1 hk') R'
theorem raw_if {c : Expr} {a b : List Stmt} {t : Bool} {pos : Pos} {Q : Flow → Shared → Prop} {E : Value → Shared → Prop} (R : RSt X pins H ρ n0 s) (hc : RT X pins H ρ n0 c t) (ha : t = true → ∀ k, s.toks ≤ k → wpAny (model X.prog X.w) X.A (execs a X.env) Q E { s with toks := k }) (hb : t = false → ∀ k, s.toks ≤ k → wpAny (model X.prog X.w) X.A (execs b X.env) Q E { s with toks := k }) :
    wpAny (model X.prog X.w) X.A (exec (.If c a b pos) X.env) Q E s := by
  refine wpAny_If (hc s _ E R fun k hk => ?_)
  cases t with
  | true => exact ha rfl k hk
  | false => exact hb rfl k hk
theorem raw_ret {e : Expr} {φ : Nat → Nat → Value → Prop} {pos : Pos} {Q : Flow → Shared → Prop} {E : Value → Shared → Prop} (R : RSt X pins H ρ n0 s) (he : RX X pins H ρ n0 e φ) (h : ∀ u k, s.toks ≤ k → φ s.toks k u → Q (.ret u) { s with toks := k }) : wpAny (model X.prog X.w) X.A (exec (.Return (some e) pos) X.env) Q E s :=
  wpAny_Return_some (he s _ E R fun u k hk hu => h u k hk hu)
/-- x, y, z = a tuple of three -/
theorem raw_unpack3 (i j l : Nat) {x y z n : Str} {a : Addr} {u1 u2 u3 : Value} {k1} {p1 p2 p3 p4 p5 pos : Pos} {Q : Flow → Shared → Prop} {E : Value → Shared → Prop} (R : RSt X pins H ρ n0 s) (hc : X.calm = true) (hN : X.N.Nodup) (hn : ρ n = some (.ref a)) (ht : IsTup s.heap a #[u1, u2, u3]) (h : ∀ s', s.toks ≤ s'.toks → RSt X pins H (updN (updN (updN ρ x u1) y u2) z u3) n0 s' → Q .next s')
    (hi : X.N[i]? = some x := by rfl) (hj : X.N[j]? = some y := by rfl) (hl : X.N[l]? = some z := by rfl) (kx : X.env.kindOf x = some .local := by rfl) (ky : X.env.kindOf y = some .local := by rfl) (kz : X.env.kindOf z = some .local := by rfl) (kn : X.env.kindOf n = some .local := by rfl)
    (hd : (n == ("__debug__" : Str)) = false := by decide +kernel) (hs : swapsWithSole [.Tuple [.Name x p1, .Name y p2, .Name z p3] k1 p4] (.Name n p5) pos.line X.env = pure false := by rfl) (hw : swappedStores [.Tuple [.Name x p1, .Name y p2, .Name z p3] k1 p4] (.Name n p5) X.env = pure none := by rfl) :
    wpAny (model X.prog X.w) X.A (exec (.Assign [.Tuple [.Name x p1, .Name y p2, .Name z p3] k1 p4] (.Name n p5) pos) X.env) Q E s := by
  refine wpAny_Assign_stores (rx_name hn kn hd s _ E R fun u k hk hu => ?_) hs hw
  subst hu
  show wpAny _ _ (assignAll (.ref a) [assign (.Tuple [.Name x p1, .Name y p2, .Name z p3] k1 p4) X.env]) _ _ _
  obtain ⟨σ, I⟩ := R.inv
  have main : wpAny (model X.prog X.w) X.A (assign (.Tuple [.Name x p1, .Name y p2, .Name z p3] k1 p4) X.env (.ref a)) (fun _ s' => s.toks ≤ s'.toks ∧ RSt X pins H (updN (updN (updN ρ x u1) y u2) z u3) n0 s') E { s with toks := k } := by
    refine assign_Tuple_tuple (I.ok.hd hc) ht rfl rfl fun h' hx => ?_
    have keep : ∀ b o, s.heap.get? b = some o → h'.get? b = some o := fun b o e => hx b o (Nat.ne_of_lt (Heap.lt_size e)) e
    have R1 : RSt X pins H ρ n0 { s with heap := h', toks := k } := ⟨⟨σ, I.kept (t' := k) keep⟩, R.ns.keeps keep, Nat.le_trans R.tk hk⟩
    show wpAny _ _ (assignInOrder [assign (.Name x p1) X.env, assign (.Name y p2) X.env, assign (.Name z p3) X.env] [u1, u2, u3]) _ _ _
    refine assignInOrder_cons (wpAny_assign_Name (store_raw R1 hN hi kx fun s2 R2 hk2 => ?_))
    refine assignInOrder_cons (wpAny_assign_Name (store_raw R2 hN hj ky fun s3 R3 hk3 => ?_))
    refine assignInOrder_cons (wpAny_assign_Name (store_raw R3 hN hl kz fun s4 R4 hk4 => ?_))
    have e1 : k ≤ s2.toks := hk2
    exact assignInOrder_nil ⟨by have h1 : s.toks ≤ k := hk; omega, R4⟩
  exact thn main fun _ s' q => h s' q.1 q.2
/-- a raw state, by a plain one -/
theorem RSt.of {σ : L2.St} (I : Inv X pins σ H s) : ∃ ρ, RSt X pins H ρ s.toks s ∧ ∀ (i : Nat) (x : Str) (v : V), X.N[i]? = some x → σ[i]? = some (some v) → X.env.kindOf x = some .local → ∃ u, RelV v u ∧ ρ x = some u := by
  obtain ⟨m, hn, hl⟩ := id I.loc
  refine ⟨m, ⟨⟨σ, I⟩, hn, Nat.le_refl _⟩, fun i x v h1 h2 h3 => ?_⟩
  obtain ⟨u, r, q⟩ := hl i x v h1 h2 (.inl h3)
  rcases q with ⟨_, e⟩ | ⟨k, _⟩
  · exact ⟨u, r, e⟩
  · rcases k with k | k <;> (rw [h3] at k; cases k)
end
end PL

/-! Manners as plain triples; raw loops over written texts; triples of names whose tokens are told. -/
namespace PL
open PySem PySem.Spec PyProof.Rows L2
/-! ### a manner read as a plain triple -/
mutual
def Dt.pl : Dt → Dt
  | .man m q e => .tup [.str m, .str q, .str e]
  | .lst l => .lst (Dt.pls l)
  | .tup l => .tup (Dt.pls l)
  | .non => .non
  | .bl b => .bl b
  | .int i => .int i
  | .str x => .str x
  | .scr l => .scr l
  | .obj c l => .obj c l
  | .dic ks l => .dic ks l
  | .adr a => .adr a
  | .ty n => .ty n
  | .cls k => .cls k
def Dt.pls : List Dt → List Dt
  | [] => []
  | d :: l => d.pl :: Dt.pls l
end
section
variable {K : PySem.W.Frag} {T : CT} {H : Hp}
mutual
theorem Rp.pl : ∀ (d : Dt) {v : V}, Rp K T H v d → Rp K T H v d.pl
  | .man m q e, _, h => by
    cases h with
    | man h1 => exact .tup (.inl (.inr ⟨_, h1⟩)) (.cons (.str m) (.cons (.str q) (.cons (.str e) .nil))) (fun n ns z => by cases z)
  | .lst l, _, h => by cases h with | lst h1 h2 => exact .lst h1 (RpA.pl l h2)
  | .tup l, _, h => by cases h with | tup h1 h2 h3 => exact .tup h1 (RpA.pl l h2) h3
  | .non, _, h => h
  | .bl b, _, h => h
  | .int i, _, h => h
  | .str x, _, h => h
  | .scr l, _, h => h
  | .obj c l, _, h => h
  | .dic ks l, _, h => h
  | .adr a, _, h => h
  | .ty n, _, h => h
  | .cls k, _, h => h
theorem RpA.pl : ∀ (ds : List Dt) {vs : List V}, RpA K T H vs ds → RpA K T H vs (Dt.pls ds)
  | [], _, h => by cases h; exact .nil
  | d :: ds, _, h => by cases h with | cons h1 h2 => exact .cons (Rp.pl d h1) (RpA.pl ds h2)
end
end
def fPl (f : Env → Option Dt) : Env → Option Dt := fun r => (f r).map Dt.pl
section
variable {X : Cx} {T : CT}
theorem de_pl {e : Expr} {f : Env → Option Dt} (h : DE X T e f) : DE X T e (fPl f) := by
  obtain ⟨te, pe, ge⟩ := h.ex
  refine ⟨te, pe, fun G H σ r d F hf Q q => ?_⟩
  unfold fPl at hf
  cases e1 : f r with
  | none => rw [e1] at hf; cases hf
  | some d' =>
    rw [e1] at hf
    cases hf
    exact ge G H σ r d' F e1 Q fun v G' H' n p => q v G' H' n (Rp.pl d' p)
theorem det_pl {e : Expr} {f : Env → Option Dt} (h : DET X T e f) : DET X T e (fPl f) := by
  intro pins s σ G H r d g I F hf
  unfold fPl at hf
  cases e1 : f r with
  | none => rw [e1] at hf; cases hf
  | some d' =>
    rw [e1] at hf
    cases hf
    refine thn (h pins s σ G H r d' g I F e1) ?_
    rintro u s' ⟨v, G', H', g', I', r', n', p'⟩
    exact ⟨v, G', H', g', I', r', n', Rp.pl d' p'⟩
end

/-! ### raw states with data -/
section
variable {X : Cx} {T : CT} {pins : List (Addr × Obj)} {H : Hp} {ρ : Str → Option Value} {s : Shared} {B G0 H0 : Hp} {r : Env}
theorem Inv.storedV {σ : L2.St} {i : Nat} {x : Str} {u : Value} {v : V} {m : Str → Option Value} {h' : Heap} {tk : Nat} (I : Inv X pins σ H s) (rv : RelV v u) (hN : X.N.Nodup) (hi : X.N[i]? = some x) (hk : X.env.kindOf x = some .local) (hn : s.heap.Ns X.env.locals m) (hn' : h'.Ns X.env.locals (fun y => if y = x then some u else m y)) (hs : Heap.SameBut X.env.locals s.heap h') :
    Inv X pins (σ.set i (some v)) H { s with heap := h', toks := tk } := by
  have J := Inv.stored (tk := tk) I hN hi hk hn hn' hs
  refine ⟨J.ok, J.os, J.bare, J.base, ⟨_, hn', fun j y v' e1 e2 e3 => ?_⟩, J.cell, J.free, J.freeC, J.pin, J.hok, by simpa using I.len⟩
  by_cases hj : j = i
  · subst hj
    rw [hi] at e1
    cases e1
    by_cases hlt : j < σ.length
    · rw [List.getElem?_set_self hlt] at e2
      cases e2
      exact ⟨u, rv, .inl ⟨hk, if_pos rfl⟩⟩
    · rw [List.getElem?_eq_none (by simpa using hlt)] at e2; cases e2
  · obtain ⟨m', hm', hl⟩ := id J.loc
    have em : m' = _ := hm'.eq_nsMap.trans hn'.eq_nsMap.symm
    rw [em] at hl
    exact hl j y v' e1 (by rw [List.getElem?_set_ne (Ne.symm hj)] at e2 ⊢; exact e2) e3
structure RTS (X : Cx) (T : CT) (pins : List (Addr × Obj)) (B G0 H0 : Hp) (av : List Addr) (ρ : Str → Option Value) (r : Env) (s : Shared) : Prop where
  ex : ∃ G H σ, TokH H s.toks ∧ Inv X pins σ H s ∧ StT X.K T B G0 H0 G H σ r ∧ ∀ b ∈ av, H b = none ∧ b ≠ X.env.locals ∧ ∃ o, s.heap.get? b = some o
  ns : s.heap.Ns X.env.locals ρ
/-- all but the frame stays -/
def Kp (X : Cx) (s s' : Shared) : Prop := s.toks ≤ s'.toks ∧ ∀ b o, b ≠ X.env.locals → s.heap.get? b = some o → s'.heap.get? b = some o
theorem Kp.refl : Kp X s s := ⟨Nat.le_refl _, fun _ _ _ e => e⟩
theorem Kp.trans {s1 s2 s3 : Shared} (a : Kp X s1 s2) (b : Kp X s2 s3) : Kp X s1 s3 := ⟨Nat.le_trans a.1 b.1, fun c o h e => b.2 c o h (a.2 c o h e)⟩
theorem rts_store {av : List Addr} {i : Nat} {x : Str} {u : Value} {v : V} {d : Dt} {Q : Unit → Shared → Prop} {E : Value → Shared → Prop} (R : RTS X T pins B G0 H0 av ρ r s) (rv : RelV v u) (hd : ∀ G, Rp X.K T G v d) (hN : X.N.Nodup) (hi : X.N[i]? = some x) (hk : X.env.kindOf x = some .local)
    (h : ∀ s', RTS X T pins B G0 H0 av (updN ρ x u) (r.set i (.val d)) s' → Kp X s s' → Q () s') : wpAny (model X.prog X.w) X.A (storeName X.env x u) Q E s := by
  obtain ⟨G, H, σ, tk, I, S, na⟩ := R.ex
  have hcls : (X.env.scope.kind == .class || (X.env.scope.kind == .module && X.env.locals != X.env.globals)) = false := by rw [I.ok.kind]; rfl
  refine wpAny_storeName_local hk R.ns (fun h' hn' hs => ?_) hcls
  exact h _ ⟨⟨G, H, _, tk.nf (NoF.refl _) (Nat.le_succ _), Inv.storedV I rv hN hi hk R.ns hn' hs, S.set (hd G), fun b hb => ⟨(na b hb).1, (na b hb).2.1, let ⟨o, e⟩ := (na b hb).2.2; ⟨o, (hs.2 b (na b hb).2.1).trans e⟩⟩⟩, hn'⟩ ⟨Nat.le_succ _, fun b o hb e => (hs.2 b hb).trans e⟩
/-- written texts -/
def CS (X : Cx) (cs : List Expr) (items : List (List Nat)) : Prop := ∀ (pos : Pos) (s : Shared) (Q : List Value → Shared → Prop) (E : Value → Shared → Prop),
  (∀ us k, s.toks ≤ k → us.length = items.length → (∀ (j : Nat) (l : List Nat), items[j]? = some l → ∃ t : Nat, us[j]? = some (.str ⟨l.toArray⟩ t) ∧ s.toks ≤ t ∧ t < k) → Q us { s with toks := k }) → wpAny (model X.prog X.w) X.A (spliced (backTo pos (starEach cs X.env))) Q E s
theorem cs_nil : CS X [] [] := fun pos s Q E q => Calls.spliced_nil (q [] s.toks (Nat.le_refl _) rfl (fun j l h => by simp at h))
theorem cs_cons {x : Str} {cs : List Expr} {items : List (List Nat)} {j : Nat} {p : Pos} (l : List Nat) (h : CS X cs items) (hx : x = ⟨l.toArray⟩ := by decide +kernel) (hs : starEach (.Constant (.str x) j p :: cs) X.env = (false, eval (.Constant (.str x) j p) X.env) :: starEach cs X.env := by rfl) : CS X (.Constant (.str x) j p :: cs) (l :: items) := fun pos s Q E q => by
  subst hx
  rw [hs]
  show wpAny _ _ (spliced ((false, eval (.Constant (.str ⟨l.toArray⟩) j p) X.env) :: backTo pos (starEach cs X.env))) _ _ s
  refine Calls.spliced_cons (Calls.Constant_str (h pos _ _ E fun us k hk hl hu => ?_))
  have hk' : s.toks + 1 ≤ k := hk
  refine q _ k (by omega) (by rw [List.length_cons, List.length_cons, hl]) fun i l' hi => ?_
  cases i with
  | zero =>
    rw [List.getElem?_cons_zero] at hi
    cases hi
    exact ⟨s.toks, rfl, Nat.le_refl _, by omega⟩
  | succ i =>
    rw [List.getElem?_cons_succ] at hi
    obtain ⟨t, e, h1, h2⟩ := hu i l' hi
    have h1' : s.toks + 1 ≤ t := h1
    exact ⟨t, by rw [List.getElem?_cons_succ]; exact e, by omega, h2⟩
/-- for x in ("..", "..", ..): body -/
theorem rts_for {av : List Addr} {i : Nat} {x : Str} {cs : List Expr} {items : List (List Nat)} {k1} {px pt pos : Pos} {body : List Stmt} (hp : PassesOwn (model X.prog X.w) X.A X.env X.xe) (hc : X.calm = true) (hN : X.N.Nodup) (hi : X.N[i]? = some x) (hk : X.env.kindOf x = some .local) (hcs : CS X cs items) (hlen : items.length ≤ 1000)
    (Ψ : Nat → (Str → Option Value) → Env → Prop) (R : RTS X T pins B G0 H0 av ρ r s) (h0 : Ψ 0 ρ r) (hpos : 1 ≤ s.toks)
    (step : ∀ (av' : List Addr) (j : Nat) (l : List Nat) (t : Nat) (ρ' : Str → Option Value) (r' : Env) (s' : Shared), items[j]? = some l → t ≠ 0 → t < s'.toks → s.toks ≤ s'.toks → (∃ ρ₀ r₀, Ψ j ρ₀ r₀ ∧ ρ' = updN ρ₀ x (.str ⟨l.toArray⟩ t) ∧ r' = r₀.set i (.val (.str l))) → RTS X T pins B G0 H0 av' ρ' r' s' →
      wpAny (model X.prog X.w) X.A (execs body X.env) (fun fl s2 => fl = .next ∧ ∃ ρ2 r2, Ψ (j + 1) ρ2 r2 ∧ RTS X T pins B G0 H0 av' ρ2 r2 s2 ∧ Kp X s' s2) X.xe s') (hs : ∀ y, foldedSetIterable (.Tuple cs k1 pt) X.env y = pure y := by intro _; rfl) :
    wpAny (model X.prog X.w) X.A (exec (.For (.Name x px) (.Tuple cs k1 pt) body [] pos) X.env) (fun fl s2 => fl = .next ∧ ∃ ρ2 r2, Ψ items.length ρ2 r2 ∧ RTS X T pins B G0 H0 av ρ2 r2 s2 ∧ Kp X s s2) X.xe s := by
  refine wpAny_For ?_ hs
  refine wpAny_Tuple_spliced (hcs _ s _ _ fun us k hk' hl hu => ?_)
  have hsz : us.length ≤ sizeLine := by rw [hl, sizeLine_eq]; omega
  refine ⟨hsz, ?_⟩
  generalize ha : s.heap.objs.size = a
  obtain ⟨G, H, σ, tk, I, S, na⟩ := R.ex
  generalize hs1 : ({ s with heap := s.heap.push { cls := .type "tuple", data := .seq us.toArray }, toks := k } : Shared) = s1
  have e1 : s1.heap = s.heap.push { cls := .type "tuple", data := .seq us.toArray } := by rw [← hs1]
  have t1 : s1.toks = k := by rw [← hs1]
  have ht1 : IsTup s1.heap a us.toArray := by rw [e1, ← ha]; exact IsTup.new _ _
  have k1' : ∀ b o, s.heap.get? b = some o → s1.heap.get? b = some o := fun b o e => by rw [e1]; exact Heap.get?_push_of_some _ e
  have I1 : Inv X pins σ H s1 := by rw [← hs1]; exact I.kept (t' := k) fun b o e => Heap.get?_push_of_some _ e
  refine iter_tuple ht1 ?_
  generalize hit : s1.heap.objs.size = it
  generalize hs2 : ({ s1 with heap := s1.heap.push { cls := .type "tuple_iterator", data := .fields #[.ref a, .int 0 0] } } : Shared) = s2
  have e2 : s2.heap = s1.heap.push { cls := .type "tuple_iterator", data := .fields #[.ref a, .int 0 0] } := by rw [← hs2]
  have t2 : s2.toks = k := by rw [← hs2]; exact t1
  have k2' : ∀ b o, s1.heap.get? b = some o → s2.heap.get? b = some o := fun b o e => by rw [e2]; exact Heap.get?_push_of_some _ e
  have I2 : Inv X pins σ H s2 := by rw [← hs2]; exact I1.kept (t' := s1.toks) fun b o e => Heap.get?_push_of_some _ e
  have fp : FpOk X pins H it := I1.fpOk (Nat.le_of_eq hit) (I1.hok.fresh (Nat.le_of_eq hit))
  have ht2 : IsTup s2.heap a us.toArray := ht1.keeps k2'
  have hit2 : IsTupIter s2.heap it a 0 := by rw [e2, ← hit]; exact ⟨_, Heap.get?_push_size _ rfl, rfl, rfl⟩
  have aL : a ≠ X.env.locals := by
    have := I.lt
    rw [← ha]
    exact Nat.ne_of_gt this
  have ait : a ≠ it := by
    obtain ⟨o, ho, _⟩ := ht1
    rw [← hit]
    exact Nat.ne_of_lt (Heap.lt_size ho)
  have hk'' : s.toks ≤ k := hk'
  have R2 : RTS X T pins B G0 H0 (it :: av) ρ r s2 := ⟨⟨G, H, σ, tk.nf (NoF.refl _) (by rw [t2]; exact hk''), I2, S, fun b hb => by
    rcases List.mem_cons.mp hb with e | hb
    · rw [e]; exact ⟨fp.1, fp.2.1, _, hit2.choose_spec.1⟩
    · exact ⟨(na b hb).1, (na b hb).2.1, let ⟨o, e⟩ := (na b hb).2.2; ⟨o, k2' b o (k1' b o e)⟩⟩⟩, (R.ns.keeps k1').keeps k2'⟩
  obtain ⟨_, itL, itF, itS, itC, itP⟩ := fp
  have kp2 : Kp X s s2 := ⟨by rw [t2]; exact hk'', fun b o hb e => k2' b o (k1' b o e)⟩
  show codeAny _ _ (.forLoop (.Name x px) (.ref it) body [] X.env) _ s2
  refine codeAny_forLoop_any (fun n s' => ∃ j ρ' r', n = items.length - j ∧ j ≤ items.length ∧ Ψ j ρ' r' ∧ RTS X T pins B G0 H0 (it :: av) ρ' r' s' ∧ IsTupIter s'.heap it a j ∧ IsTup s'.heap a us.toArray ∧ s2.toks ≤ s'.toks ∧ (∀ b o, b ≠ X.env.locals → b ≠ it → s2.heap.get? b = some o → s'.heap.get? b = some o)) ?_ items.length ⟨0, ρ, r, by simp, Nat.zero_le _, h0, R2, hit2, ht2, Nat.le_refl _, fun b o _ _ e => e⟩
  rintro n s3 ⟨j, ρ3, r3, rfl, hj, hΨ, R3, it3, tp3, hk3, kp3⟩
  by_cases hlt : j < items.length
  · obtain ⟨t, hut, ht', ht''⟩ := hu j items[j] (List.getElem?_eq_getElem hlt)
    refine wpAny_passesOwn hp (next_tuple_item it3 tp3 (x := .str ⟨items[j].toArray⟩ t) (by simpa using hut) fun h4 it4 sb4 => ?_)
    obtain ⟨o4, ho4, hc4, hd4⟩ := id it4
    refine wpAny_passesOwn hp (go_of (s := { s3 with heap := h4 }) ho4 hc4 hd4 (by decide) ?_)
    have R4 : RTS X T pins B G0 H0 (it :: av) ρ3 r3 { s3 with heap := h4 } := by
      obtain ⟨G3, H3, σ3, tk3, I3, S3, na3⟩ := R3.ex
      exact ⟨⟨G3, H3, σ3, tk3, I3.turned (t' := s3.toks) (fun b o hb e => (sb4.2 b hb).trans e) (na3 it List.mem_cons_self).1 itL itS itC itP, S3, fun b hb => ⟨(na3 b hb).1, (na3 b hb).2.1, by
        by_cases e : b = it
        · rw [e]; exact ⟨o4, ho4⟩
        · obtain ⟨o, z⟩ := (na3 b hb).2.2
          exact ⟨o, (sb4.2 b e).trans z⟩⟩⟩, R3.ns.sameBut sb4 (Ne.symm itL)⟩
    refine wpAny_passesOwn hp (wpAny_assign_Name (rts_store R4 (v := .str ⟨items[j].toArray⟩) (d := .str items[j]) ⟨t, rfl⟩ (fun G => .str _) hN hi hk fun s5 R5 kp5 => ?_))
    have hk5 : s3.toks ≤ s5.toks := kp5.1
    have bd := step (it :: av) j items[j] t _ _ s5 (List.getElem?_eq_getElem hlt) (by omega) (by omega) (by omega) ⟨ρ3, r3, hΨ, rfl, rfl⟩ R5
    refine wpAny_passesOwn hp (thn bd fun fl s6 q6 => ?_)
    obtain ⟨rfl, ρ6, r6, hΨ6, R6, kp6⟩ := q6
    have kk : ∀ b o, b ≠ X.env.locals → b ≠ it → s3.heap.get? b = some o → s6.heap.get? b = some o := fun b o h1 h2 e => kp6.2 b o h1 (kp5.2 b o h1 ((sb4.2 b h2).trans e))
    refine ⟨items.length - (j + 1), by omega, j + 1, ρ6, r6, rfl, hlt, hΨ6, R6, ?_, ?_, ?_, fun b o h1 h2 e => kk b o h1 h2 (kp3 b o h1 h2 e)⟩
    · exact ⟨o4, kp6.2 it o4 itL (kp5.2 it o4 itL ho4), hc4, hd4⟩
    · obtain ⟨o, ho, hc', hd'⟩ := tp3
      exact ⟨o, kk a o aL ait ho, hc', hd'⟩
    · have := kp6.1; omega
  · have ej : j = items.length := by omega
    subst ej
    obtain ⟨G3, H3, σ3, tk3, I3, S3, na3⟩ := R3.ex
    refine wpAny_passesOwn hp (next_tuple_end (I3.ok.hd hc) it3 tp3 (by simp [hl]) fun h4 eb4 => ?_)
    refine wpAny_execs_nil ⟨rfl, ρ3, r3, hΨ, ⟨⟨G3, H3, σ3, tk3, I3.turned (t' := s3.toks) (fun b o hb e => eb4 b o hb e) (na3 it List.mem_cons_self).1 itL itS itC itP, S3, fun b hb => ⟨(na b hb).1.symm ▸ (na3 b (List.mem_cons_of_mem _ hb)).1, (na b hb).2.1, by
      obtain ⟨o, z⟩ := (na b hb).2.2
      have hb2 : b ≠ it := by
        have h1 := Heap.lt_size (k1' b o z)
        rw [hit] at h1
        exact Nat.ne_of_lt h1
      exact ⟨o, eb4 b o hb2 (kp3 b o (na b hb).2.1 hb2 (k2' b o (k1' b o z)))⟩⟩⟩, R3.ns.extBut eb4 (Ne.symm itL)⟩, by show s.toks ≤ s3.toks; omega, fun b o hb e => ?_⟩
    have hb2 : b ≠ it := by
      have h1 := Heap.lt_size (k1' b o e)
      rw [hit] at h1
      exact Nat.ne_of_lt h1
    exact eb4 b o hb2 (kp3 b o hb hb2 (k2' b o (k1' b o e)))
end
end PL

/-! x = x + [(a, b, ".."), (a, b, "..")]: triples held by their objects. -/
namespace PL
open PySem PySem.Spec PyProof.Rows L2
section
variable {X : Cx} {T : CT} {pins : List (Addr × Obj)} {ρ : Str → Option Value} {s : Shared} {B G0 H0 : Hp} {r : Env}
/-- with values at hand -/
structure RTV (X : Cx) (T : CT) (pins : List (Addr × Obj)) (B G0 H0 : Hp) (av : List Addr) (ρ : Str → Option Value) (r : Env) (vs : List V) (ds : List Dt) (s : Shared) : Prop where
  ex : ∃ G H σ, TokH H s.toks ∧ Inv X pins σ H s ∧ StT X.K T B G0 H0 G H σ r ∧ (∀ b ∈ av, H b = none ∧ b ≠ X.env.locals ∧ ∃ o, s.heap.get? b = some o) ∧ RpA X.K T G vs ds
  ns : s.heap.Ns X.env.locals ρ
theorem RTV.nil {av : List Addr} (R : RTS X T pins B G0 H0 av ρ r s) : RTV X T pins B G0 H0 av ρ r [] [] s := by
  obtain ⟨G, H, σ, a, b, c, d⟩ := R.ex
  exact ⟨⟨G, H, σ, a, b, c, d, .nil⟩, R.ns⟩
/-- (a, b, "..") -/
theorem rtv_tup {av : List Addr} {vs : List V} {ds : List Dt} {xa xb xc : Str} {m q : List Nat} (e : List Nat) {ta tb : Nat} {pa pb pc pos : Pos} {j k1} {Q E : Value → Shared → Prop} (R : RTV X T pins B G0 H0 av ρ r vs ds s) (ha : ρ xa = some (.str ⟨m.toArray⟩ ta)) (hb : ρ xb = some (.str ⟨q.toArray⟩ tb)) (ka : X.env.kindOf xa = some .local) (kb : X.env.kindOf xb = some .local) (da : (xa == ("__debug__" : Str)) = false) (db : (xb == ("__debug__" : Str)) = false) (hc : xc = ⟨e.toArray⟩)
    (ga : ta ≠ 0 ∧ ta < s.toks) (gb : tb ≠ 0 ∧ tb < s.toks) (h : ∀ p s', RTV X T pins B G0 H0 av ρ r (.ref p :: vs) (.man m q e :: ds) s' → Kp X s s' → Q (.ref p) s')
    (hs : starEach [.Name xa pa, .Name xb pb, .Constant (.str xc) j pc] X.env = [(false, eval (.Name xa pa) X.env), (false, eval (.Name xb pb) X.env), (false, eval (.Constant (.str xc) j pc) X.env)] := by rfl) :
    wpAny (model X.prog X.w) X.A (eval (.Tuple [.Name xa pa, .Name xb pb, .Constant (.str xc) j pc] k1 pos) X.env) Q E s := by
  subst hc
  obtain ⟨G, H, σ, tk, I, S, na, rp⟩ := R.ex
  refine wpAny_Tuple_spliced ?_
  rw [hs]
  show wpAny _ _ (spliced ((false, eval (.Name xa pa) X.env) :: backTo pos [(false, eval (.Name xb pb) X.env), (false, eval (.Constant (.str ⟨e.toArray⟩) j pc) X.env)])) _ _ s
  refine Calls.spliced_cons (wpAny_Name (wpAny_loadName_local I.ok.kind ka R.ns ha ?_) da)
  show wpAny _ _ (spliced ((false, eval (.Name xb pb) X.env) :: backTo pos [(false, eval (.Constant (.str ⟨e.toArray⟩) j pc) X.env)])) _ _ s
  refine Calls.spliced_cons (wpAny_Name (wpAny_loadName_local I.ok.kind kb R.ns hb ?_) db)
  show wpAny _ _ (spliced ((false, eval (.Constant (.str ⟨e.toArray⟩) j pc) X.env) :: backTo pos [])) _ _ s
  refine Calls.spliced_cons (Calls.Constant_str (Calls.spliced_nil ?_))
  have h3 : (3 : Nat) ≤ sizeLine := by decide
  have hp := tk.pos
  have hfr : H s.heap.objs.size = none := I.hok.fresh (Nat.le_refl _)
  obtain ⟨o, ho⟩ : ∃ o : Obj, o = { cls := .type "tuple", data := .seq #[.str ⟨m.toArray⟩ ta, .str ⟨q.toArray⟩ tb, .str ⟨e.toArray⟩ s.toks] } := ⟨_, rfl⟩
  have good : GoodO (s.toks + 1) o := fun xs k ed u hu => by
    rw [ho] at ed
    cases ed
    simp only [List.mem_cons, List.not_mem_nil, or_false] at hu
    rcases hu with rfl | rfl | rfl
    · exact ⟨ga.1, Nat.lt_succ_of_lt ga.2⟩
    · exact ⟨gb.1, Nat.lt_succ_of_lt gb.2⟩
    · exact ⟨Nat.ne_of_gt hp, Nat.lt_succ_self _⟩
  refine ⟨h3, h _ _ ⟨⟨upd G s.heap.objs.size (.frz o (.tup [.str ⟨m.toArray⟩, .str ⟨q.toArray⟩, .str ⟨e.toArray⟩])), upd H s.heap.objs.size (.frz o (.tup [.str ⟨m.toArray⟩, .str ⟨q.toArray⟩, .str ⟨e.toArray⟩])), σ, ⟨Nat.le_trans hp (Nat.le_succ _), fun a ob xs ea => ?_⟩, ?_, ?_, fun b hb => ?_, .cons (.man upd_same) ?_⟩, ?_⟩ ⟨Nat.le_succ _, fun b o' _ e' => Heap.get?_push_of_some _ e'⟩⟩
  · by_cases hA : a = s.heap.objs.size
    · rw [hA, upd_same] at ea
      cases ea
      exact good
    · rw [upd_ne hA] at ea
      exact (tk.good a ob xs ea).le (Nat.le_succ _)
  · refine I.laid (t' := s.toks + 1) (fun b u e => Heap.get?_push_of_some _ e) (Nat.le_refl _) ⟨by rw [ho]; exact Heap.get?_push_size _ rfl, h3, [.str ⟨m.toArray⟩ ta, .str ⟨q.toArray⟩ tb, .str ⟨e.toArray⟩ s.toks], .cons ⟨_, rfl⟩ (.cons ⟨_, rfl⟩ (.cons ⟨_, rfl⟩ .nil)), ⟨_, Heap.get?_push_size _ rfl, rfl, _, rfl⟩⟩
  · refine S.nx0 ⟨same_new (S.fits.gh.free hfr), same_new hfr, same_upd2 S.fits.gh, fun a => ?_⟩
    by_cases hA : a = s.heap.objs.size
    · exact .inr (.inr (.inl (by rw [hA]; exact hfr)))
    · rw [upd_ne hA]
      cases q : G a with
      | none => exact .inl rfl
      | some o => exact .inr (.inl (fun z => by cases z))
  · obtain ⟨h1, h2, ob, h4⟩ := na b hb
    exact ⟨by rw [upd_ne (Nat.ne_of_lt (Heap.lt_size h4))]; exact h1, h2, ob, Heap.get?_push_of_some _ h4⟩
  · exact RpA.mono (same_new (S.fits.gh.free hfr)) _ rp
  · exact R.ns.push _
/-- x = x + [(a, b, ".."), (a, b, "..")] -/
theorem rts_add2 {av : List Addr} {ds : List Dt} {i : Nat} {x xa xb xc xd : Str} {m q : List Nat} (e1 e2 : List Nat) {ta tb : Nat} {px px' pa pb pc pa2 pb2 pd pt pt2 pl pbn pos : Pos} {j j2 k1 k2} {E : Value → Shared → Prop} (R : RTS X T pins B G0 H0 av ρ r s) (hr : r[i]? = some (.val (.lst ds))) (hlen : ds.length ≤ 1000)
    (hN : X.N.Nodup) (hi : X.N[i]? = some x) (hk : X.env.kindOf x = some .local) (ha : ρ xa = some (.str ⟨m.toArray⟩ ta)) (hb : ρ xb = some (.str ⟨q.toArray⟩ tb)) (ka : X.env.kindOf xa = some .local) (kb : X.env.kindOf xb = some .local) (da : (xa == ("__debug__" : Str)) = false) (db : (xb == ("__debug__" : Str)) = false) (dx : (x == ("__debug__" : Str)) = false) (hc : xc = ⟨e1.toArray⟩) (hd : xd = ⟨e2.toArray⟩)
    (ga : ta ≠ 0 ∧ ta < s.toks) (gb : tb ≠ 0 ∧ tb < s.toks) {Q : Flow → Shared → Prop} (h : ∀ u s', RTS X T pins B G0 H0 av (updN ρ x u) (r.set i (.val (.lst (ds ++ [.man m q e1, .man m q e2])))) s' → Kp X s s' → Q .next s')
    (hs1 : starEach [.Name xa pa, .Name xb pb, .Constant (.str xc) j pc] X.env = [(false, eval (.Name xa pa) X.env), (false, eval (.Name xb pb) X.env), (false, eval (.Constant (.str xc) j pc) X.env)] := by rfl)
    (hs2 : starEach [.Name xa pa2, .Name xb pb2, .Constant (.str xd) j2 pd] X.env = [(false, eval (.Name xa pa2) X.env), (false, eval (.Name xb pb2) X.env), (false, eval (.Constant (.str xd) j2 pd) X.env)] := by rfl)
    (hs3 : starEach [.Tuple [.Name xa pa, .Name xb pb, .Constant (.str xc) j pc] k1 pt, .Tuple [.Name xa pa2, .Name xb pb2, .Constant (.str xd) j2 pd] k2 pt2] X.env = [(false, eval (.Tuple [.Name xa pa, .Name xb pb, .Constant (.str xc) j pc] k1 pt) X.env), (false, eval (.Tuple [.Name xa pa2, .Name xb pb2, .Constant (.str xd) j2 pd] k2 pt2) X.env)] := by rfl)
    (hsw : swapsWith (.BinOp (.Name x px) .Add (.List [.Tuple [.Name xa pa, .Name xb pb, .Constant (.str xc) j pc] k1 pt, .Tuple [.Name xa pa2, .Name xb pb2, .Constant (.str xd) j2 pd] k2 pt2] pl) pbn) (some (.Name x px')) pos.line X.env = pure false := by rfl) :
    wpAny (model X.prog X.w) X.A (exec (.Assign [.Name x px'] (.BinOp (.Name x px) .Add (.List [.Tuple [.Name xa pa, .Name xb pb, .Constant (.str xc) j pc] k1 pt, .Tuple [.Name xa pa2, .Name xb pb2, .Constant (.str xd) j2 pd] k2 pt2] pl) pbn) pos) X.env) Q E s := by
  refine wpAny_Assign_Name ?_ hsw
  refine wpAny_BinOp ?_
  obtain ⟨G, H, σ, tk, I, S, na⟩ := id R.ex
  obtain ⟨v0, hσ, rp0⟩ := S.fits.val i _ hr
  obtain ⟨m0, hm0, hl0⟩ := id I.loc
  obtain ⟨u0, ru0, lk0⟩ := hl0 i x v0 hi hσ (.inl hk)
  have em : m0 = ρ := hm0.eq_nsMap.trans R.ns.eq_nsMap.symm
  subst em
  have hx : m0 x = some u0 := by
    rcases lk0 with ⟨_, e⟩ | ⟨k, _⟩
    · exact e
    · rcases k with k | k <;> (rw [hk] at k; cases k)
  cases rp0 with
  | @lst p ws _ g1 g2 =>
  cases ru0
  refine wpAny_Name (wpAny_loadName_local I.ok.kind hk R.ns hx ?_) dx
  refine wpAny_List_spliced ?_
  rw [hs3]
  show wpAny _ _ (spliced ((false, eval (.Tuple [.Name xa pa, .Name xb pb, .Constant (.str xc) j pc] k1 pt) X.env) :: backTo pl [(false, eval (.Tuple [.Name xa pa2, .Name xb pb2, .Constant (.str xd) j2 pd] k2 pt2) X.env)])) _ _ s
  have R0 : RTV X T pins B G0 H0 av m0 r [.ref p] [.lst ds] s := ⟨⟨G, H, σ, tk, I, S, na, .cons (.lst g1 g2) .nil⟩, R.ns⟩
  refine Calls.spliced_cons (rtv_tup e1 R0 ha hb ka kb da db hc ga gb (fun p1 s1 R1 kp1 => ?_) hs1)
  have ga1 : ta ≠ 0 ∧ ta < s1.toks := ⟨ga.1, Nat.lt_of_lt_of_le ga.2 kp1.1⟩
  have gb1 : tb ≠ 0 ∧ tb < s1.toks := ⟨gb.1, Nat.lt_of_lt_of_le gb.2 kp1.1⟩
  show wpAny _ _ (spliced ((false, eval (.Tuple [.Name xa pa2, .Name xb pb2, .Constant (.str xd) j2 pd] k2 pt2) X.env) :: backTo pl [])) _ _ s1
  refine Calls.spliced_cons (rtv_tup e2 R1 ha hb ka kb da db hd ga1 gb1 (fun p2 s2 R2 kp2 => ?_) hs2)
  refine Calls.spliced_nil ?_
  refine ⟨by show 2 ≤ sizeLine; decide, ?_⟩
  obtain ⟨G2, H2, σ2, tk2, I2, S2, na2, rp2⟩ := R2.ex
  cases rp2 with
  | cons q2 rp2 =>
  cases rp2 with
  | cons q1 rp2 =>
  cases rp2 with
  | cons q0 rp2 =>
  cases q0 with
  | lst g3 g4 =>
  rename_i ws2
  -- the list of the two
  generalize hs3' : ({ s2 with heap := s2.heap.push { cls := .type "list", data := .seq [Value.ref p1, Value.ref p2].toArray } } : Shared) = s3
  have e3 : s3.heap = s2.heap.push { cls := .type "list", data := .seq [Value.ref p1, Value.ref p2].toArray } := by rw [← hs3']
  have t3 : s3.toks = s2.toks := by rw [← hs3']
  have k3 : ∀ b o, s2.heap.get? b = some o → s3.heap.get? b = some o := fun b o e => by rw [e3]; exact Heap.get?_push_of_some _ e
  have I3 : Inv X pins σ2 H2 s3 := by rw [← hs3']; exact I2.kept (t' := s2.toks) fun b o e => Heap.get?_push_of_some _ e
  obtain ⟨_, its, n, rv, hlen2, hp⟩ := I2.lstM (S2.fits.gh _ _ g3)
  have hp3 : s3.heap.get? p = some { cls := .type "list", data := .seq its.toArray n } := k3 _ _ hp
  have hq3 : s3.heap.get? s2.heap.objs.size = some { cls := .type "list", data := .seq [Value.ref p1, Value.ref p2].toArray } := by rw [e3]; exact Heap.get?_push_size _ rfl
  have hwl : ws2.length = ds.length := g4.length
  refine PySem.P.add_list hp3 hq3 ?_ (by rw [List.size_toArray, List.size_toArray]; show its.length + 2 ≤ sizeLine; rw [sizeLine_eq]; omega)
  have ea : its.toArray ++ [Value.ref p1, Value.ref p2].toArray = (its ++ [Value.ref p1, Value.ref p2]).toArray := by simp
  rw [ea]
  have hfr : H2 s3.heap.objs.size = none := I3.hok.fresh (Nat.le_refl _)
  have vv : Vals (ws2 ++ [V.ref p1, V.ref p2]) (its ++ [Value.ref p1, Value.ref p2]) := rv.append (.cons rfl (.cons rfl .nil))
  have I4 := I3.lnew (t' := s3.toks) vv (by rw [List.length_append]; show ws2.length + 2 ≤ sizeLine; rw [sizeLine_eq]; omega)
  have n4 := Nx.new (o := .lst (ws2 ++ [V.ref p1, V.ref p2])) S2.fits.gh hfr
  have S4 := S2.nx0 n4.n0
  have rpn : Rp X.K T (upd G2 s3.heap.objs.size (.lst (ws2 ++ [V.ref p1, V.ref p2]))) (.ref s3.heap.objs.size) (.lst (ds ++ [.man m q e1, .man m q e2])) :=
    .lst upd_same (RpA.append (RpA.mono n4.gg _ g4) (.cons (Rp.mono n4.gg _ q1) (.cons (Rp.mono n4.gg _ q2) .nil)))
  generalize hs5 : ({ s3 with heap := s3.heap.push { cls := .type "list", data := .seq (its ++ [Value.ref p1, Value.ref p2]).toArray } } : Shared) = s5
  have e5 : s5.heap = s3.heap.push { cls := .type "list", data := .seq (its ++ [Value.ref p1, Value.ref p2]).toArray } := by rw [← hs5]
  have t5 : s5.toks = s3.toks := by rw [← hs5]
  have k5 : ∀ b o, s3.heap.get? b = some o → s5.heap.get? b = some o := fun b o e => by rw [e5]; exact Heap.get?_push_of_some _ e
  have I5 : Inv X pins σ2 (upd H2 s3.heap.objs.size (.lst (ws2 ++ [V.ref p1, V.ref p2]))) s5 := by rw [← hs5]; exact I4
  have hcls : (X.env.scope.kind == .class || (X.env.scope.kind == .module && X.env.locals != X.env.globals)) = false := by rw [I5.ok.kind]; rfl
  have ns5 : s5.heap.Ns X.env.locals m0 := (R2.ns.keeps k3).keeps k5
  have kp5 : Kp X s s5 := by
    refine kp1.trans (kp2.trans ⟨by rw [t5, t3]; exact Nat.le_refl _, fun b o _ e => k5 b o (k3 b o e)⟩)
  refine wpAny_storeName_local hk ns5 (fun h' hn' hs => ?_) hcls
  refine h _ _ ⟨⟨_, _, _, (tk2.nf n4.nf (Nat.le_refl _)).nf (NoF.refl _) (by rw [t5, t3]; exact Nat.le_succ _), Inv.storedV I5 (v := .ref s3.heap.objs.size) rfl hN hi hk ns5 hn' hs, S4.set rpn, fun b hb => ?_⟩, hn'⟩ ⟨Nat.le_trans kp5.1 (Nat.le_succ _), fun b o hb e => (hs.2 b hb).trans (kp5.2 b o hb e)⟩
  obtain ⟨z1, z2, ob, z4⟩ := na2 b hb
  exact ⟨by rw [upd_ne (Nat.ne_of_lt (Heap.lt_size (k3 b ob z4)))]; exact z1, z2, ob, (hs.2 b z2).trans (k5 b ob (k3 b ob z4))⟩
end
end PL

/-! raise; try .. except X as n, the suite asks of what class n is. -/
namespace PL
open PySem PySem.Spec PyProof.Rows L2
section
variable {K : PySem.W.Frag} {T : CT} {G H G' H' B G0 H0 : Hp} {σ : L2.St} {r : Env} {P : Addr → Prop}
/-- what stands in a slot of which nothing is told is free -/
theorem Tr.hide {i : Nat} {x : Option V} (h : Tr K T G H P σ r) (hr : r[i]? = some .no) : Tr K T G H P (σ.set i x) r := by
  have := h.set (i := i) (x := x) (s := .no) (fun t e => by cases e) (fun l e => by cases e)
  have e : r.set i .no = r := by
    obtain ⟨hl, e⟩ := List.getElem?_eq_some_iff.mp hr
    rw [← e]
    exact List.set_getElem_self hl
  rw [e] at this
  exact this
theorem Fits.hide {i : Nat} {x : Option V} (F : Fits K T G H σ r) (hr : r[i]? = some .no) : Fits K T G H (σ.set i x) r := by
  have ne : ∀ {j : Nat} {s : Sl}, r[j]? = some s → s ≠ .no → j ≠ i := fun h1 h2 e => by subst e; rw [hr] at h1; cases h1; exact h2 rfl
  refine ⟨F.gh, by rw [List.length_set]; exact F.len, fun j d h => ?_, fun j ds h => ?_, fun j k ds es p h1 h2 h3 h4 => ?_, F.tr.hide hr⟩
  · rw [List.getElem?_set_ne (Ne.symm (ne h (fun z => by cases z)))]
    exact F.val j d h
  · rw [List.getElem?_set_ne (Ne.symm (ne h (fun z => by cases z)))]
    exact F.own j ds h
  · rw [List.getElem?_set_ne (Ne.symm (ne h1 (fun z => by cases z)))] at h3
    rw [List.getElem?_set_ne (Ne.symm (ne h2 (fun z => by cases z)))] at h4
    exact F.sep j k ds es p h1 h2 h3 h4
theorem StT.hide {i : Nat} {x : Option V} (S : StT K T B G0 H0 G H σ r) (hr : r[i]? = some .no) : StT K T B G0 H0 G H (σ.set i x) r := by
  refine ⟨S.fits.hide hr, S.base, S.nx, fun j ds p h1 h2 => ?_, S.tr.hide hr⟩
  have ne : j ≠ i := fun e => by subst e; rw [hr] at h1; cases h1
  rw [List.getElem?_set_ne (Ne.symm ne)] at h2
  exact S.ow j ds p h1 h2
end
/-- an exception class of the program over ValueError -/
structure ExcK (K : PySem.W.Frag) (mg : Str → Option Value) (T : CT) (x : Str) (c : Nat) : Prop where
  ex : PySem.W.excIn K (T c).1 [.type "ValueError", .type "Exception", .type "BaseException", .type "object"] "ValueError.__new__" = true
  gl : mg x = some (.ref (T c).1)
  kp : PySem.W.keepIn K (.ref (T c).1) = true
  bs : PySem.W.subIn K (.ref (T c).1) (.type "BaseException") = some true
  ty : PySem.W.typeIn K (.ref (T c).1) = some (.type "type")
section
variable {X : Cx} {T : CT}
theorem dsx_raise {x m : Str} {c : Nat} {j : Nat} {p p2 pos pos2 : Pos} (C : ExcK X.K X.mg T x c) (hc : X.calm = true) (hx : ∀ u s, ¬ X.xe u s) (hg : Gl X x := by rfl) (hdb : (x == ("__debug__" : Str)) = false := by decide +kernel) : DSX X T (.Raise (some (.Call (.Name x p) [.Constant (.str m) j p2] [] pos)) none pos2) (fun r => some (.error (c, r))) := by
  intro pins s B G0 H0 G H σ r o Q E tk I S h hQ hE
  cases h
  have pm := pmk_own (m := m) (j := j) (p := p) (p2 := p2) (pos := pos) PySem.F.excBase_ValueError C.ex C.gl C.kp (raises_own C.bs C.ty) hg hdb
  show wpAny _ _ (do standAt pos2; raiseStmt X.env (some (do let v ← eval (.Call (.Name x p) [.Constant (.str m) j p2] [] pos) X.env; standAt pos2; pure v)) none) _ _ _
  refine wpAny_bind (wpAny_standAt (raise_made (I.ok.hd hc) (wpAny_bind (wpAny_mono (wpAny_toks_of (Nat.le_refl _) (pm pins s σ H (fun cls d H' => cls = .ref (T c).1 ∧ d = none ∧ H' = H) I ⟨rfl, rfl, rfl⟩)) (fun u s1 hu => wpAny_bind (wpAny_standAt (wpAny_pure ?_))) (fun _ _ z => absurd z.2 (hx _ _))))))
  obtain ⟨hk, a, oe, vs, sI, H', cls, d, rfl, J, k, hne, ha, hz, hd, h1, na, os, ag, rr, rfl, rfl, rfl⟩ := hu
  obtain ⟨r1, r2⟩ := rr (model X.prog X.w) s1.heap (J.kIn.keeps k)
  exact ⟨a, oe, vs, _, rfl, ha, hz.1, hd, h1, r1, r2, hE c r _ _ rfl ⟨s.toks, hk, XE.new J k hne ha hz hd h1 na os ag ⟨rfl, rfl, G, tk, S⟩⟩⟩

/-! ### an except suite, slot i the exception at a -/
def GEE (K : PySem.W.Frag) (T : CT) (i : Nat) (a : Addr) (te : TE) (f : Env → Option Dt) : Prop :=
  ∀ (G H : Hp) (σ : L2.St) (r : Env) (d : Dt), Fits K T G H σ r → σ[i]? = some (some (.ref a)) → f r = some d → ∀ Q : VK, (∀ v G' H', Nx G H G' H' → Rp K T G' v d → Q v H') → te σ H Q
structure DEE (X : Cx) (T : CT) (i : Nat) (a : Addr) (e : Expr) (f : Env → Option Dt) : Prop where
  ex : ∃ te, PE X e te ∧ GEE X.K T i a te f
def GAE (K : PySem.W.Frag) (T : CT) (i : Nat) (a : Addr) (te : TA) (f : Env → Option (List Dt)) : Prop :=
  ∀ (G H : Hp) (σ : L2.St) (r : Env) (ds : List Dt), Fits K T G H σ r → σ[i]? = some (some (.ref a)) → f r = some ds → ∀ Q : List V → Hp → Prop, (∀ vs G' H', Nx G H G' H' → RpA K T G' vs ds → Q vs H') → te σ H Q
structure DAE (X : Cx) (T : CT) (i : Nat) (a : Addr) (es : List Expr) (f : Env → Option (List Dt)) : Prop where
  ex : ∃ te, PA X es te ∧ GAE X.K T i a te f
theorem DE.e {i : Nat} {a : Addr} {e : Expr} {f : Env → Option Dt} (h : DE X T e f) : DEE X T i a e f := by
  obtain ⟨te, pe, ge⟩ := h.ex
  exact ⟨te, pe, fun G H σ r d F _ hf Q q => ge G H σ r d F hf Q q⟩
theorem dae_nil {i : Nat} {a : Addr} : DAE X T i a [] fNil := ⟨_, pa_nil, fun G H σ r d F _ e Q q => by cases e; exact q [] G H (Nx.refl F.gh) .nil⟩
theorem dae_cons {i : Nat} {ad : Addr} {e : Expr} {es : List Expr} {a : Env → Option Dt} {b : Env → Option (List Dt)} (ha : DEE X T i ad e a) (hb : DAE X T i ad es b) (hs : starEach (e :: es) X.env = (false, eval e X.env) :: starEach es X.env := by rfl) : DAE X T i ad (e :: es) (fCons a b) := by
  obtain ⟨ta, pa, ga⟩ := ha.ex
  obtain ⟨tb, pb, gb⟩ := hb.ex
  refine ⟨_, pa_cons pa pb hs, fun G H σ r d F hσ e Q q => ?_⟩
  unfold fCons at e
  cases e1 : a r with
  | none => rw [e1] at e; cases e
  | some x =>
    cases e2 : b r with
    | none => rw [e1, e2] at e; cases e
    | some xs =>
      rw [e1, e2] at e
      cases e
      refine ga G H σ r _ F hσ e1 _ fun v G1 H1 n1 p1 => ?_
      exact gb G1 H1 σ r xs (F.nx n1) hσ e2 _ fun vs G2 H2 n2 p2 => q (v :: vs) G2 H2 (n1.trans n2) (.cons (Rp.mono n2.gg x p1) p2)
theorem dee_lst {i : Nat} {ad : Addr} {es : List Expr} {a : Env → Option (List Dt)} {pos : Pos} (ha : DAE X T i ad es a) : DEE X T i ad (.List es pos) (fL (fLst a)) := by
  obtain ⟨ta, pa, ga⟩ := ha.ex
  refine ⟨_, pe_lst pa, fun G H σ r d F hσ e Q q => ?_⟩
  unfold fL fLst at e
  cases e1 : a r with
  | none => rw [e1] at e; cases e
  | some l =>
    rw [e1] at e
    replace e : (if l.length ≤ 100000 then some l else none).map Dt.lst = some d := e
    by_cases hl : l.length ≤ 100000
    · rw [if_pos hl] at e
      cases e
      refine ga G H σ r _ F hσ e1 _ fun vs G1 H1 n1 p1 => ⟨sz5 (by rw [p1.length]; exact hl), fun p hp => ?_⟩
      have n2 := Nx.new (o := .lst vs) n1.gh hp
      exact q _ _ _ (n1.trans n2) (.lst upd_same (RpA.mono n2.gg _ p1))
    · rw [if_neg hl] at e; cases e
theorem dee_bin {i : Nat} {ad : Addr} {op : Operator} {f : Dt → Dt → Option Dt} {a b : Expr} {fa fb : Env → Option Dt} {pos : Pos} (ho : BinD X T (binaryOp op) f) (ha : DEE X T i ad a fa) (hb : DEE X T i ad b fb) : DEE X T i ad (.BinOp a op b pos) (fOp f fa fb) := by
  obtain ⟨rr, o1, o2⟩ := ho.ex
  obtain ⟨ta, pa, ga⟩ := ha.ex
  obtain ⟨tb, pb, gb⟩ := hb.ex
  refine ⟨_, pe_op o1 pa pb, fun G H σ r d F hσ h Q q => ?_⟩
  obtain ⟨x, y, h1, h2, h3⟩ := fOp_some h
  refine ga G H σ r x F hσ h1 _ fun v G1 H1 n1 p1 => ?_
  refine gb G1 H1 σ r y (F.nx n1) hσ h2 _ fun w G2 H2 n2 p2 => ?_
  exact o2 G2 H2 v w x y d n2.gh (Rp.mono n2.gg x p1) p2 h3 Q fun z G3 H3 n3 p3 => q z G3 H3 ((n1.trans n2).trans n3) p3
/-- the exceptions' classes, asked by isinstance -/
structure XsOk (K : PySem.W.Frag) (T : CT) (xsub : Nat → Nat → Option Bool) : Prop where
  ok : ∀ c k b, xsub c k = some b → ExcC K (T c).1 ∧ PySem.W.kitOne K (.ref (T c).1) (.ref (T k).1) = some b
def fIsX (xsub : Nat → Nat → Option Bool) (c k : Nat) : Env → Option Dt := fun _ => (xsub c k).map Dt.bl
theorem dee_isx {i : Nat} {a : Addr} {oe : Obj} {pn : List (Addr × Obj)} {xsub : Nat → Nat → Option Bool} {c k : Nat} {x n : Str} {p pn' pc pos : Pos} (S : XsOk X.K T xsub) (hz : Zc (.ref (T c).1) none oe) (hf : ∃ vs, oe.data = .fields vs) (hm : X.mg "isinstance" = none) (hk : X.mg x = some (.ref (T k).1)) (hN : X.N[i]? = some n := by rfl) (hv : Vis X.env.scope n := by first | exact Or.inl rfl | exact Or.inr (Or.inl rfl) | exact Or.inr (Or.inr rfl)) (hd : (n == ("__debug__" : Str)) = false := by decide +kernel) (hcd : (n == ("__classdict__" : Str)) = false := by decide +kernel)
    (hdx : (x == ("__debug__" : Str)) = false := by decide +kernel) (hg : Gl X "isinstance" := by rfl) (hgx : Gl X x := by rfl)
    (hs : starEach [.Name n pn', .Name x pc] X.env = (false, eval (.Name n pn') X.env) :: starEach [.Name x pc] X.env := by rfl) (hs2 : starEach [.Name x pc] X.env = (false, eval (.Name x pc) X.env) :: starEach [] X.env := by rfl) (hpl : (backTo pos (starEach [.Name x pc] X.env)).any (·.1) = false := by rfl) :
    DEE (X.suite a ((a, oe) :: pn)) T i a (.Call (.Name "isinstance" p) [.Name n pn', .Name x pc] [] pos) (fIsX xsub c k) := by
  cases e : xsub c k with
  | none =>
    refine ⟨fun _ _ _ => False, ⟨fun pins s σ H Q I h => h.elim⟩, fun G H σ r d F hσ hf' Q q => ?_⟩
    unfold fIsX at hf'
    rw [e] at hf'
    cases hf'
  | some b =>
    obtain ⟨C, ki⟩ := S.ok c k b e
    refine ⟨_, pe_callB (X := X.suite a ((a, oe) :: pn)) (call_isE C hz hf) hg hm (by decide +kernel) (pa_cons (pe_var (i := i) hN hv hd hcd) (pa_cons (pe_glob (v := .ref (T k).1) hgx hk rfl hdx) pa_nil hs2) hs) (by decide +kernel) (by decide +kernel) hs hpl, fun G H σ r d F hσ hf' Q q => ?_⟩
    unfold fIsX at hf'
    rw [e] at hf'
    cases hf'
    exact ⟨.ref a, hσ, .ref (T k).1, _, b, rfl, fun u hu => hu, ki, q _ G H (Nx.refl F.gh) (.bl b)⟩
def GSE (K : PySem.W.Frag) (T : CT) (i : Nat) (a : Addr) (ts : TS) (g : Env → Option Env) : Prop :=
  ∀ (B G0 H0 G H : Hp) (σ : L2.St) (r r' : Env), St1 K T B G0 H0 G H σ r → σ[i]? = some (some (.ref a)) → r[i]? = some .no → g r = some r' → ∀ D : Ends, (∀ G' H' σ', St1 K T B G0 H0 G' H' σ' r' → σ'[i]? = some (some (.ref a)) → r'[i]? = some .no → D.nx σ' H') → ts D σ H
structure DSE (X : Cx) (T : CT) (i : Nat) (a : Addr) (sts : List Stmt) (g : Env → Option Env) : Prop where
  ex : ∃ ts, PSs X sts ts ∧ GSE X.K T i a ts g
def eSet (j : Nat) (f : Env → Option Dt) : Env → Option Env := fun r => (f r).map fun d => r.set j (.val d)
theorem dse_one (j : Nat) {i : Nat} {a : Addr} {x : Str} {e : Expr} {f : Env → Option Dt} {pos pos' : Pos} (hij : j ≠ i) (hN : X.N.Nodup) (he : DEE X T i a e f) (hi : X.N[j]? = some x := by rfl) (hx : Loc X.env.scope x := by first | exact .inl rfl | exact .inr rfl) (hs : swapsWith e (some (.Name x pos')) pos.line X.env = pure false := by rfl)
    (hf : X.fn x = true ∨ X.env.scope.names.lookup x = some .local := by first | exact .inl rfl | exact .inr rfl) : DSE X T i a [.Assign [.Name x pos'] e pos] (eSet j f) := by
  obtain ⟨te, pe, ge⟩ := he.ex
  refine ⟨_, pss_one (ps_set hN hi hx pe hs hf), fun B G0 H0 G H σ r r' S hσ hr e D m => ?_⟩
  unfold eSet at e
  cases e1 : f r with
  | none => rw [e1] at e; cases e
  | some d =>
    rw [e1] at e
    cases e
    refine ge G H σ r d S.fits hσ e1 _ fun v G1 H1 n1 p1 => m G1 H1 _ ((S.nx' n1).set p1) ?_ ?_
    · rw [List.getElem?_set_ne hij]; exact hσ
    · rw [List.getElem?_set_ne hij]; exact hr
theorem dse_cons (j : Nat) {i : Nat} {a : Addr} {x : Str} {e : Expr} {rest : List Stmt} {f : Env → Option Dt} {g : Env → Option Env} {pos pos' : Pos} (hij : j ≠ i) (hN : X.N.Nodup) (he : DEE X T i a e f) (hr : DSE X T i a rest g) (hi : X.N[j]? = some x := by rfl) (hx : Loc X.env.scope x := by first | exact .inl rfl | exact .inr rfl) (hs : swapsWith e (some (.Name x pos')) pos.line X.env = pure false := by rfl)
    (hf : X.fn x = true ∨ X.env.scope.names.lookup x = some .local := by first | exact .inl rfl | exact .inr rfl) : DSE X T i a (.Assign [.Name x pos'] e pos :: rest) (fun r => (eSet j f r).bind g) := by
  obtain ⟨te, pe, ge⟩ := he.ex
  obtain ⟨ts, ps, gs⟩ := hr.ex
  refine ⟨_, pss_cons (ps_set hN hi hx pe hs hf) ps, fun B G0 H0 G H σ r r' S hσ hr e D m => ?_⟩
  unfold eSet at e
  dsimp only at e
  cases e1 : f r with
  | none => rw [e1] at e; cases e
  | some d =>
    rw [e1] at e
    replace e : g (r.set j (.val d)) = some r' := e
    refine ge G H σ r d S.fits hσ e1 _ fun v G1 H1 n1 p1 => gs B G0 H0 G1 H1 _ _ r' ((S.nx' n1).set p1) ?_ ?_ e D m
    · rw [List.getElem?_set_ne hij]; exact hσ
    · rw [List.getElem?_set_ne hij]; exact hr
/-- try: st, except x as n: suite -/
def fTry (i : Nat) (gb : Env → Option OutX) (h : Nat → Env → Option Env) : Env → Option Out := fun r => match gb r with
  | some (.ok o) => some o
  | some (.error (c, r')) => (match r'[i]? with
    | some .no => (h c r').map .nx
    | _ => none)
  | none => none
theorem dst_try (i : Nat) {k : Nat} {x n : Str} {body suite : List Stmt} {b₀ : Stmt} {gb : Env → Option OutX} {h : Nat → Env → Option Env} {np pos pos' : Pos} (hs : X.stack = X.env :: X.outer) (hf : X.env.frame = some X.env.locals) (hN : X.N.Nodup) (hc : X.mg x = some (.ref (T k).1)) (hex : ∀ c r r', h c r = some r' → PySem.W.exmOne X.K (.ref (T c).1) (.ref (T k).1) = some true)
    (hb : ∀ pn, DSXs (X.tr pn fun _ _ => False) T body gb) (hsu : ∀ (a : Addr) (oe : Obj) (pn : List (Addr × Obj)) (c : Nat), Zc (.ref (T c).1) none oe → (∃ vs, oe.data = .fields vs) → DSE (X.suite a ((a, oe) :: pn)) T i a (b₀ :: suite) (h c))
    (hi : X.N[i]? = some n := by rfl) (hln : X.env.kindOf n = some .local := by rfl) (hg : Gl X x := by rfl) (hdbg : (x == ("__debug__" : Str)) = false := by decide +kernel) :
    DST X T (.Try body [.ExceptHandler (some (.Name x np)) (some n) (b₀ :: suite) pos'] [] [] pos) (fTry i gb h) := by
  intro pins s B G0 H0 G H σ r o tk I S e
  have ok := I.ok
  have hfr : X.A.frames = some (X.env :: X.outer) := by rw [ok.frames, hs]
  have hloc : Loc X.env.scope n := .inl hln
  unfold fTry at e
  cases eo : gb r with
  | none => rw [eo] at e; cases e
  | some ob =>
    rw [eo] at e
    refine wpAny_Try_except ?_
    refine hb (X.pn ++ pins) [] s B G0 H0 G H σ r ob _ _ tk (I.toTry _) S eo (fun out fl s' e1 q => ?_) fun c r' u s' e1 xx => ?_
    · subst e1
      have eo2 : o = out := by cases e; rfl
      subst eo2
      cases o with
      | nx r' =>
        obtain ⟨rfl, G1, H1, σ1, g1, I1, S1⟩ := q
        exact wpAny_execs_nil ⟨rfl, G1, H1, σ1, g1, I1.ofTry ok, S1⟩
      | rt d =>
        obtain ⟨u, v, G1, H1, σ1, rfl, g1, I1, q⟩ := q
        exact ⟨u, v, G1, H1, σ1, rfl, g1, I1.ofTry ok, q⟩
      | bk r' =>
        obtain ⟨rfl, G1, H1, σ1, g1, I1, S1⟩ := q
        exact ⟨rfl, G1, H1, σ1, g1, I1.ofTry ok, S1⟩
      | ct r' =>
        obtain ⟨rfl, G1, H1, σ1, g1, I1, S1⟩ := q
        exact ⟨rfl, G1, H1, σ1, g1, I1.ofTry ok, S1⟩
    · subst e1
      replace e : (match r'[i]? with | some .no => (h c r').map Out.nx | _ => none) = some o := e
      split at e
      · rename_i hno
        cases eh : h c r' with
        | none => rw [eh] at e; cases e
        | some r2 =>
        rw [eh] at e
        cases e
        have hb1 := hex c r' r2 eh
        obtain ⟨n0, hn0, a, B', sI, pins', σ', H', cls, d, rfl, J', nb, up, sky, na, os, ag, rfl, rfl, G', tkn, S'⟩ := xx
        have J : Inv X pins σ' H' sI := J'.ofTry ok
        have sky' : Sky B' (X.env :: X.outer) a (Zc (.ref (T c).1) none) X.env.locals s'.heap := by rw [← hs]; exact sky
        show wpAny (model X.prog X.w) X.A (noteFrame (.ref a) X.env) _ _ _
        refine Sky.land Zc.steady hfr hf sky' fun h3 fl3 up3 => ?_
        have J3 : Inv X pins σ' H' { s' with heap := h3 } := J.landed nb fl3.1 (up.trans up3) os ag
        obtain ⟨oe3, vs3, he3, hz3, hd3⟩ := fl3.there
        have notFr : ∀ {h : Heap} {o : Obj} {vs : Array Value}, h.FunFrames B' (X.env :: X.outer) → h.get? a = some o → o.data = .fields vs → a ∉ frs (X.env :: X.outer) := fun {h o vs} ff e dd hm => by
          obtain ⟨_, o', e', hnf⟩ := ff.mem hm
          rw [e] at e'; cases e'
          exact hnf _ dd
        have nfr := notFr fl3.2.2.1 he3 hd3
        have nL : a ≠ X.env.locals := fun z => nfr (List.mem_filterMap.mpr ⟨X.env, List.mem_cons_self, by rw [hf, z]⟩)
        have nF : a ∉ X.fs := fun hm => by
          obtain ⟨e, he, q⟩ := List.mem_filterMap.mp hm
          exact nfr (List.mem_filterMap.mpr ⟨e, List.mem_cons_of_mem _ he, q⟩)
        have S3 := J3.suite he3 hd3 na nL nF
        refine wpAny_handleBy_cons (codeAny_handlers_test ?_) (by intro q; cases q)
        have LT : PySem.W.Looks (model X.prog X.w) h3 (typeOf (.ref a)) (.ref (T c).1) := fun A Q E s k q => wpAny_typeOf_ref (k _ _ he3) (by rw [hz3.1]; exact q)
        have LM := PySem.W.exm_one (M := model X.prog X.w) (J3.kIn) LT hb1
        have test : ∀ {Q : Value → Shared → Prop} {E : Value → Shared → Prop}, Q (.ref (T k).1) { s' with heap := h3 } → wpAny (model X.prog X.w) (X.A.mark (some (.ref a))) (eval (.Name x np) X.env) Q E { s' with heap := h3 } := fun {Q E} q =>
          ld_glob (X := X.suite a ((a, oe3) :: (X.pn ++ pins))) S3 hg hc q hdbg
        refine test (LM.here ?_)
        refine codeAny_handlers_suite_as ?_
        refine HandSPX.lands_againZ fl3 fun h4 fl4 up4 => ?_
        have J4 : Inv X pins σ' H' { s' with heap := h4 } := J.landed nb fl4.1 ((up.trans up3).trans up4) os ag
        obtain ⟨oe4, vs4, he4, hz4, hd4⟩ := fl4.there
        have S4 := J4.suite he4 hd4 na nL nF
        have hil : i < σ'.length := by rw [S'.fits.len]; exact (List.getElem?_eq_some_iff.mp hno).1
        refine wtk (store_ok (X := X.suite a ((a, oe4) :: (X.pn ++ pins))) (v := .ref a) (Q := fun _ s5 => Inv (X.suite a ((a, oe4) :: (X.pn ++ pins))) [] (σ'.set i (some (.ref a))) H' s5) S4 hN hi hloc rfl (fun s5 S5 => S5) (.inr hln)) fun _ s5 hk5 S5 => ?_
        have S'' := S'.hide (x := some (.ref a)) hno
        obtain ⟨H1, S1, conv, h0⟩ := S''.here
        obtain ⟨ts, ps, gs⟩ := (hsu a oe4 (X.pn ++ pins) c hz4 ⟨_, hd4⟩).ex
        have hk5' : s'.toks ≤ s5.toks := hk5
        have run := ps.run [] s5 _ H' { nx := fun σ6 H6 => ∃ G6, St1 X.K T B G' H1 G6 H6 σ6 r2 ∧ r2[i]? = some .no, rt := fun _ _ => False } S5 (gs B G' H1 G' H' _ r' r2 S1 (List.getElem?_set_self hil) hno eh _ fun G6 H6 σ6 S6 _ hn => ⟨G6, S6, hn⟩)
        refine wpAny_mono (wpAny_toks_of (Nat.le_refl _) run) (fun f s6 hsp => ?_) (fun _ _ z => False.elim z.2)
        obtain ⟨hk6, hsp⟩ := hsp
        cases f with
        | next =>
          obtain ⟨σ6, H6, S6, G6, St6, hn6⟩ := hsp
          obtain ⟨nx6, nf6⟩ := conv St6.nx
          refine wtk (gone_ok (Q := fun _ s7 => Inv X pins (σ6.set i none) H6 s7) (S6.unsuite ok) hN hi hln fun s7 J7 => J7) fun _ s7 hk7 J7 => ?_
          exact ⟨rfl, G6, H6, _, tkn.nf nf6 (by omega), J7, (St6.backT h0 nx6).hide hn6⟩
        | brk => obtain ⟨_, _, _, z⟩ := hsp; exact z.elim
        | cont => obtain ⟨_, _, _, z⟩ := hsp; exact z.elim
        | ret u => obtain ⟨_, _, _, _, _, z⟩ := hsp; exact z.elim
      · cases e
end
end PL

/-! Token-carrying judgements: comprehensions stored at once; items, tuples. -/
namespace PL
open PySem PySem.Spec PyProof.Rows L2
section
variable {X : Cx} {T : CT}
theorem lct_core {pins : List (Addr × Obj)} {s : Shared} {σ : L2.St} {G H : Hp} {r : Env} {total : List Dt} {use : Option (Value → Sem Unit)} {Qf : Value → Shared → Prop} {pos' : Pos} (g : TokH H s.toks) (I : Inv X pins σ H s) (F : Fits X.K T G H σ r) {elt iter : Expr} {x : Str} {px : Pos} {scope : Scope} {own : List (Str × Nat)} {pos : Pos} {f : Env → Option (List Dt)} {e : Env → Option Dt} {j : Nat} (hc : X.calm = true) (hN : X.N.Nodup) (hi : DIT X T (.Name x px) iter f) (ok : BlkOk X.N X.env.scope scope own) (hj : j ∈ own.map (·.2))
    (hg : ∀ (s : Shared) (H : Hp) (C : Addr) (cl : List (Str × Addr)) (fp : List Addr), PG (X.blk s H scope (compEnvC scope cl C X.env) fp) (.Name x px) (gName j))
    (he : ∀ (s : Shared) (H : Hp) (C : Addr) (cl : List (Str × Addr)) (fp : List Addr), DET (X.blk s H scope (compEnvC scope cl C X.env) fp) T elt e) (hs : ∀ x, foldedSetIterable iter X.env x = pure x) (e0 : fComp f j (own.map (·.2)) fYes e r = some total)
    (hRR : ∀ D C s' m G' H', TokH H' s'.toks → Inv X pins σ H' s' → Nx0 G H G' H' → Rp X.K T G' (.ref D) (.lst total) → s'.heap.Ns C m → FpOk X pins H' C → compPost (model X.prog X.w) X.A X.xe use Qf (.ref D) C (.ok .next) s') :
    wpAny (model X.prog X.w) X.A (comprehension (.ListComp elt [⟨.Name x px, iter, [], 0⟩] scope pos) scope X.env pos' (newList []) false (eval iter X.env) use) Qf X.xe s := by
  unfold fComp at e0
  cases e1 : f r with
  | none => rw [e1] at e0; cases e0
  | some items =>
  rw [e1] at e0
  obtain ⟨hlen, h⟩ := ite_opt e0
  have tl : total.length ≤ items.length := compL_len h
  have hfree : ∀ y ∈ scope.names, y.2 = .free → ∃ c, X.env.cells.lookup y.1 = some c := fun y hy e => by
    rcases ok.free y hy e with k | k
    · exact I.ok.has _ (.inl k)
    · exact I.ok.has _ (.inr k)
  refine wpAny_comprehension_free (use := use) rfl hs (closure_ok hfree) ok.kind (fun y hy e => by rw [ok.uniq y hy, e])
    (thn (hi pins s σ G H r items g I F e1) fun xv s1 hx => thn hx fun itv s2 h2 => ?_)
  obtain ⟨n0, hn0, it, fp, tn, J, H2, e', I2, W, st2, f2, g2, G2, n2, iok⟩ := h2
  subst e'
  refine wpAny_newObj_type (newEnv_comp ?_) (by show 0 ≤ sizeLine; decide)
  generalize hD : s2.heap.objs.size = D
  have hDn : H2 D = none := I2.hok.fresh (Nat.le_of_eq hD)
  have hHD : H D = none := n2.hh.free hDn
  have F2 : Fits X.K T G2 H2 (wipe σ (own.map (·.2))) (wipeE r (own.map (·.2))) := (F.nx0 n2).wipe _
  generalize hs3 : ({ s2 with heap := s2.heap.push { cls := .type "list", data := .seq ([] : List Value).toArray } } : Shared) = s3
  have I3 : Inv X pins σ (upd H2 D (.lst [])) s3 := by
    rw [← hs3]
    refine I2.laid (t' := s2.toks) (fun b o e => Heap.get?_push_of_some _ e) (Nat.le_of_eq hD) ⟨Nat.zero_le _, [], 0, .nil, ?_⟩
    rw [← hD]
    exact Heap.get?_push_size _ rfl
  have h3 : s3.heap = s2.heap.push { cls := .type "list", data := .seq ([] : List Value).toArray } := by rw [← hs3]
  have t3 : s3.toks = s2.toks := by rw [← hs3]
  have sz : ∀ b ∈ fp, b < s2.heap.objs.size := fun b hb => by
    obtain ⟨o, e, _⟩ := W.obj _ _ st2 b hb
    exact Heap.lt_size e
  have f3 : ∀ b ∈ fp, FpOk X pins (upd H2 D (.lst [])) b ∧ b < s3.heap.objs.size := fun b hb => by
    have hlt := sz b hb
    refine ⟨⟨?_, (f2 b hb).2⟩, by rw [h3, Heap.size_push]; exact Nat.lt_succ_of_lt hlt⟩
    rw [upd_ne (by rw [← hD]; exact Nat.ne_of_lt hlt)]
    exact (f2 b hb).1
  have st3 : tn 0 s3.heap := W.keep _ _ _ st2 fun b _ o e => by rw [h3]; exact Heap.get?_push_of_some _ e
  have I4 := block_start I3 ok hN f3
  have pg := hg s3 (upd H2 D (.lst [])) s3.heap.objs.size (cellsFrom (s3.heap.objs.size + 1) scope.names (cloFrom X.env.cells scope.names [])) fp
  have pe := he s3 (upd H2 D (.lst [])) s3.heap.objs.size (cellsFrom (s3.heap.objs.size + 1) scope.names (cloFrom X.env.cells scope.names [])) fp
  show codeAny _ _ (.compStart (.ListComp elt [⟨.Name x px, iter, [], 0⟩] scope pos) 0 (.ref it) (.ref D) (compEnvC scope (cellsFrom (s3.heap.objs.size + 1) scope.names (cloFrom X.env.cells scope.names [])) s3.heap.objs.size X.env)) (compPost (model X.prog X.w) X.A X.xe use Qf (.ref D) s3.heap.objs.size) { s3 with heap := pushCells (s3.heap.push { cls := .type "dict", data := .dict #[] }) scope.names }
  have nfp : ∀ b ∈ fp, (upd H2 D (.lst [])) b = none := fun b hb => (f3 b hb).1.1
  generalize hce : compEnvC scope (cellsFrom (s3.heap.objs.size + 1) scope.names (cloFrom X.env.cells scope.names [])) s3.heap.objs.size X.env = ce at I4 pg pe ⊢
  have cL : ce.locals = s3.heap.objs.size := by subst hce; rfl
  have nD : Nx G2 H2 G2 (upd H2 D (.lst [])) := Nx.newH n2.gh hDn
  have uD : (upd H2 D (.lst [])) D = some (.lst []) := upd_same
  generalize hH3 : upd H2 D (.lst []) = H3 at I3 I4 pg pe nfp f3 nD uD
  generalize hs4 : ({ s3 with heap := pushCells (s3.heap.push { cls := .type "dict", data := .dict #[] }) scope.names } : Shared) = s4 at I4 ⊢
  have t4 : s4.toks = s2.toks := by rw [← hs4]; exact t3
  have st4 : tn 0 s4.heap := W.keep _ _ _ st3 fun b _ o e => by rw [← hs4]; exact pushCells_keeps _ _ _ _ (Heap.get?_push_of_some _ e)
  have stat : ∀ {σ' : L2.St} {H' : Hp} {s' : Shared}, Inv (X.blk s3 H3 scope ce fp) [] σ' H' s' → (∀ b ∈ fp, H' b = none) → ∀ b ∈ fp, FpOk (X.blk s3 H3 scope ce fp) [] H' b := fun {σ' H' s'} I' hn b hb =>
    ⟨hn b hb, (I'.ok.exf b hb).1, I'.ok.exfs b hb, .inl hb, fun x c e => (I'.ok.exf b hb).2 x c e, fun p hp => absurd (show p ∈ ([] : List (Addr × Obj)) ++ [] from hp) (by simp)⟩
  have loop : codeAny (model X.prog X.w) X.A (.compLoop (.ListComp elt [⟨.Name x px, iter, [], 0⟩] scope pos) 0 (.ref it) (.ref D) ce) (compPost (model X.prog X.w) X.A X.xe use Qf (.ref D) s3.heap.objs.size) s4 := by
    refine compLoop_any (fun n s' => ∃ i H' G' acc dsA dsB, TokH H' s'.toks ∧ Inv (X.blk s3 H3 scope ce fp) [] (wipe σ (own.map (·.2))) H' s' ∧ tn i s'.heap ∧ (∀ b ∈ fp, H' b = none) ∧ n = items.length - i ∧ i ≤ items.length ∧ Nx0 G2 H2 G' H' ∧ G' D = none ∧ H' D = some (.lst acc) ∧ RpA X.K T G' acc dsA ∧ compL j fYes e (items.drop i) (wipeE r (own.map (·.2))) = some dsB ∧ dsA ++ dsB = total) ?_ items.length
      ⟨0, H3, G2, [], [], total, g2.nf nD.nf (by rw [t4]; exact hn0), I4, st4, nfp, by simp, Nat.zero_le _, nD.n0, n2.gh.free hDn, uD, .nil, by simpa using h, rfl⟩
    rintro n s5 ⟨i, H5, G5, acc, dsA, dsB, g5, I5, st5, n5, rfl, hi', nx5, hGD, hHD5, ra, hcm, happ⟩
    have eG : Same G2 H5 := nx5.gg.trans nx5.gh
    by_cases hlt : i < items.length
    · have ti := W.item (X.blk s3 H3 scope ce fp) rfl rfl rfl hc i [] s5 _ H5 (fun _ _ => False) I5 (stat I5 n5) st5 (iok.goes i H5 hlt eG)
      refine thnK ti fun rr s6 hk6 q6 => ?_
      obtain ⟨u, hr, h6⟩ := q6
      subst hr
      refine thnK h6 fun _ s7 hk7 q7 => ?_
      obtain ⟨xv, H7, I7, r7, y7, st7, n7⟩ := q7
      obtain ⟨G7, nx7, rx⟩ := iok.yields i H5 xv H7 items[i] (List.getElem?_eq_getElem hlt) eG y7 G5 nx5.gg nx5.gh
      have g7 : TokH H7 s7.toks := g5.nf nx7.nf (Nat.le_trans hk6 hk7)
      have hGD7 : G7 D = none := nx7.out hGD hHD5
      have hHD7 : H7 D = some (.lst acc) := nx7.hh _ _ hHD5
      have I7' := I7.pinned (stat I7 n7) (W.obj _ _ st7)
      rw [List.drop_eq_getElem_cons hlt] at hcm
      unfold compL at hcm
      have accl : acc.length < sizeLine := by
        have e1 := ra.length
        have e2 : dsA.length ≤ total.length := by rw [← happ, List.length_append]; omega
        have : (100000 : Nat) < sizeLine := by decide
        omega
      have pgr := pg.run _ s7 _ H7 xv u (fun σ8 H8 => σ8 = (wipe σ (own.map (·.2))).set j (some xv) ∧ H8 = H7) I7' r7 ⟨rfl, rfl⟩
      refine thnK pgr fun _ s8 hk8 q8 => ?_
      obtain ⟨σ8, H8, I8, rfl, rfl⟩ := q8
      refine wpAny_tests_nil ?_
      rw [if_pos rfl]
      have pin' : ∀ {σ' : L2.St} {H' : Hp} {s' : Shared}, Inv (X.blk s3 H3 scope ce fp) ([] ++ pinsAt fp s7.heap) σ' H' s' → ∀ b ∈ fp, ∀ o, s7.heap.get? b = some o → s'.heap.get? b = some o ∧ H' b = none := fun I' b hb o e =>
        let z := I'.pin (b, o) (List.mem_append_right _ (List.mem_append_right _ (mem_pinsAt hb e)))
        ⟨z.1, z.2.1⟩
      split at hcm
      · split at hcm
        · rename_i d' he'
          split at hcm
          · rename_i ds hrest
            cases hcm
            refine thnF (pe _ s8 _ G7 H8 _ d' (g7.nf (NoF.refl _) hk8) I8 (((F2.nx0 nx5).nx nx7).set rx) he') ?_
            rintro z s10 ⟨yv, G10, H10, g10, I10, r10, nx10, p10⟩
            have hD10 : H10 D = some (.lst acc) := nx10.hh _ _ hHD7
            have hGD10 : G10 D = none := nx10.out hGD7 hHD7
            refine thnK (app_ok (X := X.blk s3 H3 scope ce fp) (Q := fun _ s11 => Inv (X.blk s3 H3 scope ce fp) ([] ++ pinsAt fp s7.heap) _ (upd H10 D (.lst (acc ++ [yv]))) s11) I10 hD10 accl r10 fun s11 I11 => I11) fun _ s11 hk11 I11 => ?_
            have n14 := (nx5.trans nx7.n0).trans nx10
            refine ⟨items.length - (i + 1), by omega, i + 1, upd H10 D (.lst (acc ++ [yv])), G10, acc ++ [yv], dsA ++ [d'], ds, g10.nf (NoF.upd (fun _ _ z => by cases z)) hk11, (I11.unpinned (pins := [])).weak (by rw [List.length_set]) (fun k v e => ?_), W.keep _ _ _ st7 fun b hb o e => (pin' I11 b hb o e).1, fun b hb => ?_, rfl, hlt,
              ⟨n14.gg, fun b o hb => ?_, same_updR n14.gh hGD10, n14.fr⟩, hGD10, upd_same, (RpA.mono (nx7.gg.trans nx10.gg) _ ra).append (.cons p10 .nil), hrest, by rw [List.append_assoc]; exact happ⟩
            · have hw8 : wipe ((wipe σ (own.map (·.2))).set j (some xv)) (own.map (·.2)) = wipe σ (own.map (·.2)) := wipe_set hj
              rw [← hw8] at e
              exact (wipe_some e).1
            · obtain ⟨o, e, _⟩ := W.obj _ _ st7 b hb
              exact (pin' I11 b hb o e).2
            · rw [upd_ne (ne_of_none hb hDn)]
              exact n14.hh _ _ hb
          · cases hcm
        · cases hcm
      · rename_i hb
        cases hb
      · cases hcm
    · have e : i = items.length := by omega
      subst e
      rw [List.drop_length] at hcm
      cases hcm
      rw [List.append_nil] at happ
      subst happ
      have td := W.done (X.blk s3 H3 scope ce fp) rfl rfl rfl hc items.length [] s5 _ H5 (fun _ _ => False) I5 (stat I5 n5) st5 (iok.stops H5 eG)
      refine thnK td fun rr s6 hk6 q6 => ?_
      obtain ⟨hr, I6⟩ := q6
      subst hr
      have I7 : Inv X pins σ H5 s6 := I3.call' (ch := fp) I6.os I6.base I6.hok I6.bare fun b hb => ⟨(f3 b hb).1.2.2.2.1, (f3 b hb).1.2.1, (f3 b hb).1.2.2.2.2.1, (f3 b hb).1.2.2.2.2.2⟩
      have nC : H5 s3.heap.objs.size = none := by
        have z : H5 ce.locals = none := I6.free
        rw [cL] at z
        exact z
      obtain ⟨m, hn, _⟩ := I6.loc
      have hn : s6.heap.Ns ce.locals m := hn
      rw [cL] at hn
      have nn := n2.trans nx5
      refine hRR D s3.heap.objs.size s6 m (upd G5 D (.lst acc)) H5 (g5.nf (NoF.refl _) hk6) I7 ⟨nn.gg.trans (same_new hGD), nn.hh, same_updL nn.gh hHD5, fun a => ?_⟩ (.lst upd_same (RpA.mono (same_new hGD) _ ra)) hn (I3.fpOk (Nat.le_refl _) nC)
      by_cases ha : a = D
      · exact .inr (.inr (by rw [ha]; exact .inl hHD))
      · rw [upd_ne ha]
        exact nn.fr a
  exact codeAny_compStart_list loop (W.self X.A 0 _ _ _ st4 loop)

/-- y = [elt for x in iter] -/
theorem dst_setLc (i : Nat) {y : Str} {py : Pos} {elt iter : Expr} {x : Str} {px : Pos} {scope : Scope} {own : List (Str × Nat)} {pos spos : Pos} {f : Env → Option (List Dt)} {e : Env → Option Dt} {j : Nat} (hc : X.calm = true) (hN : X.N.Nodup) (hi : DIT X T (.Name x px) iter f) (ok : BlkOk X.N X.env.scope scope own) (hj : j ∈ own.map (·.2))
    (hg : ∀ (s : Shared) (H : Hp) (C : Addr) (cl : List (Str × Addr)) (fp : List Addr), PG (X.blk s H scope (compEnvC scope cl C X.env) fp) (.Name x px) (gName j))
    (he : ∀ (s : Shared) (H : Hp) (C : Addr) (cl : List (Str × Addr)) (fp : List Addr), DET (X.blk s H scope (compEnvC scope cl C X.env) fp) T elt e)
    (hsw : swapsWith (.ListComp elt [⟨.Name x px, iter, [], 0⟩] scope pos) (some (.Name y py)) spos.line X.env = pure true) (hy : X.N[i]? = some y := by rfl) (hyl : X.env.scope.names.lookup y = some .local := by rfl) (hs : ∀ x, foldedSetIterable iter X.env x = pure x := by intro _; rfl) :
    DST X T (.Assign [.Name y py] (.ListComp elt [⟨.Name x px, iter, [], 0⟩] scope pos) spos) (fSet i (fL (fComp f j (own.map (·.2)) fYes e))) := by
  intro pins s B G0 H0 G H σ r o g I S h
  unfold fSet fL at h
  cases e0 : fComp f j (own.map (·.2)) fYes e r with
  | none => rw [e0] at h; cases h
  | some total =>
  rw [e0] at h
  cases h
  rw [exec_Assign_Name_used _ _ _ _ hsw]
  refine wpAny_bind (wpAny_standAt (wpAny_bind ?_))
  show wpAny _ X.A (do let _ ← comprehension (.ListComp elt [⟨.Name x px, iter, [], 0⟩] scope pos) scope X.env (firstIterPos [⟨.Name x px, iter, [], 0⟩] pos) (newList []) false (eval iter X.env) (some (assign (.Name y py) X.env))) _ _ s
  refine wpAny_bind (thn (lct_core (Qf := fun _ s' => MtT X T pins B G0 H0 (.nx (r.set i (.val (.lst total)))) .next s') g I S.fits hc hN hi ok hj hg he hs e0 fun L C s' m G' H' g' I' n' rp hn f => ?_) fun _ s' hq => wpAny_pure (wpAny_pure hq))
  show wpAny _ _ (assign (.Name y py) X.env (.ref L)) _ _ _
  refine wtk (wpAny_assign_Name (store_ok2 (v := V.ref L) (Q := fun _ s2 => Inv X pins (σ.set i (some (.ref L))) H' s2 ∧ ∃ a, Heap.SameBut a s'.heap s2.heap ∧ (a = X.env.locals ∨ X.env.cells.lookup y = some a)) I' hN hy (.inl hyl) rfl (fun s2 I2 z => ⟨I2, z⟩) (.inr hyl))) ?_
  rintro _ s2 hk2 ⟨I2, a, sb, ha⟩
  obtain ⟨f0, f1, f2, f3, f4, f5⟩ := f
  have haC : C ≠ a := by
    rcases ha with z | z
    · rw [z]; exact f1
    · exact fun e => f4 y a z e.symm
  refine ⟨m, hn.sameBut sb haC, fun h3 sb3 => ?_⟩
  exact ⟨rfl, G', H', _, g'.nf (NoF.refl _) hk2, I2.turned (t' := s2.toks) (fun b o hb e => (sb3.2 b hb).trans e) f0 f1 f3 f4 f5, (S.nx0 n').set rp⟩
theorem det_ix {f : Dt → Dt → Option Dt} {a b : Expr} {fa fb : Env → Option Dt} {pos : Pos} (ho : IxD X T f) (ha : DET X T a fa) (hb : DET X T b fb) (hs : PlainIx b := by exact fun _ _ => rfl) : DET X T (.Subscript a b pos) (fOp f fa fb) := by
  intro pins s σ G H r d g I F h
  obtain ⟨rr, o1, o2⟩ := ho.ex
  obtain ⟨x, y, e1, e2, hz⟩ := fOp_some h
  refine Subscript_ (thn (ha pins s σ G H r x g I F e1) ?_)
  rintro v s1 ⟨xv, G1, H1, g1, I1, r1, n1, p1⟩
  refine thn (hb pins s1 σ G1 H1 r y g1 I1 (F.nx0 n1) e2) ?_
  rintro u s2 ⟨yv, G2, H2, g2, I2, r2, n2, p2⟩
  exact WE.then g2 (n1.trans n2) (o1 a b pins s2 σ H2 xv yv v u _ I2 r1 r2 (o2 G2 H2 xv yv x y d n2.gh (Rp.mono n2.gg x p1) p2 hz _ fun w G' H' n p => ⟨G', n, p⟩) (hs _ _))
end
end PL

/-! Cells written: what the raw walk answers; calls in the law; more forms. -/
namespace PL
open PySem PySem.Spec PyProof.Rows L2
/-- a cell written by a manner: mark a, quote q, escape e -/
def cellD (c m q e : List Nat) : Option Dt := match m with
  | [a] => if c.length ≤ 2000 then
      (match q, e with
      | [], [] => some (if a ∈ c ∨ 10 ∈ c then .non else .str c)
      | [], [x] => some (.str (replL 10 [x, 110] (replL a [x, a] (replL x [x, x] c))))
      | [k], [] => some (.str (if a ∈ c ∨ 10 ∈ c ∨ k ∈ c then k :: replL k [k, k] c ++ [k] else c))
      | [k], [x] => some (.str (if a ∈ c ∨ 10 ∈ c ∨ k ∈ c then k :: replL k [x, k] (replL x [x, x] c) ++ [k] else c))
      | _, _ => none)
    else none
  | _ => none
def gCell : Env → Option OutX := fun r => match gV r 0, gV r 1 with
  | some (.str c), some (.man m q e) => (cellD c m q e).map fun d => .ok (.rt d)
  | _, _ => none
section
variable {P : Program} {w : World} {H : Hp} {h : Heap} {n : Nat} {a : Addr} {o : Obj} {m q e : List Nat}
theorem man_at (tk : TokH H n) (ok : HOk P w H h) (ha : H a = some (.frz o (.tup [.str ⟨m.toArray⟩, .str ⟨q.toArray⟩, .str ⟨e.toArray⟩]))) :
    ∃ tm tq te : Nat, IsTup h a #[.str ⟨m.toArray⟩ tm, .str ⟨q.toArray⟩ tq, .str ⟨e.toArray⟩ te] ∧ (tm ≠ 0 ∧ tm < n) ∧ (tq ≠ 0 ∧ tq < n) ∧ (te ≠ 0 ∧ te < n) := by
  obtain ⟨hob, hz, its, rv, hT⟩ := ok a _ ha
  obtain ⟨o', hob', hcls, n', hdat⟩ := id hT
  rw [hob] at hob'
  cases hob'
  cases rv with
  | cons r1 rv =>
  cases rv with
  | cons r2 rv =>
  cases rv with
  | cons r3 rv =>
  cases rv
  obtain ⟨tm, rfl⟩ := r1
  obtain ⟨tq, rfl⟩ := r2
  obtain ⟨te, rfl⟩ := r3
  have g := tk.good a o _ ha _ _ hdat
  exact ⟨tm, tq, te, hT, g (.str ⟨m.toArray⟩ tm) (by simp), g (.str ⟨q.toArray⟩ tq) (by simp), g (.str ⟨e.toArray⟩ te) (by simp)⟩
end
section
variable {X : Cx} {T : CT}
theorem okOf_ok {n m : Nat} {b : Env → Option Out} : okOf (runX n m (fOkS b)) = runF n m b := by
  funext ds
  unfold okOf runX runF fOkS
  by_cases h : ds.length = n
  · rw [if_pos h, if_pos h]
    cases b (ds.map Sl.val ++ List.replicate m Sl.no) with
    | none => rfl
    | some o => cases o <;> rfl
  · rw [if_neg h, if_neg h]
theorem runX_of {n m : Nat} {b : Env → Option Out} {ds : List Dt} {d : Dt} (h : runF n m b ds = some d) : runX n m (fOkS b) ds = some (.ok d) := by
  unfold runF at h
  unfold runX fOkS
  by_cases hl : ds.length = n
  · rw [if_pos hl] at h ⊢
    cases e : b (ds.map Sl.val ++ List.replicate m Sl.no) with
    | none => rw [e] at h; cases h
    | some o =>
      rw [e] at h
      cases o <;> cases h <;> rfl
  · rw [if_neg hl] at h; cases h
theorem det_callT {x : Str} {k : Nat} {g : List Dt → Option (Except Nat Dt)} {g' : List Dt → Option Dt} {p pos : Pos} {e : Expr} {es : List Expr} {fa : Env → Option (List Dt)} (C : CalleeX X.prog X.w X.K X.mg X.base T k x g) (he' : okOf g = g') (hx : ∀ u s, ¬ X.xe u s) (gd : X.A.guards = some []) (hr : Room k X.A) (ha : DAT X T (e :: es) fa) (hg : Gl X x := by rfl)
    (hdb : (x == ("__debug__" : Str)) = false := by decide +kernel) (he : starEach (e :: es) X.env = (false, eval e X.env) :: starEach es X.env := by rfl) (hpl : (backTo pos (starEach es X.env)).any (·.1) = false := by rfl) : DET X T (.Call (.Name x p) (e :: es) [] pos) (fCall g' fa) := by
  rw [← he']
  exact det_callX C hx gd hr ha hg hdb he hpl
theorem det_callT0 {x : Str} {k : Nat} {g : List Dt → Option (Except Nat Dt)} {g' : List Dt → Option Dt} {p pos : Pos} (C : CalleeX X.prog X.w X.K X.mg X.base T k x g) (he' : okOf g = g') (gd : X.A.guards = some []) (hr : Room k X.A) (hg : Gl X x := by rfl)
    (hdb : (x == ("__debug__" : Str)) = false := by decide +kernel) : DET X T (.Call (.Name x p) [] [] pos) (fun _ => g' []) := by
  rw [← he']
  exact det_callX0 C gd hr hg hdb
theorem dsts_nil : DSTs X T [] fNext := dss_nil.t
theorem dtt_not {a : Expr} {fa : Env → Option Bool} {pos : Pos} (ha : DTT X T a fa) : DTT X T (.UnaryOp .Not a pos) (fNot fa) := by
  intro pins s σ G H r b g I F h
  unfold fNot at h
  cases e : fa r with
  | none => rw [e] at h; cases h
  | some c =>
    rw [e] at h
    cases h
    refine isTrue_not (thn (ha pins s σ G H r c g I F e) ?_)
    rintro c' s1 ⟨rfl, q⟩
    exact ⟨rfl, q⟩
theorem dwt_or1 {a : Expr} {fa : Env → Option Bool} {pos : Pos} (ha : DTT X T a fa) : DWT X T (.BoolOp .Or [a] pos) fa := by
  intro wh pins s σ G H r b g I F h
  refine isTrue_or (thn (ha pins s σ G H r b g I F h) ?_)
  rintro c s1 ⟨rfl, e⟩
  cases c with
  | true => exact ⟨rfl, e⟩
  | false => exact isTrue_or_nil ⟨rfl, e⟩
theorem dwt_or {a b : Expr} {rest : List Expr} {fa fb : Env → Option Bool} {pos : Pos} (ha : DTT X T a fa) (hb : DWT X T (.BoolOp .Or (b :: rest) pos) fb) : DWT X T (.BoolOp .Or (a :: b :: rest) pos) (fOr fa fb) := by
  intro wh pins s σ G H r d g I F h
  unfold fOr at h
  split at h
  · rename_i e
    cases h
    refine isTrue_or (thn (ha pins s σ G H r true g I F e) ?_)
    rintro c s1 ⟨rfl, q⟩
    exact ⟨rfl, q⟩
  · rename_i e
    refine isTrue_or (thn (ha pins s σ G H r false g I F e) ?_)
    rintro c s1 ⟨rfl, G1, H1, g1, I1, n1⟩
    show wpAny _ _ (isTrue _ _ wh) _ _ _
    refine thn (hb wh pins s1 σ G1 H1 r d g1 I1 (F.nx0 n1) h) ?_
    rintro u s2 ⟨e2, G2, H2, g2, I2, n2⟩
    exact ⟨e2, G2, H2, g2, I2, n1.trans n2⟩
  · cases h
/-- raw data of a plain state -/
theorem rts_of {pins : List (Addr × Obj)} {s : Shared} {B G0 H0 G H : Hp} {σ : L2.St} {r : Env} (tk : TokH H s.toks) (I : Inv X pins σ H s) (S : StT X.K T B G0 H0 G H σ r) : ∃ ρ, RTS X T pins B G0 H0 [] ρ r s := by
  obtain ⟨m, hn, _⟩ := id I.loc
  exact ⟨m, ⟨⟨G, H, σ, tk, I, S, fun b hb => absurd hb (by simp)⟩, hn⟩⟩
end
/-- the manners by rows, the first ones of them -/
def rowP (l : List Nat) (j : Nat) : List Dt := (([[], [34], [39]] : List (List Nat)).take j).flatMap fun q => [.man l q [], .man l q [92]]
def manP (j : Nat) : List Dt := (([[44], [59], [124], [58]] : List (List Nat)).take j).flatMap fun l => rowP l 3
def manL : List Dt := manP 4
theorem take_fm {α : Type} (f : List Nat → List α) (items : List (List Nat)) (j : Nat) (l : List Nat) (h : items[j]? = some l) : (items.take (j + 1)).flatMap f = (items.take j).flatMap f ++ f l := by
  rw [List.take_succ, h, List.flatMap_append]
  simp
theorem rowP_succ {l : List Nat} {j : Nat} {q : List Nat} (h : ([[], [34], [39]] : List (List Nat))[j]? = some q) : rowP l (j + 1) = rowP l j ++ [.man l q [], .man l q [92]] := take_fm _ _ _ _ h
theorem manP_succ {j : Nat} {l : List Nat} (h : ([[44], [59], [124], [58]] : List (List Nat))[j]? = some l) : manP (j + 1) = manP j ++ rowP l 3 := take_fm _ _ _ _ h
theorem fm_len {α : Type} (f : List Nat → List α) (n : Nat) (hf : ∀ l, (f l).length ≤ n) : ∀ items : List (List Nat), (items.flatMap f).length ≤ items.length * n
  | [] => by simp
  | l :: r => by
    have h1 := hf l
    have h2 := fm_len f n hf r
    rw [List.flatMap_cons, List.length_append, List.length_cons, Nat.succ_mul]
    omega
theorem rowP_len (l : List Nat) (j : Nat) : (rowP l j).length ≤ 6 := by
  have h := fm_len (fun q => [Dt.man l q [], Dt.man l q [92]]) 2 (fun _ => by simp) (([[], [34], [39]] : List (List Nat)).take j)
  have h2 : (([[], [34], [39]] : List (List Nat)).take j).length ≤ 3 := by rw [List.length_take]; simp; omega
  unfold rowP
  omega
theorem manP_len (j : Nat) : (manP j).length ≤ 24 := by
  have h := fm_len (fun l => rowP l 3) 6 (fun l => rowP_len l 3) (([[44], [59], [124], [58]] : List (List Nat)).take j)
  have h2 : (([[44], [59], [124], [58]] : List (List Nat)).take j).length ≤ 4 := by rw [List.length_take]; simp; omega
  unfold manP
  omega
def gManL : Env → Option OutX := fun r => if r.length = 3 then some (.ok (.rt (.lst manL))) else none
/-! ### the law's own call -/
def spX (K : PySem.W.Frag) (T : CT) (g : List Dt → Option (Except Nat Dt)) : Sp := fun vs H Q _ => ∃ G ds d, (∀ n, 1 ≤ n → TokH H n) ∧ Same G H ∧ RpA K T G vs ds ∧ g ds = some (.ok d) ∧ ∀ v G' H', Rp K T G' v d → Q v H'
end PL

/-! The law's own call, tokens from its first name on. -/
namespace PL
open PySem PySem.Spec PyProof.Rows L2
theorem newEnv_pos {M : Model} {A : Around} {E : Value → Shared → Prop} {s : Shared} {scope : Scope} {globals : Addr} {n : Str} {v : Value} {r : List (Str × Value)} {qual : Str} {func : Option Addr} {code : Value} {builtins : Addr} {Q : PySem.Env → Shared → Prop} (hk : scope.kind = .function) (hn : scope.names.lookup n = some .local)
    (hkind : ∀ x ∈ (n, v) :: r, scope.names.lookup x.1 = some .local ∨ (scope.names.lookup x.1 = some .cell ∧ ((cellsFrom (s.heap.objs.size + 1) scope.names []).lookup x.1).isSome = true))
    (hQ : ∀ env, env = newEnv scope s.heap.objs.size globals (cellsFrom (s.heap.objs.size + 1) scope.names []) qual func code none builtins →
      ∀ s', InCallC s env.locals (bindL env.kindOf ((n, v) :: r) fun _ => none) env.cells (bindC env.kindOf ((n, v) :: r) fun _ => none) s' → 1 ≤ s'.toks → Q env s') :
    wpAny M A (newFunctionEnv scope globals [] ((n, v) :: r) qual func code none builtins) Q E s := by
  simp only [newFunctionEnv, Option.isSome_none, Bool.false_eq_true, if_false]
  refine wpAny_bind (wpAny_alloc ?_)
  refine wpAny_bind (wpAny_layCells _ (fun name kind cells => by cases hkc : kind == NameKind.cell <;> simp [hkc]) _ _ _ _ ?_)
  have ok := cellsFrom_ok scope.names (s.heap.push { cls := .type "frame", data := .dict #[] }) (s.heap.objs.size + 1) [] ⟨fun _ _ hm => (nomatch hm), List.Pairwise.nil⟩ (by rw [Heap.size_push]; exact Nat.le_refl _)
  rw [Heap.size_push] at ok
  rw [show ({ s with heap := s.heap.push { cls := .type "frame", data := .dict #[] } } : Shared).heap.objs.size = s.heap.objs.size + 1 from Heap.size_push ..]
  have x0 : InCallC s (newEnv scope s.heap.objs.size globals (cellsFrom (s.heap.objs.size + 1) scope.names []) qual func code none builtins).locals (fun _ => none) (newEnv scope s.heap.objs.size globals (cellsFrom (s.heap.objs.size + 1) scope.names []) qual func code none builtins).cells (fun _ => none) { s with heap := pushCells (s.heap.push { cls := .type "frame", data := .dict #[] }) scope.names } :=
    ⟨⟨⟨_, _, rfl⟩, (Heap.Ns.new s.heap (.type "frame")).keeps (pushCells_keeps _ _), fun b o e => pushCells_keeps _ _ b o (Heap.get?_push_of_some _ e), Nat.le_refl _⟩, fun n c hc => (ok.empty n c (mem_of_lookup hc)).1, ok.apart, fun n c hm => (ok.empty n c hm).2⟩
  refine wpAny_bind ?_
  rw [List.forIn_cons]
  have hl : (newEnv scope s.heap.objs.size globals (cellsFrom (s.heap.objs.size + 1) scope.names []) qual func code none builtins).kindOf n = some .local := hn
  refine wpAny_bind (wpAny_bind (wpAny_storeName_local hl x0.toInCall.ns (fun h' hn' hs' => wpAny_pure ?_) (by show (scope.kind == .class || _) = false; rw [hk]; rfl)))
  have x1 : InCallC s (newEnv scope s.heap.objs.size globals (cellsFrom (s.heap.objs.size + 1) scope.names []) qual func code none builtins).locals (fun y => if y = n then some v else none) (newEnv scope s.heap.objs.size globals (cellsFrom (s.heap.objs.size + 1) scope.names []) qual func code none builtins).cells (fun _ => none) { s with heap := h', toks := s.toks + 1 } := by
    refine ⟨⟨⟨h', _, rfl⟩, hn', fun b o e => ?_, x0.toInCall.fresh⟩, fun k c hc => ?_, x0.apart, x0.above⟩
    · exact hs'.extBut b o (Nat.ne_of_lt (Nat.lt_of_lt_of_le (Heap.lt_size e) x0.toInCall.fresh)) (x0.toInCall.keep b o e)
    · exact (x0.cell k c hc).sameBut hs' (Nat.ne_of_gt (x0.above k c (mem_of_lookup hc)))
  refine wtk (wpAny_bindParams (s₀ := s) (env := newEnv scope s.heap.objs.size globals (cellsFrom (s.heap.objs.size + 1) scope.names []) qual func code none builtins) (Q := fun _ s' => InCallC s (newEnv scope s.heap.objs.size globals (cellsFrom (s.heap.objs.size + 1) scope.names []) qual func code none builtins).locals (bindL (newEnv scope s.heap.objs.size globals (cellsFrom (s.heap.objs.size + 1) scope.names []) qual func code none builtins).kindOf r fun y => if y = n then some v else none) (newEnv scope s.heap.objs.size globals (cellsFrom (s.heap.objs.size + 1) scope.names []) qual func code none builtins).cells (bindC (newEnv scope s.heap.objs.size globals (cellsFrom (s.heap.objs.size + 1) scope.names []) qual func code none builtins).kindOf r fun _ => none) s')
    _ (fun _ _ _ => rfl) hk r _ _ _ x1 (fun y hy => hkind y (List.mem_cons_of_mem _ hy)) fun s' x => x) ?_
  rintro _ s' hk' x
  refine wpAny_pure (hQ _ rfl s' ?_ (Nat.le_trans (Nat.le_add_left 1 s.toks) hk'))
  unfold bindL bindC
  rw [if_pos hl, if_pos hl]
  exact x
section
variable {P : Program} {w : World} {K : PySem.W.Frag} {mg : Str → Option Value} {base : Heap} {T : CT}
theorem okXG {x qual : Str} {st : Stmt} {f : Addr} {fd : FuncData} {N ps : List Str} {p0 : Str} {k m : Nat} {g : Env → Option OutX} (F : Fun K x qual st f fd) (S : FnScope N ps (defScope st)) (hm : N.length = ps.length + m) (hp : ps = [p0]) (h0 : (defScope st).names.lookup p0 = some .local)
    (hb : ∀ (cdv : Value) (A : Around) (os : List PySem.Env) (s : Shared) (H : Hp) (E : XK), (A.deeper (envOfC qual (defScope st) s.heap.objs.size f cdv)).guards = some [] → Room k (A.deeper (envOfC qual (defScope st) s.heap.objs.size f cdv)) → DSXs (cxOf (L2.CX P w) P w K mg base N qual (defScope st) f cdv A os s H E).nox T (defBody st) g) :
    FnG P w K mg base (k + 1) f fd ps (spX K T (runX ps.length m g)) := by
  subst hp
  obtain ⟨oc, od, kV, doc, pm, an, cdv, ct, osl, rfl, lk, hcd⟩ := F.ex
  refine ⟨fun vs H Q E h => ?_, fun A os s H args us vs Q E gd room en bd vals hsp => ?_⟩
  · obtain ⟨G, ds, d, _, _, rp, hg, _⟩ := h
    rw [rp.length]
    exact runX_len hg
  obtain ⟨G, ds, d, tk, gh, rp, hg, hq⟩ := hsp
  have hl := runX_len hg
  have hvl : vs.length = [p0].length := by rw [rp.length]; exact hl
  have kin : K.In s.heap := en.mod.kin.keeps fun c o q => (en.bs c o q).1
  have nol : s.heap.NoLimit := en.mod.nolimit.keeps fun c o q => (en.bs c o q).1
  have kinds : ∀ z ∈ [p0].zip us, (defScope st).names.lookup z.1 = some .local ∨ ((defScope st).names.lookup z.1 = some .cell ∧ ((cellsFrom (s.heap.objs.size + 1) (defScope st).names []).lookup z.1).isSome = true) := by
    rintro ⟨n, v⟩ hz
    cases S.par n (List.of_mem_zip hz).1 with
    | inl q => exact .inl q
    | inr q => exact .inr ⟨q, PySem.W.cellsFrom_some _ _ _ (.inl q)⟩
  obtain ⟨u0, rfl⟩ : ∃ u0, us = [u0] := by
    have hul : us.length = 1 := by rw [← vals.length]; exact hvl
    match us, hul with
    | [u0], _ => exact ⟨u0, rfl⟩
  refine codeAny_call_function room.depth (kin _ _ lk) rfl S.co S.gen rfl (PySem.W.codeRec_of kin hcd) (bd _ _ _ _ ?_)
  refine wtk (newEnv_pos (n := p0) (v := u0) (r := []) (Q := fun e s1 => e = envOfC qual (defScope st) s.heap.objs.size f cdv ∧ 1 ≤ s1.toks ∧ InCallC s s.heap.objs.size (bindL (envOfC qual (defScope st) s.heap.objs.size f cdv).kindOf ([p0].zip [u0]) fun _ => none) (cellsFrom (s.heap.objs.size + 1) (defScope st).names []) (bindC (envOfC qual (defScope st) s.heap.objs.size f cdv).kindOf ([p0].zip [u0]) fun _ => none) s1) S.kind h0 kinds fun e he s1 xx hp => by subst he; exact ⟨rfl, hp, xx⟩) ?_
  rintro e s1 hk ⟨rfl, hpos, xx⟩
  refine ⟨nol.keeps xx.toInCall.keep, codeAny_func ?_⟩
  have J0 : Inv (cxOf (L2.CX P w) P w K mg base N qual (defScope st) f cdv A os s H E) [] (L2.start N vs) H s1 := inv_start S room.hd en hvl vals xx
  have J := J0.wish fun _ _ => False
  have body := hb cdv A os s H E gd (room.deeper _)
  unfold runX at hg
  rw [if_pos hl] at hg
  have S0 := (entry (K := K) (T := T) (N := N) (m := m) gh rp (by omega)).toT
  cases eo : g (ds.map Sl.val ++ List.replicate m Sl.no) with
  | none => rw [eo] at hg; cases hg
  | some o =>
    rw [eo] at hg
    refine body [] s1 G G H G H (L2.start N vs) _ o _ _ (tk _ hpos) J S0 eo (fun out fl s' e1 q => ?_) fun c r' u s' e1 q => ?_
    · subst e1
      cases out with
      | nx r' =>
        cases hg
        obtain ⟨rfl, G', H', σ', g', I', S'⟩ := q
        exact ⟨.non, H', I'.os, I'.bare, I'.base, I'.hok, rfl, hq .non G' H' .non⟩
      | rt d =>
        cases hg
        obtain ⟨u, v, G', H', σ', rfl, g', I', rv, n', p'⟩ := q
        exact ⟨v, H', I'.os, I'.bare, I'.base, I'.hok, rv, hq v G' H' p'⟩
      | bk r' => cases hg
      | ct r' => cases hg
    · subst e1
      cases hg
theorem tok_only {H : Hp} (h : Only H) {n : Nat} (hn : 1 ≤ n) : TokH H n := ⟨hn, fun a o xs e => by
  rcases h a with y | ⟨ob, ys, y⟩
  · rw [y] at e; cases e
  · rw [y] at e; cases e⟩
end
end PL

/-! ### the walk of law_k16_whole_cell_by_cell, printed by gen.py -/
namespace W
open PySem PySem.Spec PyProof.Rows L2 PL
def topS (i : Nat) : Stmt := PySem.Challenge.pw_tablemanners_k16_whole_cell_by_cell.main.body.getD i (.Pass ⟨0, 0, 0, 0⟩)
abbrev s__law_cell_at : Stmt := topS 25
theorem sc__law_cell_at : FnScope ["_law_script", "_law_k"] ["_law_script", "_law_k"] (defScope s__law_cell_at) := ⟨rfl, rfl, rfl, by decide +kernel, rfl, by decide +kernel, by decide +kernel⟩
abbrev s__law_draw : Stmt := topS 26
theorem sc__law_draw : FnScope ["_law_cell", "_law_k", "_law_most", "_law_primes"] ["_law_cell", "_law_k", "_law_most"] (defScope s__law_draw) := ⟨rfl, rfl, rfl, by decide +kernel, rfl, by decide +kernel, by decide +kernel⟩
abbrev s__law_number : Stmt := topS 27
theorem sc__law_number : FnScope ["_law_cell", "_law_k", "_law_limit", "_law_d"] ["_law_cell", "_law_k", "_law_limit"] (defScope s__law_number) := ⟨rfl, rfl, rfl, by decide +kernel, rfl, by decide +kernel, by decide +kernel⟩
abbrev s__law_cells : Stmt := topS 30
theorem sc__law_cells : FnScope ["_law_script", "_law_by", "_law_manner_here", "_law_found", "_law_signs", "_law_k", "_law_cell", "_law_text", "_law_size", "_law_turn", "_law_number_here", "_law_sign"] ["_law_script", "_law_by", "_law_manner_here"] (defScope s__law_cells) := ⟨rfl, rfl, rfl, by decide +kernel, rfl, by decide +kernel, by decide +kernel⟩
abbrev s__law_rows : Stmt := topS 31
theorem sc__law_rows : FnScope ["_law_script", "_law_by", "_law_manner_here", "_law_cell", "_law_found", "_law_wide", "_law_many", "_law_row", "_law_more"] ["_law_script", "_law_by", "_law_manner_here"] (defScope s__law_rows) := ⟨rfl, rfl, rfl, by decide +kernel, rfl, by decide +kernel, by decide +kernel⟩
abbrev s_is_signs : Stmt := topS 13
theorem sc_is_signs : FnScope ["thing", "most", "sign"] ["thing", "most"] (defScope s_is_signs) := ⟨rfl, rfl, rfl, by decide +kernel, rfl, by decide +kernel, by decide +kernel⟩
abbrev s_is_row : Stmt := topS 16
theorem sc_is_row : FnScope ["thing", "cell"] ["thing"] (defScope s_is_row) := ⟨rfl, rfl, rfl, by decide +kernel, rfl, by decide +kernel, by decide +kernel⟩
abbrev s_check_table : Stmt := topS 17
theorem sc_check_table : FnScope ["rows", "row"] ["rows"] (defScope s_check_table) := ⟨rfl, rfl, rfl, by decide +kernel, rfl, by decide +kernel, by decide +kernel⟩
abbrev s_all_manners : Stmt := topS 14
theorem sc_all_manners : FnScope ["found", "mark", "quote", "escape"] [] (defScope s_all_manners) := ⟨rfl, rfl, rfl, by decide +kernel, rfl, by decide +kernel, by decide +kernel⟩
abbrev s_check_manner : Stmt := topS 15
theorem sc_check_manner : FnScope ["manner", "part"] ["manner"] (defScope s_check_manner) := ⟨rfl, rfl, rfl, by decide +kernel, rfl, by decide +kernel, by decide +kernel⟩
abbrev s__law_manners : Stmt := topS 28
theorem sc__law_manners : FnScope ["_law_found", "_law_mark", "_law_quote"] [] (defScope s__law_manners) := ⟨rfl, rfl, rfl, by decide +kernel, rfl, by decide +kernel, by decide +kernel⟩
abbrev s__law_manner : Stmt := topS 29
theorem sc__law_manner : FnScope ["_law_script", "_law_by"] ["_law_script", "_law_by"] (defScope s__law_manner) := ⟨rfl, rfl, rfl, by decide +kernel, rfl, by decide +kernel, by decide +kernel⟩
abbrev s_cell_of : Stmt := topS 19
theorem sc_cell_of : FnScope ["cell", "manner", "mark", "quote", "escape", "plain"] ["cell", "manner"] (defScope s_cell_of) := ⟨rfl, rfl, rfl, by decide +kernel, rfl, by decide +kernel, by decide +kernel⟩
abbrev s_bad_of : Stmt := topS 20
theorem sc_bad_of : FnScope ["rows", "manner", "row", "cells", "at", "cell"] ["rows", "manner"] (defScope s_bad_of) := ⟨rfl, rfl, rfl, by decide +kernel, rfl, by decide +kernel, by decide +kernel⟩
abbrev s_unwritable : Stmt := topS 21
theorem sc_unwritable : FnScope ["rows", "manner"] ["rows", "manner"] (defScope s_unwritable) := ⟨rfl, rfl, rfl, by decide +kernel, rfl, by decide +kernel, by decide +kernel⟩
abbrev s_text_of : Stmt := topS 22
theorem sc_text_of : FnScope ["rows", "manner", "row", "cell"] ["rows", "manner"] (defScope s_text_of) := ⟨rfl, rfl, rfl, by decide +kernel, rfl, by decide +kernel, by decide +kernel⟩
abbrev s_written : Stmt := topS 23
theorem sc_written : FnScope ["rows", "manner"] ["rows", "manner"] (defScope s_written) := ⟨rfl, rfl, rfl, by decide +kernel, rfl, by decide +kernel, by decide +kernel⟩
abbrev s_law : Stmt := topS 32
theorem sc_law : FnScope ["_law_script", "_law_by", "_law_drawn", "_law_rows_here", "_law_more", "_law_manner_here", "_law_bad", "_law_other", "_law_alone", "_law_row", "_law_cells_here", "_law_at", "_law_cell", "_law_both", "_law_due", "_law_text", "_law_there"] ["_law_script"] (defScope s_law) := ⟨rfl, rfl, rfl, by decide +kernel, rfl, by decide +kernel, by decide +kernel⟩
def sub : Nat → Nat → Option Bool := fun _ _ => none
def zs_SIGNS : List Nat := [97, 98, 99, 100, 101, 102, 103, 104, 105, 106, 107, 108, 109, 110, 111, 112, 113, 114, 115, 116, 117, 118, 119, 120, 121, 122, 48, 49, 50, 51, 52, 53, 54, 55, 56, 57, 32, 44, 59, 124, 58, 34, 39, 92, 10]
def zs_az : List Nat := [97, 98, 99, 100, 101, 102, 103, 104, 105, 106, 107, 108, 109, 110, 111, 112, 113, 114, 115, 116, 117, 118, 119, 120, 121, 122, 48, 49, 50, 51, 52, 53, 54, 55, 56, 57]
def b__law_cell_at : PL.Env → Option Out := (fSeq (fIfS (asB (fOp ltD (fV 1) (fCall lenD (fCons (fV 0) fNil)))) (fRet (fOp ixD (fV 0) (fV 1))) fNext)
    (fRet (fC (.int 0))))
def r__law_cell_at : List Dt → Option Dt := runF 2 0 b__law_cell_at
def b__law_draw : PL.Env → Option Out := (fSeq (fSet 3 (fTup (fCons (fC (.int 1000003)) (fCons (fC (.int 1000033)) (fCons (fC (.int 1000037)) (fCons (fC (.int 1000039)) (fCons (fC (.int 1000081)) (fCons (fC (.int 1000099)) (fCons (fC (.int 1000117)) (fCons (fC (.int 1000121)) (fCons (fC (.int 1000133)) (fCons (fC (.int 1000151)) (fCons (fC (.int 1000159)) (fCons (fC (.int 1000171)) (fCons (fC (.int 1000183)) (fCons (fC (.int 1000187)) (fCons (fC (.int 1000193)) (fCons (fC (.int 1000199)) fNil))))))))))))))))))
    (fRet (fOp modD (fOp modD (fOp addD (fOp mulI (fV 0) (fC (.int 48271))) (fOp mulI (fV 1) (fC (.int 69621)))) (fOp ixD (fV 3) (fOp modD (fV 1) (fC (.int 16))))) (fV 2))))
def r__law_draw : List Dt → Option Dt := runF 3 1 b__law_draw
def b__law_number : PL.Env → Option Out := (fSeq (fIfS (asB (fOp geD (fV 0) (fOp powD (fC (.int 10)) (fC (.int 18))))) (fSeq (fSet 3 (fOp ixD (fTup (fCons (fC (.int 1)) (fCons (fC (.int 7)) (fCons (fC (.int 49)) (fCons (fC (.int 343)) (fCons (fC (.int 2401)) fNil)))))) (fOp modD (fV 1) (fC (.int 5)))))
    (fRet (fOp fdvD (fOp modD (fOp subD (fV 0) (fOp powD (fC (.int 10)) (fC (.int 18)))) (fOp mulI (fV 3) (fV 2))) (fV 3)))) fNext)
    (fSeq (fIfS (asB (fOp ltD (fV 0) (fUn fNeg (fOp powD (fC (.int 10)) (fC (.int 18)))))) (fSet 0 (fOp modD (fV 0) (fC (.int 1000811284336359577647248616306026718125307353262274591)))) fNext)
    (fRet (fOp modD (fCall r__law_draw (fCons (fOp mulI (fOp addD (fV 0) (fOp mulI (fC (.int 977)) (fV 1))) (fOp addD (fOp addD (fV 0) (fOp mulI (fC (.int 31)) (fV 1))) (fC (.int 5)))) (fCons (fOp addD (fOp modD (fV 1) (fC (.int 9))) (fC (.int 1))) (fCons (fC (.int 999983)) fNil)))) (fV 2)))))
def r__law_number : List Dt → Option Dt := runF 3 1 b__law_number
def L__law_cells_1 : PL.Env → Option Out := (fSeq (fSet 10 (fCall r__law_number (fCons (fOp addD (fV 6) (fOp mulI (fC (.int 104729)) (fV 9))) (fCons (fOp addD (fOp addD (fOp addD (fV 1) (fV 5)) (fV 9)) (fC (.int 2))) (fCons (fC (.int 396)) fNil)))))
    (fSeq (fSet 11 (fOp ixD (fV 4) (fOp modD (fV 10) (fC (.int 11)))))
    (fSeq (fIfS (asB (fOp eqD (fV 11) (fC (.str [98])))) (fSet 11 (fOp ixD (fC (.str zs_az)) (fOp fdvD (fV 10) (fC (.int 11))))) fNext)
    (fSet 7 (fOp addD (fV 7) (fV 11))))))
def L__law_cells_2 : PL.Env → Option Out := (fSeq (fPar [6, 7] [.v (fOp addD (fCall r__law_cell_at (fCons (fV 0) (fCons (fOp addD (fV 1) (fV 5)) fNil))) (fOp mulI (fC (.int 13)) (fV 5))), .v (fC (.str []))])
    (fSeq (fSet 8 (fCall r__law_number (fCons (fV 6) (fCons (fOp addD (fV 1) (fV 5)) (fCons (fOp ixD (fTup (fCons (fC (.int 4)) (fCons (fC (.int 4)) (fCons (fC (.int 9)) (fCons (fC (.int 4)) fNil))))) (fCall r__law_number (fCons (fV 6) (fCons (fOp addD (fOp addD (fV 1) (fV 5)) (fC (.int 1))) (fCons (fC (.int 4)) fNil))))) fNil)))))
    (fSeq (fFor (fArgs rng1 (fCons (fV 8) fNil)) (tNm 9)
    L__law_cells_1)
    (fApp 3 (fV 7)))))
def b__law_cells : PL.Env → Option Out := (fSeq (fSetO 3 (fLst fNil))
    (fSeq (fSet 4 (fTup (fCons (fC (.str [97])) (fCons (fC (.str [98])) (fCons (fC (.str [110])) (fCons (fC (.str [32])) (fCons (fOp ixD (fV 2) (fC (.int 0))) (fCons (fOp ixD (fV 2) (fC (.int 1))) (fCons (fOp ixD (fV 2) (fC (.int 2))) (fCons (fC (.str [10])) (fCons (fC (.str [34])) (fCons (fC (.str [44])) (fCons (fC (.str [55])) fNil)))))))))))))
    (fSeq (fFor (fArgs rng1 (fCons (fC (.int 6)) fNil)) (tNm 5)
    L__law_cells_2)
    (fFrz 3 (fRet (fV 3))))))
def r__law_cells : List Dt → Option Dt := runF 3 9 b__law_cells
def L__law_rows_1 : PL.Env → Option Out := (fSeq (fSet 8 (fIf (asB (fOp eqD (fCall r__law_number (fCons (fV 3) (fCons (fOp addD (fV 1) (fC (.int 4))) (fCons (fC (.int 3)) fNil)))) (fC (.int 0)))) (fCall r__law_number (fCons (fV 3) (fCons (fOp addD (fOp addD (fV 1) (fV 7)) (fC (.int 3))) (fCons (fC (.int 4)) fNil)))) (fC (.int 0))))
    (fApp 4 (fSlice (fCall r__law_cells (fCons (fV 0) (fCons (fOp addD (fV 1) (fV 7)) (fCons (fV 2) fNil)))) oNo (oSo (fCall maxD (fCons (fC (.int 1)) (fCons (fOp subD (fV 5) (fV 8)) fNil)))))))
def b__law_rows : PL.Env → Option Out := (fSeq (fPar [3, 4] [.v (fCall r__law_cell_at (fCons (fV 0) (fCons (fV 1) fNil))), .o (fLst fNil)])
    (fSeq (fPar [5, 6] [.v (fOp addD (fC (.int 1)) (fCall r__law_number (fCons (fV 3) (fCons (fOp addD (fV 1) (fC (.int 1))) (fCons (fC (.int 4)) fNil))))), .v (fCall r__law_number (fCons (fV 3) (fCons (fOp addD (fV 1) (fC (.int 2))) (fCons (fC (.int 5)) fNil))))])
    (fSeq (fIfS (asB (fOp eqD (fCall r__law_number (fCons (fV 3) (fCons (fOp addD (fV 1) (fC (.int 9))) (fCons (fC (.int 16)) fNil)))) (fC (.int 0)))) (fPar [5, 6] [.v (fC (.int 6)), .v (fC (.int 12))]) fNext)
    (fSeq (fFor (fArgs rng1 (fCons (fV 6) fNil)) (tNm 7)
    L__law_rows_1)
    (fFrz 4 (fRet (fV 4)))))))
def r__law_rows : List Dt → Option Dt := runF 3 6 b__law_rows
def b_is_signs : PL.Env → Option Out := (fRet (fAndV (fCall (isiD sub) (fCons (fV 0) (fCons (fC (.ty "str")) fNil))) (fAndV (fOp leD (fCall lenD (fCons (fV 0) fNil)) (fV 1)) (fCall allD (fCons (fL (fComp (fItems (fV 0)) 2 [2] fYes (fOp inD (fV 2) (fC (.str zs_SIGNS))))) fNil)))))
def r_is_signs : List Dt → Option Dt := runF 2 1 b_is_signs
def b_is_row : PL.Env → Option Out := (fSeq (fIfS (fOr (fNot (asB (fCall (isiD sub) (fCons (fV 0) (fCons (fC (.ty "list")) fNil))))) (fNot (asB (fChain leD leD (fC (.int 1)) (fCall lenD (fCons (fV 0) fNil)) (fC (.int 6)))))) (fRet (fC (.bl false))) fNext)
    (fRet (fCall allD (fCons (fL (fComp (fItems (fV 0)) 1 [1] fYes (fCall r_is_signs (fCons (fV 1) (fCons (fC (.int 8)) fNil))))) fNil))))
def r_is_row : List Dt → Option Dt := runF 1 1 b_is_row
def b_check_table : PL.Env → Option Out := (fIfS (fOr (fNot (asB (fCall (isiD sub) (fCons (fV 0) (fCons (fC (.ty "list")) fNil))))) (fOr (asB (fOp gtD (fCall lenD (fCons (fV 0) fNil)) (fC (.int 12)))) (fNot (asB (fCall allD (fCons (fL (fComp (fItems (fV 0)) 1 [1] fYes (fCall r_is_row (fCons (fV 1) fNil)))) fNil)))))) fNever fNext)
def r_check_table : List Dt → Option Dt := runF 1 1 b_check_table
def L_all_manners_1 : PL.Env → Option Out := (fExt 0 (fL (fComp (fItems (fC (.tup [(.str []), (.str [92])]))) 3 [3] fYes (fTup (fCons (fV 1) (fCons (fV 2) (fCons (fV 3) fNil)))))))
def L_all_manners_2 : PL.Env → Option Out := (fFor (fItems (fC (.tup [(.str []), (.str [34]), (.str [39])]))) (tNm 2)
    L_all_manners_1)
def b_all_manners : PL.Env → Option Out := (fSeq (fSetO 0 (fLst fNil))
    (fSeq (fFor (fItems (fC (.tup [(.str [44]), (.str [59]), (.str [124]), (.str [58])]))) (tNm 1)
    L_all_manners_2)
    (fFrz 0 (fRet (fV 0)))))
def r_all_manners : List Dt → Option Dt := runF 0 4 b_all_manners
def b_check_manner : PL.Env → Option Out := (fSeq (fIfS (fOr (fNot (asB (fCall (isiD sub) (fCons (fV 0) (fCons (fC (.ty "tuple")) fNil))))) (fOr (asB (fOp neD (fCall lenD (fCons (fV 0) fNil)) (fC (.int 3)))) (fNot (asB (fCall allD (fCons (fL (fComp (fItems (fV 0)) 1 [1] fYes (fCall (isiD sub) (fCons (fV 1) (fCons (fC (.ty "str")) fNil))))) fNil)))))) fNever fNext)
    (fIfS (asB (fOp niD (fV 0) (fun _ => r_all_manners []))) fNever fNext))
def r_check_manner : List Dt → Option Dt := runF 1 1 b_check_manner
def L__law_manners_1 : PL.Env → Option Out := (fSet 0 (fOp addD (fV 0) (fL (fLst (fCons (fTup (fCons (fV 1) (fCons (fV 2) (fCons (fC (.str [])) fNil)))) (fCons (fTup (fCons (fV 1) (fCons (fV 2) (fCons (fC (.str [92])) fNil)))) fNil))))))
def L__law_manners_2 : PL.Env → Option Out := (fFor (fItems (fTup (fCons (fC (.str [])) (fCons (fC (.str [34])) (fCons (fC (.str [39])) fNil))))) (tNm 2)
    L__law_manners_1)
def b__law_manners : PL.Env → Option Out := (fSeq (fSet 0 (fL (fLst fNil)))
    (fSeq (fFor (fItems (fTup (fCons (fC (.str [44])) (fCons (fC (.str [59])) (fCons (fC (.str [124])) (fCons (fC (.str [58])) fNil)))))) (tNm 1)
    L__law_manners_2)
    (fRet (fV 0))))
def r__law_manners : List Dt → Option Dt := runF 0 3 b__law_manners
def b__law_manner : PL.Env → Option Out := (fRet (fOp ixD (fun _ => r__law_manners []) (fCall r__law_number (fCons (fCall r__law_cell_at (fCons (fV 0) (fCons (fV 1) fNil))) (fCons (fOp addD (fV 1) (fC (.int 7))) (fCons (fC (.int 24)) fNil))))))
def r__law_manner : List Dt → Option Dt := runF 2 0 b__law_manner
def xt__law_manners : List Dt → Option (Except Nat Dt) := runX 0 3 gManL
def rt__law_manners : List Dt → Option Dt := okOf xt__law_manners
def bt__law_manner : PL.Env → Option Out := (fRet (fOp ixD (fun _ => rt__law_manners []) (fCall r__law_number (fCons (fCall r__law_cell_at (fCons (fV 0) (fCons (fV 1) fNil))) (fCons (fOp addD (fV 1) (fC (.int 7))) (fCons (fC (.int 24)) fNil))))))
def xt__law_manner : List Dt → Option (Except Nat Dt) := runX 2 0 (fOkS bt__law_manner)
def rt__law_manner : List Dt → Option Dt := runF 2 0 bt__law_manner
def xt_cell_of : List Dt → Option (Except Nat Dt) := runX 2 4 gCell
def rt_cell_of : List Dt → Option Dt := okOf xt_cell_of
def LT_bad_of_1 : PL.Env → Option Out := (fIfS (asB (fOp isD (fCall rt_cell_of (fCons (fV 5) (fCons (fV 1) fNil))) (fC .non))) (fRet (fTup (fCons (fV 2) (fCons (fV 4) fNil)))) fNext)
def LT_bad_of_2 : PL.Env → Option Out := (fFor (fArgs enumD (fCons (fV 3) fNil)) (tTp [4, 5])
    LT_bad_of_1)
def bt_bad_of : PL.Env → Option Out := (fSeq (fFor (fArgs enumD (fCons (fV 0) fNil)) (tTp [2, 3])
    LT_bad_of_2)
    (fRet (fC .non)))
def xt_bad_of : List Dt → Option (Except Nat Dt) := runX 2 4 (fOkS bt_bad_of)
def rt_bad_of : List Dt → Option Dt := runF 2 4 bt_bad_of
def bt_unwritable : PL.Env → Option Out := (fSeq (fDrop (fCall r_check_table (fCons (fV 0) fNil)))
    (fSeq (fDrop (fCall r_check_manner (fCons (fPl (fV 1)) fNil)))
    (fRet (fCall rt_bad_of (fCons (fV 0) (fCons (fV 1) fNil))))))
def xt_unwritable : List Dt → Option (Except Nat Dt) := runX 2 0 (fOkS bt_unwritable)
def rt_unwritable : List Dt → Option Dt := runF 2 0 bt_unwritable
def bt_text_of : PL.Env → Option Out := (fRet (fOp joinD (fC (.str [])) (fL (fComp (fItems (fV 0)) 2 [2] fYes (fOp addD (fOp joinD (fOp ixD (fPl (fV 1)) (fC (.int 0))) (fL (fComp (fItems (fV 2)) 3 [3] fYes (fCall rt_cell_of (fCons (fV 3) (fCons (fV 1) fNil)))))) (fC (.str [10])))))))
def xt_text_of : List Dt → Option (Except Nat Dt) := runX 2 2 (fOkS bt_text_of)
def rt_text_of : List Dt → Option Dt := runF 2 2 bt_text_of
def bt_written : PL.Env → Option Out := (fSeq (fDrop (fCall r_check_table (fCons (fV 0) fNil)))
    (fSeq (fDrop (fCall r_check_manner (fCons (fPl (fV 1)) fNil)))
    (fSeq (fIfS (asB (fOp isnD (fCall rt_bad_of (fCons (fV 0) (fCons (fV 1) fNil))) (fC .non))) fNever fNext)
    (fRet (fCall rt_text_of (fCons (fV 0) (fCons (fV 1) fNil)))))))
def xt_written : List Dt → Option (Except Nat Dt) := runX 2 0 (fOkS bt_written)
def rt_written : List Dt → Option Dt := runF 2 0 bt_written
def LT_law_1 : PL.Env → Option Out := (fIfS (asB (fOp isnD (fCall rt_unwritable (fCons (fL (fLst (fCons (fL (fLst (fCons (fV 12) fNil))) fNil))) (fCons (fV 5) fNil))) (fC .non))) (fApp 8 (fTup (fCons (fV 9) (fCons (fV 11) fNil)))) fNext)
def LT_law_2 : PL.Env → Option Out := (fFor (fArgs enumD (fCons (fV 10) fNil)) (tTp [11, 12])
    LT_law_1)
def LT_law_3 : PL.Env → Option Out := (fSeq (fSet 10 (fL (fComp (fItems (fV 9)) 12 [12] fYes (fSlice (fCall rt_written (fCons (fL (fLst (fCons (fL (fLst (fCons (fV 12) fNil))) fNil))) (fCons (fV 5) fNil))) oNo (oSo (fUn fNeg (fC (.int 1))))))))
    (fSeq (fSet 15 (fOp addD (fOp addD (fV 15) (fOp joinD (fOp ixD (fPl (fV 5)) (fC (.int 0))) (fV 10))) (fC (.str [10]))))
    (fSeq (fSet 16 (fCall rt_written (fCons (fL (fLst (fCons (fStep (fV 9) oNo oNo (oSo (fUn fNeg (fC (.int 1))))) fNil))) (fCons (fV 5) fNil))))
    (fIfS (asB (fOp neD (fV 16) (fOp addD (fOp joinD (fOp ixD (fPl (fV 5)) (fC (.int 0))) (fStep (fV 10) oNo oNo (oSo (fUn fNeg (fC (.int 1)))))) (fC (.str [10]))))) (fRet (fC (.bl false))) fNext))))
def LT_law_4 : PL.Env → Option Out := (fSeq (fPar2 6 7 (fCons (fCall rt_unwritable (fCons (fV 3) (fCons (fV 5) fNil))) (fCons (fCall rt_unwritable (fCons (fV 4) (fCons (fV 5) fNil))) fNil)))
    (fSeq (fSetO 8 (fLst fNil))
    (fSeq (fFor (fArgs enumD (fCons (fV 3) fNil)) (tTp [9, 10])
    LT_law_2)
    (fSeq (fIfS (asB (fOp neD (fV 6) (fIf (asB (fOp neD (fV 8) (fL (fLst fNil)))) (fOp ixD (fV 8) (fC (.int 0))) (fC .non)))) (fRet (fC (.bl false))) fNext)
    (fSeq (fSet 13 (fCall rt_unwritable (fCons (fOp addD (fV 3) (fV 4)) (fCons (fV 5) fNil))))
    (fSeq (fSet 14 (fIf (asB (fOp isnD (fPl (fV 7)) (fC .non))) (fTup (fCons (fOp addD (fOp ixD (fPl (fV 7)) (fC (.int 0))) (fCall lenD (fCons (fV 3) fNil))) (fCons (fOp ixD (fPl (fV 7)) (fC (.int 1))) fNil))) (fC .non)))
    (fSeq (fIfS (asB (fOp neD (fPl (fV 13)) (fIf (asB (fOp isnD (fV 6) (fC .non))) (fV 6) (fV 14)))) (fRet (fC (.bl false))) fNext)
    (fIfS (asB (fOp isD (fV 6) (fC .non))) (fSeq (fSet 15 (fC (.str [])))
    (fSeq (fFor (fItems (fV 3)) (tNm 9)
    LT_law_3)
    (fSeq (fIfS (asB (fOp neD (fCall rt_written (fCons (fV 3) (fCons (fV 5) fNil))) (fV 15))) (fRet (fC (.bl false))) fNext)
    (fSeq (fSet 16 (fIf (asB (fOp isD (fPl (fV 7)) (fC .non))) (fCall rt_written (fCons (fV 4) (fCons (fV 5) fNil))) (fC (.str []))))
    (fIfS (fAnd (asB (fOp isD (fPl (fV 7)) (fC .non))) (asB (fOp neD (fCall rt_written (fCons (fOp addD (fV 3) (fV 4)) (fCons (fV 5) fNil))) (fOp addD (fV 15) (fV 16))))) (fRet (fC (.bl false))) fNext))))) fNext))))))))
def LT_law_5 : PL.Env → Option Out := (fSeq (fSet 2 (fCall rt__law_manner (fCons (fV 0) (fCons (fV 1) fNil))))
    (fSeq (fPar [3, 4] [.v (fSlice (fCall r__law_rows (fCons (fV 0) (fCons (fV 1) (fCons (fPl (fV 2)) fNil)))) oNo (oSo (fC (.int 6)))), .v (fSlice (fCall r__law_rows (fCons (fV 0) (fCons (fOp addD (fV 1) (fC (.int 1))) (fCons (fPl (fV 2)) fNil)))) oNo (oSo (fC (.int 6))))])
    (fFor (fLs (fStep (fun _ => rt__law_manners []) (oSo (fOp modD (fOp fdvD (fV 1) (fC (.int 3))) (fC (.int 5)))) oNo (oSo (fC (.int 5))))) (tNm 5)
    LT_law_4)))
def bt_law : PL.Env → Option Out := (fSeq (fFor (fArgs rng3 (fCons (fC (.int 0)) (fCons (fCall maxD (fCons (fC (.int 1)) (fCons (fCall minD (fCons (fC (.int 9)) (fCons (fCall lenD (fCons (fV 0) fNil)) fNil))) fNil))) (fCons (fC (.int 3)) fNil)))) (tNm 1)
    LT_law_5)
    (fSeq (fIfS (asB (fOp neD (fCall rt_unwritable (fCons (fL (fLst (fCons (fL (fLst (fCons (fC (.str [97])) fNil))) (fCons (fL (fLst (fCons (fC (.str [124])) fNil))) fNil)))) (fCons (fC (.man [124] [] [])) fNil))) (fTup (fCons (fC (.int 1)) (fCons (fC (.int 0)) fNil))))) (fRet (fC (.bl false))) fNext)
    (fRet (fOp eqD (fCall rt_written (fCons (fL (fLst (fCons (fL (fLst (fCons (fC (.str [97])) (fCons (fC (.str [98])) fNil)))) (fCons (fL (fLst (fCons (fC (.str [99])) fNil))) fNil)))) (fCons (fC (.man [124] [] [])) fNil))) (fC (.str [97, 124, 98, 10, 99, 10]))))))
def xt_law : List Dt → Option (Except Nat Dt) := runX 1 16 (fOkS bt_law)
def rt_law : List Dt → Option Dt := runF 1 16 bt_law
structure Txt (K : PySem.W.Frag) (mg : Str → Option Value) (T : CT) : Prop where
  n_all : mg "all" = none
  n_enumerate : mg "enumerate" = none
  n_isinstance : mg "isinstance" = none
  n_len : mg "len" = none
  n_list : mg "list" = none
  n_max : mg "max" = none
  n_min : mg "min" = none
  n_range : mg "range" = none
  n_str : mg "str" = none
  n_tuple : mg "tuple" = none
  g_ESCAPES : GlobIs K T mg "ESCAPES" (.tup [(.str []), (.str [92])])
  g_LONGEST_CELL : GlobIs K T mg "LONGEST_CELL" (.int 8)
  g_MARKS : GlobIs K T mg "MARKS" (.tup [(.str [44]), (.str [59]), (.str [124]), (.str [58])])
  g_MOST_CELLS : GlobIs K T mg "MOST_CELLS" (.int 6)
  g_MOST_ROWS : GlobIs K T mg "MOST_ROWS" (.int 12)
  g_QUOTES : GlobIs K T mg "QUOTES" (.tup [(.str []), (.str [34]), (.str [39])])
  g_SIGNS : GlobIs K T mg "SIGNS" (.str zs_SIGNS)
  cls : ClsOk K T sub
section
variable {P : Program} {w : World} {K : PySem.W.Frag} {mg : Str → Option Value} {base : Heap} {T : CT}
theorem ok__law_cell_at {f : Addr} {fd : FuncData} (F : Fun K "_law_cell_at" "_law_cell_at" s__law_cell_at f fd) (Tx : Txt K mg T) : FnOk P w K mg base CX0 1 f fd ["_law_script", "_law_k"] (spF K T 2 r__law_cell_at) :=
  okF (k := 0) (m := 0) F sc__law_cell_at rfl (fun cdv A os s H E hr =>
    (dss_cons (ds_if (dt_cmp bd_lt (de_var 1) (de_callB cal_len Tx.n_len (da_cons (de_var 0) da_nil))) (dss_one (ds_ret (de_ix ixd (de_var 0) (de_var 1)))) dss_nil)
    (dss_one (ds_ret de_int))))
theorem ok__law_draw {f : Addr} {fd : FuncData} (F : Fun K "_law_draw" "_law_draw" s__law_draw f fd) (Tx : Txt K mg T) : FnOk P w K mg base CX0 1 f fd ["_law_cell", "_law_k", "_law_most"] (spF K T 3 r__law_draw) :=
  okF (k := 0) (m := 1) F sc__law_draw rfl (fun cdv A os s H E hr =>
    (dss_cons (ds_set 3 sc__law_draw.nd (de_tup (da_cons de_int (da_cons de_int (da_cons de_int (da_cons de_int (da_cons de_int (da_cons de_int (da_cons de_int (da_cons de_int (da_cons de_int (da_cons de_int (da_cons de_int (da_cons de_int (da_cons de_int (da_cons de_int (da_cons de_int (da_cons de_int da_nil))))))))))))))))))
    (dss_one (ds_ret (de_bin bd_mod (de_bin bd_mod (de_bin bd_add (de_bin bd_mulI (de_var 0) de_int) (de_bin bd_mulI (de_var 1) de_int)) (de_ix ixd (de_var 3) (de_bin bd_mod (de_var 1) de_int))) (de_var 2))))))
theorem ok__law_number {f : Addr} {fd : FuncData} (F : Fun K "_law_number" "_law_number" s__law_number f fd) (Tx : Txt K mg T) (C__law_draw : Callee P w K mg base T 1 "_law_draw" r__law_draw) : FnOk P w K mg base CX0 2 f fd ["_law_cell", "_law_k", "_law_limit"] (spF K T 3 r__law_number) :=
  okF (k := 1) (m := 1) F sc__law_number rfl (fun cdv A os s H E hr =>
    (dss_cons (ds_if (dt_cmp bd_ge (de_var 0) (de_bin bd_pow de_int de_int)) (dss_cons (ds_set 3 sc__law_number.nd (de_ix ixd (de_tup (da_cons de_int (da_cons de_int (da_cons de_int (da_cons de_int (da_cons de_int da_nil)))))) (de_bin bd_mod (de_var 1) de_int)))
    (dss_one (ds_ret (de_bin bd_fdv (de_bin bd_mod (de_bin bd_sub (de_var 0) (de_bin bd_pow de_int de_int)) (de_bin bd_mulI (de_var 3) (de_var 2))) (de_var 3))))) dss_nil)
    (dss_cons (ds_if (dt_cmp bd_lt (de_var 0) (de_neg (de_bin bd_pow de_int de_int))) (dss_one (ds_set 0 sc__law_number.nd (de_bin bd_mod (de_var 0) de_int))) dss_nil)
    (dss_one (ds_ret (de_bin bd_mod (de_call C__law_draw (hr.mono (by decide)) (da_cons (de_bin bd_mulI (de_bin bd_add (de_var 0) (de_bin bd_mulI de_int (de_var 1))) (de_bin bd_add (de_bin bd_add (de_var 0) (de_bin bd_mulI de_int (de_var 1))) de_int)) (da_cons (de_bin bd_add (de_bin bd_mod (de_var 1) de_int) de_int) (da_cons de_int da_nil)))) (de_var 2)))))))
theorem ok__law_cells {f : Addr} {fd : FuncData} (F : Fun K "_law_cells" "_law_cells" s__law_cells f fd) (Tx : Txt K mg T) (C__law_cell_at : Callee P w K mg base T 1 "_law_cell_at" r__law_cell_at) (C__law_number : Callee P w K mg base T 2 "_law_number" r__law_number) : FnOk P w K mg base CX0 3 f fd ["_law_script", "_law_by", "_law_manner_here"] (spF K T 3 r__law_cells) :=
  okF (k := 2) (m := 9) F sc__law_cells rfl (fun cdv A os s H E hr =>
    (dss_cons (ds_setO 3 sc__law_cells.nd (dl_lst da_nil))
    (dss_cons (ds_set 4 sc__law_cells.nd (de_tup (da_cons (de_str [97]) (da_cons (de_str [98]) (da_cons (de_str [110]) (da_cons (de_str [32]) (da_cons (de_ix ixd (de_var 2) de_int) (da_cons (de_ix ixd (de_var 2) de_int) (da_cons (de_ix ixd (de_var 2) de_int) (da_cons (de_str [10]) (da_cons (de_str [34]) (da_cons (de_str [44]) (da_cons (de_str [55]) da_nil)))))))))))))
    (dss_cons (ds_for PassesOwn.never rfl (di_range1 Tx.n_range (da_cons de_int da_nil)) (dg_name 5 sc__law_cells.nd)
    (dss_cons (ds_par2 6 7 rfl sc__law_cells.nd (dm_v (de_bin bd_add (de_call C__law_cell_at (hr.mono (by decide)) (da_cons (de_var 0) (da_cons (de_bin bd_add (de_var 1) (de_var 5)) da_nil))) (de_bin bd_mulI de_int (de_var 5))) (dm_v (de_str []) dm_nil)) (by decide))
    (dss_cons (ds_set 8 sc__law_cells.nd (de_call C__law_number (hr.mono (by decide)) (da_cons (de_var 6) (da_cons (de_bin bd_add (de_var 1) (de_var 5)) (da_cons (de_ix ixd (de_tup (da_cons de_int (da_cons de_int (da_cons de_int (da_cons de_int da_nil))))) (de_call C__law_number (hr.mono (by decide)) (da_cons (de_var 6) (da_cons (de_bin bd_add (de_bin bd_add (de_var 1) (de_var 5)) de_int) (da_cons de_int da_nil))))) da_nil)))))
    (dss_cons (ds_for PassesOwn.never rfl (di_range1 Tx.n_range (da_cons (de_var 8) da_nil)) (dg_name 9 sc__law_cells.nd)
    (dss_cons (ds_set 10 sc__law_cells.nd (de_call C__law_number (hr.mono (by decide)) (da_cons (de_bin bd_add (de_var 6) (de_bin bd_mulI de_int (de_var 9))) (da_cons (de_bin bd_add (de_bin bd_add (de_bin bd_add (de_var 1) (de_var 5)) (de_var 9)) de_int) (da_cons de_int da_nil)))))
    (dss_cons (ds_set 11 sc__law_cells.nd (de_ix ixd (de_var 4) (de_bin bd_mod (de_var 10) de_int)))
    (dss_cons (ds_if (dt_cmp (bd_eq hr.units) (de_var 11) (de_str [98])) (dss_one (ds_set 11 sc__law_cells.nd (de_ix ixd (de_str zs_az) (de_bin bd_fdv (de_var 10) de_int)))) dss_nil)
    (dss_one (ds_set 7 sc__law_cells.nd (de_bin bd_add (de_var 7) (de_var 11))))))))
    (dss_one (ds_app 3 (de_var 7)))))))
    (dss_one (ds_frz 3 (ds_ret (de_var 3))))))))
theorem ok__law_rows {f : Addr} {fd : FuncData} (F : Fun K "_law_rows" "_law_rows" s__law_rows f fd) (Tx : Txt K mg T) (C__law_cell_at : Callee P w K mg base T 1 "_law_cell_at" r__law_cell_at) (C__law_number : Callee P w K mg base T 2 "_law_number" r__law_number) (C__law_cells : Callee P w K mg base T 3 "_law_cells" r__law_cells) : FnOk P w K mg base CX0 4 f fd ["_law_script", "_law_by", "_law_manner_here"] (spF K T 3 r__law_rows) :=
  okF (k := 3) (m := 6) F sc__law_rows rfl (fun cdv A os s H E hr =>
    (dss_cons (ds_par2 3 4 rfl sc__law_rows.nd (dm_v (de_call C__law_cell_at (hr.mono (by decide)) (da_cons (de_var 0) (da_cons (de_var 1) da_nil))) (dm_o (dl_lst da_nil) dm_nil)) (by decide))
    (dss_cons (ds_par2 5 6 rfl sc__law_rows.nd (dm_v (de_bin bd_add de_int (de_call C__law_number (hr.mono (by decide)) (da_cons (de_var 3) (da_cons (de_bin bd_add (de_var 1) de_int) (da_cons de_int da_nil))))) (dm_v (de_call C__law_number (hr.mono (by decide)) (da_cons (de_var 3) (da_cons (de_bin bd_add (de_var 1) de_int) (da_cons de_int da_nil)))) dm_nil)) (by decide))
    (dss_cons (ds_if (dt_cmp (bd_eq hr.units) (de_call C__law_number (hr.mono (by decide)) (da_cons (de_var 3) (da_cons (de_bin bd_add (de_var 1) de_int) (da_cons de_int da_nil)))) de_int) (dss_one (ds_parN rfl (dps_cons 5 sc__law_rows.nd (dps_cons 6 sc__law_rows.nd dps_nil)) (dm_v de_int (dm_v de_int dm_nil)))) dss_nil)
    (dss_cons (ds_for PassesOwn.never rfl (di_range1 Tx.n_range (da_cons (de_var 6) da_nil)) (dg_name 7 sc__law_rows.nd)
    (dss_cons (ds_set 8 sc__law_rows.nd (de_if (dt_cmp (bd_eq hr.units) (de_call C__law_number (hr.mono (by decide)) (da_cons (de_var 3) (da_cons (de_bin bd_add (de_var 1) de_int) (da_cons de_int da_nil)))) de_int) (de_call C__law_number (hr.mono (by decide)) (da_cons (de_var 3) (da_cons (de_bin bd_add (de_bin bd_add (de_var 1) (de_var 7)) de_int) (da_cons de_int da_nil)))) de_int))
    (dss_one (ds_app 4 (de_slice (de_call C__law_cells (hr.mono (by decide)) (da_cons (de_var 0) (da_cons (de_bin bd_add (de_var 1) (de_var 7)) (da_cons (de_var 2) da_nil)))) do_none (do_some (de_callB (cal_max rfl) Tx.n_max (da_cons de_int (da_cons (de_bin bd_sub (de_var 5) (de_var 8)) da_nil)))))))))
    (dss_one (ds_frz 4 (ds_ret (de_var 4)))))))))
theorem ok_is_signs {f : Addr} {fd : FuncData} (F : Fun K "is_signs" "is_signs" s_is_signs f fd) (Tx : Txt K mg T) : FnOk P w K mg base CX0 1 f fd ["thing", "most"] (spF K T 2 r_is_signs) :=
  okF (k := 0) (m := 1) F sc_is_signs rfl (fun cdv A os s H E hr =>
    (dss_one (ds_ret (de_and (de_callB (cal_isi Tx.cls) Tx.n_isinstance (da_cons (de_var 0) (da_cons (de_ty Tx.n_str) da_nil))) (de_and (de_cmp bd_le (de_callB cal_len Tx.n_len (da_cons (de_var 0) da_nil)) (de_var 1)) (de_one (de_callB (cal_all rfl) Tx.n_all (da_cons (de_l (dl_lc (own := [("sign", 2)]) rfl sc_is_signs.nd (di_seq (de_var 0)) (blkOk_by (N := ["thing", "most", "sign"]) (sc := defScope s_is_signs) (by decide +kernel)) (by decide) (fun s0 H0 C0 cl0 fp0 => pg_name (i := 2) sc_is_signs.nd rfl (Or.inl rfl)) (fun s0 H0 C0 cl0 fp0 => dts_nil) (fun s0 H0 C0 cl0 fp0 => (de_cmp (bd_in (room65 hr)) (de_var 2) (de_gl Tx.g_SIGNS))))) da_nil))))))))
theorem ok_is_row {f : Addr} {fd : FuncData} (F : Fun K "is_row" "is_row" s_is_row f fd) (Tx : Txt K mg T) (C_is_signs : Callee P w K mg base T 1 "is_signs" r_is_signs) : FnOk P w K mg base CX0 2 f fd ["thing"] (spF K T 1 r_is_row) :=
  okF (k := 1) (m := 1) F sc_is_row rfl (fun cdv A os s H E hr =>
    (dss_cons (ds_if (dt_w (dw_or (dt_not (dt_val (de_callB (cal_isi Tx.cls) Tx.n_isinstance (da_cons (de_var 0) (da_cons (de_ty Tx.n_list) da_nil))))) (dw_or1 (dt_not (dt_chain bd_le bd_le de_int (de_callB cal_len Tx.n_len (da_cons (de_var 0) da_nil)) (de_gl Tx.g_MOST_CELLS)))))) (dss_one (ds_ret de_bl)) dss_nil)
    (dss_one (ds_ret (de_callB (cal_all rfl) Tx.n_all (da_cons (de_l (dl_lc (own := [("cell", 1)]) rfl sc_is_row.nd (di_seq (de_var 0)) (blkOk_by (N := ["thing", "cell"]) (sc := defScope s_is_row) (by decide +kernel)) (by decide) (fun s0 H0 C0 cl0 fp0 => pg_name (i := 1) sc_is_row.nd rfl (Or.inl rfl)) (fun s0 H0 C0 cl0 fp0 => dts_nil) (fun s0 H0 C0 cl0 fp0 => (de_call C_is_signs (hr.mono (by decide)) (da_cons (de_var 1) (da_cons (de_gl Tx.g_LONGEST_CELL) da_nil)))))) da_nil))))))
theorem ok_check_table {f : Addr} {fd : FuncData} (F : Fun K "check_table" "check_table" s_check_table f fd) (Tx : Txt K mg T) (C_is_row : Callee P w K mg base T 2 "is_row" r_is_row) : FnOk P w K mg base CX0 3 f fd ["rows"] (spF K T 1 r_check_table) :=
  okF (k := 2) (m := 1) F sc_check_table rfl (fun cdv A os s H E hr =>
    (dss_one (ds_if (dt_w (dw_or (dt_not (dt_val (de_callB (cal_isi Tx.cls) Tx.n_isinstance (da_cons (de_var 0) (da_cons (de_ty Tx.n_list) da_nil))))) (dw_or (dt_cmp bd_gt (de_callB cal_len Tx.n_len (da_cons (de_var 0) da_nil)) (de_gl Tx.g_MOST_ROWS)) (dw_or1 (dt_not (dt_val (de_callB (cal_all rfl) Tx.n_all (da_cons (de_l (dl_lc (own := [("row", 1)]) rfl sc_check_table.nd (di_seq (de_var 0)) (blkOk_by (N := ["rows", "row"]) (sc := defScope s_check_table) (by decide +kernel)) (by decide) (fun s0 H0 C0 cl0 fp0 => pg_name (i := 1) sc_check_table.nd rfl (Or.inl rfl)) (fun s0 H0 C0 cl0 fp0 => dts_nil) (fun s0 H0 C0 cl0 fp0 => (de_call C_is_row (hr.mono (by decide)) (da_cons (de_var 1) da_nil))))) da_nil)))))))) (dss_one ds_never) dss_nil)))
theorem ok_all_manners {f : Addr} {fd : FuncData} (F : Fun K "all_manners" "all_manners" s_all_manners f fd) (Tx : Txt K mg T) : FnOk P w K mg base CX0 1 f fd [] (spF K T 0 r_all_manners) :=
  okF (k := 0) (m := 4) F sc_all_manners rfl (fun cdv A os s H E hr =>
    (dss_cons (ds_setO 0 sc_all_manners.nd (dl_lst da_nil))
    (dss_cons (ds_for PassesOwn.never rfl (di_seq (de_gl Tx.g_MARKS)) (dg_name 1 sc_all_manners.nd)
    (dss_one (ds_for PassesOwn.never rfl (di_seq (de_gl Tx.g_QUOTES)) (dg_name 2 sc_all_manners.nd)
    (dss_one (ds_ext 0 (de_l (dl_lc (own := [("escape", 3)]) rfl sc_all_manners.nd (di_seq (de_gl Tx.g_ESCAPES)) (blkOk_by (N := ["found", "mark", "quote", "escape"]) (sc := defScope s_all_manners) (by decide +kernel)) (by decide) (fun s0 H0 C0 cl0 fp0 => pg_name (i := 3) sc_all_manners.nd rfl (Or.inl rfl)) (fun s0 H0 C0 cl0 fp0 => dts_nil) (fun s0 H0 C0 cl0 fp0 => (de_tup (da_cons (de_var 1) (da_cons (de_var 2) (da_cons (de_var 3) da_nil))))))))))))
    (dss_one (ds_frz 0 (ds_ret (de_var 0)))))))
theorem ok_check_manner {f : Addr} {fd : FuncData} (F : Fun K "check_manner" "check_manner" s_check_manner f fd) (Tx : Txt K mg T) (C_all_manners : Callee P w K mg base T 1 "all_manners" r_all_manners) : FnOk P w K mg base CX0 2 f fd ["manner"] (spF K T 1 r_check_manner) :=
  okF (k := 1) (m := 1) F sc_check_manner rfl (fun cdv A os s H E hr =>
    (dss_cons (ds_if (dt_w (dw_or (dt_not (dt_val (de_callB (cal_isi Tx.cls) Tx.n_isinstance (da_cons (de_var 0) (da_cons (de_ty Tx.n_tuple) da_nil))))) (dw_or (dt_cmp (bd_ne hr.units) (de_callB cal_len Tx.n_len (da_cons (de_var 0) da_nil)) de_int) (dw_or1 (dt_not (dt_val (de_callB (cal_all rfl) Tx.n_all (da_cons (de_l (dl_lc (own := [("part", 1)]) rfl sc_check_manner.nd (di_seq (de_var 0)) (blkOk_by (N := ["manner", "part"]) (sc := defScope s_check_manner) (by decide +kernel)) (by decide) (fun s0 H0 C0 cl0 fp0 => pg_name (i := 1) sc_check_manner.nd rfl (Or.inl rfl)) (fun s0 H0 C0 cl0 fp0 => dts_nil) (fun s0 H0 C0 cl0 fp0 => (de_callB (cal_isi Tx.cls) Tx.n_isinstance (da_cons (de_var 1) (da_cons (de_ty Tx.n_str) da_nil)))))) da_nil)))))))) (dss_one ds_never) dss_nil)
    (dss_one (ds_if (dt_cmp (bd_ni (room65 hr)) (de_var 0) (de_call0 C_all_manners (hr.mono (by decide)))) (dss_one ds_never) dss_nil))))
theorem ok__law_manners {f : Addr} {fd : FuncData} (F : Fun K "_law_manners" "_law_manners" s__law_manners f fd) (Tx : Txt K mg T) : FnOk P w K mg base CX0 1 f fd [] (spF K T 0 r__law_manners) :=
  okF (k := 0) (m := 3) F sc__law_manners rfl (fun cdv A os s H E hr =>
    (dss_cons (ds_set 0 sc__law_manners.nd (de_l (dl_lst da_nil)))
    (dss_cons (ds_for PassesOwn.never rfl (di_seq (de_tup (da_cons (de_str [44]) (da_cons (de_str [59]) (da_cons (de_str [124]) (da_cons (de_str [58]) da_nil)))))) (dg_name 1 sc__law_manners.nd)
    (dss_one (ds_for PassesOwn.never rfl (di_seq (de_tup (da_cons (de_str []) (da_cons (de_str [34]) (da_cons (de_str [39]) da_nil))))) (dg_name 2 sc__law_manners.nd)
    (dss_one (ds_set 0 sc__law_manners.nd (de_bin bd_add (de_var 0) (de_l (dl_lst (da_cons (de_tup (da_cons (de_var 1) (da_cons (de_var 2) (da_cons (de_str []) da_nil)))) (da_cons (de_tup (da_cons (de_var 1) (da_cons (de_var 2) (da_cons (de_str [92]) da_nil)))) da_nil))))))))))
    (dss_one (ds_ret (de_var 0))))))
theorem ok__law_manner {f : Addr} {fd : FuncData} (F : Fun K "_law_manner" "_law_manner" s__law_manner f fd) (Tx : Txt K mg T) (C__law_manners : Callee P w K mg base T 1 "_law_manners" r__law_manners) (C__law_number : Callee P w K mg base T 2 "_law_number" r__law_number) (C__law_cell_at : Callee P w K mg base T 1 "_law_cell_at" r__law_cell_at) : FnOk P w K mg base CX0 3 f fd ["_law_script", "_law_by"] (spF K T 2 r__law_manner) :=
  okF (k := 2) (m := 0) F sc__law_manner rfl (fun cdv A os s H E hr =>
    (dss_one (ds_ret (de_ix ixd (de_call0 C__law_manners (hr.mono (by decide))) (de_call C__law_number (hr.mono (by decide)) (da_cons (de_call C__law_cell_at (hr.mono (by decide)) (da_cons (de_var 0) (da_cons (de_var 1) da_nil))) (da_cons (de_bin bd_add (de_var 1) de_int) (da_cons de_int da_nil))))))))
theorem okx__law_manners {f : Addr} {fd : FuncData} (F : Fun K "_law_manners" "_law_manners" s__law_manners f fd) : FnX P w K mg base T 1 f fd [] xt__law_manners :=
  okX (k := 0) (m := 3) F sc__law_manners rfl (fun cdv A os s0 HE0 EE gd hr => by
    intro pins s B G0 H0 G H σ r o Q E tk I S e hQ hE
    unfold gManL at e
    obtain ⟨hlen, e⟩ := ite_opt e
    cases e
    have nox : ∀ (u : Value) (s : Shared), ¬ (cxOf (L2.CX P w) P w K mg base ["_law_found", "_law_mark", "_law_quote"] "_law_manners" (defScope s__law_manners) f cdv A os s0 HE0 EE).nox.xe u s := fun _ _ z => z
    refine wpAny_execs_cons (toE nox ((DS.t (ds_set 0 sc__law_manners.nd (de_l (dl_lst da_nil)))) pins s B G0 H0 G H σ r _ tk I S rfl) (fun fl s1 q => ?_))
    obtain ⟨rfl, G1, H1, σ1, g1, I1, S1⟩ := q
    obtain ⟨ρ1, R1⟩ := rts_of g1 I1 S1
    refine wpAny_execs_cons (toE nox (rts_for (items := [[44], [59], [124], [58]]) (i := 1) PassesOwn.never rfl sc__law_manners.nd rfl rfl (cs_cons [44] (cs_cons [59] (cs_cons [124] (cs_cons [58] cs_nil)))) (by decide) (fun j ρ r => r.length = 3 ∧ r[0]? = some (.val (.lst (manP j)))) R1 ⟨by simpa using hlen, by rw [List.getElem?_set_self (by omega)]; rfl⟩ g1.pos (fun av j l t ρ' r' s' hl ht0 ht hts hex R' => ?_)) (fun fl s2 q2 => ?_))
    · obtain ⟨ρ₀, r₀, ⟨hr3, hr0⟩, rfl, rfl⟩ := hex
      refine wpAny_execs_cons (thn (rts_for (items := [[], [34], [39]]) (i := 2) PassesOwn.never rfl sc__law_manners.nd rfl rfl (cs_cons [] (cs_cons [34] (cs_cons [39] cs_nil))) (by decide) (fun j2 ρ r => r.length = 3 ∧ r[0]? = some (.val (.lst (manP j ++ rowP l j2))) ∧ ρ "_law_mark" = some (.str ⟨l.toArray⟩ t)) R' ⟨by simpa using hr3, by rw [List.getElem?_set_ne (by decide), hr0]; simp [rowP], updN_same⟩ (by omega) (fun av2 j2 l2 t2 ρ2 r2 s2 hl2 ht20 ht2 hts2 hex2 R2 => ?_)) (fun fl s3 q3 => ?_))
      · obtain ⟨ρ₁, r₁, ⟨hr3', hr0', hm⟩, rfl, rfl⟩ := hex2
        refine wpAny_execs_cons (rts_add2 (i := 0) (m := l) (q := l2) (ds := manP j ++ rowP l j2) [] [92] R2 (by rw [List.getElem?_set_ne (by decide)]; exact hr0') (by have h1 := manP_len j; have h2 := rowP_len l j2; rw [List.length_append]; omega) sc__law_manners.nd rfl rfl ((updN_ne (by decide +kernel)).trans hm) updN_same rfl rfl (by decide +kernel) (by decide +kernel) (by decide +kernel) (by decide +kernel) (by decide +kernel) ⟨ht0, by omega⟩ ⟨ht20, ht2⟩ (fun u s4 R4 kp4 => wpAny_execs_nil ⟨rfl, _, _, ⟨by simpa using hr3', ?_, ?_⟩, R4, kp4⟩))
        · rw [List.getElem?_set_self (by simp; omega), rowP_succ hl2, List.append_assoc]
        · exact (updN_ne (by decide +kernel)).trans ((updN_ne (by decide +kernel)).trans hm)
      · obtain ⟨rfl, ρ3, r3, ⟨h1, h2, _⟩, R3, kp3⟩ := q3
        refine wpAny_execs_nil ⟨rfl, ρ3, r3, ⟨h1, ?_⟩, R3, kp3⟩
        rw [h2, manP_succ hl]
        rfl
    · obtain ⟨rfl, ρ2, r2, ⟨h1, h2⟩, R2, kp2⟩ := q2
      obtain ⟨G2, H2, σ2, tk2, I2, S2, _⟩ := R2.ex
      refine wpAny_execs_cons (toE nox ((dst_ret (DE.t (de_var 0))) pins s2 B G0 H0 G2 H2 σ2 r2 (.rt (.lst manL)) tk2 I2 S2 (by show (gV r2 0).map Out.rt = _; rw [gV_iff.mpr h2]; rfl)) (fun fl s3 q => ?_))
      obtain ⟨u, v, G3, H3, σ3, rfl, q⟩ := q
      exact hQ _ _ _ rfl ⟨u, v, G3, H3, σ3, rfl, q⟩)
theorem okx__law_manner {f : Addr} {fd : FuncData} (F : Fun K "_law_manner" "_law_manner" s__law_manner f fd) (Tx : Txt K mg T) (C__law_number : Callee P w K mg base T 2 "_law_number" r__law_number) (C__law_cell_at : Callee P w K mg base T 1 "_law_cell_at" r__law_cell_at) (CX__law_manners : CalleeX P w K mg base T 1 "_law_manners" xt__law_manners) : FnX P w K mg base T 3 f fd ["_law_script", "_law_by"] xt__law_manner :=
  okX (k := 2) (m := 0) F sc__law_manner rfl (fun cdv A os s H E gd hr => dsxs_ok (fun _ _ z => z) (
    (dsts_one (dst_ret (det_ix ixd (det_callT0 CX__law_manners rfl gd (hr.mono (by decide))) (DE.t (de_call C__law_number (hr.mono (by decide)) (da_cons (de_call C__law_cell_at (hr.mono (by decide)) (da_cons (de_var 0) (da_cons (de_var 1) da_nil))) (da_cons (de_bin bd_add (de_var 1) de_int) (da_cons de_int da_nil))))))))))
theorem okx_cell_of {f : Addr} {fd : FuncData} (F : Fun K "cell_of" "cell_of" s_cell_of f fd) : FnX P w K mg base T 1 f fd ["cell", "manner"] xt_cell_of :=
  okX (k := 0) (m := 4) F sc_cell_of rfl (fun cdv A os s0 HE0 EE gd hr => by
    intro pins s B G0 H0 G H σ r o Q E tk I S e hQ hE
    unfold gCell at e
    split at e
    · rename_i c m q es h0 h1
      cases hd : cellD c m q es with
      | none => rw [hd] at e; cases e
      | some d =>
      rw [hd] at e
      cases e
      obtain ⟨v0, e0, p0⟩ := S.fits.val 0 _ (gV_iff.mp h0)
      obtain ⟨v1, e1, p1⟩ := S.fits.val 1 _ (gV_iff.mp h1)
      cases p0
      cases p1 with
      | @man ad ob _ _ _ hg =>
      obtain ⟨ρ, R, hρ⟩ := RSt.of I
      obtain ⟨u0, r0, k0⟩ := hρ 0 "cell" _ rfl e0 rfl
      obtain ⟨tc, rfl⟩ := r0
      obtain ⟨u1, r1, k1⟩ := hρ 1 "manner" _ rfl e1 rfl
      cases r1
      obtain ⟨tm, tq, te, hT, gm, gq, ge⟩ := man_at tk I.hok (S.fits.gh _ _ hg)
      have fin : ∀ {ρ' : Str → Option Value} {s' : Shared} {u : Value} {v : V}, s.toks ≤ s'.toks → RSt _ pins H ρ' s.toks s' → RelV v u → (∀ G, Rp K T G v d) → Q (.ret u) s' := fun hk R' rv rp => by
        obtain ⟨σ', I'⟩ := R'.inv
        exact hQ _ _ _ rfl ⟨_, _, G, H, σ', rfl, tk.nf (NoF.refl H) hk, I', rv, S.nx, rp G⟩
      refine wpAny_execs_cons (raw_unpack3 2 3 4 R rfl sc_cell_of.nd k1 hT (fun s1 hk1 R1 => ?_))
      have nm : updN (updN (updN ρ "mark" (.str ⟨m.toArray⟩ tm)) "quote" (.str ⟨q.toArray⟩ tq)) "escape" (.str ⟨es.toArray⟩ te) "mark" = some (.str ⟨m.toArray⟩ tm) := (updN_ne (by decide +kernel)).trans ((updN_ne (by decide +kernel)).trans updN_same)
      have nq : updN (updN (updN ρ "mark" (.str ⟨m.toArray⟩ tm)) "quote" (.str ⟨q.toArray⟩ tq)) "escape" (.str ⟨es.toArray⟩ te) "quote" = some (.str ⟨q.toArray⟩ tq) := (updN_ne (by decide +kernel)).trans updN_same
      have ne : updN (updN (updN ρ "mark" (.str ⟨m.toArray⟩ tm)) "quote" (.str ⟨q.toArray⟩ tq)) "escape" (.str ⟨es.toArray⟩ te) "escape" = some (.str ⟨es.toArray⟩ te) := updN_same
      have nc : updN (updN (updN ρ "mark" (.str ⟨m.toArray⟩ tm)) "quote" (.str ⟨q.toArray⟩ tq)) "escape" (.str ⟨es.toArray⟩ te) "cell" = some (.str ⟨c.toArray⟩ tc) := (updN_ne (by decide +kernel)).trans ((updN_ne (by decide +kernel)).trans ((updN_ne (by decide +kernel)).trans k0))
      generalize updN (updN (updN ρ "mark" (.str ⟨m.toArray⟩ tm)) "quote" (.str ⟨q.toArray⟩ tq)) "escape" (.str ⟨es.toArray⟩ te) = ρ1 at R1 nm nq ne nc
      unfold cellD at hd
      split at hd
      · rename_i a
        obtain ⟨hlen, hd⟩ := ite_opt hd
        refine wpAny_execs_cons (raw_set 5 R1 sc_cell_of.nd (rx_and (rx_notin (rx_nameStr nm) (rx_nameStr nc)) (rx_one (rx_notin (rx_strL [10]).newStr (rx_nameStr nc)))) (fun up k s2 hu hk2 hk2' R2 => ?_))
        subst hu
        have nm2 := (updN_ne (x := "plain") (u := .bool (!decide (a ∈ c) && !decide (10 ∈ c))) (by decide +kernel)).trans nm
        have nq2 := (updN_ne (x := "plain") (u := .bool (!decide (a ∈ c) && !decide (10 ∈ c))) (by decide +kernel)).trans nq
        have ne2 := (updN_ne (x := "plain") (u := .bool (!decide (a ∈ c) && !decide (10 ∈ c))) (by decide +kernel)).trans ne
        have nc2 := (updN_ne (x := "plain") (u := .bool (!decide (a ∈ c) && !decide (10 ∈ c))) (by decide +kernel)).trans nc
        have np2 : updN ρ1 "plain" (.bool (!decide (a ∈ c) && !decide (10 ∈ c))) "plain" = some (.bool (!decide (a ∈ c) && !decide (10 ∈ c))) := updN_same
        generalize updN ρ1 "plain" (.bool (!decide (a ∈ c) && !decide (10 ∈ c))) = ρ2 at R2 nm2 nq2 ne2 nc2 np2
        refine wpAny_execs_cons (raw_if R2 (rt_w (rw_and (rt_eq (rx_nameStr nq2) (rx_strL []).newStr) (rw_and1 (rt_eq (rx_nameStr ne2) (rx_strL []).newStr)))) (fun ht k3 hk3 => ?_) (fun ht k3 hk3 => ?_))
        · -- neither quote nor escape
          have hq : q = [] := by simpa using (Bool.and_eq_true_iff.mp ht).1
          have he : es = [] := by simpa using (Bool.and_eq_true_iff.mp ht).2
          subst hq he
          cases hd
          refine wpAny_execs_cons (raw_ret (φ := fun _ _ u => ∃ v, RelV v u ∧ ∀ G, Rp K T G v (if a ∈ c ∨ 10 ∈ c then Dt.non else Dt.str c)) (R2.tok hk3) ?_ (fun u k4 hk4 hu => ?_))
          · refine rx_ifT (rt_val (rx_name np2)) (fun hp => ?_) (fun hp => ?_) (fun _ _ _ _ _ h => h)
            · refine (rx_nameStr nc2).imp fun _ _ u _ _ ⟨t, e⟩ => ⟨.str ⟨c.toArray⟩, ⟨t, e⟩, fun G => ?_⟩
              rw [if_neg (by rintro (h | h) <;> simp [h] at hp)]
              exact .str c
            · refine rx_none.imp fun _ _ u _ _ e => ⟨.non, e, fun G => ?_⟩
              rw [if_pos (by by_cases h1 : a ∈ c <;> by_cases h2 : 10 ∈ c <;> simp [h1, h2] at hp ⊢)]
              exact .non
          · obtain ⟨v, rv, rp⟩ := hu
            exact fin (by show s.toks ≤ k4; have h1 : s2.toks ≤ k3 := hk3; have h2 : k3 ≤ k4 := hk4; omega) ((R2.tok hk3).tok hk4) rv rp
        · refine wpAny_execs_nil ?_
          have R3 := R2.tok hk3
          have hs3 : s.toks ≤ k3 := by have h1 : s2.toks ≤ k3 := hk3; omega
          have ret : ∀ {s4 : Shared} {st : Expr} {p0 : Pos} {rest : List Stmt} {y : List Nat} {Q2 : Flow → Shared → Prop}, (∀ u s', Q (.ret u) s' → Q2 (.ret u) s') → RSt _ pins H ρ2 s.toks s4 → s.toks ≤ s4.toks → d = .str y → RX _ pins H ρ2 s.toks st (φStr ⟨y.toArray⟩) → wpAny _ _ (execs (.Return (some st) p0 :: rest) _) Q2 E s4 := fun {s4 st p0 rest y Q2} hQ2 R4 hk4 ed hx => by
            refine wpAny_execs_cons (raw_ret R4 hx (fun u k5 hk5 hu => ?_))
            obtain ⟨t, rfl⟩ := hu
            exact hQ2 _ _ (fin (v := .str ⟨y.toArray⟩) (by show s.toks ≤ k5; have h2 : s4.toks ≤ k5 := hk5; omega) (R4.tok hk5) ⟨t, rfl⟩ (fun G => by rw [ed]; exact .str y))
          have hn0 : 1 ≤ s.toks := tk.pos
          have L1 : ∀ (z : List Nat) (x : Nat) (l : List Nat), z.length ≤ 2 → (replL x z l).length ≤ l.length * 3 := fun z x l hz => Nat.le_trans (replL_len x z l) (Nat.mul_le_mul_left _ (by omega))
          refine wpAny_execs_cons (raw_if R3 (rt_eq (rx_nameStr nq2) (rx_strL []).newStr) (fun hq k4 hk4 => ?_) (fun hq k4 hk4 => ?_))
          · -- no quote
            have hq' : q = [] := by simpa using hq
            subst hq'
            cases es with
            | nil => simp at ht
            | cons x es' =>
            cases es' with
            | cons y z => cases hd
            | nil =>
            cases hd
            have l1 := L1 [x, x] x c (by simp)
            have l2 := L1 [x, a] a (replL x [x, x] c) (by simp)
            refine ret (fun _ _ z => z) (R3.tok hk4) (by show s.toks ≤ k4; have h1 : k3 ≤ k4 := hk4; omega) rfl ?_
            exact (rx_rep (z := [x, 110]) (c := 10) (rx_rep (z := [x, a]) (c := a) (rx_rep (z := [x, x]) (c := x) (rx_nameStr nc2) (rx_nameOld ne2 ge.1 ge.2) (rx_add (x := [x]) (y := [x]) (rx_nameStr ne2) (rx_nameStr ne2) (by simp) (by simp) (by simp)) (by simp; omega) (by simp)) (rx_nameOld nm2 gm.1 gm.2) (rx_add (x := [x]) (y := [a]) (rx_nameStr ne2) (rx_nameStr nm2) (by simp) (by simp) (by simp)) (by simp; omega) (by simp)) ((rx_strL [10]).newOld hn0) (rx_add (x := [x]) (y := [110]) (rx_nameStr ne2) (rx_strL [110]).newStr (by simp) (by simp) (by simp)) (by simp; omega) (by simp))
          · refine wpAny_execs_nil ?_
            have R4 := R3.tok hk4
            have hs4 : s.toks ≤ k4 := by have h1 : k3 ≤ k4 := hk4; omega
            cases q with
            | nil => simp at hq
            | cons kq q' =>
            cases q' with
            | cons y z => cases es with
              | nil => cases hd
              | cons e1 e2 => cases e2 <;> cases hd
            | nil =>
            refine wpAny_execs_cons (raw_if R4 (t := (!decide (a ∈ c) && !decide (10 ∈ c)) && !decide (kq ∈ c)) (rt_w (rw_and (rt_val (rx_name np2)) (rw_and1 (rt_notin (rx_nameStr nq2) (rx_nameStr nc2))))) (fun hb k5 hk5 => ?_) (fun hb k5 hk5 => ?_))
            · have hno : ¬ (a ∈ c ∨ 10 ∈ c ∨ kq ∈ c) := by
                rintro (h | h | h) <;> simp [h] at hb
              refine ret (y := c) (fun _ _ z => z) (R4.tok hk5) (by show s.toks ≤ k5; have h1 : k4 ≤ k5 := hk5; omega) ?_ ?_
              · cases es with
                | nil => cases hd; rw [if_neg hno]
                | cons e1 e2 => cases e2 with
                  | nil => cases hd; rw [if_neg hno]
                  | cons _ _ => cases hd
              · exact rx_nameStr nc2
            · refine wpAny_execs_nil ?_
              have hyes : a ∈ c ∨ 10 ∈ c ∨ kq ∈ c := by
                by_cases h1 : a ∈ c <;> by_cases h2 : 10 ∈ c <;> by_cases h3 : kq ∈ c <;> simp [h1, h2, h3] at hb ⊢
              have R5 := R4.tok hk5
              have hs5 : s.toks ≤ k5 := by have h1 : k4 ≤ k5 := hk5; omega
              refine wpAny_execs_cons (raw_if R5 (rt_eq (rx_nameStr ne2) (rx_strL []).newStr) (fun hee k6 hk6 => ?_) (fun hee k6 hk6 => ?_))
              · have he' : es = [] := by simpa using hee
                subst he'
                cases hd
                have l1 := L1 [kq, kq] kq c (by simp)
                refine ret (fun _ _ z => z) (R5.tok hk6) (by show s.toks ≤ k6; have h1 : k5 ≤ k6 := hk6; omega) (by rw [if_pos hyes]) ?_
                exact (rx_addS (x := [kq] ++ replL kq [kq, kq] c) (y := [kq]) (rx_addS (x := [kq]) (rx_nameStr nq2) (rx_rep (z := [kq, kq]) (c := kq) (rx_nameStr nc2) (rx_nameOld nq2 gq.1 gq.2) (rx_add (x := [kq]) (y := [kq]) (rx_nameStr nq2) (rx_nameStr nq2) (by simp) (by simp) (by simp)) (by simp; omega) (by simp)) (by simp; omega)) (rx_nameStr nq2) (by simp; omega))
              · refine wpAny_execs_nil ?_
                cases es with
                | nil => simp at hee
                | cons x es' =>
                cases es' with
                | cons y z => cases hd
                | nil =>
                cases hd
                have l1 := L1 [x, x] x c (by simp)
                have l2 := L1 [x, kq] kq (replL x [x, x] c) (by simp)
                refine ret (fun _ _ z => z) (R5.tok hk6) (by show s.toks ≤ k6; have h1 : k5 ≤ k6 := hk6; omega) (by rw [if_pos hyes]) ?_
                exact (rx_addS (x := [kq] ++ replL kq [x, kq] (replL x [x, x] c)) (y := [kq]) (rx_addS (x := [kq]) (rx_nameStr nq2) (rx_rep (z := [x, kq]) (c := kq) (rx_rep (z := [x, x]) (c := x) (rx_nameStr nc2) (rx_nameOld ne2 ge.1 ge.2) (rx_add (x := [x]) (y := [x]) (rx_nameStr ne2) (rx_nameStr ne2) (by simp) (by simp) (by simp)) (by simp; omega) (by simp)) (rx_nameOld nq2 gq.1 gq.2) (rx_add (x := [x]) (y := [kq]) (rx_nameStr ne2) (rx_nameStr nq2) (by simp) (by simp) (by simp)) (by simp; omega) (by simp)) (by simp; omega)) (rx_nameStr nq2) (by simp; omega))
      · cases hd
    · cases e)
theorem okx_bad_of {f : Addr} {fd : FuncData} (F : Fun K "bad_of" "bad_of" s_bad_of f fd) (Tx : Txt K mg T) (CX_cell_of : CalleeX P w K mg base T 1 "cell_of" xt_cell_of) : FnX P w K mg base T 2 f fd ["rows", "manner"] xt_bad_of :=
  okX (k := 1) (m := 4) F sc_bad_of rfl (fun cdv A os s H E gd hr => dsxs_ok (fun _ _ z => z) (
    (dsts_cons (dst_for PassesOwn.never rfl (DI.t (di_enum Tx.n_enumerate (da_cons (de_var 0) da_nil))) (dg_tup rfl (dgs_cons 2 sc_bad_of.nd (dgs_cons 3 sc_bad_of.nd dgs_nil)))
    (dsts_one (dst_for PassesOwn.never rfl (DI.t (di_enum Tx.n_enumerate (da_cons (de_var 3) da_nil))) (dg_tup rfl (dgs_cons 4 sc_bad_of.nd (dgs_cons 5 sc_bad_of.nd dgs_nil)))
    (dsts_one (dst_if (dtt_cmp bd_is (det_callT CX_cell_of rfl (fun _ _ z => z) gd (hr.mono (by decide)) (dat_cons (DE.t (de_var 5)) (dat_cons (DE.t (de_var 1)) dat_nil))) (DE.t de_non)) (DSs.t (dss_one (ds_ret (de_tup (da_cons (de_var 2) (da_cons (de_var 4) da_nil)))))) dsts_nil)))))
    (dsts_one (DS.t (ds_ret de_non))))))
theorem okx_unwritable {f : Addr} {fd : FuncData} (F : Fun K "unwritable" "unwritable" s_unwritable f fd) (Tx : Txt K mg T) (C_check_table : Callee P w K mg base T 3 "check_table" r_check_table) (C_check_manner : Callee P w K mg base T 2 "check_manner" r_check_manner) (CX_bad_of : CalleeX P w K mg base T 2 "bad_of" xt_bad_of) : FnX P w K mg base T 4 f fd ["rows", "manner"] xt_unwritable :=
  okX (k := 3) (m := 0) F sc_unwritable rfl (fun cdv A os s H E gd hr => dsxs_ok (fun _ _ z => z) (
    (dsts_cons (DS.t (ds_expr (de_call C_check_table (hr.mono (by decide)) (da_cons (de_var 0) da_nil))))
    (dsts_cons (DS.t (ds_expr (de_call C_check_manner (hr.mono (by decide)) (da_cons (de_pl (de_var 1)) da_nil))))
    (dsts_one (dst_ret (det_callT CX_bad_of okOf_ok (fun _ _ z => z) gd (hr.mono (by decide)) (dat_cons (DE.t (de_var 0)) (dat_cons (DE.t (de_var 1)) dat_nil)))))))))
theorem okx_text_of {f : Addr} {fd : FuncData} (F : Fun K "text_of" "text_of" s_text_of f fd) (Tx : Txt K mg T) (CX_cell_of : CalleeX P w K mg base T 1 "cell_of" xt_cell_of) : FnX P w K mg base T 2 f fd ["rows", "manner"] xt_text_of :=
  okX (k := 1) (m := 2) F sc_text_of rfl (fun cdv A os s H E gd hr => dsxs_ok (fun _ _ z => z) (
    (dsts_one (dst_ret (det_join (DE.t (de_str [])) (det_lc (own := [("row", 2)]) rfl sc_text_of.nd (DI.t (di_seq (de_var 0))) (blkOk_by (N := ["rows", "manner", "row", "cell"]) (by rfl)) (by decide) (fun s0 H0 C0 cl0 fp0 => pg_name (i := 2) sc_text_of.nd rfl (Or.inl rfl)) (fun s0 H0 C0 cl0 fp0 => (det_bin bd_add (det_join (DE.t (de_ix ixd (de_pl (de_var 1)) de_int)) (det_lc (own := [("cell", 3)]) rfl sc_text_of.nd (DI.t (di_seq (de_var 2))) (blkOk_by (N := ["rows", "manner", "row", "cell"]) (by rfl)) (by decide) (fun s0 H0 C0 cl0 fp0 => pg_name (i := 3) sc_text_of.nd rfl (Or.inl rfl)) (fun s0 H0 C0 cl0 fp0 => (det_callT CX_cell_of rfl (fun _ _ z => z) gd (hr.mono (by decide)) (dat_cons (DE.t (de_var 3)) (dat_cons (DE.t (de_var 1)) dat_nil)))))) (DE.t (de_str [10]))))))))))
theorem okx_written {f : Addr} {fd : FuncData} (F : Fun K "written" "written" s_written f fd) (Tx : Txt K mg T) (C_check_table : Callee P w K mg base T 3 "check_table" r_check_table) (C_check_manner : Callee P w K mg base T 2 "check_manner" r_check_manner) (CX_bad_of : CalleeX P w K mg base T 2 "bad_of" xt_bad_of) (CX_text_of : CalleeX P w K mg base T 2 "text_of" xt_text_of) : FnX P w K mg base T 4 f fd ["rows", "manner"] xt_written :=
  okX (k := 3) (m := 0) F sc_written rfl (fun cdv A os s H E gd hr => dsxs_ok (fun _ _ z => z) (
    (dsts_cons (DS.t (ds_expr (de_call C_check_table (hr.mono (by decide)) (da_cons (de_var 0) da_nil))))
    (dsts_cons (DS.t (ds_expr (de_call C_check_manner (hr.mono (by decide)) (da_cons (de_pl (de_var 1)) da_nil))))
    (dsts_cons (dst_if (dtt_cmp bd_isn (det_callT CX_bad_of okOf_ok (fun _ _ z => z) gd (hr.mono (by decide)) (dat_cons (DE.t (de_var 0)) (dat_cons (DE.t (de_var 1)) dat_nil))) (DE.t de_non)) (DSs.t (dss_one ds_never)) dsts_nil)
    (dsts_one (dst_ret (det_callT CX_text_of okOf_ok (fun _ _ z => z) gd (hr.mono (by decide)) (dat_cons (DE.t (de_var 0)) (dat_cons (DE.t (de_var 1)) dat_nil))))))))))
theorem okx_law {f : Addr} {fd : FuncData} (F : Fun K "law" "law" s_law f fd) (Tx : Txt K mg T) (C__law_rows : Callee P w K mg base T 4 "_law_rows" r__law_rows) (CX__law_manner : CalleeX P w K mg base T 3 "_law_manner" xt__law_manner) (CX__law_manners : CalleeX P w K mg base T 1 "_law_manners" xt__law_manners) (CX_unwritable : CalleeX P w K mg base T 4 "unwritable" xt_unwritable) (CX_written : CalleeX P w K mg base T 4 "written" xt_written) : FnG P w K mg base 5 f fd ["_law_script"] (spX K T xt_law) :=
  okXG (k := 4) (m := 16) F sc_law rfl rfl rfl (fun cdv A os s H E gd hr => dsxs_ok (fun _ _ z => z) (
    (dsts_cons (dst_for PassesOwn.never rfl (DI.t (di_range3 Tx.n_range (da_cons de_int (da_cons (de_callB (cal_max rfl) Tx.n_max (da_cons de_int (da_cons (de_callB (cal_min rfl) Tx.n_min (da_cons de_int (da_cons (de_callB cal_len Tx.n_len (da_cons (de_var 0) da_nil)) da_nil))) da_nil))) (da_cons de_int da_nil))))) (dg_name 1 sc_law.nd)
    (dsts_cons (dst_set 2 sc_law.nd (det_callT CX__law_manner okOf_ok (fun _ _ z => z) gd (hr.mono (by decide)) (dat_cons (DE.t (de_var 0)) (dat_cons (DE.t (de_var 1)) dat_nil))))
    (dsts_cons (DS.t (ds_par2 3 4 rfl sc_law.nd (dm_v (de_slice (de_call C__law_rows (hr.mono (by decide)) (da_cons (de_var 0) (da_cons (de_var 1) (da_cons (de_pl (de_var 2)) da_nil)))) do_none (do_some de_int)) (dm_v (de_slice (de_call C__law_rows (hr.mono (by decide)) (da_cons (de_var 0) (da_cons (de_bin bd_add (de_var 1) de_int) (da_cons (de_pl (de_var 2)) da_nil)))) do_none (do_some de_int)) dm_nil)) (by decide)))
    (dsts_one (dst_for PassesOwn.never rfl (dit_list (det_step (det_callT0 CX__law_manners rfl gd (hr.mono (by decide))) (do_some (de_bin bd_mod (de_bin bd_fdv (de_var 1) de_int) de_int)) do_none (do_some de_int))) (dg_name 5 sc_law.nd)
    (dsts_cons (dst_par2 6 7 rfl sc_law.nd (dat_cons (det_callT CX_unwritable okOf_ok (fun _ _ z => z) gd (hr.mono (by decide)) (dat_cons (DE.t (de_var 3)) (dat_cons (DE.t (de_var 5)) dat_nil))) (dat_cons (det_callT CX_unwritable okOf_ok (fun _ _ z => z) gd (hr.mono (by decide)) (dat_cons (DE.t (de_var 4)) (dat_cons (DE.t (de_var 5)) dat_nil))) dat_nil)) (by decide))
    (dsts_cons (DS.t (ds_setO 8 sc_law.nd (dl_lst da_nil)))
    (dsts_cons (dst_for PassesOwn.never rfl (DI.t (di_enum Tx.n_enumerate (da_cons (de_var 3) da_nil))) (dg_tup rfl (dgs_cons 9 sc_law.nd (dgs_cons 10 sc_law.nd dgs_nil)))
    (dsts_one (dst_for PassesOwn.never rfl (DI.t (di_enum Tx.n_enumerate (da_cons (de_var 10) da_nil))) (dg_tup rfl (dgs_cons 11 sc_law.nd (dgs_cons 12 sc_law.nd dgs_nil)))
    (dsts_one (dst_if (dtt_cmp bd_isn (det_callT CX_unwritable okOf_ok (fun _ _ z => z) gd (hr.mono (by decide)) (dat_cons (DE.t (de_l (dl_lst (da_cons (de_l (dl_lst (da_cons (de_var 12) da_nil))) da_nil)))) (dat_cons (DE.t (de_var 5)) dat_nil))) (DE.t de_non)) (DSs.t (dss_one (ds_app 8 (de_tup (da_cons (de_var 9) (da_cons (de_var 11) da_nil)))))) dsts_nil)))))
    (dsts_cons (DS.t (ds_if (dt_cmp (bd_ne hr.units) (de_var 6) (de_if (dt_cmp (bd_ne hr.units) (de_var 8) (de_l (dl_lst da_nil))) (de_ix ixd (de_var 8) de_int) de_non)) (dss_one (ds_ret de_bl)) dss_nil))
    (dsts_cons (dst_set 13 sc_law.nd (det_callT CX_unwritable okOf_ok (fun _ _ z => z) gd (hr.mono (by decide)) (dat_cons (DE.t (de_bin bd_add (de_var 3) (de_var 4))) (dat_cons (DE.t (de_var 5)) dat_nil))))
    (dsts_cons (DS.t (ds_set 14 sc_law.nd (de_if (dt_cmp bd_isn (de_pl (de_var 7)) de_non) (de_tup (da_cons (de_bin bd_add (de_ix ixd (de_pl (de_var 7)) de_int) (de_callB cal_len Tx.n_len (da_cons (de_var 3) da_nil))) (da_cons (de_ix ixd (de_pl (de_var 7)) de_int) da_nil))) de_non)))
    (dsts_cons (DS.t (ds_if (dt_cmp (bd_ne hr.units) (de_pl (de_var 13)) (de_if (dt_cmp bd_isn (de_var 6) de_non) (de_var 6) (de_var 14))) (dss_one (ds_ret de_bl)) dss_nil))
    (dsts_one (dst_if (DT.t (dt_cmp bd_is (de_var 6) de_non)) (dsts_cons (DS.t (ds_set 15 sc_law.nd (de_str [])))
    (dsts_cons (dst_for PassesOwn.never rfl (DI.t (di_seq (de_var 3))) (dg_name 9 sc_law.nd)
    (dsts_cons (dst_setLc 10 (own := [("_law_cell", 12)]) rfl sc_law.nd (DI.t (di_seq (de_var 9))) (blkOk_by (N := ["_law_script", "_law_by", "_law_drawn", "_law_rows_here", "_law_more", "_law_manner_here", "_law_bad", "_law_other", "_law_alone", "_law_row", "_law_cells_here", "_law_at", "_law_cell", "_law_both", "_law_due", "_law_text", "_law_there"]) (by rfl)) (by decide) (fun s0 H0 C0 cl0 fp0 => pg_name (i := 12) sc_law.nd rfl (Or.inl rfl)) (fun s0 H0 C0 cl0 fp0 => (det_slice (det_callT CX_written okOf_ok (fun _ _ z => z) gd (hr.mono (by decide)) (dat_cons (DE.t (de_l (dl_lst (da_cons (de_l (dl_lst (da_cons (de_var 12) da_nil))) da_nil)))) (dat_cons (DE.t (de_var 5)) dat_nil))) do_none (do_some (de_neg de_int)))) (hsw := sw_true rfl rfl rfl (by decide +kernel)))
    (dsts_cons (DS.t (ds_set 15 sc_law.nd (de_bin bd_add (de_bin bd_add (de_var 15) (de_join (de_ix ixd (de_pl (de_var 5)) de_int) (de_var 10))) (de_str [10]))))
    (dsts_cons (dst_set 16 sc_law.nd (det_callT CX_written okOf_ok (fun _ _ z => z) gd (hr.mono (by decide)) (dat_cons (DE.t (de_l (dl_lst (da_cons (de_step (de_var 9) do_none do_none (do_some (de_neg de_int))) da_nil)))) (dat_cons (DE.t (de_var 5)) dat_nil))))
    (dsts_one (DS.t (ds_if (dt_cmp (bd_ne hr.units) (de_var 16) (de_bin bd_add (de_join (de_ix ixd (de_pl (de_var 5)) de_int) (de_step (de_var 10) do_none do_none (do_some (de_neg de_int)))) (de_str [10]))) (dss_one (ds_ret de_bl)) dss_nil)))))))
    (dsts_cons (dst_if (dtt_cmp (bd_ne hr.units) (det_callT CX_written okOf_ok (fun _ _ z => z) gd (hr.mono (by decide)) (dat_cons (DE.t (de_var 3)) (dat_cons (DE.t (de_var 5)) dat_nil))) (DE.t (de_var 15))) (DSs.t (dss_one (ds_ret de_bl))) dsts_nil)
    (dsts_cons (dst_set 16 sc_law.nd (det_if (DT.t (dt_cmp bd_is (de_pl (de_var 7)) de_non)) (det_callT CX_written okOf_ok (fun _ _ z => z) gd (hr.mono (by decide)) (dat_cons (DE.t (de_var 4)) (dat_cons (DE.t (de_var 5)) dat_nil))) (DE.t (de_str []))))
    (dsts_one (dst_if (dtt_w (dwt_and (DT.t (dt_cmp bd_is (de_pl (de_var 7)) de_non)) (dwt_and1 (dtt_cmp (bd_ne hr.units) (det_callT CX_written okOf_ok (fun _ _ z => z) gd (hr.mono (by decide)) (dat_cons (DE.t (de_bin bd_add (de_var 3) (de_var 4))) (dat_cons (DE.t (de_var 5)) dat_nil))) (DE.t (de_bin bd_add (de_var 15) (de_var 16))))))) (DSs.t (dss_one (ds_ret de_bl))) dsts_nil)))))) dsts_nil))))))))))))))
    (dsts_cons (dst_if (dtt_cmp (bd_ne hr.units) (det_callT CX_unwritable okOf_ok (fun _ _ z => z) gd (hr.mono (by decide)) (dat_cons (DE.t (de_l (dl_lst (da_cons (de_l (dl_lst (da_cons (de_str [97]) da_nil))) (da_cons (de_l (dl_lst (da_cons (de_str [124]) da_nil))) da_nil))))) (dat_cons (det_man [124] [] []) dat_nil))) (DE.t (de_tup (da_cons de_int (da_cons de_int da_nil))))) (DSs.t (dss_one (ds_ret de_bl))) dsts_nil)
    (dsts_one (dst_ret (det_cmp (bd_eq hr.units) (det_callT CX_written okOf_ok (fun _ _ z => z) gd (hr.mono (by decide)) (dat_cons (DE.t (de_l (dl_lst (da_cons (de_l (dl_lst (da_cons (de_str [97]) (da_cons (de_str [98]) da_nil)))) (da_cons (de_l (dl_lst (da_cons (de_str [99]) da_nil))) da_nil))))) (dat_cons (det_man [124] [] []) dat_nil))) (DE.t (de_str [97, 124, 98, 10, 99, 10])))))))))
end
def spLaw (K : PySem.W.Frag) : Sp := fun vs H Q _ => ∃ (a : Addr) (ns : List Int), vs = [.ref a] ∧ SqL K H a (ns.map V.int) ∧ ns.length ≤ 63 ∧ Only H ∧ ∀ H', Q (.bl true) H'
theorem all_mk (plain : ∀ ns : List Int, ns.length ≤ 63 → rt_law [.scr ns] = some (.bl true)) {l : PySem.W.OpenLaw} {w : World} {K : PySem.W.Frag} {h : Heap} {mg : Str → Option Value} {fa : Addr} (X : K.In h) (G : h.Ns mainGlobals mg) (hfa : mg "law" = some (.ref fa))
    {od0 an0 : Option Addr} {sl0 : Array (Option Value)} {oc0 kV0 dc0 pm0 cd0 ct0 : Value} {f0 : Addr}
    {od1 an1 : Option Addr} {sl1 : Array (Option Value)} {oc1 kV1 dc1 pm1 cd1 ct1 : Value} {f1 : Addr}
    {od2 an2 : Option Addr} {sl2 : Array (Option Value)} {oc2 kV2 dc2 pm2 cd2 ct2 : Value} {f2 : Addr}
    {od3 an3 : Option Addr} {sl3 : Array (Option Value)} {oc3 kV3 dc3 pm3 cd3 ct3 : Value} {f3 : Addr}
    {od4 an4 : Option Addr} {sl4 : Array (Option Value)} {oc4 kV4 dc4 pm4 cd4 ct4 : Value} {f4 : Addr}
    {od5 an5 : Option Addr} {sl5 : Array (Option Value)} {oc5 kV5 dc5 pm5 cd5 ct5 : Value} {f5 : Addr}
    {od6 an6 : Option Addr} {sl6 : Array (Option Value)} {oc6 kV6 dc6 pm6 cd6 ct6 : Value} {f6 : Addr}
    {od7 an7 : Option Addr} {sl7 : Array (Option Value)} {oc7 kV7 dc7 pm7 cd7 ct7 : Value} {f7 : Addr}
    {od8 an8 : Option Addr} {sl8 : Array (Option Value)} {oc8 kV8 dc8 pm8 cd8 ct8 : Value} {f8 : Addr}
    {od9 an9 : Option Addr} {sl9 : Array (Option Value)} {oc9 kV9 dc9 pm9 cd9 ct9 : Value} {f9 : Addr}
    {od10 an10 : Option Addr} {sl10 : Array (Option Value)} {oc10 kV10 dc10 pm10 cd10 ct10 : Value} {f10 : Addr}
    {od11 an11 : Option Addr} {sl11 : Array (Option Value)} {oc11 kV11 dc11 pm11 cd11 ct11 : Value} {f11 : Addr}
    {od12 an12 : Option Addr} {sl12 : Array (Option Value)} {oc12 kV12 dc12 pm12 cd12 ct12 : Value} {f12 : Addr}
    {od13 an13 : Option Addr} {sl13 : Array (Option Value)} {oc13 kV13 dc13 pm13 cd13 ct13 : Value} {f13 : Addr}
    {od14 an14 : Option Addr} {sl14 : Array (Option Value)} {oc14 kV14 dc14 pm14 cd14 ct14 : Value} {f14 : Addr}
    {od15 an15 : Option Addr} {sl15 : Array (Option Value)} {oc15 kV15 dc15 pm15 cd15 ct15 : Value} {f15 : Addr}
    {od16 an16 : Option Addr} {sl16 : Array (Option Value)} {oc16 kV16 dc16 pm16 cd16 ct16 : Value} {f16 : Addr}
    {od17 an17 : Option Addr} {sl17 : Array (Option Value)} {oc17 kV17 dc17 pm17 cd17 ct17 : Value} {f17 : Addr}
    {p_ESCAPES : Addr} {dd_ESCAPES : Option Addr} {it_ESCAPES : Array Value} {n_ESCAPES : Nat} {y_ESCAPES : Array (Option Value)} {vs_ESCAPES : List V}
    {t_LONGEST_CELL : Tok}
    {p_MARKS : Addr} {dd_MARKS : Option Addr} {it_MARKS : Array Value} {n_MARKS : Nat} {y_MARKS : Array (Option Value)} {vs_MARKS : List V}
    {t_MOST_CELLS : Tok}
    {t_MOST_ROWS : Tok}
    {p_QUOTES : Addr} {dd_QUOTES : Option Addr} {it_QUOTES : Array Value} {n_QUOTES : Nat} {y_QUOTES : Array (Option Value)} {vs_QUOTES : List V}
    {t_SIGNS : Tok} {s_SIGNS : Str}
    (a0 : PySem.W.nsIn K mainGlobals "_law_cell_at" = some (some (.ref f0)))
    (l0 : K.lookup f0 = some ⟨oc0, od0, .func (PySem.W.fnOf "_law_cell_at" "_law_cell_at" (defArgs s__law_cell_at) (defBody s__law_cell_at) (defScope s__law_cell_at) .none kV0 dc0 pm0 an0 cd0 ct0), sl0⟩)
    (c0c : PySem.W.codeIn K cd0 "_law_cell_at" = true)
    (k0 : PySem.W.keepIn K (.ref f0) = true)
    (a1 : PySem.W.nsIn K mainGlobals "_law_draw" = some (some (.ref f1)))
    (l1 : K.lookup f1 = some ⟨oc1, od1, .func (PySem.W.fnOf "_law_draw" "_law_draw" (defArgs s__law_draw) (defBody s__law_draw) (defScope s__law_draw) .none kV1 dc1 pm1 an1 cd1 ct1), sl1⟩)
    (c1c : PySem.W.codeIn K cd1 "_law_draw" = true)
    (k1 : PySem.W.keepIn K (.ref f1) = true)
    (a2 : PySem.W.nsIn K mainGlobals "_law_number" = some (some (.ref f2)))
    (l2 : K.lookup f2 = some ⟨oc2, od2, .func (PySem.W.fnOf "_law_number" "_law_number" (defArgs s__law_number) (defBody s__law_number) (defScope s__law_number) .none kV2 dc2 pm2 an2 cd2 ct2), sl2⟩)
    (c2c : PySem.W.codeIn K cd2 "_law_number" = true)
    (k2 : PySem.W.keepIn K (.ref f2) = true)
    (a3 : PySem.W.nsIn K mainGlobals "_law_cells" = some (some (.ref f3)))
    (l3 : K.lookup f3 = some ⟨oc3, od3, .func (PySem.W.fnOf "_law_cells" "_law_cells" (defArgs s__law_cells) (defBody s__law_cells) (defScope s__law_cells) .none kV3 dc3 pm3 an3 cd3 ct3), sl3⟩)
    (c3c : PySem.W.codeIn K cd3 "_law_cells" = true)
    (k3 : PySem.W.keepIn K (.ref f3) = true)
    (a4 : PySem.W.nsIn K mainGlobals "_law_rows" = some (some (.ref f4)))
    (l4 : K.lookup f4 = some ⟨oc4, od4, .func (PySem.W.fnOf "_law_rows" "_law_rows" (defArgs s__law_rows) (defBody s__law_rows) (defScope s__law_rows) .none kV4 dc4 pm4 an4 cd4 ct4), sl4⟩)
    (c4c : PySem.W.codeIn K cd4 "_law_rows" = true)
    (k4 : PySem.W.keepIn K (.ref f4) = true)
    (a5 : PySem.W.nsIn K mainGlobals "is_signs" = some (some (.ref f5)))
    (l5 : K.lookup f5 = some ⟨oc5, od5, .func (PySem.W.fnOf "is_signs" "is_signs" (defArgs s_is_signs) (defBody s_is_signs) (defScope s_is_signs) .none kV5 dc5 pm5 an5 cd5 ct5), sl5⟩)
    (c5c : PySem.W.codeIn K cd5 "is_signs" = true)
    (k5 : PySem.W.keepIn K (.ref f5) = true)
    (a6 : PySem.W.nsIn K mainGlobals "is_row" = some (some (.ref f6)))
    (l6 : K.lookup f6 = some ⟨oc6, od6, .func (PySem.W.fnOf "is_row" "is_row" (defArgs s_is_row) (defBody s_is_row) (defScope s_is_row) .none kV6 dc6 pm6 an6 cd6 ct6), sl6⟩)
    (c6c : PySem.W.codeIn K cd6 "is_row" = true)
    (k6 : PySem.W.keepIn K (.ref f6) = true)
    (a7 : PySem.W.nsIn K mainGlobals "check_table" = some (some (.ref f7)))
    (l7 : K.lookup f7 = some ⟨oc7, od7, .func (PySem.W.fnOf "check_table" "check_table" (defArgs s_check_table) (defBody s_check_table) (defScope s_check_table) .none kV7 dc7 pm7 an7 cd7 ct7), sl7⟩)
    (c7c : PySem.W.codeIn K cd7 "check_table" = true)
    (k7 : PySem.W.keepIn K (.ref f7) = true)
    (a8 : PySem.W.nsIn K mainGlobals "all_manners" = some (some (.ref f8)))
    (l8 : K.lookup f8 = some ⟨oc8, od8, .func (PySem.W.fnOf "all_manners" "all_manners" (defArgs s_all_manners) (defBody s_all_manners) (defScope s_all_manners) .none kV8 dc8 pm8 an8 cd8 ct8), sl8⟩)
    (c8c : PySem.W.codeIn K cd8 "all_manners" = true)
    (k8 : PySem.W.keepIn K (.ref f8) = true)
    (a9 : PySem.W.nsIn K mainGlobals "check_manner" = some (some (.ref f9)))
    (l9 : K.lookup f9 = some ⟨oc9, od9, .func (PySem.W.fnOf "check_manner" "check_manner" (defArgs s_check_manner) (defBody s_check_manner) (defScope s_check_manner) .none kV9 dc9 pm9 an9 cd9 ct9), sl9⟩)
    (c9c : PySem.W.codeIn K cd9 "check_manner" = true)
    (k9 : PySem.W.keepIn K (.ref f9) = true)
    (a10 : PySem.W.nsIn K mainGlobals "_law_manners" = some (some (.ref f10)))
    (l10 : K.lookup f10 = some ⟨oc10, od10, .func (PySem.W.fnOf "_law_manners" "_law_manners" (defArgs s__law_manners) (defBody s__law_manners) (defScope s__law_manners) .none kV10 dc10 pm10 an10 cd10 ct10), sl10⟩)
    (c10c : PySem.W.codeIn K cd10 "_law_manners" = true)
    (k10 : PySem.W.keepIn K (.ref f10) = true)
    (a11 : PySem.W.nsIn K mainGlobals "_law_manner" = some (some (.ref f11)))
    (l11 : K.lookup f11 = some ⟨oc11, od11, .func (PySem.W.fnOf "_law_manner" "_law_manner" (defArgs s__law_manner) (defBody s__law_manner) (defScope s__law_manner) .none kV11 dc11 pm11 an11 cd11 ct11), sl11⟩)
    (c11c : PySem.W.codeIn K cd11 "_law_manner" = true)
    (k11 : PySem.W.keepIn K (.ref f11) = true)
    (a12 : PySem.W.nsIn K mainGlobals "cell_of" = some (some (.ref f12)))
    (l12 : K.lookup f12 = some ⟨oc12, od12, .func (PySem.W.fnOf "cell_of" "cell_of" (defArgs s_cell_of) (defBody s_cell_of) (defScope s_cell_of) .none kV12 dc12 pm12 an12 cd12 ct12), sl12⟩)
    (c12c : PySem.W.codeIn K cd12 "cell_of" = true)
    (k12 : PySem.W.keepIn K (.ref f12) = true)
    (a13 : PySem.W.nsIn K mainGlobals "bad_of" = some (some (.ref f13)))
    (l13 : K.lookup f13 = some ⟨oc13, od13, .func (PySem.W.fnOf "bad_of" "bad_of" (defArgs s_bad_of) (defBody s_bad_of) (defScope s_bad_of) .none kV13 dc13 pm13 an13 cd13 ct13), sl13⟩)
    (c13c : PySem.W.codeIn K cd13 "bad_of" = true)
    (k13 : PySem.W.keepIn K (.ref f13) = true)
    (a14 : PySem.W.nsIn K mainGlobals "unwritable" = some (some (.ref f14)))
    (l14 : K.lookup f14 = some ⟨oc14, od14, .func (PySem.W.fnOf "unwritable" "unwritable" (defArgs s_unwritable) (defBody s_unwritable) (defScope s_unwritable) .none kV14 dc14 pm14 an14 cd14 ct14), sl14⟩)
    (c14c : PySem.W.codeIn K cd14 "unwritable" = true)
    (k14 : PySem.W.keepIn K (.ref f14) = true)
    (a15 : PySem.W.nsIn K mainGlobals "text_of" = some (some (.ref f15)))
    (l15 : K.lookup f15 = some ⟨oc15, od15, .func (PySem.W.fnOf "text_of" "text_of" (defArgs s_text_of) (defBody s_text_of) (defScope s_text_of) .none kV15 dc15 pm15 an15 cd15 ct15), sl15⟩)
    (c15c : PySem.W.codeIn K cd15 "text_of" = true)
    (k15 : PySem.W.keepIn K (.ref f15) = true)
    (a16 : PySem.W.nsIn K mainGlobals "written" = some (some (.ref f16)))
    (l16 : K.lookup f16 = some ⟨oc16, od16, .func (PySem.W.fnOf "written" "written" (defArgs s_written) (defBody s_written) (defScope s_written) .none kV16 dc16 pm16 an16 cd16 ct16), sl16⟩)
    (c16c : PySem.W.codeIn K cd16 "written" = true)
    (k16 : PySem.W.keepIn K (.ref f16) = true)
    (a17 : PySem.W.nsIn K mainGlobals "law" = some (some (.ref f17)))
    (l17 : K.lookup f17 = some ⟨oc17, od17, .func (PySem.W.fnOf "law" "law" (defArgs s_law) (defBody s_law) (defScope s_law) .none kV17 dc17 pm17 an17 cd17 ct17), sl17⟩)
    (c17c : PySem.W.codeIn K cd17 "law" = true)
    (k17 : PySem.W.keepIn K (.ref f17) = true)
    (gt : PySem.W.specialIn K (.builtin "object.__class__") "__get__" = some (some (.builtin "getset_descriptor.__get__")))
    (tk : PySem.W.takesIn K (.builtin "object.__class__") = some true)
    (z_all : PySem.W.nsIn K mainGlobals "all" = some none)
    (z_enumerate : PySem.W.nsIn K mainGlobals "enumerate" = some none)
    (z_isinstance : PySem.W.nsIn K mainGlobals "isinstance" = some none)
    (z_len : PySem.W.nsIn K mainGlobals "len" = some none)
    (z_list : PySem.W.nsIn K mainGlobals "list" = some none)
    (z_max : PySem.W.nsIn K mainGlobals "max" = some none)
    (z_min : PySem.W.nsIn K mainGlobals "min" = some none)
    (z_range : PySem.W.nsIn K mainGlobals "range" = some none)
    (z_str : PySem.W.nsIn K mainGlobals "str" = some none)
    (z_tuple : PySem.W.nsIn K mainGlobals "tuple" = some none)
    (q_ESCAPES : PySem.W.nsIn K mainGlobals "ESCAPES" = some (some (.ref p_ESCAPES)))
    (h_ESCAPES : K.lookup p_ESCAPES = some ⟨.type "tuple", dd_ESCAPES, .seq it_ESCAPES n_ESCAPES, y_ESCAPES⟩)
    (v_ESCAPES : valsD it_ESCAPES.toList = some (vs_ESCAPES, [(.str []), (.str [92])]))
    (q_LONGEST_CELL : PySem.W.nsIn K mainGlobals "LONGEST_CELL" = some (some (.int 8 t_LONGEST_CELL)))
    (q_MARKS : PySem.W.nsIn K mainGlobals "MARKS" = some (some (.ref p_MARKS)))
    (h_MARKS : K.lookup p_MARKS = some ⟨.type "tuple", dd_MARKS, .seq it_MARKS n_MARKS, y_MARKS⟩)
    (v_MARKS : valsD it_MARKS.toList = some (vs_MARKS, [(.str [44]), (.str [59]), (.str [124]), (.str [58])]))
    (q_MOST_CELLS : PySem.W.nsIn K mainGlobals "MOST_CELLS" = some (some (.int 6 t_MOST_CELLS)))
    (q_MOST_ROWS : PySem.W.nsIn K mainGlobals "MOST_ROWS" = some (some (.int 12 t_MOST_ROWS)))
    (q_QUOTES : PySem.W.nsIn K mainGlobals "QUOTES" = some (some (.ref p_QUOTES)))
    (h_QUOTES : K.lookup p_QUOTES = some ⟨.type "tuple", dd_QUOTES, .seq it_QUOTES n_QUOTES, y_QUOTES⟩)
    (v_QUOTES : valsD it_QUOTES.toList = some (vs_QUOTES, [(.str []), (.str [34]), (.str [39])]))
    (q_SIGNS : PySem.W.nsIn K mainGlobals "SIGNS" = some (some (.str s_SIGNS t_SIGNS)))
    (v_SIGNS : s_SIGNS = ⟨(zs_SIGNS : List Nat).toArray⟩)
    : ∃ fd : FuncData, (∀ (s : Shared) (v : Value), BindsTo s fd ⟨[v], []⟩ [("_law_script", v)]) ∧ ∀ base : Heap, K.In base → base.Ns mainGlobals mg → FnG l.prog w K mg base 5 fa fd ["_law_script"] (spLaw K) := by
  have e := (PySem.W.mg_of X G a17).symm.trans hfa
  cases e
  let T : CT := fun _ => (0, [])
  have Tx : Txt K mg T := by
    refine { n_all := PySem.W.mg_none_of X G z_all, n_enumerate := PySem.W.mg_none_of X G z_enumerate, n_isinstance := PySem.W.mg_none_of X G z_isinstance, n_len := PySem.W.mg_none_of X G z_len, n_list := PySem.W.mg_none_of X G z_list, n_max := PySem.W.mg_none_of X G z_max, n_min := PySem.W.mg_none_of X G z_min, n_range := PySem.W.mg_none_of X G z_range, n_str := PySem.W.mg_none_of X G z_str, n_tuple := PySem.W.mg_none_of X G z_tuple, g_ESCAPES := ?g_ESCAPES, g_LONGEST_CELL := ?g_LONGEST_CELL, g_MARKS := ?g_MARKS, g_MOST_CELLS := ?g_MOST_CELLS, g_MOST_ROWS := ?g_MOST_ROWS, g_QUOTES := ?g_QUOTES, g_SIGNS := ?g_SIGNS, cls := ⟨fun c k b hb => ?kit, gt, tk⟩ }
    case g_ESCAPES => exact glob_tup (PySem.W.mg_of X G q_ESCAPES) h_ESCAPES v_ESCAPES (by decide)
    case g_LONGEST_CELL => exact glob_int (PySem.W.mg_of X G q_LONGEST_CELL)
    case g_MARKS => exact glob_tup (PySem.W.mg_of X G q_MARKS) h_MARKS v_MARKS (by decide)
    case g_MOST_CELLS => exact glob_int (PySem.W.mg_of X G q_MOST_CELLS)
    case g_MOST_ROWS => exact glob_int (PySem.W.mg_of X G q_MOST_ROWS)
    case g_QUOTES => exact glob_tup (PySem.W.mg_of X G q_QUOTES) h_QUOTES v_QUOTES (by decide)
    case g_SIGNS => exact glob_str zs_SIGNS (PySem.W.mg_of X G q_SIGNS) v_SIGNS
    case kit =>
      cases hb
  have F0 := fun_mk (st := s__law_cell_at) l0 c0c k0
  have b0 := F0.binds (ps := ["_law_script", "_law_k"]) fun _ _ _ _ _ _ us hl => match us, hl with | [_, _], _ => rfl
  have F1 := fun_mk (st := s__law_draw) l1 c1c k1
  have b1 := F1.binds (ps := ["_law_cell", "_law_k", "_law_most"]) fun _ _ _ _ _ _ us hl => match us, hl with | [_, _, _], _ => rfl
  have F2 := fun_mk (st := s__law_number) l2 c2c k2
  have b2 := F2.binds (ps := ["_law_cell", "_law_k", "_law_limit"]) fun _ _ _ _ _ _ us hl => match us, hl with | [_, _, _], _ => rfl
  have F3 := fun_mk (st := s__law_cells) l3 c3c k3
  have b3 := F3.binds (ps := ["_law_script", "_law_by", "_law_manner_here"]) fun _ _ _ _ _ _ us hl => match us, hl with | [_, _, _], _ => rfl
  have F4 := fun_mk (st := s__law_rows) l4 c4c k4
  have b4 := F4.binds (ps := ["_law_script", "_law_by", "_law_manner_here"]) fun _ _ _ _ _ _ us hl => match us, hl with | [_, _, _], _ => rfl
  have F5 := fun_mk (st := s_is_signs) l5 c5c k5
  have b5 := F5.binds (ps := ["thing", "most"]) fun _ _ _ _ _ _ us hl => match us, hl with | [_, _], _ => rfl
  have F6 := fun_mk (st := s_is_row) l6 c6c k6
  have b6 := F6.binds (ps := ["thing"]) fun _ _ _ _ _ _ us hl => match us, hl with | [_], _ => rfl
  have F7 := fun_mk (st := s_check_table) l7 c7c k7
  have b7 := F7.binds (ps := ["rows"]) fun _ _ _ _ _ _ us hl => match us, hl with | [_], _ => rfl
  have F8 := fun_mk (st := s_all_manners) l8 c8c k8
  have b8 := F8.binds (ps := []) fun _ _ _ _ _ _ us hl => match us, hl with | [], _ => rfl
  have F9 := fun_mk (st := s_check_manner) l9 c9c k9
  have b9 := F9.binds (ps := ["manner"]) fun _ _ _ _ _ _ us hl => match us, hl with | [_], _ => rfl
  have F10 := fun_mk (st := s__law_manners) l10 c10c k10
  have b10 := F10.binds (ps := []) fun _ _ _ _ _ _ us hl => match us, hl with | [], _ => rfl
  have F11 := fun_mk (st := s__law_manner) l11 c11c k11
  have b11 := F11.binds (ps := ["_law_script", "_law_by"]) fun _ _ _ _ _ _ us hl => match us, hl with | [_, _], _ => rfl
  have F12 := fun_mk (st := s_cell_of) l12 c12c k12
  have b12 := F12.binds (ps := ["cell", "manner"]) fun _ _ _ _ _ _ us hl => match us, hl with | [_, _], _ => rfl
  have F13 := fun_mk (st := s_bad_of) l13 c13c k13
  have b13 := F13.binds (ps := ["rows", "manner"]) fun _ _ _ _ _ _ us hl => match us, hl with | [_, _], _ => rfl
  have F14 := fun_mk (st := s_unwritable) l14 c14c k14
  have b14 := F14.binds (ps := ["rows", "manner"]) fun _ _ _ _ _ _ us hl => match us, hl with | [_, _], _ => rfl
  have F15 := fun_mk (st := s_text_of) l15 c15c k15
  have b15 := F15.binds (ps := ["rows", "manner"]) fun _ _ _ _ _ _ us hl => match us, hl with | [_, _], _ => rfl
  have F16 := fun_mk (st := s_written) l16 c16c k16
  have b16 := F16.binds (ps := ["rows", "manner"]) fun _ _ _ _ _ _ us hl => match us, hl with | [_, _], _ => rfl
  have F17 := fun_mk (st := s_law) l17 c17c k17
  have b17 := F17.binds (ps := ["_law_script"]) fun _ _ _ _ _ _ us hl => match us, hl with | [_], _ => rfl
  have H : ∀ base : Heap, FnG l.prog w K mg base 5 fa _ ["_law_script"] (spX K T xt_law) := fun base => by
    have C__law_cell_at : Callee l.prog w K mg base T 1 "_law_cell_at" r__law_cell_at := callee_of F0 (ok__law_cell_at F0 Tx) (PySem.W.mg_of X G a0) b0
    have C__law_draw : Callee l.prog w K mg base T 1 "_law_draw" r__law_draw := callee_of F1 (ok__law_draw F1 Tx) (PySem.W.mg_of X G a1) b1
    have C__law_number : Callee l.prog w K mg base T 2 "_law_number" r__law_number := callee_of F2 (ok__law_number F2 Tx C__law_draw) (PySem.W.mg_of X G a2) b2
    have C__law_cells : Callee l.prog w K mg base T 3 "_law_cells" r__law_cells := callee_of F3 (ok__law_cells F3 Tx C__law_cell_at C__law_number) (PySem.W.mg_of X G a3) b3
    have C__law_rows : Callee l.prog w K mg base T 4 "_law_rows" r__law_rows := callee_of F4 (ok__law_rows F4 Tx C__law_cell_at C__law_number C__law_cells) (PySem.W.mg_of X G a4) b4
    have C_is_signs : Callee l.prog w K mg base T 1 "is_signs" r_is_signs := callee_of F5 (ok_is_signs F5 Tx) (PySem.W.mg_of X G a5) b5
    have C_is_row : Callee l.prog w K mg base T 2 "is_row" r_is_row := callee_of F6 (ok_is_row F6 Tx C_is_signs) (PySem.W.mg_of X G a6) b6
    have C_check_table : Callee l.prog w K mg base T 3 "check_table" r_check_table := callee_of F7 (ok_check_table F7 Tx C_is_row) (PySem.W.mg_of X G a7) b7
    have C_all_manners : Callee l.prog w K mg base T 1 "all_manners" r_all_manners := callee_of F8 (ok_all_manners F8 Tx) (PySem.W.mg_of X G a8) b8
    have C_check_manner : Callee l.prog w K mg base T 2 "check_manner" r_check_manner := callee_of F9 (ok_check_manner F9 Tx C_all_manners) (PySem.W.mg_of X G a9) b9
    have C__law_manners : Callee l.prog w K mg base T 1 "_law_manners" r__law_manners := callee_of F10 (ok__law_manners F10 Tx) (PySem.W.mg_of X G a10) b10
    have C__law_manner : Callee l.prog w K mg base T 3 "_law_manner" r__law_manner := callee_of F11 (ok__law_manner F11 Tx C__law_manners C__law_number C__law_cell_at) (PySem.W.mg_of X G a11) b11
    have CX__law_manners : CalleeX l.prog w K mg base T 1 "_law_manners" xt__law_manners := calleeX_of F10 (okx__law_manners F10) (PySem.W.mg_of X G a10) b10
    have CX__law_manner : CalleeX l.prog w K mg base T 3 "_law_manner" xt__law_manner := calleeX_of F11 (okx__law_manner F11 Tx C__law_number C__law_cell_at CX__law_manners) (PySem.W.mg_of X G a11) b11
    have CX_cell_of : CalleeX l.prog w K mg base T 1 "cell_of" xt_cell_of := calleeX_of F12 (okx_cell_of F12) (PySem.W.mg_of X G a12) b12
    have CX_bad_of : CalleeX l.prog w K mg base T 2 "bad_of" xt_bad_of := calleeX_of F13 (okx_bad_of F13 Tx CX_cell_of) (PySem.W.mg_of X G a13) b13
    have CX_unwritable : CalleeX l.prog w K mg base T 4 "unwritable" xt_unwritable := calleeX_of F14 (okx_unwritable F14 Tx C_check_table C_check_manner CX_bad_of) (PySem.W.mg_of X G a14) b14
    have CX_text_of : CalleeX l.prog w K mg base T 2 "text_of" xt_text_of := calleeX_of F15 (okx_text_of F15 Tx CX_cell_of) (PySem.W.mg_of X G a15) b15
    have CX_written : CalleeX l.prog w K mg base T 4 "written" xt_written := calleeX_of F16 (okx_written F16 Tx C_check_table C_check_manner CX_bad_of CX_text_of) (PySem.W.mg_of X G a16) b16
    exact okx_law F17 Tx C__law_rows CX__law_manner CX__law_manners CX_unwritable CX_written
  refine ⟨PySem.W.fnOf "law" "law" (defArgs s_law) (defBody s_law) (defScope s_law) .none kV17 dc17 pm17 an17 cd17 ct17, fun s v => .of_eq rfl, fun base _ _ => (H base).imp fun vs H Q E h => ?_⟩
  obtain ⟨a, ns, rfl, hS, hl, only, k⟩ := h
  exact ⟨H, [.scr ns], .bl true, fun n hn => tok_only only hn, Same.refl H, .cons (.scr hS) .nil, runX_of (plain ns hl), fun v G' H' r => by cases r; exact k H'⟩
end W

/-! ### what the denotations answer at data with open parts: rewriting rules, loops by an invariant -/
namespace PL
open PySem PySem.Spec PyProof.Rows L2

/-! the environment -/
@[simp] theorem gV_zero (d : Dt) (r : PL.Env) : gV (.val d :: r) 0 = some d := (rfl)
@[simp] theorem gV_zeroN (r : PL.Env) : gV (.no :: r) 0 = none := (rfl)
@[simp] theorem gV_zeroO (l : List Dt) (r : PL.Env) : gV (.own l :: r) 0 = none := (rfl)
@[simp] theorem gV_succ (s : Sl) (r : PL.Env) (i : Nat) : gV (s :: r) (i + 1) = gV r i := (rfl)
@[simp] theorem gO_zero (d : List Dt) (r : PL.Env) : gO (.own d :: r) 0 = some d := (rfl)
@[simp] theorem gO_succ (s : Sl) (r : PL.Env) (i : Nat) : gO (s :: r) (i + 1) = gO r i := (rfl)
@[simp] theorem frzE_nil : frzE [] = [] := (rfl)
@[simp] theorem frzE_cons (s : Sl) (r : PL.Env) : frzE (s :: r) = frz1 s :: frzE r := (rfl)
@[simp] theorem frz1_no : frz1 .no = .no := (rfl)
@[simp] theorem frz1_val (d : Dt) : frz1 (.val d) = .val d := (rfl)
@[simp] theorem frz1_own (d : List Dt) : frz1 (.own d) = .val (.lst d) := (rfl)
@[simp] theorem frzAt_zero (l : List Dt) (r : PL.Env) : frzAt 0 (.own l :: r) = .val (.lst l) :: r := (rfl)
@[simp] theorem frzAt_zeroV (d : Dt) (r : PL.Env) : frzAt 0 (.val d :: r) = .val d :: r := (rfl)
@[simp] theorem frzAt_zeroN (r : PL.Env) : frzAt 0 (.no :: r) = .no :: r := (rfl)
@[simp] theorem frzAt_succ (s : Sl) (r : PL.Env) (i : Nat) : frzAt (i + 1) (s :: r) = s :: frzAt i r := by
  unfold frzAt
  simp only [List.getElem?_cons_succ]
  split <;> simp_all
@[simp] theorem wipeE_nil (r : PL.Env) : wipeE r [] = r := (rfl)
@[simp] theorem wipeE_cons (r : PL.Env) (v : Nat) (vs : List Nat) : wipeE r (v :: vs) = (wipeE r vs).set v .no := (rfl)

/-! binding (not by the core's own, so that no step is checked by unfolding what is bound) -/
def bO {α β : Type} (x : Option α) (f : α → Option β) : Option β := x.bind f
@[simp] theorem bO_some {α β : Type} (x : α) (f : α → Option β) : bO (some x) f = f x := (rfl)
@[simp] theorem bO_none {α β : Type} (f : α → Option β) : bO none f = none := (rfl)
/-! expressions -/
@[simp] theorem e_fV (i : Nat) (r : PL.Env) : fV i r = gV r i := (rfl)
@[simp] theorem e_fC (d : Dt) (r : PL.Env) : fC d r = some d := (rfl)
@[simp] theorem e_fOp (f : Dt → Dt → Option Dt) (a b : PL.Env → Option Dt) (r : PL.Env) : fOp f a b r = bO (a r) fun x => bO (b r) fun y => f x y := (rfl)
@[simp] theorem e_fUn (f : Dt → Option Dt) (a : PL.Env → Option Dt) (r : PL.Env) : fUn f a r = bO (a r) f := (rfl)
@[simp] theorem e_fNeg (i : Int) : fNeg (.int i) = some (.int (-i)) := (rfl)
@[simp] theorem e_fNotV (b : Bool) : fNotV (.bl b) = some (.bl (!b)) := (rfl)
def blO : Option Dt → Option Bool
  | some (.bl b) => some b
  | _ => none
@[simp] theorem blO_some (b : Bool) : blO (some (.bl b)) = some b := (rfl)
@[simp] theorem e_asB (f : PL.Env → Option Dt) (r : PL.Env) : asB f r = blO (f r) := by unfold asB blO; rfl
def andO (a : Option Bool) (b : Option Bool) : Option Bool := match a with
  | some true => b
  | some false => some false
  | none => none
def orO (a : Option Bool) (b : Option Bool) : Option Bool := match a with
  | some true => some true
  | some false => b
  | none => none
@[simp] theorem andO_t (b : Option Bool) : andO (some true) b = b := (rfl)
@[simp] theorem andO_f (b : Option Bool) : andO (some false) b = some false := (rfl)
@[simp] theorem andO_s (a b : Bool) : andO (some a) (some b) = some (a && b) := by cases a <;> rfl
@[simp] theorem orO_t (b : Option Bool) : orO (some true) b = some true := (rfl)
@[simp] theorem orO_f (b : Option Bool) : orO (some false) b = b := (rfl)
@[simp] theorem orO_s (a b : Bool) : orO (some a) (some b) = some (a || b) := by cases a <;> rfl
@[simp] theorem e_fAnd (a b : PL.Env → Option Bool) (r : PL.Env) : fAnd a b r = andO (a r) (b r) := by unfold fAnd andO; rfl
@[simp] theorem e_fOr (a b : PL.Env → Option Bool) (r : PL.Env) : fOr a b r = orO (a r) (b r) := by unfold fOr orO; rfl
@[simp] theorem e_fNot (a : PL.Env → Option Bool) (r : PL.Env) : fNot a r = (a r).map (!·) := (rfl)
def andV (a b : Option Dt) : Option Dt := match a with
  | some (.bl true) => b
  | some (.bl false) => some (.bl false)
  | _ => none
def orV (a b : Option Dt) : Option Dt := match a with
  | some (.bl true) => some (.bl true)
  | some (.bl false) => b
  | _ => none
@[simp] theorem andV_t (b : Option Dt) : andV (some (.bl true)) b = b := (rfl)
@[simp] theorem andV_f (b : Option Dt) : andV (some (.bl false)) b = some (.bl false) := (rfl)
@[simp] theorem andV_s (a b : Bool) : andV (some (.bl a)) (some (.bl b)) = some (.bl (a && b)) := by cases a <;> rfl
@[simp] theorem orV_t (b : Option Dt) : orV (some (.bl true)) b = some (.bl true) := (rfl)
@[simp] theorem orV_f (b : Option Dt) : orV (some (.bl false)) b = b := (rfl)
@[simp] theorem orV_s (a b : Bool) : orV (some (.bl a)) (some (.bl b)) = some (.bl (a || b)) := by cases a <;> rfl
@[simp] theorem e_fAndV (a b : PL.Env → Option Dt) (r : PL.Env) : fAndV a b r = andV (a r) (b r) := by unfold fAndV andV; rfl
@[simp] theorem e_fOrV (a b : PL.Env → Option Dt) (r : PL.Env) : fOrV a b r = orV (a r) (b r) := by unfold fOrV orV; rfl
def ifO {α : Type} (c : Option Bool) (a b : Option α) : Option α := match c with
  | some true => a
  | some false => b
  | none => none
@[simp] theorem ifO_t {α : Type} (a b : Option α) : ifO (some true) a b = a := (rfl)
@[simp] theorem ifO_f {α : Type} (a b : Option α) : ifO (some false) a b = b := (rfl)
@[simp] theorem ifO_s {α : Type} (c : Bool) (a b : Option α) : ifO (some c) a b = if c = true then a else b := by cases c <;> rfl
@[simp] theorem ifO_d {α : Type} (p : Prop) [Decidable p] (a b : Option α) : ifO (some (decide p)) a b = if p then a else b := by
  by_cases h : p <;> simp [h]
@[simp] theorem ifO_n {α : Type} (p : Bool) (a b : Option α) : ifO (some (!p)) a b = ifO (some p) b a := by cases p <;> rfl
@[simp] theorem e_fIf (t : PL.Env → Option Bool) (a b : PL.Env → Option Dt) (r : PL.Env) : fIf t a b r = ifO (t r) (a r) (b r) := by unfold fIf ifO; rfl
@[simp] theorem e_fNil (r : PL.Env) : fNil r = some [] := (rfl)
@[simp] theorem e_fCons (a : PL.Env → Option Dt) (b : PL.Env → Option (List Dt)) (r : PL.Env) : fCons a b r = bO (a r) fun x => (b r).map fun xs => x :: xs := (rfl)
def tupO : Option (List Dt) → Option Dt
  | some l => if l.length ≤ 100000 then some (.tup l) else none
  | none => none
@[simp] theorem e_fTup (a : PL.Env → Option (List Dt)) (r : PL.Env) : fTup a r = tupO (a r) := by unfold fTup tupO; rfl
theorem tupO_some (l : List Dt) (h : l.length ≤ 100000) : tupO (some l) = some (.tup l) := if_pos h
@[simp] theorem tupO_0 : tupO (some []) = some (.tup []) := (rfl)
@[simp] theorem tupO_1 (a : Dt) : tupO (some [a]) = some (.tup [a]) := (rfl)
@[simp] theorem tupO_2 (a b : Dt) : tupO (some [a, b]) = some (.tup [a, b]) := (rfl)
@[simp] theorem tupO_3 (a b c : Dt) : tupO (some [a, b, c]) = some (.tup [a, b, c]) := (rfl)
@[simp] theorem tupO_4 (a b c d : Dt) : tupO (some [a, b, c, d]) = some (.tup [a, b, c, d]) := (rfl)
@[simp] theorem tupO_5 (a b c d e : Dt) : tupO (some [a, b, c, d, e]) = some (.tup [a, b, c, d, e]) := (rfl)
@[simp] theorem tupO_6 (a b c d e f : Dt) : tupO (some [a, b, c, d, e, f]) = some (.tup [a, b, c, d, e, f]) := (rfl)
@[simp] theorem tupO_7 (a b c d e f g : Dt) : tupO (some [a, b, c, d, e, f, g]) = some (.tup [a, b, c, d, e, f, g]) := (rfl)
@[simp] theorem tupO_8 (x0 x1 x2 x3 x4 x5 x6 x7 : Dt) : tupO (some [x0, x1, x2, x3, x4, x5, x6, x7]) = some (.tup [x0, x1, x2, x3, x4, x5, x6, x7]) := (rfl)
@[simp] theorem tupO_9 (x0 x1 x2 x3 x4 x5 x6 x7 x8 : Dt) : tupO (some [x0, x1, x2, x3, x4, x5, x6, x7, x8]) = some (.tup [x0, x1, x2, x3, x4, x5, x6, x7, x8]) := (rfl)
@[simp] theorem tupO_10 (x0 x1 x2 x3 x4 x5 x6 x7 x8 x9 : Dt) : tupO (some [x0, x1, x2, x3, x4, x5, x6, x7, x8, x9]) = some (.tup [x0, x1, x2, x3, x4, x5, x6, x7, x8, x9]) := (rfl)
@[simp] theorem tupO_11 (x0 x1 x2 x3 x4 x5 x6 x7 x8 x9 x10 : Dt) : tupO (some [x0, x1, x2, x3, x4, x5, x6, x7, x8, x9, x10]) = some (.tup [x0, x1, x2, x3, x4, x5, x6, x7, x8, x9, x10]) := (rfl)
@[simp] theorem tupO_12 (x0 x1 x2 x3 x4 x5 x6 x7 x8 x9 x10 x11 : Dt) : tupO (some [x0, x1, x2, x3, x4, x5, x6, x7, x8, x9, x10, x11]) = some (.tup [x0, x1, x2, x3, x4, x5, x6, x7, x8, x9, x10, x11]) := (rfl)
@[simp] theorem tupO_13 (x0 x1 x2 x3 x4 x5 x6 x7 x8 x9 x10 x11 x12 : Dt) : tupO (some [x0, x1, x2, x3, x4, x5, x6, x7, x8, x9, x10, x11, x12]) = some (.tup [x0, x1, x2, x3, x4, x5, x6, x7, x8, x9, x10, x11, x12]) := (rfl)
@[simp] theorem tupO_14 (x0 x1 x2 x3 x4 x5 x6 x7 x8 x9 x10 x11 x12 x13 : Dt) : tupO (some [x0, x1, x2, x3, x4, x5, x6, x7, x8, x9, x10, x11, x12, x13]) = some (.tup [x0, x1, x2, x3, x4, x5, x6, x7, x8, x9, x10, x11, x12, x13]) := (rfl)
@[simp] theorem tupO_15 (x0 x1 x2 x3 x4 x5 x6 x7 x8 x9 x10 x11 x12 x13 x14 : Dt) : tupO (some [x0, x1, x2, x3, x4, x5, x6, x7, x8, x9, x10, x11, x12, x13, x14]) = some (.tup [x0, x1, x2, x3, x4, x5, x6, x7, x8, x9, x10, x11, x12, x13, x14]) := (rfl)
@[simp] theorem tupO_16 (x0 x1 x2 x3 x4 x5 x6 x7 x8 x9 x10 x11 x12 x13 x14 x15 : Dt) : tupO (some [x0, x1, x2, x3, x4, x5, x6, x7, x8, x9, x10, x11, x12, x13, x14, x15]) = some (.tup [x0, x1, x2, x3, x4, x5, x6, x7, x8, x9, x10, x11, x12, x13, x14, x15]) := (rfl)

/-! operations at data -/
@[simp] theorem addD_i (i j : Int) : addD (.int i) (.int j) = some (.int (i + j)) := (rfl)
@[simp] theorem addD_s (a b : List Nat) (h : a.length + b.length ≤ 1000000) : addD (.str a) (.str b) = some (.str (a ++ b)) := if_pos h
@[simp] theorem addD_s1 (a : List Nat) (c : Nat) (h : a.length < 1000000) : addD (.str a) (.str [c]) = some (.str (a ++ [c])) := addD_s a [c] h
@[simp] theorem addD_l1 (a : List Dt) (c : Dt) (h : a.length < 100000) : addD (.lst a) (.lst [c]) = some (.lst (a ++ [c])) := if_pos h
@[simp] theorem addD_l (a b : List Dt) (h : a.length + b.length ≤ 100000) : addD (.lst a) (.lst b) = some (.lst (a ++ b)) := if_pos h
@[simp] theorem subD_i (i j : Int) : subD (.int i) (.int j) = some (.int (i - j)) := (rfl)
theorem mulI_i (i j : Int) (h : (-(2 ^ 64) < i ∧ i < 2 ^ 64) ∨ (-(2 ^ 64) < j ∧ j < 2 ^ 64) ∨ i.natAbs.log2 + j.natAbs.log2 < 1000000) : mulI (.int i) (.int j) = some (.int (i * j)) := if_pos h
@[simp] theorem mulI_l (i j : Int) (h1 : -18446744073709551616 < i) (h2 : i < 18446744073709551616) : mulI (.int i) (.int j) = some (.int (i * j)) := mulI_i i j (.inl ⟨h1, h2⟩)
@[simp] theorem mulI_r (i j : Int) (h1 : -18446744073709551616 < j) (h2 : j < 18446744073709551616) : mulI (.int i) (.int j) = some (.int (i * j)) := mulI_i i j (.inr (.inl ⟨h1, h2⟩))
@[simp] theorem modD_i (i j : Int) (h : 0 < j) : modD (.int i) (.int j) = some (.int (i % j)) := if_pos h
@[simp] theorem fdvD_i (i j : Int) (h : 0 < j) (h2 : j < 1073741824) : fdvD (.int i) (.int j) = some (.int (i / j)) := if_pos ⟨h, h2⟩
@[simp] theorem powD_i (i j : Int) (h : 0 ≤ j) (h2 : j ≤ 1000) (h3 : i.natAbs < 18446744073709551616) : powD (.int i) (.int j) = some (.int (i ^ j.toNat)) := if_pos ⟨h, h2, h3⟩
@[simp] theorem ltD_i (i j : Int) : ltD (.int i) (.int j) = some (.bl (decide (i < j))) := (rfl)
@[simp] theorem leD_i (i j : Int) : leD (.int i) (.int j) = some (.bl (decide (i ≤ j))) := (rfl)
@[simp] theorem gtD_i (i j : Int) : gtD (.int i) (.int j) = some (.bl (decide (j < i))) := (rfl)
@[simp] theorem geD_i (i j : Int) : geD (.int i) (.int j) = some (.bl (decide (j ≤ i))) := (rfl)
@[simp] theorem eqD_i (i j : Int) : eqD (.int i) (.int j) = some (.bl (decide (i = j))) := (rfl)
@[simp] theorem eqD_s (i j : List Nat) : eqD (.str i) (.str j) = some (.bl (decide (i = j))) := (rfl)
@[simp] theorem neD_i (i j : Int) : neD (.int i) (.int j) = some (.bl (!decide (i = j))) := (rfl)
@[simp] theorem neD_s (i j : List Nat) : neD (.str i) (.str j) = some (.bl (!decide (i = j))) := (rfl)
@[simp] theorem isD_n (d : Dt) : isD d .non = some (.bl (match d with | .non => true | _ => false)) := by unfold isD; cases d <;> rfl
@[simp] theorem isnD_n (d : Dt) : isnD d .non = some (.bl (match d with | .non => false | _ => true)) := by unfold isnD; cases d <;> rfl
theorem inText_1 (c : Nat) (z : List Nat) : inD (.str [c]) (.str z) = some (.bl (z.contains c)) := rfl
theorem niText_1 (c : Nat) (z : List Nat) : niD (.str [c]) (.str z) = some (.bl (!z.contains c)) := rfl
@[simp] theorem inD_text (c : Nat) (z : List Nat) : inD (.str [c]) (.str z) = some (.bl (z.contains c)) := (rfl)
@[simp] theorem niD_text (c : Nat) (z : List Nat) : niD (.str [c]) (.str z) = some (.bl (!z.contains c)) := (rfl)
@[simp] theorem lenD_l (l : List Dt) : lenD [.lst l] = some (.int l.length) := (rfl)
@[simp] theorem lenD_t (l : List Dt) : lenD [.tup l] = some (.int l.length) := (rfl)
@[simp] theorem lenD_c (l : List Int) : lenD [.scr l] = some (.int l.length) := (rfl)
@[simp] theorem lenD_s (l : List Nat) (h : l.length ≤ 1000000) : lenD [.str l] = some (.int l.length) := if_pos h
@[simp] theorem maxD_i (i j : Int) : maxD [.int i, .int j] = some (.int (if j > i then j else i)) := (rfl)
@[simp] theorem minD_i (i j : Int) : minD [.int i, .int j] = some (.int (if j < i then j else i)) := (rfl)
@[simp] theorem absD_i (i : Int) : absD [.int i] = some (.int (if i < 0 then -i else i)) := (rfl)
@[simp] theorem e_fCall (f : List Dt → Option Dt) (a : PL.Env → Option (List Dt)) (r : PL.Env) : fCall f a r = bO (a r) f := (rfl)
@[simp] theorem e_fMake (c : Nat) (f : List Dt → Option (List Dt)) (a : PL.Env → Option (List Dt)) (r : PL.Env) : fMake c f a r = (bO (a r) f).map (Dt.obj c) := (rfl)
@[simp] theorem fldD_0 (c : Nat) (a : Dt) (l : List Dt) : fldD c 0 (.obj c (a :: l)) = some a := by unfold fldD; simp
@[simp] theorem fldD_1 (c : Nat) (a b : Dt) (l : List Dt) : fldD c 1 (.obj c (a :: b :: l)) = some b := by unfold fldD; simp
theorem e_fldD (c i : Nat) (l : List Dt) : fldD c i (.obj c l) = l[i]? := by unfold fldD; simp

/-! lists, iterables -/
@[simp] theorem e_fLst (a : PL.Env → Option (List Dt)) (r : PL.Env) (l : List Dt) (h : a r = some l) (hl : l.length ≤ 100000) : fLst a r = some l := by unfold fLst; rw [h]; simp [hl]
@[simp] theorem e_fL (a : PL.Env → Option (List Dt)) (r : PL.Env) : fL a r = (a r).map Dt.lst := (rfl)
@[simp] theorem e_fItems (a : PL.Env → Option Dt) (r : PL.Env) : fItems a r = bO (a r) itemsD := (rfl)
@[simp] theorem e_fArgs (f : List Dt → Option (List Dt)) (a : PL.Env → Option (List Dt)) (r : PL.Env) : fArgs f a r = bO (a r) f := (rfl)
@[simp] theorem itemsD_l (l : List Dt) : itemsD (.lst l) = some l := (rfl)
@[simp] theorem itemsD_t (l : List Dt) : itemsD (.tup l) = some l := (rfl)
@[simp] theorem itemsD_c (l : List Int) : itemsD (.scr l) = some (l.map Dt.int) := (rfl)
@[simp] theorem itemsD_s (l : List Nat) : itemsD (.str l) = some (signsOf l) := (rfl)
@[simp] theorem e_fYes (r : PL.Env) : fYes r = some true := (rfl)
@[simp] theorem rng1_i (j : Int) (h1 : -100000 ≤ j) (h2 : j ≤ 100000) : rng1 [.int j] = some (rangeL 0 1 j.toNat) := if_pos ⟨h1, h2⟩
@[simp] theorem rng2_i (i j : Int) (h1 : -100000 ≤ i) (h2 : i ≤ 100000) (h3 : -100000 ≤ j) (h4 : j ≤ 100000) : rng2 [.int i, .int j] = some (rangeL i 1 (j - i).toNat) := if_pos ⟨h1, h2, h3, h4⟩
@[simp] theorem rng3_i (i j c : Int) (h1 : -100000 ≤ i) (h2 : i ≤ 100000) (h3 : -100000 ≤ j) (h4 : j ≤ 100000) (h5 : 0 < c) (h6 : c ≤ 100000) : rng3 [.int i, .int j, .int c] = some (rangeL i c (if i < j then (j - i - 1) / c + 1 else 0).toNat) := if_pos ⟨h1, h2, h3, h4, h5, h6⟩
@[simp] theorem e_oNo (r : PL.Env) : oNo r = some none := (rfl)
def intO : Option Dt → Option (Option Int)
  | some (.int i) => some (some i)
  | _ => none
@[simp] theorem intO_s (i : Int) : intO (some (.int i)) = some (some i) := (rfl)
@[simp] theorem e_oSo (f : PL.Env → Option Dt) (r : PL.Env) : oSo f r = intO (f r) := by unfold oSo intO; rfl
@[simp] theorem e_fSlice (a : PL.Env → Option Dt) (lo hi : PL.Env → Option (Option Int)) (r : PL.Env) : fSlice a lo hi r = bO (a r) fun d => bO (lo r) fun l => bO (hi r) fun h => sliceD d l h := (rfl)
@[simp] theorem sliceD_s (z : List Nat) (lo hi : Option Int) (h : z.length ≤ 1000000) : sliceD (.str z) lo hi = some (.str (cutL z lo hi)) := if_pos h
@[simp] theorem sliceD_l (z : List Dt) (lo hi : Option Int) : sliceD (.lst z) lo hi = some (.lst (cutL z lo hi)) := (rfl)

/-! statements -/
def seqO (o : Option Out) (b : PL.Env → Option Out) : Option Out := match o with
  | some (.nx r') => b r'
  | o => o
@[simp] theorem seqO_nx (r : PL.Env) (b : PL.Env → Option Out) : seqO (some (.nx r)) b = b r := (rfl)
@[simp] theorem seqO_rt (d : Dt) (b : PL.Env → Option Out) : seqO (some (.rt d)) b = some (.rt d) := (rfl)
@[simp] theorem seqO_bk (d : PL.Env) (b : PL.Env → Option Out) : seqO (some (.bk d)) b = some (.bk d) := (rfl)
@[simp] theorem seqO_ct (d : PL.Env) (b : PL.Env → Option Out) : seqO (some (.ct d)) b = some (.ct d) := (rfl)
@[simp] theorem e_fSeq (a b : PL.Env → Option Out) (r : PL.Env) : fSeq a b r = seqO (a r) b := by unfold fSeq seqO; rfl
@[simp] theorem seqO_if (p : Prop) [Decidable p] (x y : Option Out) (b : PL.Env → Option Out) : seqO (if p then x else y) b = if p then seqO x b else seqO y b := by split <;> rfl
@[simp] theorem e_fNext (r : PL.Env) : fNext r = some (.nx r) := (rfl)
@[simp] theorem e_fFrz (j : Nat) (a : PL.Env → Option Out) (r : PL.Env) : fFrz j a r = a (frzAt j r) := (rfl)
@[simp] theorem e_fSet (i : Nat) (f : PL.Env → Option Dt) (r : PL.Env) : fSet i f r = (f r).map fun d => .nx (r.set i (.val d)) := (rfl)
@[simp] theorem e_fSetO (i : Nat) (f : PL.Env → Option (List Dt)) (r : PL.Env) : fSetO i f r = (f r).map fun d => .nx (r.set i (.own d)) := (rfl)
@[simp] theorem e_tNm (i : Nat) (d : Dt) (r : PL.Env) : tNm i d r = some (r.set i (.val d)) := (rfl)
@[simp] theorem e_tTp (is : List Nat) (ds : List Dt) (r : PL.Env) : tTp is (.tup ds) r = tNs is ds r := (rfl)
@[simp] theorem e_tNs_nil (r : PL.Env) : tNs [] [] r = some r := (rfl)
@[simp] theorem e_tNs_cons (i : Nat) (is : List Nat) (d : Dt) (ds : List Dt) (r : PL.Env) : tNs (i :: is) (d :: ds) r = tNs is ds (r.set i (.val d)) := (rfl)
@[simp] theorem e_fAsg (t : Dt → PL.Env → Option PL.Env) (f : PL.Env → Option Dt) (r : PL.Env) : fAsg t f r = bO (f r) fun d => (t d r).map .nx := (rfl)
@[simp] theorem e_fMs_nil (r : PL.Env) : fMs [] r = some [] := (rfl)
@[simp] theorem e_fMs_v (f : PL.Env → Option Dt) (l : List Me) (r : PL.Env) : fMs (.v f :: l) r = bO (f r) fun d => (fMs l r).map fun s => .val d :: s := (rfl)
@[simp] theorem e_fMs_o (f : PL.Env → Option (List Dt)) (l : List Me) (r : PL.Env) : fMs (.o f :: l) r = bO (f r) fun d => (fMs l r).map fun s => .own d :: s := (rfl)
@[simp] theorem e_fPar (is : List Nat) (l : List Me) (r : PL.Env) : fPar is l r = (fMs l r).map fun ss => .nx (setS is ss r) := (rfl)
@[simp] theorem e_setS_cons (i : Nat) (is : List Nat) (s : Sl) (ss : List Sl) (r : PL.Env) : setS (i :: is) (s :: ss) r = setS is ss (r.set i s) := (rfl)
@[simp] theorem e_setS_nil (r : PL.Env) : setS [] [] r = r := (rfl)
@[simp] theorem e_fIfS (c : PL.Env → Option Bool) (a b : PL.Env → Option Out) (r : PL.Env) : fIfS c a b r = ifO (c (frzE r)) (a r) (b r) := by unfold fIfS ifO; rfl
@[simp] theorem e_fRet (f : PL.Env → Option Dt) (r : PL.Env) : fRet f r = (f r).map .rt := (rfl)
@[simp] theorem e_fRetN (r : PL.Env) : fRetN r = some (.rt .non) := (rfl)
@[simp] theorem e_fDrop (f : PL.Env → Option Dt) (r : PL.Env) : fDrop f r = (f r).map fun _ => .nx r := (rfl)
theorem e_fApp (i : Nat) (f : PL.Env → Option Dt) (r : PL.Env) {ds : List Dt} {d : Dt} (h1 : gO r i = some ds) (h2 : f r = some d) : fApp i f r = if ds.length ≤ 100000 then some (.nx (r.set i (.own (ds ++ [d])))) else none := by unfold fApp; rw [h1, h2]
def appO (i : Nat) (r : PL.Env) : Option (List Dt) → Option Dt → Option Out
  | some ds, some d => if ds.length ≤ 100000 then some (.nx (r.set i (.own (ds ++ [d])))) else none
  | _, _ => none
@[simp] theorem e_fApp' (i : Nat) (f : PL.Env → Option Dt) (r : PL.Env) : fApp i f r = appO i r (gO r i) (f r) := by unfold fApp appO; rfl
@[simp] theorem appO_s (i : Nat) (r : PL.Env) (ds : List Dt) (d : Dt) (h : ds.length ≤ 100000) : appO i r (some ds) (some d) = some (.nx (r.set i (.own (ds ++ [d])))) := if_pos h
@[simp] theorem e_fFor (f : PL.Env → Option (List Dt)) (t : Dt → PL.Env → Option PL.Env) (b : PL.Env → Option Out) (r : PL.Env) : fFor f t b r = bO (f r) fun items => loopF t b items r := (rfl)

/-! loops -/
/-- one turn of a loop -/
def turnO (t : Dt → PL.Env → Option PL.Env) (b : PL.Env → Option Out) (x : Dt) (r : PL.Env) : Option Out := (t x r).bind b
theorem loop_cons {t : Dt → PL.Env → Option PL.Env} {b : PL.Env → Option Out} {x : Dt} {xs : List Dt} {r : PL.Env} : loopF t b (x :: xs) r = match turnO t b x r with
      | some (.nx r2) => loopF t b xs r2
      | some (.ct r2) => loopF t b xs r2
      | some (.bk r2) => some (.nx r2)
      | some (.rt d) => some (.rt d)
      | none => none := by
  unfold turnO
  show (match t x r with | none => none | some r1 => _) = _
  cases t x r with
  | none => rfl
  | some r1 => rfl
theorem loop_nil {t : Dt → PL.Env → Option PL.Env} {b : PL.Env → Option Out} {r : PL.Env} : loopF t b [] r = some (.nx r) := rfl
/-- each turn goes on and keeps the invariant -/
theorem loop_inv {t : Dt → PL.Env → Option PL.Env} {b : PL.Env → Option Out} (I : PL.Env → Prop) : ∀ (items : List Dt) (r : PL.Env), (∀ x ∈ items, ∀ r, I r → ∃ r2, (turnO t b x r = some (.nx r2) ∨ turnO t b x r = some (.ct r2)) ∧ I r2) → I r → ∃ r', loopF t b items r = some (.nx r') ∧ I r'
  | [], r, _, h => ⟨r, rfl, h⟩
  | x :: xs, r, hb, h => by
    obtain ⟨r2, e, h2⟩ := hb x (.head _) r h
    obtain ⟨r', e', h'⟩ := loop_inv I xs r2 (fun y hy => hb y (.tail _ hy)) h2
    refine ⟨r', ?_, h'⟩
    rw [loop_cons]
    rcases e with e | e <;> rw [e] <;> exact e'
/-- each turn goes on, the invariant over what is done and what is left -/
theorem loop_ix {t : Dt → PL.Env → Option PL.Env} {b : PL.Env → Option Out} (I : Nat → PL.Env → Prop) (items : List Dt) (hb : ∀ (k : Nat) (x : Dt), items[k]? = some x → ∀ r, I k r → ∃ r2, (turnO t b x r = some (.nx r2) ∨ turnO t b x r = some (.ct r2)) ∧ I (k + 1) r2) :
    ∀ (n k : Nat) (r : PL.Env), k + n = items.length → I k r → ∃ r', loopF t b (items.drop k) r = some (.nx r') ∧ I items.length r'
  | 0, k, r, e, h => by
    have : items.drop k = [] := List.drop_eq_nil_of_le (by omega)
    rw [this]
    have e' : k = items.length := by omega
    exact ⟨r, rfl, e' ▸ h⟩
  | n + 1, k, r, e, h => by
    have hk : k < items.length := by omega
    rw [List.drop_eq_getElem_cons hk, loop_cons]
    obtain ⟨r2, e2, h2⟩ := hb k items[k] (List.getElem?_eq_getElem hk) r h
    obtain ⟨r', e', h'⟩ := loop_ix I items hb n (k + 1) r2 (by omega) h2
    refine ⟨r', ?_, h'⟩
    rcases e2 with e2 | e2 <;> rw [e2] <;> exact e'
theorem loop_ix0 {t : Dt → PL.Env → Option PL.Env} {b : PL.Env → Option Out} (I : Nat → PL.Env → Prop) (items : List Dt) (r : PL.Env) (hb : ∀ (k : Nat) (x : Dt), items[k]? = some x → ∀ r, I k r → ∃ r2, (turnO t b x r = some (.nx r2) ∨ turnO t b x r = some (.ct r2)) ∧ I (k + 1) r2) (h : I 0 r) :
    ∃ r', loopF t b items r = some (.nx r') ∧ I items.length r' := loop_ix I items hb items.length 0 r (by omega) h
/-- a loop over a mapped list as a fold of plain states -/
theorem loop_fold {α σ : Type} {t : Dt → PL.Env → Option PL.Env} {b : PL.Env → Option Out} (I : σ → PL.Env → Prop) (dt : α → Dt) (step : σ → α → σ) : ∀ (l : List α) (s : σ) (r : PL.Env), (∀ x ∈ l, ∀ s r, I s r → ∃ r2, (turnO t b (dt x) r = some (.nx r2) ∨ turnO t b (dt x) r = some (.ct r2)) ∧ I (step s x) r2) → I s r → ∃ r', loopF t b (l.map dt) r = some (.nx r') ∧ I (l.foldl step s) r'
  | [], s, r, _, h => ⟨r, rfl, h⟩
  | x :: xs, s, r, hb, h => by
    obtain ⟨r2, e, h2⟩ := hb x (.head _) s r h
    obtain ⟨r', e', h'⟩ := loop_fold I dt step xs (step s x) r2 (fun y hy => hb y (.tail _ hy)) h2
    refine ⟨r', ?_, h'⟩
    rw [List.map_cons, loop_cons]
    rcases e with e | e <;> rw [e] <;> exact e'
/-- a loop that looks for a first -/
theorem loop_any {α : Type} {t : Dt → PL.Env → Option PL.Env} {b : PL.Env → Option Out} (I : PL.Env → Prop) (dt : α → Dt) (p : α → Bool) (d : Dt) : ∀ (l : List α) (r : PL.Env), (∀ x ∈ l, ∀ r, I r → if p x = true then turnO t b (dt x) r = some (.rt d) else ∃ r2, turnO t b (dt x) r = some (.nx r2) ∧ I r2) → I r →
    if l.any p = true then loopF t b (l.map dt) r = some (.rt d) else ∃ r', loopF t b (l.map dt) r = some (.nx r') ∧ I r'
  | [], r, _, h => by rw [if_neg (by simp)]; exact ⟨r, rfl, h⟩
  | x :: xs, r, hb, h => by
    have h1 := hb x (.head _) r h
    rw [List.any_cons, List.map_cons, loop_cons]
    cases hp : p x with
    | true =>
      rw [if_pos hp] at h1
      rw [if_pos (by simp), h1]
    | false =>
      rw [if_neg (by simp [hp])] at h1
      obtain ⟨r2, e, h2⟩ := h1
      rw [e, Bool.false_or]
      exact loop_any I dt p d xs r2 (fun y hy => hb y (.tail _ hy)) h2
/-- the elements of a range -/
theorem range_mem {lo c : Int} {n : Nat} {x : Dt} (h : x ∈ rangeL lo c n) : ∃ k : Nat, k < n ∧ x = .int (lo + k * c) := by
  unfold rangeL at h
  obtain ⟨k, hk, rfl⟩ := List.mem_map.mp h
  exact ⟨k, List.mem_range.mp hk, rfl⟩
theorem range_len {lo c : Int} {n : Nat} : (rangeL lo c n).length = n := by unfold rangeL; simp
theorem range_get {lo c : Int} {n k : Nat} {x : Dt} (h : (rangeL lo c n)[k]? = some x) : k < n ∧ x = .int (lo + k * c) := by
  unfold rangeL at h
  rw [List.getElem?_map] at h
  by_cases hk : k < n
  · rw [List.getElem?_range hk] at h; cases h; exact ⟨hk, rfl⟩
  · rw [List.getElem?_eq_none (by simp; omega)] at h; cases h
/-- a comprehension without a test, over a mapped list -/
theorem comp_map {α β : Type} {j : Nat} {e : PL.Env → Option Dt} {r : PL.Env} (dt : α → Dt) (du : β → Dt) (g : α → β) : ∀ (l : List α), (∀ x ∈ l, e (r.set j (.val (dt x))) = some (du (g x))) → compL j fYes e (l.map dt) r = some ((l.map g).map du)
  | [], _ => rfl
  | x :: xs, h => by
    rw [List.map_cons, compL]
    rw [show fYes (r.set j (.val (dt x))) = some true from rfl]
    simp only
    rw [h x (.head _), comp_map dt du g xs fun y hy => h y (.tail _ hy)]
    rfl
/-- a comprehension with a test -/
theorem comp_filter {α β : Type} {j : Nat} {c : PL.Env → Option Bool} {e : PL.Env → Option Dt} {r : PL.Env} (dt : α → Dt) (du : β → Dt) (p : α → Bool) (g : α → β) : ∀ (l : List α), (∀ x ∈ l, c (r.set j (.val (dt x))) = some (p x)) → (∀ x ∈ l, p x = true → e (r.set j (.val (dt x))) = some (du (g x))) → compL j c e (l.map dt) r = some (((l.filter p).map g).map du)
  | [], _, _ => rfl
  | x :: xs, h, h2 => by
    rw [List.map_cons, compL, h x (.head _)]
    have ih := comp_filter dt du p g xs (fun y hy => h y (.tail _ hy)) fun y hy => h2 y (.tail _ hy)
    cases hp : p x with
    | true =>
      simp only
      rw [h2 x (.head _) hp, ih, List.filter_cons_of_pos hp]
      rfl
    | false =>
      simp only
      rw [ih, List.filter_cons_of_neg (by simp [hp])]
theorem e_fComp (f : PL.Env → Option (List Dt)) (j : Nat) (vs : List Nat) (c : PL.Env → Option Bool) (e : PL.Env → Option Dt) (r : PL.Env) {items : List Dt} (h : f r = some items) (hl : items.length ≤ 100000) : fComp f j vs c e r = compL j c e items (wipeE r vs) := by
  unfold fComp; rw [h]; simp [hl]
/-- a run -/
theorem run_rt {n m : Nat} {g : PL.Env → Option Out} {ds : List Dt} {d : Dt} (hn : ds.length = n) (h : g (ds.map Sl.val ++ List.replicate m Sl.no) = some (.rt d)) : runF n m g ds = some d := by
  unfold runF; rw [if_pos hn, h]
theorem run_nx {n m : Nat} {g : PL.Env → Option Out} {ds : List Dt} {r : PL.Env} (hn : ds.length = n) (h : g (ds.map Sl.val ++ List.replicate m Sl.no) = some (.nx r)) : runF n m g ds = some .non := by
  unfold runF; rw [if_pos hn, h]
/-! index, slices by natural numbers -/
theorem ixN_nat (n k : Nat) : ixN n (k : Int) = if k < n then some k else none := by
  unfold ixN
  rw [if_pos (Int.natCast_nonneg k)]
  by_cases h : k < n
  · rw [if_pos (by omega), if_pos h]; simp
  · rw [if_neg (by omega), if_neg h]
theorem atI_nat {α : Type} (l : List α) (k : Nat) : atI l (k : Int) = l[k]? := by
  unfold atI
  rw [ixN_nat]
  by_cases h : k < l.length
  · rw [if_pos h]; rfl
  · rw [if_neg h, List.getElem?_eq_none (by omega)]; rfl
theorem ixD_l (l : List Dt) (k : Nat) : ixD (.lst l) (.int k) = l[k]? := atI_nat l k
theorem ixD_t (l : List Dt) (k : Nat) : ixD (.tup l) (.int k) = l[k]? := atI_nat l k
theorem ixD_c (l : List Int) (k : Nat) : ixD (.scr l) (.int k) = (l[k]?).map Dt.int := by
  show (atI l (k : Int)).map Dt.int = _
  rw [atI_nat]
theorem ixD_s (l : List Nat) (k : Nat) (h : l.length ≤ 1000000) : ixD (.str l) (.int k) = (l[k]?).map fun c => Dt.str [c] := by
  show (if l.length ≤ 1000000 then _ else _) = _
  rw [if_pos h, atI_nat]
@[simp] theorem ixD_t0 (a : Dt) (l : List Dt) : ixD (.tup (a :: l)) (.int 0) = some a := ixD_t (a :: l) 0
@[simp] theorem ixD_t1 (a b : Dt) (l : List Dt) : ixD (.tup (a :: b :: l)) (.int 1) = some b := ixD_t (a :: b :: l) 1
@[simp] theorem ixD_t2 (a b c : Dt) (l : List Dt) : ixD (.tup (a :: b :: c :: l)) (.int 2) = some c := ixD_t (a :: b :: c :: l) 2
theorem cut_to {α : Type} (l : List α) (k : Nat) : cutL l none (some (k : Int)) = l.take k := by
  unfold cutL
  rw [HT.sIx_none, HT.sIx_nat, List.drop_zero, Nat.sub_zero, List.take_eq_take_iff]
  omega
theorem cut_from {α : Type} (l : List α) (k : Nat) : cutL l (some (k : Int)) none = l.drop k := by
  unfold cutL
  rw [HT.sIx_none, HT.sIx_nat]
  by_cases h : k ≤ l.length
  · rw [Nat.min_eq_left h, List.take_of_length_le (by simp)]
  · rw [Nat.min_eq_right (by omega), List.drop_eq_nil_of_le (Nat.le_refl _), List.drop_eq_nil_of_le (by omega), List.take_nil]
def scO : Option Dt → Option Dt
  | some d => if scB d = true then some d else none
  | none => none
@[simp] theorem e_fSc (f : PL.Env → Option Dt) (r : PL.Env) : fSc f r = scO (f (frzE r)) := by unfold fSc scO; rfl
@[simp] theorem scO_i (i : Int) : scO (some (.int i)) = some (.int i) := (rfl)
@[simp] theorem scO_b (i : Bool) : scO (some (.bl i)) = some (.bl i) := (rfl)
@[simp] theorem scO_s (i : List Nat) : scO (some (.str i)) = some (.str i) := (rfl)
theorem strs_map (l : List (List Nat)) : strsOf (l.map Dt.str) = some l := by
  induction l with
  | nil => rfl
  | cons x xs ih => rw [List.map_cons, strsOf, ih]; rfl
theorem joinD_map (sep : List Nat) (l : List (List Nat)) (h : (l.map List.length).sum + l.length * sep.length ≤ 1000000) : joinD (.str sep) (.lst (l.map Dt.str)) = some (.str (joinL sep l)) := by
  show (match strsOf (l.map Dt.str) with | some bs => _ | none => _) = _
  rw [strs_map]
  simp only
  rw [if_pos h]
theorem bools_map (l : List Bool) : boolsOf (l.map Dt.bl) = some l := by
  induction l with
  | nil => rfl
  | cons x xs ih => rw [List.map_cons, boolsOf, ih]; rfl
theorem allD_map (l : List Bool) : allD [.lst (l.map Dt.bl)] = some (.bl (l.all id)) := by
  show (boolsOf (l.map Dt.bl)).map _ = _
  rw [bools_map]; rfl
theorem isi_s (sub : Nat → Nat → Option Bool) (z : List Nat) : isiD sub [.str z, .ty "str"] = some (.bl true) := rfl
theorem isi_t (sub : Nat → Nat → Option Bool) (z : List Dt) : isiD sub [.tup z, .ty "tuple"] = some (.bl true) := rfl
end PL

/-! ### the law's own drawing of numbers, manners -/
namespace W
open PySem PL
structure Mn where
  m : Nat
  q : List Nat
  e : List Nat
  deriving DecidableEq
def mnD (M : Mn) : Dt := .tup [.str [M.m], .str M.q, .str M.e]
def mns : List Mn := [44, 59, 124, 58].flatMap fun m => [[], [34], [39]].flatMap fun q => [⟨m, q, []⟩, ⟨m, q, [92]⟩]
theorem manners_eq : r__law_manners [] = some (.lst (mns.map mnD)) := by rfl
theorem mns_len : mns.length = 24 := by rfl

theorem draw_ok (c k n : Int) (hk0 : 0 ≤ k) (hn0 : 0 < n) : ∃ m : Nat, r__law_draw [.int c, .int k, .int n] = some (.int m) ∧ (m : Int) < n := by
  obtain ⟨j, hj⟩ : ∃ j : Nat, k % 16 = j := ⟨(k % 16).toNat, by omega⟩
  have hj' : j < 16 := by omega
  have hp : ∃ p : Nat, ixD (.tup [.int 1000003, .int 1000033, .int 1000037, .int 1000039, .int 1000081, .int 1000099, .int 1000117, .int 1000121, .int 1000133, .int 1000151, .int 1000159, .int 1000171, .int 1000183, .int 1000187, .int 1000193, .int 1000199]) (.int j) = some (.int p) ∧ 0 < p := by
    rw [ixD_t]
    match j, hj' with
    | 0, _ => exact ⟨_, rfl, by decide⟩
    | 1, _ => exact ⟨_, rfl, by decide⟩
    | 2, _ => exact ⟨_, rfl, by decide⟩
    | 3, _ => exact ⟨_, rfl, by decide⟩
    | 4, _ => exact ⟨_, rfl, by decide⟩
    | 5, _ => exact ⟨_, rfl, by decide⟩
    | 6, _ => exact ⟨_, rfl, by decide⟩
    | 7, _ => exact ⟨_, rfl, by decide⟩
    | 8, _ => exact ⟨_, rfl, by decide⟩
    | 9, _ => exact ⟨_, rfl, by decide⟩
    | 10, _ => exact ⟨_, rfl, by decide⟩
    | 11, _ => exact ⟨_, rfl, by decide⟩
    | 12, _ => exact ⟨_, rfl, by decide⟩
    | 13, _ => exact ⟨_, rfl, by decide⟩
    | 14, _ => exact ⟨_, rfl, by decide⟩
    | 15, _ => exact ⟨_, rfl, by decide⟩
    | n + 16, h => exact absurd h (by omega)
  obtain ⟨p, hp, hp0⟩ := hp
  have hp1 : (0 : Int) < p := by omega
  have h1 : 0 ≤ (c * 48271 + k * 69621) % (p : Int) % n := Int.emod_nonneg _ (by omega)
  refine ⟨((c * 48271 + k * 69621) % (p : Int) % n).toNat, run_rt rfl ?_, ?_⟩
  · simp (disch := omega) [b__law_draw, hj, hp, hp0, hn0, Int.toNat_of_nonneg h1]
  · rw [Int.toNat_of_nonneg h1]; exact Int.emod_lt_of_pos _ hn0

theorem draw_bound (j : Nat) (h : j < 5) : ∃ d : Nat, ixD (.tup [.int 1, .int 7, .int 49, .int 343, .int 2401]) (.int j) = some (.int d) ∧ 0 < d ∧ d ≤ 2401 := by
  rw [ixD_t]
  match j, h with
  | 0, _ => exact ⟨_, rfl, by decide, by decide⟩
  | 1, _ => exact ⟨_, rfl, by decide, by decide⟩
  | 2, _ => exact ⟨_, rfl, by decide, by decide⟩
  | 3, _ => exact ⟨_, rfl, by decide, by decide⟩
  | 4, _ => exact ⟨_, rfl, by decide, by decide⟩
  | n + 5, h => exact absurd h (by omega)

theorem log_bound {a : Int} (h : a.natAbs < 1606938044258990275541962092341162602522202993782792835301376) : a.natAbs.log2 ≤ 200 := by
  by_cases h0 : a.natAbs = 0
  · rw [h0]; decide
  · exact Nat.le_of_lt ((Nat.log2_lt h0).mpr h)

theorem pow18 : powD (.int 10) (.int 18) = some (.int 1000000000000000000) := rfl
theorem number_ok (c k n : Int) (hk0 : 0 ≤ k) (hk : k ≤ 1000000) (hn0 : 0 < n) (hn : n ≤ 1000000) : ∃ m : Nat, r__law_number [.int c, .int k, .int n] = some (.int m) ∧ (m : Int) < n := by
  by_cases hc : 1000000000000000000 ≤ c
  · obtain ⟨j, hj⟩ : ∃ j : Nat, k % 5 = j := ⟨(k % 5).toNat, by omega⟩
    obtain ⟨d, hd, hd0, hd1⟩ := draw_bound j (by omega)
    have hdn : 0 < (d : Int) * n := Int.mul_pos (by omega) hn0
    have h1 : 0 ≤ (c - 1000000000000000000) % ((d : Int) * n) / (d : Int) := Int.ediv_nonneg (Int.emod_nonneg _ (by omega)) (by omega)
    refine ⟨((c - 1000000000000000000) % ((d : Int) * n) / (d : Int)).toNat, run_rt rfl ?_, ?_⟩
    · have e2 : (d : Int) < 1073741824 := by omega
      have e3 : 0 < d ∧ d < 1073741824 := by omega
      have e4 : -18446744073709551616 < n := by omega
      have e5 : n < 18446744073709551616 := by omega
      simp (disch := omega) [-powD_i, pow18, b__law_number, hc, hj, hd, hdn, e2, e3, e4, e5, Int.toNat_of_nonneg h1]
    · rw [Int.toNat_of_nonneg h1]
      refine Int.ediv_lt_of_lt_mul (by omega) ?_
      rw [Int.mul_comm]
      exact Int.emod_lt_of_pos _ (by rw [Int.mul_comm]; exact hdn)
  · obtain ⟨j, hj⟩ : ∃ j : Nat, k % 9 = j := ⟨(k % 9).toNat, by omega⟩
    have hl : ∀ c' : Int, -803469022129495137770981046170581301261101496891396417650688 < c' → c' < 803469022129495137770981046170581301261101496891396417650688 → ∃ m : Nat, (fRet (fOp modD (fCall r__law_draw (fCons (fOp mulI (fOp addD (fV 0) (fOp mulI (fC (.int 977)) (fV 1))) (fOp addD (fOp addD (fV 0) (fOp mulI (fC (.int 31)) (fV 1))) (fC (.int 5)))) (fCons (fOp addD (fOp modD (fV 1) (fC (.int 9))) (fC (.int 1))) (fCons (fC (.int 999983)) fNil)))) (fV 2))) [.val (.int c'), .val (.int k), .val (.int n), .no] = some (.rt (.int m)) ∧ (m : Int) < n := by
      intro c' h1 h2
      have hm : mulI (.int (c' + 977 * k)) (.int (c' + 31 * k + 5)) = some (.int ((c' + 977 * k) * (c' + 31 * k + 5))) := by
        have a1 := @log_bound (c' + 977 * k) (by omega)
        have a2 := @log_bound (c' + 31 * k + 5) (by omega)
        exact mulI_i _ _ (.inr (.inr (by omega)))
      obtain ⟨u, hu, hu2⟩ := draw_ok ((c' + 977 * k) * (c' + 31 * k + 5)) (j + 1) 999983 (by omega) (by decide)
      have hu3 : ((u : Int) % n) = ((u % n.toNat : Nat) : Int) := by
        have : (n.toNat : Int) = n := by omega
        rw [Int.natCast_emod, this]
      refine ⟨u % n.toNat, ?_, ?_⟩
      · simp (disch := omega) [hm, hj, hu, hn0, hu3]
      · rw [← hu3]; exact Int.emod_lt_of_pos _ hn0
    by_cases hc2 : c < -1000000000000000000
    · obtain ⟨m, e, hm⟩ := hl (c % 1000811284336359577647248616306026718125307353262274591) (by omega) (by omega)
      refine ⟨m, run_rt rfl ?_, hm⟩
      rw [← e]
      simp (disch := omega) [-powD_i, pow18, b__law_number, hc, hc2]
    · obtain ⟨m, e, hm⟩ := hl c (by omega) (by omega)
      refine ⟨m, run_rt rfl ?_, hm⟩
      rw [← e]
      simp (disch := omega) [-powD_i, pow18, b__law_number, hc, hc2]

theorem num_nat (c : Int) (k n : Nat) (hk : k ≤ 1000000) (hn0 : 0 < n) (hn : n ≤ 1000000) : ∃ m : Nat, r__law_number [.int c, .int k, .int n] = some (.int m) ∧ m < n := by
  obtain ⟨m, e, h⟩ := number_ok c k n (by omega) (by omega) (by omega) (by omega)
  exact ⟨m, e, by omega⟩

theorem cell_at_ok (ns : List Int) (k : Nat) : ∃ c : Int, r__law_cell_at [.scr ns, .int k] = some (.int c) := by
  by_cases h : k < ns.length
  · refine ⟨ns[k], run_rt rfl ?_⟩
    simp (disch := omega) [b__law_cell_at, h, ixD_c]
  · refine ⟨0, run_rt rfl ?_⟩
    simp (disch := omega) [b__law_cell_at, h]

theorem manner_ok (ns : List Int) (k : Nat) (hk : k ≤ 100000) : ∃ M, M ∈ mns ∧ r__law_manner [.scr ns, .int k] = some (mnD M) := by
  obtain ⟨c, hc⟩ := cell_at_ok ns k
  obtain ⟨m, hm, h⟩ := num_nat c (k + 7) 24 (by omega) (by decide) (by decide)
  have hm' : r__law_number [.int c, .int (k + 7), .int 24] = some (.int m) := hm
  have hl : m < mns.length := h
  refine ⟨mns[m], List.getElem_mem hl, run_rt rfl ?_⟩
  have e : ixD (.lst (mns.map mnD)) (.int m) = some (mnD mns[m]) := by
    rw [ixD_l, List.getElem?_map, List.getElem?_eq_getElem hl]; rfl
  simp (disch := omega) [b__law_manner, hc, hm', manners_eq, e]
end W

/-! ### the law's own cells, rows, texts -/
namespace W
open PySem PL
abbrev sgs : List Nat := zs_SIGNS
def good (t : List Nat) : Prop := ∀ c ∈ t, c ∈ sgs
theorem good_nil : good [] := fun _ h => by cases h
theorem good_app {a b : List Nat} (h : good a) (k : good b) : good (a ++ b) := fun c hc => (List.mem_append.mp hc).elim (h c) (k c)
theorem good_take {a : List Nat} (n : Nat) (h : good a) : good (a.take n) := fun c hc => h c (List.mem_of_mem_take hc)
theorem good_drop {a : List Nat} (n : Nat) (h : good a) : good (a.drop n) := fun c hc => h c (List.mem_of_mem_drop hc)
theorem good_one {c : Nat} (h : c ∈ sgs) : good [c] := fun d hd => by rw [List.mem_singleton.mp hd]; exact h
/-- a mark, a quote or none, an escape or none -/
structure MnOk (M : Mn) : Prop where
  m : M.m ∈ sgs
  q : good M.q
  e : good M.e
  q1 : M.q = [] ∨ ∃ c, M.q = [c]
  e1 : M.e = [] ∨ ∃ c, M.e = [c]
theorem mn_ok {M : Mn} (h : M ∈ mns) : MnOk M := by
  have : ∀ M ∈ mns, (M.m ∈ sgs ∧ (∀ c ∈ M.q, c ∈ sgs) ∧ (∀ c ∈ M.e, c ∈ sgs)) ∧ M.q.length ≤ 1 ∧ M.e.length ≤ 1 := by decide +kernel
  obtain ⟨⟨h1, h2, h3⟩, h4, h5⟩ := this M h
  refine ⟨h1, h2, h3, ?_, ?_⟩
  · match hq : M.q, h4 with
    | [], _ => exact .inl rfl
    | [c], _ => exact .inr ⟨c, rfl⟩
    | _ :: _ :: _, h => exact absurd h (by simp)
  · match hq : M.e, h5 with
    | [], _ => exact .inl rfl
    | [c], _ => exact .inr ⟨c, rfl⟩
    | _ :: _ :: _, h => exact absurd h (by simp)
theorem MnOk.q_len {M : Mn} (h : MnOk M) : M.q.length ≤ 1 := by rcases h.q1 with e | ⟨c, e⟩ <;> rw [e] <;> simp
theorem MnOk.e_len {M : Mn} (h : MnOk M) : M.e.length ≤ 1 := by rcases h.e1 with e | ⟨c, e⟩ <;> rw [e] <;> simp

/-- the eleven signs of a cell -/
def eleven (M : Mn) : List (List Nat) := [[97], [98], [110], [32], [M.m], M.q, M.e, [10], [34], [44], [55]]
theorem eleven_ok {M : Mn} (h : MnOk M) : ∀ t ∈ eleven M, good t ∧ t.length ≤ 1 := by
  intro t ht
  unfold eleven at ht
  have hs : ∀ c, c ∈ sgs → good [c] ∧ [c].length ≤ 1 := fun c hc => ⟨good_one hc, Nat.le_refl 1⟩
  simp only [List.mem_cons, List.not_mem_nil, or_false] at ht
  rcases ht with rfl | rfl | rfl | rfl | rfl | rfl | rfl | rfl | rfl | rfl | rfl
  · exact hs _ (by decide)
  · exact hs _ (by decide)
  · exact hs _ (by decide)
  · exact hs _ (by decide)
  · exact hs _ h.m
  · exact ⟨h.q, h.q_len⟩
  · exact ⟨h.e, h.e_len⟩
  · exact hs _ (by decide)
  · exact hs _ (by decide)
  · exact hs _ (by decide)
  · exact hs _ (by decide)
abbrev az : List Nat := zs_az
theorem az_ok : ∀ c ∈ az, c ∈ sgs := by decide
def cellEnv (ns : List Int) (by_ : Nat) (M : Mn) (l : List (List Nat)) (k : Nat) (c : Int) (t : List Nat) (size : Int) (x9 x10 x11 : Sl) : PL.Env :=
  [.val (.scr ns), .val (.int by_), .val (mnD M), .own (l.map Dt.str), .val (.tup ((eleven M).map Dt.str)), .val (.int k), .val (.int c), .val (.str t), .val (.int size), x9, x10, x11]
theorem cells_1 {ns : List Int} {by_ : Nat} {M : Mn} (hM : MnOk M) (hb : by_ ≤ 100000) {l : List (List Nat)} {k : Nat} (hk : k < 6) {c : Int} {t : List Nat} {size : Int} {x9 x10 x11 : Sl} (j : Nat) (hj : j < 9) (gt : good t) (ht : t.length ≤ j) :
    ∃ t' y9 y10 y11, turnO (tNm 9) L__law_cells_1 (.int j) (cellEnv ns by_ M l k c t size x9 x10 x11) = some (.nx (cellEnv ns by_ M l k c t' size y9 y10 y11)) ∧ good t' ∧ t'.length ≤ j + 1 := by
  obtain ⟨m, hm, h⟩ := num_nat (c + 104729 * j) (by_ + k + j + 2) 396 (by omega) (by decide) (by decide)
  have hl : m % 11 < (eleven M).length := Nat.mod_lt _ (by decide)
  obtain ⟨g1, g2⟩ := eleven_ok hM (eleven M)[m % 11] (List.getElem_mem hl)
  have e1 : ixD (.tup ((eleven M).map Dt.str)) (.int ((m : Int) % 11)) = some (.str (eleven M)[m % 11]) := by
    have : ((m : Int) % 11) = ((m % 11 : Nat) : Int) := by omega
    rw [this, ixD_t, List.getElem?_map, List.getElem?_eq_getElem hl]; rfl
  obtain ⟨z, hz, e2⟩ : ∃ z, z ∈ sgs ∧ ixD (.str zs_az) (.int ((m : Int) / 11)) = some (.str [z]) := by
    have hz : m / 11 < az.length := by
      have : az.length = 36 := rfl
      omega
    refine ⟨az[m / 11], az_ok _ (List.getElem_mem hz), ?_⟩
    have : ((m : Int) / 11) = ((m / 11 : Nat) : Int) := by omega
    show ixD (.str az) _ = _
    rw [this, ixD_s _ _ (by decide), List.getElem?_eq_getElem hz]; rfl
  have hm' : r__law_number [.int (c + 104729 * j), .int (by_ + k + j + 2), .int 396] = some (.int m) := hm
  by_cases hs : (eleven M)[m % 11] = [98]
  · refine ⟨t ++ [z], .val (.int j), .val (.int m), .val (.str [z]), ?_, good_app gt (good_one hz), by simp; omega⟩
    rw [hs] at e1
    simp (disch := omega) [turnO, cellEnv, L__law_cells_1, hm', e1, e2]
  · refine ⟨t ++ (eleven M)[m % 11], .val (.int j), .val (.int m), .val (.str (eleven M)[m % 11]), ?_, good_app gt g1, by rw [List.length_append]; omega⟩
    simp (disch := omega) [turnO, cellEnv, L__law_cells_1, hm', e1, hs]

theorem cells_in {ns : List Int} {by_ : Nat} {M : Mn} (hM : MnOk M) (hb : by_ ≤ 100000) {l : List (List Nat)} {k : Nat} (hk : k < 6) {c : Int} {size : Nat} (hs : size ≤ 8) {x9 x10 x11 : Sl} :
    ∃ t' y9 y10 y11, loopF (tNm 9) L__law_cells_1 (rangeL 0 1 size) (cellEnv ns by_ M l k c [] size x9 x10 x11) = some (.nx (cellEnv ns by_ M l k c t' size y9 y10 y11)) ∧ good t' ∧ t'.length ≤ 8 := by
  obtain ⟨r', e, t, y9, y10, y11, rfl, g, h⟩ := loop_ix0 (t := tNm 9) (b := L__law_cells_1) (fun j r => ∃ t y9 y10 y11, r = cellEnv ns by_ M l k c t size y9 y10 y11 ∧ good t ∧ t.length ≤ j) (rangeL 0 1 size) (cellEnv ns by_ M l k c [] size x9 x10 x11)
    (fun j x hx r ⟨t, y9, y10, y11, er, g, h⟩ => by
      obtain ⟨hj, rfl⟩ := range_get hx
      rw [er]
      obtain ⟨t', z9, z10, z11, e, g', h'⟩ := cells_1 (ns := ns) (by_ := by_) hM hb (l := l) hk (c := c) (t := t) (size := size) (x9 := y9) (x10 := y10) (x11 := y11) j (by omega) g h
      refine ⟨_, .inl ?_, t', z9, z10, z11, rfl, g', h'⟩
      rw [show ((0 : Int) + (j : Int) * 1) = (j : Int) by omega]
      exact e)
    ⟨[], x9, x10, x11, rfl, good_nil, Nat.zero_le _⟩
  rw [range_len] at h
  exact ⟨t, y9, y10, y11, e, g, by omega⟩
def cellsEnv (ns : List Int) (by_ : Nat) (M : Mn) (l : List (List Nat)) (x5 x6 x7 x8 x9 x10 x11 : Sl) : PL.Env :=
  [.val (.scr ns), .val (.int by_), .val (mnD M), .own (l.map Dt.str), .val (.tup ((eleven M).map Dt.str)), x5, x6, x7, x8, x9, x10, x11]
theorem cells_2 {ns : List Int} {by_ : Nat} {M : Mn} (hM : MnOk M) (hb : by_ ≤ 100000) {l : List (List Nat)} {x5 x6 x7 x8 x9 x10 x11 : Sl} (k : Nat) (hk : k < 6) (hl : l.length = k) (g : ∀ t ∈ l, good t ∧ t.length ≤ 8) :
    ∃ l' y5 y6 y7 y8 y9 y10 y11, turnO (tNm 5) L__law_cells_2 (.int k) (cellsEnv ns by_ M l x5 x6 x7 x8 x9 x10 x11) = some (.nx (cellsEnv ns by_ M l' y5 y6 y7 y8 y9 y10 y11)) ∧ l'.length = k + 1 ∧ ∀ t ∈ l', good t ∧ t.length ≤ 8 := by
  obtain ⟨c0, hc0⟩ := cell_at_ok ns (by_ + k)
  have hc0' : r__law_cell_at [.scr ns, .int (by_ + k)] = some (.int c0) := hc0
  obtain ⟨m, hm, h4⟩ := num_nat (c0 + 13 * k) (by_ + k + 1) 4 (by omega) (by decide) (by decide)
  have hm' : r__law_number [.int (c0 + 13 * k), .int (by_ + k + 1), .int 4] = some (.int m) := hm
  obtain ⟨d, hd, hd0, hd1⟩ : ∃ d : Nat, ixD (.tup [.int 4, .int 4, .int 9, .int 4]) (.int m) = some (.int d) ∧ 0 < d ∧ d ≤ 9 := by
    rw [ixD_t]
    match m, h4 with
    | 0, _ => exact ⟨_, rfl, by decide, by decide⟩
    | 1, _ => exact ⟨_, rfl, by decide, by decide⟩
    | 2, _ => exact ⟨_, rfl, by decide, by decide⟩
    | 3, _ => exact ⟨_, rfl, by decide, by decide⟩
    | n + 4, h => exact absurd h (by omega)
  obtain ⟨z, hz, h9⟩ := num_nat (c0 + 13 * k) (by_ + k) d (by omega) hd0 (by omega)
  have hz' : r__law_number [.int (c0 + 13 * k), .int (by_ + k), .int d] = some (.int z) := hz
  obtain ⟨t, y9, y10, y11, e, gt, ht⟩ := cells_in (ns := ns) (by_ := by_) hM hb (l := l) hk (c := c0 + 13 * k) (size := z) (by omega) (x9 := x9) (x10 := x10) (x11 := x11)
  refine ⟨l ++ [t], .val (.int k), .val (.int (c0 + 13 * k)), .val (.str t), .val (.int z), y9, y10, y11, ?_, by simp [hl], ?_⟩
  · unfold cellEnv at e
    have hml : (l.map Dt.str).length ≤ 100000 := by rw [List.length_map]; omega
    simp (disch := omega) [turnO, cellsEnv, L__law_cells_2, hc0', hm', hd, hz', e]
  · intro u hu
    rcases List.mem_append.mp hu with hu | hu
    · exact g u hu
    · rw [List.mem_singleton.mp hu]; exact ⟨gt, ht⟩
theorem cells_ok (ns : List Int) (by_ : Nat) (M : Mn) (hM : MnOk M) (hb : by_ ≤ 100000) : ∃ l : List (List Nat), r__law_cells [.scr ns, .int by_, mnD M] = some (.lst (l.map Dt.str)) ∧ l.length = 6 ∧ ∀ t ∈ l, good t ∧ t.length ≤ 8 := by
  obtain ⟨r', e, l, y5, y6, y7, y8, y9, y10, y11, rfl, hl, g⟩ := loop_ix0 (t := tNm 5) (b := L__law_cells_2) (fun k r => ∃ l y5 y6 y7 y8 y9 y10 y11, r = cellsEnv ns by_ M l y5 y6 y7 y8 y9 y10 y11 ∧ l.length = k ∧ ∀ t ∈ l, good t ∧ t.length ≤ 8) (rangeL 0 1 6) (cellsEnv ns by_ M [] .no .no .no .no .no .no .no)
    (fun k x hx r ⟨l, y5, y6, y7, y8, y9, y10, y11, er, hl, g⟩ => by
      obtain ⟨hj, rfl⟩ := range_get hx
      rw [er]
      obtain ⟨l', z5, z6, z7, z8, z9, z10, z11, e, hl', g'⟩ := cells_2 (ns := ns) (by_ := by_) hM hb (l := l) (x5 := y5) (x6 := y6) (x7 := y7) (x8 := y8) (x9 := y9) (x10 := y10) (x11 := y11) k hj hl g
      refine ⟨_, .inl ?_, l', z5, z6, z7, z8, z9, z10, z11, rfl, hl', g'⟩
      rw [show ((0 : Int) + (k : Int) * 1) = (k : Int) by omega]
      exact e)
    ⟨[], .no, .no, .no, .no, .no, .no, .no, rfl, rfl, fun _ h => by cases h⟩
  refine ⟨l, run_rt rfl ?_, by rw [hl, range_len], g⟩
  have hM' : mnD M = .tup [.str [M.m], .str M.q, .str M.e] := rfl
  unfold cellsEnv at e
  rw [hM'] at e
  simp only [eleven, List.map_cons, List.map_nil] at e
  rw [hM']
  simp (disch := omega) [b__law_cells, fLst, e]
end W

/-! ### rows, tables as data -/
namespace W
open PySem PL
def rowD (row : List (List Nat)) : Dt := .lst (row.map Dt.str)
def tabD (rows : List (List (List Nat))) : Dt := .lst (rows.map rowD)
structure RowOk (row : List (List Nat)) : Prop where
  lo : 1 ≤ row.length
  hi : row.length ≤ 6
  g : ∀ t ∈ row, good t ∧ t.length ≤ 8
structure TabOk (rows : List (List (List Nat))) : Prop where
  len : rows.length ≤ 12
  g : ∀ r ∈ rows, RowOk r
end W

/-! ### how cells, rows, tables are written -/
namespace W
open PySem PL
def optD : Option (List Nat) → Dt
  | none => .non
  | some t => .str t
def plainB (M : Mn) (t : List Nat) : Bool := !t.contains M.m && (!t.contains 10 && M.q.all fun c => !t.contains c)
def escOne (M : Mn) (c : Nat) : List Nat :=
  if M.q = [] ∧ c = 10 then M.e ++ [110]
  else if [c] = M.q ∧ M.e = [] then M.q ++ M.q
  else if [c] = M.e ∨ [c] = (if M.q = [] then [M.m] else M.q) then M.e ++ [c]
  else [c]
def cellText (M : Mn) (t : List Nat) : Option (List Nat) :=
  if (M.q = [] ∧ M.e = []) ∨ (M.q ≠ [] ∧ plainB M t = true) then (if plainB M t = true then some t else none)
  else some (M.q ++ t.flatMap (escOne M) ++ M.q)
theorem esc_len {M : Mn} (hM : MnOk M) (c : Nat) : (escOne M c).length ≤ 2 := by
  have := hM.q_len
  have := hM.e_len
  have h1 : (M.e ++ [110]).length ≤ 2 := by simp; omega
  have h2 : (M.q ++ M.q).length ≤ 2 := by simp; omega
  have h3 : (M.e ++ [c]).length ≤ 2 := by simp; omega
  have h4 : [c].length ≤ 2 := by simp
  unfold escOne
  by_cases a1 : M.q = [] ∧ c = 10
  · rw [if_pos a1]; exact h1
  · rw [if_neg a1]
    by_cases a2 : [c] = M.q ∧ M.e = []
    · rw [if_pos a2]; exact h2
    · rw [if_neg a2]
      by_cases a3 : [c] = M.e ∨ [c] = (if M.q = [] then [M.m] else M.q)
      · rw [if_pos a3]; exact h3
      · rw [if_neg a3]; exact h4
theorem flat_len {M : Mn} (hM : MnOk M) : ∀ t : List Nat, (t.flatMap (escOne M)).length ≤ 2 * t.length
  | [] => by simp
  | c :: t => by
    have := flat_len hM t
    have := esc_len hM c
    simp only [List.flatMap_cons, List.length_append, List.length_cons]
    omega
theorem cellText_len {M : Mn} (hM : MnOk M) {t u : List Nat} (h : cellText M t = some u) : u.length ≤ 2 * t.length + 2 := by
  have hq := hM.q_len
  have hf := flat_len hM t
  unfold cellText at h
  split at h
  · split at h
    · cases h; omega
    · cases h
  · cases h; simp only [List.length_append]; omega
def rowText (M : Mn) (row : List (List Nat)) : Option (List Nat) :=
  if (row.map (cellText M)).any Option.isNone = true then none else some (joinL [M.m] ((row.map (cellText M)).filterMap id) ++ [10])
def writeT (M : Mn) : List (List (List Nat)) → Option (List Nat)
  | [] => some []
  | r :: rs => match rowText M r with
    | none => none
    | some t => (writeT M rs).map (t ++ ·)
theorem in_none (l : List (Option (List Nat))) : inD .non (.lst (l.map optD)) = some (.bl (l.any Option.isNone)) := by
  have h1 : (l.map optD).all scB = true := by
    rw [List.all_map, List.all_eq_true]
    intro o _
    cases o <;> rfl
  have h2 : ∀ o : Option (List Nat), eqF 0 (optD o) .non = o.isNone := by intro o; cases o <;> rfl
  have h3 : inFlat .non (.lst (l.map optD)) = some (l.any Option.isNone) := by
    show (if scB .non = true ∧ (l.map optD).all scB = true then some ((l.map optD).any fun y => eqF 0 y .non) else none) = _
    rw [if_pos ⟨rfl, h1⟩, List.any_map]
    congr 2
    funext o
    exact h2 o
  show (((inFlat .non (.lst (l.map optD))).or _).map Dt.bl) = _
  rw [h3]; rfl
theorem filt_some (t : List Nat) (l : List (Option (List Nat))) : (some t :: l).filterMap id = t :: l.filterMap id := rfl
theorem opt_strs {l : List (Option (List Nat))} (h : l.any Option.isNone = false) : l.map optD = (l.filterMap id).map Dt.str := by
  induction l with
  | nil => rfl
  | cons o l ih =>
    rw [List.any_cons, Bool.or_eq_false_iff] at h
    cases o with
    | none => cases h.1
    | some t => rw [List.map_cons, filt_some, List.map_cons, ih h.2]; rfl
theorem filter_sum {M : Mn} (hM : MnOk M) : ∀ row : List (List Nat), (∀ t ∈ row, t.length ≤ 8) → ((((row.map (cellText M)).filterMap id).map List.length).sum ≤ 18 * row.length ∧ ((row.map (cellText M)).filterMap id).length ≤ row.length)
  | [], _ => ⟨Nat.le_refl _, Nat.le_refl _⟩
  | t :: row, h => by
    obtain ⟨h1, h2⟩ := filter_sum hM row fun u hu => h u (.tail _ hu)
    rw [List.map_cons]
    cases hc : cellText M t with
    | none => rw [List.filterMap_cons_none rfl]; simp only [List.length_cons]; omega
    | some u =>
      rw [filt_some]
      have := cellText_len hM hc
      have := h t (.head _)
      simp only [List.length_cons, List.map_cons, List.sum_cons]
      omega
theorem joinL_len (sep : List Nat) : ∀ l : List (List Nat), (joinL sep l).length ≤ (l.map List.length).sum + l.length * sep.length
  | [] => by simp [joinL]
  | [x] => by simp [joinL]
  | x :: y :: l => by
    have := joinL_len sep (y :: l)
    simp only [joinL, List.length_append, List.map_cons, List.sum_cons, List.length_cons, Nat.add_mul, Nat.one_mul] at *
    omega
theorem rowText_len {M : Mn} (hM : MnOk M) {row : List (List Nat)} (hr : row.length ≤ 6) (hg : ∀ t ∈ row, t.length ≤ 8) {u : List Nat} (h : rowText M row = some u) : u.length ≤ 200 := by
  unfold rowText at h
  split at h
  · cases h
  · cases h
    obtain ⟨h1, h2⟩ := filter_sum hM row hg
    have := joinL_len [M.m] ((row.map (cellText M)).filterMap id)
    simp only [List.length_append, List.length_cons, List.length_nil, Nat.mul_one] at *
    omega
end W

/-! ### what sets a manner's signs apart -/
namespace W
open PySem PL
structure MnSep (M : Mn) : Prop where
  m10 : M.m ≠ 10
  m110 : M.m ≠ 110
  q : ∀ c, M.q = [c] → c ≠ 10 ∧ c ≠ M.m ∧ c ≠ 110 ∧ M.e ≠ [c]
  e : ∀ c, M.e = [c] → c ≠ 10 ∧ c ≠ M.m ∧ c ≠ 110
theorem mn_sep {M : Mn} (h : M ∈ mns) : MnSep M := by
  have : ∀ M ∈ mns, (M.m ≠ 10 ∧ M.m ≠ 110) ∧ (∀ c ∈ M.q, c ≠ 10 ∧ c ≠ M.m ∧ c ≠ 110 ∧ M.e ≠ [c]) ∧ (∀ c ∈ M.e, c ≠ 10 ∧ c ≠ M.m ∧ c ≠ 110) := by decide +kernel
  obtain ⟨⟨h1, h2⟩, h3, h4⟩ := this M h
  exact ⟨h1, h2, fun c e => h3 c (by rw [e]; exact .head _), fun c e => h4 c (by rw [e]; exact .head _)⟩
end W

/-! ### the program's writing: cells, the first that can't be written, rows -/
namespace W
open PySem PL
def manD (M : Mn) : Dt := .man [M.m] M.q M.e
theorem manD_pl (M : Mn) : (manD M).pl = mnD M := rfl
theorem mansT_eq : rt__law_manners [] = some (.lst (mns.map manD)) := by rfl
theorem fm_congr {f g : Nat → List Nat} (h : ∀ d, f d = g d) (l : List Nat) : l.flatMap f = l.flatMap g := by rw [funext h]
theorem replL_nil (c : Nat) (z : List Nat) : replL c z [] = [] := rfl
theorem replL_cons (c : Nat) (z : List Nat) (k : Nat) (l : List Nat) : replL c z (k :: l) = (if k = c then z else [k]) ++ replL c z l := by
  unfold replL
  rw [List.flatMap_cons]
theorem repl_bent {x m : Nat} (h1 : x ≠ m) (h2 : x ≠ 10) (h3 : m ≠ 10) : ∀ c : List Nat, replL 10 [x, 110] (replL m [x, m] (replL x [x, x] c)) = c.flatMap fun k => if k = 10 then [x, 110] else if k = x ∨ k = m then [x, k] else [k]
  | [] => rfl
  | k :: c => by
    have ih := repl_bent h1 h2 h3 c
    rw [replL_cons, replL_append, replL_append, ih, List.flatMap_cons]
    congr 1
    by_cases e1 : k = x
    · subst e1
      rw [if_pos rfl, if_neg h2, if_pos (.inl rfl)]
      simp [replL, h1, h2]
    · rw [if_neg e1]
      by_cases e2 : k = m
      · subst e2
        rw [if_neg h3, if_pos (.inr rfl)]
        simp [replL, h2, h3]
      · by_cases e3 : k = 10
        · subst e3
          rw [if_pos rfl]
          simp [replL, e2]
        · rw [if_neg e3, if_neg (by simp [e1, e2])]
          simp [replL, e2, e3]
theorem repl_twice {x k : Nat} (h : x ≠ k) : ∀ c : List Nat, replL k [x, k] (replL x [x, x] c) = c.flatMap fun d => if d = x ∨ d = k then [x, d] else [d]
  | [] => rfl
  | d :: c => by
    have ih := repl_twice h c
    rw [replL_cons, replL_append, ih, List.flatMap_cons]
    congr 1
    by_cases e1 : d = x
    · subst e1
      rw [if_pos rfl, if_pos (.inl rfl)]
      simp [replL, h]
    · rw [if_neg e1]
      by_cases e2 : d = k
      · subst e2
        rw [if_pos (.inr rfl)]
        simp [replL]
      · rw [if_neg (by simp [e1, e2])]
        simp [replL, e2]
theorem cellD_eq {M : Mn} (hM : M ∈ mns) {c : List Nat} (hc : c.length ≤ 2000) : cellD c [M.m] M.q M.e = some (optD (cellText M c)) := by
  have hS := mn_sep hM
  have hO := mn_ok hM
  obtain ⟨m, q, e⟩ := M
  unfold cellD
  simp only [if_pos hc]
  have pl0 : plainB ⟨m, [], e⟩ c = !decide (m ∈ c ∨ 10 ∈ c) := by
    unfold plainB
    by_cases h1 : m ∈ c <;> by_cases h2 : 10 ∈ c <;> simp [h1, h2]
  have pl1 : ∀ k, plainB ⟨m, [k], e⟩ c = !decide (m ∈ c ∨ 10 ∈ c ∨ k ∈ c) := fun k => by
    unfold plainB
    by_cases h1 : m ∈ c <;> by_cases h2 : 10 ∈ c <;> by_cases h3 : k ∈ c <;> simp [h1, h2, h3]
  rcases hO.q1 with hq | ⟨k, hq⟩ <;> rcases hO.e1 with he | ⟨x, he⟩ <;> simp only at hq he <;> subst hq <;> subst he
  · unfold cellText
    simp only [pl0]
    by_cases h : m ∈ c ∨ 10 ∈ c <;> simp [h, optD]
  · obtain ⟨h1, h2, h3⟩ := hS.e x rfl
    show some (Dt.str (replL 10 [x, 110] (replL m [x, m] (replL x [x, x] c)))) = _
    rw [repl_bent (show x ≠ m from h2) h1 (show m ≠ 10 from hS.m10)]
    unfold cellText
    simp only [optD]
    rw [if_neg (by simp)]
    simp only [List.nil_append, List.append_nil]
    congr 2
    refine fm_congr (fun d => ?_) c
    unfold escOne
    by_cases e1 : d = 10
    · simp [e1]
    · by_cases e2 : d = x
      · subst e2; simp [e1]
      · by_cases e3 : d = m
        · subst e3; simp [e1]
        · simp [e1, e2, e3]
  · unfold cellText
    simp only [pl1]
    by_cases h : m ∈ c ∨ 10 ∈ c ∨ k ∈ c
    · show some (Dt.str (if m ∈ c ∨ 10 ∈ c ∨ k ∈ c then k :: replL k [k, k] c ++ [k] else c)) = _
      rw [if_pos h, if_neg (by simp [h])]
      show some (Dt.str (k :: (replL k [k, k] c ++ [k]))) = some (Dt.str (k :: (c.flatMap (escOne ⟨m, [k], []⟩) ++ [k])))
      congr 4
      unfold replL
      refine fm_congr (fun d => ?_) c
      unfold escOne
      by_cases e1 : d = k
      · simp [e1]
      · simp [e1]
    · show some (Dt.str (if m ∈ c ∨ 10 ∈ c ∨ k ∈ c then k :: replL k [k, k] c ++ [k] else c)) = _
      rw [if_neg h, if_pos (by simp [h]), if_pos (by simp [h])]
      rfl
  · obtain ⟨h1, h2, h3, h4⟩ := hS.q k rfl
    have hxk : x ≠ k := fun z => h4 (by rw [z])
    show some (Dt.str (if m ∈ c ∨ 10 ∈ c ∨ k ∈ c then k :: replL k [x, k] (replL x [x, x] c) ++ [k] else c)) = _
    rw [repl_twice hxk]
    unfold cellText
    simp only [pl1]
    by_cases h : m ∈ c ∨ 10 ∈ c ∨ k ∈ c
    · rw [if_pos h, if_neg (by simp [h])]
      show some (Dt.str (k :: ((c.flatMap fun d => if d = x ∨ d = k then [x, d] else [d]) ++ [k]))) = some (Dt.str (k :: (c.flatMap (escOne ⟨m, [k], [x]⟩) ++ [k])))
      congr 4
      refine fm_congr (fun d => ?_) c
      unfold escOne
      by_cases e1 : d = k
      · simp [e1]
      · by_cases e2 : d = x
        · subst e2; simp [e1]
        · simp [e1, e2]
    · rw [if_neg h, if_pos (by simp [h]), if_pos (by simp [h])]
      rfl
theorem cell_is {M : Mn} (hM : M ∈ mns) {c : List Nat} (hc : c.length ≤ 2000) : rt_cell_of [.str c, manD M] = some (optD (cellText M c)) := by
  show okOf (runX 2 4 gCell) [.str c, manD M] = _
  unfold okOf runX
  have e : gCell ([Dt.str c, manD M].map Sl.val ++ List.replicate 4 Sl.no) = (cellD c [M.m] M.q M.e).map fun d => .ok (.rt d) := rfl
  rw [if_pos (show [Dt.str c, manD M].length = 2 from rfl), e, cellD_eq hM hc]
  rfl
/-! the first cell that can't be written -/
def frow (M : Mn) : Nat → List (List Nat) → Option Nat
  | _, [] => none
  | j, c :: r => if cellText M c = none then some j else frow M (j + 1) r
def fbad (M : Mn) : Nat → List (List (List Nat)) → Option (Nat × Nat)
  | _, [] => none
  | i, r :: rs => match frow M 0 r with
    | some j => some (i, j)
    | none => fbad M (i + 1) rs
def prD : Option (Nat × Nat) → Dt
  | none => .non
  | some (i, j) => .tup [.int i, .int j]
theorem enumL_cons (p : Nat) (d : Dt) (z : List Dt) : enumL p (d :: z) = .tup [.int p, d] :: enumL (p + 1) z := rfl
def bdEnv (rows : Dt) (M : Mn) (x2 x3 x4 x5 : Sl) : PL.Env := [.val rows, .val (manD M), x2, x3, x4, x5]
theorem isD_opt (o : Option (List Nat)) : isD (optD o) .non = some (.bl (decide (o = none))) := by cases o <;> rfl
theorem frow_ok {M : Mn} (hM : M ∈ mns) {rows : Dt} {i : Nat} {x3 : Sl} : ∀ (r : List (List Nat)) (j : Nat) (x4 x5 : Sl), (∀ c ∈ r, c.length ≤ 2000) →
    match frow M j r with
    | some k => loopF (tTp [4, 5]) LT_bad_of_1 (enumL j (r.map Dt.str)) (bdEnv rows M (.val (.int i)) x3 x4 x5) = some (.rt (.tup [.int i, .int k]))
    | none => ∃ y4 y5, loopF (tTp [4, 5]) LT_bad_of_1 (enumL j (r.map Dt.str)) (bdEnv rows M (.val (.int i)) x3 x4 x5) = some (.nx (bdEnv rows M (.val (.int i)) x3 y4 y5))
  | [], j, x4, x5, _ => ⟨x4, x5, loop_nil⟩
  | c :: r, j, x4, x5, h => by
    have hc := cell_is hM (h c (.head _))
    have hi := isD_opt (cellText M c)
    have t : turnO (tTp [4, 5]) LT_bad_of_1 (.tup [.int j, .str c]) (bdEnv rows M (.val (.int i)) x3 x4 x5) = if cellText M c = none then some (.rt (.tup [.int i, .int j])) else some (.nx (bdEnv rows M (.val (.int i)) x3 (.val (.int j)) (.val (.str c)))) := by
      simp only [turnO, bdEnv, LT_bad_of_1, e_tTp, e_tNs_cons, e_tNs_nil, List.set_cons_succ, List.set_cons_zero, Option.bind_some, e_fIfS, frzE_cons, frzE_nil, frz1_val, e_asB, e_fOp, e_fCall, e_fCons, e_fNil, e_fV, gV_succ, gV_zero, bO_some, Option.map_some, hc, e_fC, hi, blO_some, ifO_d, e_fRet, e_fTup, tupO_2, e_fNext]
    unfold frow
    rw [List.map_cons, enumL_cons, loop_cons, t]
    by_cases e : cellText M c = none
    · rw [if_pos e, if_pos e]
    · rw [if_neg e, if_neg e]
      exact frow_ok hM r (j + 1) _ _ fun d hd => h d (.tail _ hd)
theorem fbad_ok {M : Mn} (hM : M ∈ mns) {rows : Dt} : ∀ (rs : List (List (List Nat))) (i : Nat) (x2 x3 x4 x5 : Sl), (∀ r ∈ rs, ∀ c ∈ r, c.length ≤ 2000) →
    match fbad M i rs with
    | some k => loopF (tTp [2, 3]) LT_bad_of_2 (enumL i (rs.map rowD)) (bdEnv rows M x2 x3 x4 x5) = some (.rt (prD (some k)))
    | none => ∃ y2 y3 y4 y5, loopF (tTp [2, 3]) LT_bad_of_2 (enumL i (rs.map rowD)) (bdEnv rows M x2 x3 x4 x5) = some (.nx (bdEnv rows M y2 y3 y4 y5))
  | [], i, x2, x3, x4, x5, _ => ⟨x2, x3, x4, x5, loop_nil⟩
  | r :: rs, i, x2, x3, x4, x5, h => by
    have hr := frow_ok (rows := rows) (i := i) (x3 := .val (rowD r)) hM r 0 x4 x5 (h r (.head _))
    have en : enumD [rowD r] = some (enumL 0 (r.map Dt.str)) := rfl
    have t : turnO (tTp [2, 3]) LT_bad_of_2 (.tup [.int i, rowD r]) (bdEnv rows M x2 x3 x4 x5) = loopF (tTp [4, 5]) LT_bad_of_1 (enumL 0 (r.map Dt.str)) (bdEnv rows M (.val (.int i)) (.val (rowD r)) x4 x5) := by
      simp only [turnO, bdEnv, LT_bad_of_2, e_tTp, e_tNs_cons, e_tNs_nil, List.set_cons_succ, List.set_cons_zero, Option.bind_some, e_fFor, e_fArgs, e_fCons, e_fNil, e_fV, gV_succ, gV_zero, bO_some, Option.map_some, en]
    unfold fbad
    rw [List.map_cons, enumL_cons, loop_cons, t]
    cases e : frow M 0 r with
    | some k =>
      rw [e] at hr
      rw [hr]
      rfl
    | none =>
      rw [e] at hr
      obtain ⟨y4, y5, e2⟩ := hr
      rw [e2]
      exact fbad_ok hM rs (i + 1) _ _ _ _ fun q hq => h q (.tail _ hq)
theorem bad_is {M : Mn} (hM : M ∈ mns) {rows : List (List (List Nat))} (h : ∀ r ∈ rows, ∀ c ∈ r, c.length ≤ 2000) : rt_bad_of [tabD rows, manD M] = some (prD (fbad M 0 rows)) := by
  refine run_rt rfl ?_
  have hb := fbad_ok (rows := tabD rows) hM rows 0 .no .no .no .no h
  have en : enumD [tabD rows] = some (enumL 0 (rows.map rowD)) := rfl
  unfold bdEnv at hb
  cases e : fbad M 0 rows with
  | some k =>
    rw [e] at hb
    simp only [List.map_cons, List.map_nil, List.replicate, List.cons_append, List.nil_append, bt_bad_of, e_fSeq, e_fFor, e_fArgs, e_fCons, e_fNil, e_fV, gV_zero, bO_some, Option.map_some, en, hb, seqO_rt]
  | none =>
    rw [e] at hb
    obtain ⟨y2, y3, y4, y5, e2⟩ := hb
    simp only [List.map_cons, List.map_nil, List.replicate, List.cons_append, List.nil_append, bt_bad_of, e_fSeq, e_fFor, e_fArgs, e_fCons, e_fNil, e_fV, gV_zero, bO_some, Option.map_some, en, e2, seqO_nx, e_fRet, e_fC]
    rfl
theorem frow_none {M : Mn} : ∀ (r : List (List Nat)) (j : Nat), frow M j r = none ↔ ∀ c ∈ r, cellText M c ≠ none
  | [], j => by simp [frow]
  | c :: r, j => by
    unfold frow
    by_cases e : cellText M c = none
    · simp [e]
    · rw [if_neg e, frow_none r (j + 1)]
      simp [e]
theorem fbad_none {M : Mn} : ∀ (rs : List (List (List Nat))) (i : Nat), fbad M i rs = none ↔ ∀ r ∈ rs, ∀ c ∈ r, cellText M c ≠ none
  | [], i => by simp [fbad]
  | r :: rs, i => by
    unfold fbad
    cases e : frow M 0 r with
    | some k =>
      have : ¬ ∀ c ∈ r, cellText M c ≠ none := fun h => by rw [(frow_none r 0).mpr h] at e; cases e
      simp only [reduceCtorEq, List.mem_cons, forall_eq_or_imp, false_iff]
      exact fun h => this h.1
    | none =>
      have := (frow_none r 0).mp e
      simp only [List.mem_cons, forall_eq_or_imp]
      rw [fbad_none rs (i + 1)]
      exact ⟨fun h => ⟨this, h⟩, fun h => h.2⟩
/-! the text of a table -/
def cwS (M : Mn) (c : List Nat) : List Nat := (cellText M c).getD []
def rwS (M : Mn) (r : List (List Nat)) : List Nat := joinL [M.m] (r.map (cwS M)) ++ [10]
def twS (M : Mn) (rows : List (List (List Nat))) : List Nat := rows.flatMap (rwS M)
theorem cwS_len {M : Mn} (hM : MnOk M) (c : List Nat) : (cwS M c).length ≤ 2 * c.length + 2 := by
  unfold cwS
  cases e : cellText M c with
  | none => simp
  | some u => exact cellText_len hM e
def wtR (r : List (List Nat)) : Nat := (r.map fun c => 2 * c.length + 3).sum + 1
def wtT (rows : List (List (List Nat))) : Nat := (rows.map wtR).sum
theorem rw_sum {M : Mn} (hM : MnOk M) : ∀ r : List (List Nat), ((r.map (cwS M)).map List.length).sum + r.length ≤ (r.map fun c => 2 * c.length + 3).sum
  | [] => Nat.le_refl _
  | c :: r => by
    have h1 := rw_sum hM r
    have h2 := cwS_len hM c
    simp only [List.map_cons, List.sum_cons, List.length_cons]
    omega
theorem rwS_len {M : Mn} (hM : MnOk M) (r : List (List Nat)) : (rwS M r).length ≤ wtR r := by
  have h1 := rw_sum hM r
  have h2 := joinL_len [M.m] (r.map (cwS M))
  unfold rwS wtR
  simp only [List.length_append, List.length_cons, List.length_nil, List.length_map, Nat.mul_one] at *
  omega
theorem twS_len {M : Mn} (hM : MnOk M) : ∀ rows : List (List (List Nat)), (twS M rows).length ≤ wtT rows
  | [] => Nat.le_refl _
  | r :: rows => by
    have h1 := twS_len hM rows
    have h2 := rwS_len hM r
    unfold twS wtT at *
    simp only [List.flatMap_cons, List.length_append, List.map_cons, List.sum_cons]
    omega
theorem joinL_none : ∀ l : List (List Nat), joinL [] l = l.flatten
  | [] => rfl
  | [x] => by simp [joinL]
  | x :: y :: l => by
    have := joinL_none (y :: l)
    simp only [joinL, List.append_nil, this, List.flatten_cons]
theorem sum_le {α : Type} (f g : α → Nat) (h : ∀ x, f x ≤ g x) : ∀ l : List α, (l.map f).sum ≤ (l.map g).sum
  | [] => Nat.le_refl _
  | x :: l => by
    have h1 := h x
    have h2 := sum_le f g h l
    simp only [List.map_cons, List.sum_cons]
    omega
theorem wt_mem {rows : List (List (List Nat))} {r : List (List Nat)} (h : r ∈ rows) : wtR r ≤ wtT rows := by
  unfold wtT
  induction rows with
  | nil => cases h
  | cons x rows ih =>
    simp only [List.map_cons, List.sum_cons]
    cases h with
    | head => omega
    | tail _ h => have := ih h; omega
theorem wt_len (rows : List (List (List Nat))) : rows.length ≤ wtT rows := by
  unfold wtT
  induction rows with
  | nil => exact Nat.le_refl _
  | cons x rows ih =>
    have h1 : 1 ≤ wtR x := Nat.le_add_left _ _
    simp only [List.map_cons, List.sum_cons, List.length_cons]
    omega
theorem wtR_len (r : List (List Nat)) : r.length ≤ wtR r := by
  unfold wtR
  induction r with
  | nil => exact Nat.zero_le _
  | cons x r ih =>
    simp only [List.map_cons, List.sum_cons, List.length_cons] at *
    omega
theorem wtR_mem {r : List (List Nat)} {c : List Nat} (h : c ∈ r) : c.length ≤ wtR r := by
  unfold wtR
  induction r with
  | nil => cases h
  | cons x r ih =>
    simp only [List.map_cons, List.sum_cons]
    cases h with
    | head => omega
    | tail _ h => have := ih h; omega
theorem text_is {M : Mn} (hM : M ∈ mns) {rows : List (List (List Nat))} (h : fbad M 0 rows = none) (hw : wtT rows ≤ 2000) : rt_text_of [tabD rows, manD M] = some (.str (twS M rows)) := by
  have hO := mn_ok hM
  refine run_rt rfl ?_
  have hno := (fbad_none rows 0).mp h
  have hlen := wt_len rows
  have row : ∀ r ∈ rows, ∀ (x3 : Sl), (fOp addD (fOp joinD (fOp ixD (fPl (fV 1)) (fC (.int 0))) (fL (fComp (fItems (fV 2)) 3 [3] fYes (fCall rt_cell_of (fCons (fV 3) (fCons (fV 1) fNil)))))) (fC (.str [10]))) [.val (tabD rows), .val (manD M), .val (rowD r), x3] = some (.str (rwS M r)) := fun r hr x3 => by
    have hwr := wt_mem hr
    have hrl := wtR_len r
    have hc : fComp (fItems (fV 2)) 3 [3] fYes (fCall rt_cell_of (fCons (fV 3) (fCons (fV 1) fNil))) [.val (tabD rows), .val (manD M), .val (rowD r), x3] = some ((r.map (cwS M)).map Dt.str) := by
      rw [e_fComp (items := r.map Dt.str) (h := by simp [rowD]) (hl := by rw [List.length_map]; omega)]
      refine comp_map Dt.str Dt.str (cwS M) r fun c hcr => ?_
      have hcl := wtR_mem hcr
      have hcell := cell_is hM (c := c) (by omega)
      have hn := hno r hr c hcr
      cases e : cellText M c with
      | none => exact absurd e hn
      | some u =>
        rw [e] at hcell
        have e2 : cwS M c = u := by unfold cwS; rw [e]; rfl
        rw [e2]
        simp [hcell, optD]
    have h1 := rw_sum hO r
    have h2 := joinL_len [M.m] (r.map (cwS M))
    have hM0 : ixD ((manD M).pl) (.int 0) = some (.str [M.m]) := ixD_t0 _ _
    have hwr2 : (r.map fun c => 2 * c.length + 3).sum + 1 ≤ wtT rows := hwr
    have hj := joinD_map [M.m] (r.map (cwS M)) (by simp only [List.length_cons, List.length_nil, List.length_map, Nat.mul_one]; rw [List.length_map] at *; omega)
    have ha : addD (.str (joinL [M.m] (r.map (cwS M)))) (.str [10]) = some (.str (joinL [M.m] (r.map (cwS M)) ++ [10])) := addD_s1 _ _ (by simp only [List.length_cons, List.length_nil, List.length_map, Nat.mul_one] at h2; omega)
    have hpl : fPl (fV 1) [.val (tabD rows), .val (manD M), .val (rowD r), x3] = some ((manD M).pl) := rfl
    simp only [e_fOp, hpl, e_fC, bO_some, hM0, e_fL, hc, Option.map_some, hj, ha]
    rfl
  have hc : fComp (fItems (fV 0)) 2 [2] fYes (fOp addD (fOp joinD (fOp ixD (fPl (fV 1)) (fC (.int 0))) (fL (fComp (fItems (fV 2)) 3 [3] fYes (fCall rt_cell_of (fCons (fV 3) (fCons (fV 1) fNil)))))) (fC (.str [10]))) [.val (tabD rows), .val (manD M), .no, .no] = some ((rows.map (rwS M)).map Dt.str) := by
    rw [e_fComp (items := rows.map rowD) (h := by simp [tabD]) (hl := by rw [List.length_map]; omega)]
    exact comp_map rowD Dt.str (rwS M) rows fun r hr => row r hr .no
  have hl := twS_len hO rows
  have hs : ((rows.map (rwS M)).map List.length).sum ≤ wtT rows := by
    unfold wtT
    rw [List.map_map]
    exact sum_le _ _ (fun r => rwS_len hO r) rows
  have hj := joinD_map [] (rows.map (rwS M)) (by simp only [List.length_nil, Nat.mul_zero]; omega)
  rw [joinL_none] at hj
  simp only [List.map_cons, List.map_nil, List.replicate, List.cons_append, List.nil_append, bt_text_of, e_fRet, e_fOp, e_fC, bO_some, e_fL, hc, Option.map_some, hj]
  rfl
end W

namespace W
open PySem PL
/-! what is equal -/
theorem eqF_refl : ∀ (n : Nat) (d : Dt), okD n d = true → eqF n d d = true
  | _, .non, _ => by rw [eqF]
  | _, .bl a, _ => by rw [eqF]; exact beq_self_eq_true a
  | _, .int i, _ => by rw [eqF]; exact beq_self_eq_true i
  | _, .str x, _ => by rw [eqF]; exact beq_self_eq_true x
  | n + 1, .lst l, h => by
    have h' : l.all (okD n) = true := h
    show allEq (eqF n) l l = true
    induction l with
    | nil => rfl
    | cons x l ih =>
      rw [List.all_cons, Bool.and_eq_true] at h'
      rw [allEq, eqF_refl n x h'.1, ih h'.2 h'.2]; rfl
  | n + 1, .tup l, h => by
    have h' : l.all (okD n) = true := h
    show allEq (eqF n) l l = true
    induction l with
    | nil => rfl
    | cons x l ih =>
      rw [List.all_cons, Bool.and_eq_true] at h'
      rw [allEq, eqF_refl n x h'.1, ih h'.2 h'.2]; rfl
  | 0, .lst _, h => by cases h
  | 0, .tup _, h => by cases h
  | n, .scr _, h => by cases n <;> cases h
  | n, .obj _ _, h => by cases n <;> cases h
  | n, .dic _ _, h => by cases n <;> cases h
  | n, .adr _, h => by cases n <;> cases h
  | n, .ty _, h => by cases n <;> cases h
  | n, .cls _, h => by cases n <;> cases h
  | n, .man _ _ _, h => by cases n <;> cases h
def goodR (rows : List (List (List Nat))) : Prop := ∀ r ∈ rows, ∀ t ∈ r, good t
theorem good_code {t : List Nat} (g : good t) : (t.all fun c => decide (c < 1114112)) = true := by
  rw [List.all_eq_true]
  intro c hc
  have : ∀ c ∈ sgs, c < 1114112 := by decide
  exact decide_eq_true (this c (g c hc))
theorem okD_str {n : Nat} {t : List Nat} (g : good t) : okD n (.str t) = true := by
  have : okD n (.str t) = t.all fun c => decide (c < 1114112) := by cases n <;> rfl
  rw [this]; exact good_code g
theorem okD_row {n : Nat} {r : List (List Nat)} (g : ∀ t ∈ r, good t) : okD (n + 1) (rowD r) = true := by
  show (r.map Dt.str).all (okD n) = true
  rw [List.all_map, List.all_eq_true]
  intro t ht
  exact okD_str (g t ht)
theorem okD_tab {n : Nat} {rows : List (List (List Nat))} (g : goodR rows) : okD (n + 2) (tabD rows) = true := by
  show (rows.map rowD).all (okD (n + 1)) = true
  rw [List.all_map, List.all_eq_true]
  intro r hr
  exact okD_row (g r hr)
theorem allEq_map {α : Type} [DecidableEq α] {f : α → Dt} {e : Dt → Dt → Bool} (h : ∀ x y, e (f x) (f y) = decide (x = y)) : ∀ (l m : List α), allEq e (l.map f) (m.map f) = decide (l = m)
  | [], [] => rfl
  | [], y :: m => rfl
  | x :: l, [] => rfl
  | x :: l, y :: m => by
    rw [List.map_cons, List.map_cons, allEq, h, allEq_map h l m]
    by_cases z : x = y <;> by_cases z2 : l = m <;> simp [z, z2]
theorem eq_str (n : Nat) (x y : List Nat) : eqF n (.str x) (.str y) = decide (x = y) := by
  have : eqF n (.str x) (.str y) = (x == y) := by cases n <;> rfl
  rw [this]
  by_cases h : x = y <;> simp [h]
theorem eq_row (n : Nat) (x y : List (List Nat)) : eqF (n + 1) (rowD x) (rowD y) = decide (x = y) := allEq_map (eq_str n) x y
theorem eq_tab (n : Nat) (x y : List (List (List Nat))) : eqF (n + 2) (tabD x) (tabD y) = decide (x = y) := allEq_map (eq_row n) x y
theorem ne_tab {a b : List (List (List Nat))} (ga : goodR a) (gb : goodR b) : neD (tabD a) (tabD b) = some (.bl (!decide (a = b))) := by
  have h : neD (tabD a) (tabD b) = if okD 9 (tabD a) = true ∧ okD 9 (tabD b) = true then some (.bl (!eqF 9 (tabD a) (tabD b))) else none := rfl
  rw [h, if_pos ⟨okD_tab ga, okD_tab gb⟩, eq_tab 7]
theorem eqD_tab {a b : List (List (List Nat))} (ga : goodR a) (gb : goodR b) : eqD (tabD a) (tabD b) = some (.bl (decide (a = b))) := by
  have h : eqD (tabD a) (tabD b) = if okD 9 (tabD a) = true ∧ okD 9 (tabD b) = true then some (.bl (eqF 9 (tabD a) (tabD b))) else none := rfl
  rw [h, if_pos ⟨okD_tab ga, okD_tab gb⟩, eq_tab 7]
theorem goodR_app {a b : List (List (List Nat))} (ga : goodR a) (gb : goodR b) : goodR (a ++ b) := fun r hr => (List.mem_append.mp hr).elim (ga r) (gb r)
end W

/-! ### what is asked of tables -/
namespace W
open PySem PL
theorem csigns_ok {t : List Nat} {most : Nat} (hm : most ≤ 10000) (ht : t.length ≤ most) (g : good t) : r_is_signs [.str t, .int most] = some (.bl true) := by
  refine run_rt rfl ?_
  have hc : fComp (fItems (fV 0)) 2 [2] fYes (fOp inD (fV 2) (fC (.str zs_SIGNS))) [.val (.str t), .val (.int most), .no] = some ((t.map fun c => zs_SIGNS.contains c).map Dt.bl) := by
    rw [e_fComp (items := signsOf t) (h := by simp) (hl := by simp [signsOf]; omega)]
    exact comp_map (fun c => .str [c]) Dt.bl (fun c => zs_SIGNS.contains c) t fun c _ => by simp
  have ha : ((t.map fun c => zs_SIGNS.contains c).all id) = true := by
    rw [List.all_map, List.all_eq_true]
    intro c hc
    exact List.contains_iff_mem.mpr (g c hc)
  have hall := allD_map (t.map fun c => zs_SIGNS.contains c)
  rw [ha] at hall
  simp (disch := omega) [b_is_signs, isi_s, hc, hall, ht, -List.map_map, -List.contains_eq_mem]
theorem isi_l (z : List Dt) : isiD sub [.lst z, .ty "list"] = some (.bl true) := rfl
theorem row_is {r : List (List Nat)} (h : RowOk r) : r_is_row [rowD r] = some (.bl true) := by
  refine run_rt rfl ?_
  have hl := h.hi
  have hlo := h.lo
  have hc : fComp (fItems (fV 0)) 1 [1] fYes (fCall r_is_signs (fCons (fV 1) (fCons (fC (.int 8)) fNil))) [.val (rowD r), .no] = some ((r.map fun _ => true).map Dt.bl) := by
    rw [e_fComp (items := r.map Dt.str) (h := by simp [rowD]) (hl := by rw [List.length_map]; omega)]
    refine comp_map Dt.str Dt.bl (fun _ => true) r fun t ht => ?_
    have := csigns_ok (t := t) (most := 8) (by decide) (h.g t ht).2 (h.g t ht).1
    have this' : r_is_signs [.str t, .int 8] = some (.bl true) := this
    simp [this']
  have hall : allD [.lst ((r.map fun _ => true).map Dt.bl)] = some (.bl true) := by
    rw [allD_map, List.all_map]
    congr 2
    rw [List.all_eq_true]; intro x _; rfl
  have hlen : lenD [rowD r] = some (.int r.length) := by
    show some (Dt.int ((r.map Dt.str).length : Nat)) = _
    rw [List.length_map]
  have hi : isiD sub [rowD r, .ty "list"] = some (.bl true) := rfl
  have e1 : decide ((1 : Int) ≤ r.length) = true := decide_eq_true (by omega)
  have e2 : decide ((r.length : Int) ≤ 6) = true := decide_eq_true (by omega)
  have hch : fChain leD leD (fC (.int 1)) (fCall lenD (fCons (fV 0) fNil)) (fC (.int 6)) [.val (rowD r), .no] = some (.bl true) := by
    unfold fChain
    show (match leD (.int 1) (.int r.length) with | _ => _) = _
    simp [hlen, e1, e2]
  simp only [List.map_cons, List.map_nil, List.replicate, List.cons_append, List.nil_append, b_is_row, e_fSeq, e_fIfS, frzE_cons, frzE_nil, frz1_val, frz1_no, e_fOr, e_fNot, e_asB, e_fCall, e_fCons, e_fNil, e_fV, gV_zero, gV_succ, e_fC, bO_some, Option.map_some, hi, blO_some, Bool.not_true, orO_f, hch, ifO_f, e_fNext, seqO_nx, e_fRet, e_fL, hc, hall]
theorem check_table_ok {a : List (List (List Nat))} (h : TabOk a) : r_check_table [tabD a] = some .non := by
  refine run_nx (r := [.val (tabD a), .no]) rfl ?_
  have hl := h.len
  have hc : fComp (fItems (fV 0)) 1 [1] fYes (fCall r_is_row (fCons (fV 1) fNil)) [.val (tabD a), .no] = some ((a.map fun _ => true).map Dt.bl) := by
    rw [e_fComp (items := a.map rowD) (h := by simp [tabD]) (hl := by rw [List.length_map]; omega)]
    refine comp_map rowD Dt.bl (fun _ => true) a fun r hr => ?_
    have := row_is (h.g r hr)
    simp [this]
  have hall : allD [.lst ((a.map fun _ => true).map Dt.bl)] = some (.bl true) := by
    rw [allD_map, List.all_map]
    congr 2
    rw [List.all_eq_true]; intro x _; rfl
  have hlen : lenD [tabD a] = some (.int a.length) := by
    show some (Dt.int ((a.map rowD).length : Nat)) = _
    rw [List.length_map]
  have hi : isiD sub [tabD a, .ty "list"] = some (.bl true) := rfl
  have e2 : decide ((12 : Int) < a.length) = false := decide_eq_false (by omega)
  simp only [List.map_cons, List.map_nil, List.replicate, List.cons_append, List.nil_append, b_check_table, e_fIfS, frzE_cons, frzE_nil, frz1_val, frz1_no, e_fOr, e_fNot, e_asB, e_fOp, gtD_i, e_fCall, e_fCons, e_fNil, e_fV, gV_zero, gV_succ, e_fC, bO_some, Option.map_some, hi, blO_some, Bool.not_true, orO_f, hlen, e2, e_fL, hc, hall, ifO_f, e_fNext]
end W

namespace W
open PySem PL
theorem check_manner_ok {M : Mn} (hM : M ∈ mns) : r_check_manner [mnD M] = some .non := by
  have : (mns.all fun M => match r_check_manner [mnD M] with | some .non => true | _ => false) = true := by decide +kernel
  have h := List.all_eq_true.mp this M hM
  revert h
  split
  · intro _; assumption
  · intro h; cases h
end W

/-! ### what can't be written, what is written, of tables -/
namespace W
open PySem PL
theorem e_fPl (f : PL.Env → Option Dt) (r : PL.Env) : fPl f r = (f r).map Dt.pl := rfl
theorem tab_len {rows : List (List (List Nat))} (h : TabOk rows) : ∀ r ∈ rows, ∀ c ∈ r, c.length ≤ 2000 := fun r hr c hc => by
  have := ((h.g r hr).g c hc).2
  omega
theorem wt_row {r : List (List Nat)} (h : RowOk r) : wtR r ≤ 115 := by
  have : ∀ l : List (List Nat), (∀ t ∈ l, t.length ≤ 8) → (l.map fun c => 2 * c.length + 3).sum ≤ 19 * l.length := by
    intro l
    induction l with
    | nil => intro _; exact Nat.le_refl _
    | cons c l ih =>
      intro h
      have h1 := ih fun t ht => h t (.tail _ ht)
      have h2 := h c (.head _)
      simp only [List.map_cons, List.sum_cons, List.length_cons]
      omega
  have h1 := this r fun t ht => (h.g t ht).2
  have h2 := h.hi
  unfold wtR
  omega
theorem wt_tab {rows : List (List (List Nat))} (h : TabOk rows) : wtT rows ≤ 1380 := by
  have : ∀ l : List (List (List Nat)), (∀ r ∈ l, RowOk r) → wtT l ≤ 115 * l.length := by
    intro l
    induction l with
    | nil => intro _; exact Nat.le_refl _
    | cons r l ih =>
      intro h
      have h1 := ih fun t ht => h t (.tail _ ht)
      have h2 := wt_row (h r (.head _))
      unfold wtT at *
      simp only [List.map_cons, List.sum_cons, List.length_cons]
      omega
  have h1 := this rows h.g
  have h2 := h.len
  omega
theorem unw_is {M : Mn} (hM : M ∈ mns) {rows : List (List (List Nat))} (h : TabOk rows) : rt_unwritable [tabD rows, manD M] = some (prD (fbad M 0 rows)) := by
  refine run_rt rfl ?_
  have h1 := check_table_ok h
  have h2 : r_check_manner [(manD M).pl] = some .non := check_manner_ok hM
  have h3 := bad_is hM (tab_len h)
  simp only [List.map_cons, List.map_nil, List.replicate, List.cons_append, List.nil_append, bt_unwritable, e_fSeq, e_fDrop, e_fCall, e_fCons, e_fNil, e_fV, gV_zero, gV_succ, bO_some, Option.map_some, h1, seqO_nx, e_fPl, h2, e_fRet, h3]
theorem wrt_is {M : Mn} (hM : M ∈ mns) {rows : List (List (List Nat))} (h : TabOk rows) (hb : fbad M 0 rows = none) : rt_written [tabD rows, manD M] = some (.str (twS M rows)) := by
  refine run_rt rfl ?_
  have h1 := check_table_ok h
  have h2 : r_check_manner [(manD M).pl] = some .non := check_manner_ok hM
  have h3 := bad_is hM (tab_len h)
  have h4 := text_is hM hb (by have := wt_tab h; omega)
  rw [hb] at h3
  simp only [List.map_cons, List.map_nil, List.replicate, List.cons_append, List.nil_append, bt_written, e_fSeq, e_fDrop, e_fCall, e_fCons, e_fNil, e_fV, gV_zero, gV_succ, bO_some, Option.map_some, h1, seqO_nx, e_fPl, h2, e_fIfS, frzE_cons, frzE_nil, frz1_val, e_asB, e_fOp, h3, e_fC, prD, isnD_n, blO_some, ifO_f, e_fNext, e_fRet, h4]
theorem manner_okT (ns : List Int) (k : Nat) (hk : k ≤ 100000) : ∃ M, M ∈ mns ∧ rt__law_manner [.scr ns, .int k] = some (manD M) := by
  obtain ⟨c, hc⟩ := cell_at_ok ns k
  obtain ⟨m, hm, h⟩ := num_nat c (k + 7) 24 (by omega) (by decide) (by decide)
  have hm' : r__law_number [.int c, .int (k + 7), .int 24] = some (.int m) := hm
  have hl : m < mns.length := h
  refine ⟨mns[m], List.getElem_mem hl, run_rt rfl ?_⟩
  have e : ixD (.lst (mns.map manD)) (.int m) = some (manD mns[m]) := by
    rw [ixD_l, List.getElem?_map, List.getElem?_eq_getElem hl]; rfl
  simp (disch := omega) [bt__law_manner, hc, hm', mansT_eq, e]
/-! slices -/
theorem cut_last {α : Type} (l : List α) : cutL l none (some (-1 : Int)) = l.dropLast := by
  unfold cutL
  have h : HT.sIx l.length l.length (some (-1 : Int)) = l.length - 1 := by
    show (if (-1 : Int) < 0 then ((-1 : Int) + (l.length : Int)).toNat else min (-1 : Int).toNat l.length) = _
    rw [if_pos (by decide)]; omega
  rw [HT.sIx_none, h, List.drop_zero, Nat.sub_zero, List.dropLast_eq_take]
theorem pick_mem {α : Type} {l : List α} {lo hi st : Option Int} {x : α} (h : x ∈ pickL l lo hi st) : x ∈ l := by
  unfold pickL at h
  obtain ⟨i, _, hi⟩ := List.mem_filterMap.mp h
  obtain ⟨h1, h2⟩ := List.getElem?_eq_some_iff.mp hi
  rw [← h2]; exact List.getElem_mem h1
theorem range_all {α : Type} (l : List α) : (List.range l.length).filterMap (l[·]?) = l := by
  induction l with
  | nil => rfl
  | cons x l ih =>
    rw [List.length_cons, List.range_succ_eq_map, List.filterMap_cons_some (List.getElem?_cons_zero), List.filterMap_map]
    congr 1
theorem pick_back {α : Type} (l : List α) : pickL l none none (some (-1)) = l.reverse := by
  unfold pickL
  rw [PySem.W.krv_bounds]
  show (sliceRange ((l.length : Int) - 1) (-1) (-1)).filterMap (l[·]?) = _
  rw [PySem.W.krv_sliceRange, PySem.W.krv_range, List.filterMap_reverse, range_all]
theorem step_back {l : List Dt} (h : l.length ≤ 1000000) : stepD (.lst l) none none (some (-1)) = some (.lst l.reverse) := by
  have e : stepD (.lst l) none none (some (-1)) = if some (-1 : Int) ≠ some 0 ∧ (pickL l none none (some (-1))).length ≤ 1000000 then some (.lst (pickL l none none (some (-1)))) else none := rfl
  rw [e, if_pos ⟨by simp, by rw [pick_back, List.length_reverse]; exact h⟩, pick_back]
/-! the cells that can't be written, all -/
def arow (M : Mn) (i : Nat) : Nat → List (List Nat) → List (Nat × Nat)
  | _, [] => []
  | j, c :: r => (if cellText M c = none then [(i, j)] else []) ++ arow M i (j + 1) r
def aall (M : Mn) : Nat → List (List (List Nat)) → List (Nat × Nat)
  | _, [] => []
  | i, r :: rs => arow M i 0 r ++ aall M (i + 1) rs
theorem arow_head {M : Mn} {i : Nat} : ∀ (r : List (List Nat)) (j : Nat), (arow M i j r).head? = (frow M j r).map fun k => (i, k)
  | [], _ => rfl
  | c :: r, j => by
    unfold arow frow
    by_cases h : cellText M c = none
    · rw [if_pos h, if_pos h]; rfl
    · rw [if_neg h, if_neg h, List.nil_append, arow_head r (j + 1)]
theorem aall_head {M : Mn} : ∀ (rs : List (List (List Nat))) (i : Nat), (aall M i rs).head? = fbad M i rs
  | [], _ => rfl
  | r :: rs, i => by
    unfold aall fbad
    have h := arow_head (M := M) (i := i) r 0
    rw [List.head?_append, h]
    cases frow M 0 r with
    | some k => rfl
    | none => exact aall_head rs (i + 1)
theorem arow_len {M : Mn} {i : Nat} : ∀ (r : List (List Nat)) (j : Nat), (arow M i j r).length ≤ r.length
  | [], _ => Nat.le_refl _
  | c :: r, j => by
    have := arow_len (M := M) (i := i) r (j + 1)
    unfold arow
    split <;> simp <;> omega
theorem aall_len {M : Mn} : ∀ (rs : List (List (List Nat))) (i : Nat), (∀ r ∈ rs, r.length ≤ 6) → (aall M i rs).length ≤ 6 * rs.length
  | [], _, _ => Nat.le_refl _
  | r :: rs, i, h => by
    have h1 := aall_len (M := M) rs (i + 1) fun r hr => h r (.tail _ hr)
    have h2 := arow_len (M := M) (i := i) r 0
    have h3 := h r (.head _)
    unfold aall
    simp only [List.length_append, List.length_cons]
    omega
theorem fbad_shift {M : Mn} (k : Nat) : ∀ (rs : List (List (List Nat))) (i : Nat), fbad M (i + k) rs = (fbad M i rs).map fun p => (p.1 + k, p.2)
  | [], _ => rfl
  | r :: rs, i => by
    unfold fbad
    cases frow M 0 r with
    | some j => rfl
    | none =>
      have := fbad_shift (M := M) k rs (i + 1)
      simp only
      rw [← this]
      congr 1
      omega
theorem fbad_app {M : Mn} : ∀ (rs ss : List (List (List Nat))) (i : Nat), fbad M i (rs ++ ss) = match fbad M i rs with
    | some p => some p
    | none => fbad M (i + rs.length) ss
  | [], ss, i => rfl
  | r :: rs, ss, i => by
    rw [List.cons_append]
    unfold fbad
    cases frow M 0 r with
    | some j => rfl
    | none =>
      simp only
      rw [fbad_app rs ss (i + 1)]
      have : i + 1 + rs.length = i + (r :: rs).length := by simp only [List.length_cons]; omega
      rw [this]
      cases fbad M (i + 1) rs with
      | some p => rfl
      | none =>
        simp only
        cases ss <;> rfl
theorem fbad_nilR {M : Mn} (i : Nat) : fbad M i [] = none := rfl
def pD (p : Nat × Nat) : Dt := .tup [.int p.1, .int p.2]
theorem prD_ne (o : Option (Nat × Nat)) : neD (prD o) (prD o) = some (.bl false) := by
  rcases o with _ | ⟨i, j⟩
  · rfl
  · show some (Dt.bl (!(((i : Int) == (i : Int)) && (((j : Int) == (j : Int)) && true)))) = _
    simp
theorem al_ne (l : List (Nat × Nat)) : neD (.lst (l.map pD)) (.lst []) = some (.bl (match l with | [] => false | _ => true)) := by
  have hk : okD 9 (.lst (l.map pD)) = true := by
    show (l.map pD).all (okD 8) = true
    rw [List.all_map, List.all_eq_true]
    intro p _
    rfl
  have h : neD (.lst (l.map pD)) (.lst []) = if okD 9 (.lst (l.map pD)) = true ∧ okD 9 (.lst []) = true then some (.bl (!eqF 9 (.lst (l.map pD)) (.lst []))) else none := rfl
  rw [h, if_pos ⟨hk, rfl⟩]
  cases l <;> rfl
end W

/-! ### the law's own tables and how they are written -/
namespace W
open PySem PL
def rowsEnv (ns : List Int) (by_ : Nat) (M : Mn) (c : Int) (rows : List (List (List Nat))) (wide many : Nat) (x7 x8 : Sl) : PL.Env :=
  [.val (.scr ns), .val (.int by_), .val (mnD M), .val (.int c), .own (rows.map rowD), .val (.int wide), .val (.int many), x7, x8]
theorem rows_1 {ns : List Int} {by_ : Nat} {M : Mn} (hM : MnOk M) (hb : by_ ≤ 1000) {c : Int} {rows : List (List (List Nat))} {wide many : Nat} (hw : wide ≤ 6) {x7 x8 : Sl} (k : Nat) (hk : k < 12) (hl : rows.length = k) (g : ∀ r ∈ rows, RowOk r) :
    ∃ rows' y7 y8, turnO (tNm 7) L__law_rows_1 (.int k) (rowsEnv ns by_ M c rows wide many x7 x8) = some (.nx (rowsEnv ns by_ M c rows' wide many y7 y8)) ∧ rows'.length = k + 1 ∧ ∀ r ∈ rows', RowOk r := by
  obtain ⟨m3, hm3, h3⟩ := num_nat c (by_ + 4) 3 (by omega) (by decide) (by decide)
  have hm3' : r__law_number [.int c, .int (by_ + 4), .int 3] = some (.int m3) := hm3
  obtain ⟨m4, hm4, h4⟩ := num_nat c (by_ + k + 3) 4 (by omega) (by decide) (by decide)
  have hm4' : r__law_number [.int c, .int (by_ + k + 3), .int 4] = some (.int m4) := hm4
  obtain ⟨l, hl6, hlen, hg⟩ := cells_ok ns (by_ + k) M hM (by omega)
  have hl6' : r__law_cells [.scr ns, .int (by_ + k), mnD M] = some (.lst (l.map Dt.str)) := hl6
  have hml : (rows.map rowD).length ≤ 100000 := by rw [List.length_map]; omega
  have key : ∀ more : Int, 0 ≤ more → RowOk (l.take (if (wide : Int) - more > 1 then (wide : Int) - more else 1).toNat) := by
    intro more hmore
    refine ⟨?_, ?_, fun t ht => hg t (List.mem_of_mem_take ht)⟩
    · rw [List.length_take, hlen]; split <;> omega
    · rw [List.length_take, hlen]; omega
  have cut : ∀ more : Int, cutL (l.map Dt.str) none (some (if (wide : Int) - more > 1 then (wide : Int) - more else 1)) = (l.take (if (wide : Int) - more > 1 then (wide : Int) - more else 1).toNat).map Dt.str := by
    intro more
    have : (if (wide : Int) - more > 1 then (wide : Int) - more else 1) = (((if (wide : Int) - more > 1 then (wide : Int) - more else 1).toNat : Nat) : Int) := by split <;> omega
    rw [this, cut_to, List.map_take]; rfl
  by_cases h0 : m3 = 0
  · refine ⟨rows ++ [l.take (if (wide : Int) - (m4 : Int) > 1 then (wide : Int) - (m4 : Int) else 1).toNat], .val (.int k), .val (.int m4), ?_, by simp [hl], ?_⟩
    · have := cut m4
      simp only [gt_iff_lt] at this
      simp (disch := omega) [turnO, rowsEnv, L__law_rows_1, hm3', h0, hm4', hl6', this, rowD]
    · intro u hu
      rcases List.mem_append.mp hu with hu | hu
      · exact g u hu
      · rw [List.mem_singleton.mp hu]; exact key m4 (by omega)
  · refine ⟨rows ++ [l.take (if (wide : Int) - (0 : Int) > 1 then (wide : Int) - (0 : Int) else 1).toNat], .val (.int k), .val (.int 0), ?_, by simp [hl], ?_⟩
    · have := cut 0
      simp only [gt_iff_lt, Int.sub_zero] at this
      simp (disch := omega) [turnO, rowsEnv, L__law_rows_1, hm3', h0, hl6', this, rowD]
    · intro u hu
      rcases List.mem_append.mp hu with hu | hu
      · exact g u hu
      · rw [List.mem_singleton.mp hu]; exact key 0 (by omega)
theorem rows_ok (ns : List Int) (by_ : Nat) (M : Mn) (hM : MnOk M) (hb : by_ ≤ 1000) : ∃ rows, r__law_rows [.scr ns, .int by_, mnD M] = some (tabD rows) ∧ TabOk rows := by
  obtain ⟨c, hc⟩ := cell_at_ok ns by_
  have go : ∀ wide many : Nat, wide ≤ 6 → many ≤ 12 → ∃ rows y7 y8, loopF (tNm 7) L__law_rows_1 (rangeL 0 1 many) (rowsEnv ns by_ M c [] wide many .no .no) = some (.nx (rowsEnv ns by_ M c rows wide many y7 y8)) ∧ rows.length = many ∧ ∀ r ∈ rows, RowOk r := by
    intro wide many hw hm
    obtain ⟨r', e, rows, y7, y8, rfl, hl, g⟩ := loop_ix0 (t := tNm 7) (b := L__law_rows_1) (fun k r => ∃ rows y7 y8, r = rowsEnv ns by_ M c rows wide many y7 y8 ∧ rows.length = k ∧ ∀ r ∈ rows, RowOk r) (rangeL 0 1 many) (rowsEnv ns by_ M c [] wide many .no .no)
      (fun k x hx r ⟨rows, y7, y8, er, hl, g⟩ => by
        obtain ⟨hj, rfl⟩ := range_get hx
        rw [er]
        obtain ⟨l', z7, z8, e, hl', g'⟩ := rows_1 (ns := ns) (by_ := by_) (c := c) (many := many) hM hb hw (rows := rows) (x7 := y7) (x8 := y8) k (by omega) hl g
        refine ⟨_, .inl ?_, l', z7, z8, rfl, hl', g'⟩
        rw [show ((0 : Int) + (k : Int) * 1) = (k : Int) by omega]
        exact e)
      ⟨[], .no, .no, rfl, rfl, fun _ h => by cases h⟩
    rw [range_len] at hl
    exact ⟨rows, y7, y8, e, hl, g⟩
  obtain ⟨m1, hm1, h1⟩ := num_nat c (by_ + 1) 4 (by omega) (by decide) (by decide)
  have hm1' : r__law_number [.int c, .int (by_ + 1), .int 4] = some (.int m1) := hm1
  obtain ⟨m2, hm2, h2⟩ := num_nat c (by_ + 2) 5 (by omega) (by decide) (by decide)
  have hm2' : r__law_number [.int c, .int (by_ + 2), .int 5] = some (.int m2) := hm2
  obtain ⟨m9, hm9, h9⟩ := num_nat c (by_ + 9) 16 (by omega) (by decide) (by decide)
  have hm9' : r__law_number [.int c, .int (by_ + 9), .int 16] = some (.int m9) := hm9
  by_cases h0 : m9 = 0
  · obtain ⟨rows, y7, y8, e, hl, g⟩ := go 6 12 (by decide) (by decide)
    refine ⟨rows, run_rt rfl ?_, by omega, g⟩
    have e' : loopF (tNm 7) L__law_rows_1 (rangeL 0 1 12) [.val (.scr ns), .val (.int by_), .val (mnD M), .val (.int c), .own [], .val (.int 6), .val (.int 12), .no, .no] = _ := e
    unfold rowsEnv at e'
    simp (disch := omega) [b__law_rows, fLst, hc, hm1', hm2', hm9', h0, e', tabD]
  · obtain ⟨rows, y7, y8, e, hl, g⟩ := go (1 + m1) m2 (by omega) (by omega)
    refine ⟨rows, run_rt rfl ?_, by omega, g⟩
    have e' : loopF (tNm 7) L__law_rows_1 (rangeL 0 1 m2) [.val (.scr ns), .val (.int by_), .val (mnD M), .val (.int c), .own [], .val (.int (1 + m1)), .val (.int m2), .no, .no] = _ := e
    unfold rowsEnv at e'
    simp (disch := omega) [b__law_rows, fLst, hc, hm1', hm2', hm9', h0, e', tabD]
end W

/-! ### the law: cell by cell -/
namespace W
open PySem PL
theorem e_fStep (a : PL.Env → Option Dt) (lo hi st : PL.Env → Option (Option Int)) (r : PL.Env) : fStep a lo hi st r = bO (a r) fun d => bO (lo r) fun l => bO (hi r) fun h => bO (st r) fun k => stepD d l h k := rfl
def lwEnv (ns : List Int) (x1 x2 x3 x4 x5 x6 x7 x8 x9 x10 x11 x12 x13 x14 x15 x16 : Sl) : PL.Env := [.val (.scr ns), x1, x2, x3, x4, x5, x6, x7, x8, x9, x10, x11, x12, x13, x14, x15, x16]
theorem cell_tab {c : List Nat} (h : good c ∧ c.length ≤ 8) : TabOk [[c]] :=
  ⟨by simp, fun r hr => by
    rw [List.mem_singleton.mp hr]
    exact ⟨by simp, by simp, fun t ht => by rw [List.mem_singleton.mp ht]; exact h⟩⟩
theorem cell_bad (M : Mn) (c : List Nat) : fbad M 0 [[c]] = if cellText M c = none then some (0, 0) else none := by
  unfold fbad frow
  by_cases h : cellText M c = none
  · rw [if_pos h, if_pos h]
  · rw [if_neg h, if_neg h]; rfl
theorem lw_1 {ns : List Int} {M : Mn} (hM : M ∈ mns) {x1 x2 x3 x4 x6 x7 x10 x13 x14 x15 x16 : Sl} {i : Nat} : ∀ (r : List (List Nat)) (j : Nat) (al : List (Nat × Nat)) (x11 x12 : Sl), (∀ c ∈ r, good c ∧ c.length ≤ 8) → al.length + r.length ≤ 1000 →
    ∃ y11 y12, loopF (tTp [11, 12]) LT_law_1 (enumL j (r.map Dt.str)) (lwEnv ns x1 x2 x3 x4 (.val (manD M)) x6 x7 (.own (al.map pD)) (.val (.int i)) x10 x11 x12 x13 x14 x15 x16) = some (.nx (lwEnv ns x1 x2 x3 x4 (.val (manD M)) x6 x7 (.own ((al ++ arow M i j r).map pD)) (.val (.int i)) x10 y11 y12 x13 x14 x15 x16))
  | [], j, al, x11, x12, _, _ => ⟨x11, x12, by
    rw [show arow M i j [] = [] from rfl, List.append_nil]; rfl⟩
  | c :: r, j, al, x11, x12, h, hl => by
    rw [List.length_cons] at hl
    have hu := unw_is hM (cell_tab (h c (.head _)))
    rw [cell_bad] at hu
    have hu' : rt_unwritable [.lst [.lst [.str c]], manD M] = some (prD (if cellText M c = none then some (0, 0) else none)) := hu
    have hap : (al.map pD).length ≤ 100000 := by rw [List.length_map]; omega
    have t : turnO (tTp [11, 12]) LT_law_1 (.tup [.int j, .str c]) (lwEnv ns x1 x2 x3 x4 (.val (manD M)) x6 x7 (.own (al.map pD)) (.val (.int i)) x10 x11 x12 x13 x14 x15 x16) = some (.nx (lwEnv ns x1 x2 x3 x4 (.val (manD M)) x6 x7 (.own ((al ++ if cellText M c = none then [(i, j)] else []).map pD)) (.val (.int i)) x10 (.val (.int j)) (.val (.str c)) x13 x14 x15 x16)) := by
      by_cases e : cellText M c = none
      · rw [if_pos e] at hu' ⊢
        rw [List.map_append]
        simp only [turnO, lwEnv, LT_law_1, e_tTp, e_tNs_cons, e_tNs_nil, List.set_cons_succ, List.set_cons_zero, Option.bind_some, e_fIfS, frzE_cons, frzE_nil, frz1_val, frz1_own, e_asB, e_fOp, e_fCall, e_fCons, e_fNil, e_fL, fLst, e_fV, gV_succ, gV_zero, bO_some, Option.map_some, List.length_cons, List.length_nil, Nat.zero_add, Nat.reduceLeDiff, if_true, hu', prD, e_fC, isnD_n, blO_some, ifO_t, e_fApp', gO_succ, gO_zero, e_fTup, tupO_2, appO_s _ _ _ _ hap, List.map_cons, List.map_nil, pD]
      · rw [if_neg e] at hu' ⊢
        rw [List.append_nil]
        simp only [turnO, lwEnv, LT_law_1, e_tTp, e_tNs_cons, e_tNs_nil, List.set_cons_succ, List.set_cons_zero, Option.bind_some, e_fIfS, frzE_cons, frzE_nil, frz1_val, frz1_own, e_asB, e_fOp, e_fCall, e_fCons, e_fNil, e_fL, fLst, e_fV, gV_succ, gV_zero, bO_some, Option.map_some, List.length_cons, List.length_nil, Nat.zero_add, Nat.reduceLeDiff, if_true, hu', prD, e_fC, isnD_n, blO_some, ifO_f, e_fNext]
    obtain ⟨y11, y12, ih⟩ := lw_1 hM (x1 := x1) (x2 := x2) (x3 := x3) (x4 := x4) (x6 := x6) (x7 := x7) (x10 := x10) (x13 := x13) (x14 := x14) (x15 := x15) (x16 := x16) (i := i) r (j + 1) (al ++ if cellText M c = none then [(i, j)] else []) (.val (.int j)) (.val (.str c)) (fun d hd => h d (.tail _ hd)) (by rw [List.length_append]; split <;> simp <;> omega)
    refine ⟨y11, y12, ?_⟩
    rw [List.map_cons, enumL_cons, loop_cons, t]
    rw [List.append_assoc] at ih
    exact ih
theorem lw_2 {ns : List Int} {M : Mn} (hM : M ∈ mns) {x1 x2 x3 x4 x6 x7 x13 x14 x15 x16 : Sl} : ∀ (rs : List (List (List Nat))) (i : Nat) (al : List (Nat × Nat)) (x9 x10 x11 x12 : Sl), (∀ r ∈ rs, RowOk r) → al.length + 6 * rs.length ≤ 1000 →
    ∃ y9 y10 y11 y12, loopF (tTp [9, 10]) LT_law_2 (enumL i (rs.map rowD)) (lwEnv ns x1 x2 x3 x4 (.val (manD M)) x6 x7 (.own (al.map pD)) x9 x10 x11 x12 x13 x14 x15 x16) = some (.nx (lwEnv ns x1 x2 x3 x4 (.val (manD M)) x6 x7 (.own ((al ++ aall M i rs).map pD)) y9 y10 y11 y12 x13 x14 x15 x16))
  | [], i, al, x9, x10, x11, x12, _, _ => ⟨x9, x10, x11, x12, by
    rw [show aall M i [] = [] from rfl, List.append_nil]; rfl⟩
  | r :: rs, i, al, x9, x10, x11, x12, h, hl => by
    rw [List.length_cons] at hl
    have hr := h r (.head _)
    have h6 := hr.hi
    have ha := arow_len (M := M) (i := i) r 0
    obtain ⟨y11, y12, e⟩ := lw_1 (ns := ns) hM (x1 := x1) (x2 := x2) (x3 := x3) (x4 := x4) (x6 := x6) (x7 := x7) (x10 := .val (rowD r)) (x13 := x13) (x14 := x14) (x15 := x15) (x16 := x16) (i := i) r 0 al x11 x12 hr.g (by omega)
    have en : enumD [rowD r] = some (enumL 0 (r.map Dt.str)) := rfl
    have t : turnO (tTp [9, 10]) LT_law_2 (.tup [.int i, rowD r]) (lwEnv ns x1 x2 x3 x4 (.val (manD M)) x6 x7 (.own (al.map pD)) x9 x10 x11 x12 x13 x14 x15 x16) = some (.nx (lwEnv ns x1 x2 x3 x4 (.val (manD M)) x6 x7 (.own ((al ++ arow M i 0 r).map pD)) (.val (.int i)) (.val (rowD r)) y11 y12 x13 x14 x15 x16)) := by
      unfold lwEnv at e ⊢
      simp only [turnO, LT_law_2, e_tTp, e_tNs_cons, e_tNs_nil, List.set_cons_succ, List.set_cons_zero, Option.bind_some, e_fFor, e_fArgs, e_fCons, e_fNil, e_fV, gV_succ, gV_zero, bO_some, Option.map_some, en, e]
    obtain ⟨z9, z10, z11, z12, ih⟩ := lw_2 hM (x1 := x1) (x2 := x2) (x3 := x3) (x4 := x4) (x6 := x6) (x7 := x7) (x13 := x13) (x14 := x14) (x15 := x15) (x16 := x16) rs (i + 1) (al ++ arow M i 0 r) (.val (.int i)) (.val (rowD r)) y11 y12 (fun d hd => h d (.tail _ hd)) (by rw [List.length_append]; omega)
    refine ⟨z9, z10, z11, z12, ?_⟩
    rw [List.map_cons, enumL_cons, loop_cons, t]
    rw [List.append_assoc] at ih
    exact ih
theorem tw_cell {M : Mn} (c : List Nat) : twS M [[c]] = cwS M c ++ [10] := by simp [twS, rwS, joinL]
theorem row_back {r : List (List Nat)} (h : RowOk r) : TabOk [r.reverse] :=
  ⟨by simp, fun u hu => by
    rw [List.mem_singleton.mp hu]
    exact ⟨by rw [List.length_reverse]; exact h.lo, by rw [List.length_reverse]; exact h.hi, fun t ht => h.g t (List.mem_reverse.mp ht)⟩⟩
theorem row_one {r : List (List Nat)} (h : RowOk r) : TabOk [r] := ⟨by simp, fun u hu => by rw [List.mem_singleton.mp hu]; exact h⟩
theorem lw_3 {ns : List Int} {M : Mn} (hM : M ∈ mns) {x1 x2 x3 x4 x6 x7 x11 x12 x13 x14 : Sl} {r : List (List Nat)} (h : RowOk r) (hn : ∀ c ∈ r, cellText M c ≠ none) {acc : List Nat} (ha : acc.length ≤ 10000) {x8 x9 x10 x16 : Sl} :
    ∃ y8 y9 y10 y16, turnO (tNm 9) LT_law_3 (rowD r) (lwEnv ns x1 x2 x3 x4 (.val (manD M)) x6 x7 x8 x9 x10 x11 x12 x13 x14 (.val (.str acc)) x16) = some (.nx (lwEnv ns x1 x2 x3 x4 (.val (manD M)) x6 x7 y8 y9 y10 x11 x12 x13 x14 (.val (.str (acc ++ rwS M r))) y16)) := by
  have hO := mn_ok hM
  have hl := h.hi
  have hrw := rwS_len hO r
  have hwr := wt_row h
  have hcm : ∀ z8 z9 z10 z16 z12 : Sl, compL 12 fYes (fSlice (fCall rt_written (fCons (fL (fLst (fCons (fL (fLst (fCons (fV 12) fNil))) fNil))) (fCons (fV 5) fNil))) oNo (oSo (fUn fNeg (fC (.int 1))))) (r.map Dt.str) (lwEnv ns x1 x2 x3 x4 (.val (manD M)) x6 x7 z8 z9 z10 x11 z12 x13 x14 (.val (.str acc)) z16) = some ((r.map (cwS M)).map Dt.str) := fun z8 z9 z10 z16 z12 => by
    refine comp_map Dt.str Dt.str (cwS M) r fun c hc => ?_
    have hg := h.g c hc
    have hb : fbad M 0 [[c]] = none := by rw [cell_bad, if_neg (hn c hc)]
    have hw := wrt_is hM (cell_tab hg) hb
    rw [tw_cell] at hw
    have hw' : rt_written [.lst [.lst [.str c]], manD M] = some (.str (cwS M c ++ [10])) := hw
    have hcl := cwS_len hO c
    have hs : sliceD (.str (cwS M c ++ [10])) none (some (-1)) = some (.str (cwS M c)) := by
      rw [sliceD_s _ _ _ (by rw [List.length_append, List.length_singleton]; omega), cut_last, List.dropLast_concat]
    simp only [lwEnv, List.set_cons_succ, List.set_cons_zero, e_fSlice, e_fCall, e_fCons, e_fNil, e_fL, fLst, e_fV, gV_succ, gV_zero, bO_some, Option.map_some, List.length_cons, List.length_nil, Nat.zero_add, Nat.reduceLeDiff, if_true, hw', e_oNo, e_oSo, e_fUn, e_fC, e_fNeg, intO_s, hs]
  have hc : ∀ z8 z10 z16 : Sl, (fComp (fItems (fV 9)) 12 [12] fYes (fSlice (fCall rt_written (fCons (fL (fLst (fCons (fL (fLst (fCons (fV 12) fNil))) fNil))) (fCons (fV 5) fNil))) oNo (oSo (fUn fNeg (fC (.int 1)))))) (lwEnv ns x1 x2 x3 x4 (.val (manD M)) x6 x7 z8 (.val (rowD r)) z10 x11 x12 x13 x14 (.val (.str acc)) z16) = some ((r.map (cwS M)).map Dt.str) := fun z8 z10 z16 => by
    rw [e_fComp (items := r.map Dt.str) (h := by simp [lwEnv, rowD]) (hl := by rw [List.length_map]; omega)]
    exact hcm z8 (.val (rowD r)) z10 z16 .no
  have h1 := rw_sum hO r
  have h2 := joinL_len [M.m] (r.map (cwS M))
  have hM0 : ixD ((manD M).pl) (.int 0) = some (.str [M.m]) := ixD_t0 _ _
  have hwr2 : (r.map fun c => 2 * c.length + 3).sum + 1 ≤ 115 := hwr
  have hjl : (joinL [M.m] (r.map (cwS M))).length ≤ 115 := by
    have : (rwS M r).length = (joinL [M.m] (r.map (cwS M))).length + 1 := by unfold rwS; simp
    omega
  have hj : joinD (.str [M.m]) (.lst ((r.map (cwS M)).map Dt.str)) = some (.str (joinL [M.m] (r.map (cwS M)))) := joinD_map [M.m] (r.map (cwS M)) (by simp only [List.length_cons, List.length_nil, List.length_map, Nat.mul_one]; rw [List.length_map] at *; omega)
  have ha1 : addD (.str acc) (.str (joinL [M.m] (r.map (cwS M)))) = some (.str (acc ++ joinL [M.m] (r.map (cwS M)))) := addD_s _ _ (by omega)
  have ha2 : addD (.str (acc ++ joinL [M.m] (r.map (cwS M)))) (.str [10]) = some (.str (acc ++ joinL [M.m] (r.map (cwS M)) ++ [10])) := addD_s1 _ _ (by rw [List.length_append]; omega)
  have hb1 : fbad M 0 [r.reverse] = none := (fbad_none _ 0).mpr fun u hu c hc => by
    rw [List.mem_singleton.mp hu] at hc
    exact hn c (List.mem_reverse.mp hc)
  have hwb := wrt_is hM (row_back h) hb1
  have htb : twS M [r.reverse] = rwS M r.reverse := by simp [twS]
  rw [htb] at hwb
  have hwb' : rt_written [.lst [.lst ((r.map Dt.str).reverse)], manD M] = some (.str (rwS M r.reverse)) := by
    rw [← List.map_reverse]; exact hwb
  have hst1 : stepD (rowD r) none none (some (-1)) = some (.lst ((r.map Dt.str).reverse)) := step_back (by rw [List.length_map]; omega)
  have hst2 : stepD (.lst ((r.map (cwS M)).map Dt.str)) none none (some (-1)) = some (.lst (((r.map (cwS M)).map Dt.str).reverse)) := step_back (by rw [List.length_map, List.length_map]; omega)
  have hrev : ((r.map (cwS M)).map Dt.str).reverse = (r.reverse.map (cwS M)).map Dt.str := by
    rw [← List.map_reverse, ← List.map_reverse]
  rw [hrev] at hst2
  have h1b := rw_sum hO r.reverse
  have h2b := joinL_len [M.m] (r.reverse.map (cwS M))
  have hwrb := wt_row ((row_back h).g _ (.head _))
  have hwr2b : (r.reverse.map fun c => 2 * c.length + 3).sum + 1 ≤ 115 := hwrb
  have hrwb := rwS_len hO r.reverse
  have hjlb : (joinL [M.m] (r.reverse.map (cwS M))).length ≤ 115 := by
    have : (rwS M r.reverse).length = (joinL [M.m] (r.reverse.map (cwS M))).length + 1 := by unfold rwS; simp
    omega
  have hjb : joinD (.str [M.m]) (.lst ((r.reverse.map (cwS M)).map Dt.str)) = some (.str (joinL [M.m] (r.reverse.map (cwS M)))) := joinD_map [M.m] (r.reverse.map (cwS M)) (by simp only [List.length_cons, List.length_nil, List.length_map, Nat.mul_one]; rw [List.length_map] at *; omega)
  have hab : addD (.str (joinL [M.m] (r.reverse.map (cwS M)))) (.str [10]) = some (.str (rwS M r.reverse)) := addD_s1 _ _ (by omega)
  refine ⟨x8, .val (rowD r), .val (.lst ((r.map (cwS M)).map Dt.str)), .val (.str (rwS M r.reverse)), ?_⟩
  have he : acc ++ rwS M r = acc ++ joinL [M.m] (r.map (cwS M)) ++ [10] := by unfold rwS; rw [List.append_assoc]
  rw [he]
  unfold lwEnv at hc ⊢
  simp only [turnO, LT_law_3, e_tNm, Option.bind_some, List.set_cons_succ, List.set_cons_zero, e_fSeq, e_fSet, e_fL, hc, Option.map_some, seqO_nx, e_fOp, e_fV, e_fPl, e_fC, gV_succ, gV_zero, bO_some, hM0, hj, ha1, ha2, e_fCall, e_fCons, e_fNil, fLst, e_fStep, e_oNo, e_oSo, e_fUn, e_fNeg, intO_s, hst1, List.length_cons, List.length_nil, Nat.zero_add, Nat.reduceLeDiff, if_true, hwb', e_fIfS, frzE_cons, frzE_nil, frz1_val, e_asB, hst2, hjb, hab, neD_s, decide_true, Bool.not_true, blO_some, ifO_f, e_fNext]
theorem e_fPar2 (i j : Nat) (f : PL.Env → Option (List Dt)) (r : PL.Env) {a b : Dt} (h : f r = some [a, b]) : fPar2 i j f r = some (.nx ((r.set i (.val a)).set j (.val b))) := by
  unfold fPar2; rw [h]
theorem e_fLs (f : PL.Env → Option Dt) (r : PL.Env) {l : List Dt} (h : f r = some (.lst l)) : fLs f r = some l := by
  unfold fLs; rw [h]
theorem lw_text {ns : List Int} {M : Mn} (hM : M ∈ mns) {x1 x2 x3 x4 x6 x7 x11 x12 x13 x14 : Sl} : ∀ (rs : List (List (List Nat))) (acc : List Nat) (x8 x9 x10 x16 : Sl), (∀ r ∈ rs, RowOk r) → (∀ r ∈ rs, ∀ c ∈ r, cellText M c ≠ none) → acc.length + 115 * rs.length ≤ 10000 →
    ∃ y8 y9 y10 y16, loopF (tNm 9) LT_law_3 (rs.map rowD) (lwEnv ns x1 x2 x3 x4 (.val (manD M)) x6 x7 x8 x9 x10 x11 x12 x13 x14 (.val (.str acc)) x16) = some (.nx (lwEnv ns x1 x2 x3 x4 (.val (manD M)) x6 x7 y8 y9 y10 x11 x12 x13 x14 (.val (.str (acc ++ twS M rs))) y16))
  | [], acc, x8, x9, x10, x16, _, _, _ => ⟨x8, x9, x10, x16, by
    rw [show twS M [] = [] from rfl, List.append_nil]; rfl⟩
  | r :: rs, acc, x8, x9, x10, x16, h, hn, hl => by
    rw [List.length_cons] at hl
    have hr := h r (.head _)
    have hrw := rwS_len (mn_ok hM) r
    have hwr := wt_row hr
    obtain ⟨y8, y9, y10, y16, t⟩ := lw_3 (ns := ns) hM (x1 := x1) (x2 := x2) (x3 := x3) (x4 := x4) (x6 := x6) (x7 := x7) (x8 := x8) (x9 := x9) (x10 := x10) (x11 := x11) (x12 := x12) (x13 := x13) (x14 := x14) (x16 := x16) hr (hn r (.head _)) (acc := acc) (by omega)
    obtain ⟨z8, z9, z10, z16, ih⟩ := lw_text (ns := ns) hM (x1 := x1) (x2 := x2) (x3 := x3) (x4 := x4) (x6 := x6) (x7 := x7) (x11 := x11) (x12 := x12) (x13 := x13) (x14 := x14) rs (acc ++ rwS M r) y8 y9 y10 y16 (fun d hd => h d (.tail _ hd)) (fun d hd => hn d (.tail _ hd)) (by rw [List.length_append]; omega)
    refine ⟨z8, z9, z10, z16, ?_⟩
    rw [List.map_cons, loop_cons, t]
    rw [List.append_assoc] at ih
    exact ih
theorem tw_app (M : Mn) (a b : List (List (List Nat))) : twS M (a ++ b) = twS M a ++ twS M b := by unfold twS; rw [List.flatMap_append]
theorem tab_app {a b : List (List (List Nat))} (ha : TabOk a) (hb : TabOk b) (h : a.length + b.length ≤ 12) : TabOk (a ++ b) :=
  ⟨by rw [List.length_append]; exact h, fun r hr => (List.mem_append.mp hr).elim (ha.g r) (hb.g r)⟩
theorem add_tab {a b : List (List (List Nat))} (h : a.length + b.length ≤ 12) : addD (tabD a) (tabD b) = some (tabD (a ++ b)) := by
  have := addD_l (a.map rowD) (b.map rowD) (by rw [List.length_map, List.length_map]; omega)
  rw [← List.map_append] at this
  exact this
theorem pl_prD (o : Option (Nat × Nat)) : (prD o).pl = prD o := by cases o <;> rfl
theorem lw_4 {ns : List Int} {M : Mn} (hM : M ∈ mns) {x1 x2 : Sl} {rows more : List (List (List Nat))} (h1 : TabOk rows) (h2 : TabOk more) (l1 : rows.length ≤ 6) (l2 : more.length ≤ 6) {x5 x6 x7 x8 x9 x10 x11 x12 x13 x14 x15 x16 : Sl} :
    ∃ y5 y6 y7 y8 y9 y10 y11 y12 y13 y14 y15 y16, turnO (tNm 5) LT_law_4 (manD M) (lwEnv ns x1 x2 (.val (tabD rows)) (.val (tabD more)) x5 x6 x7 x8 x9 x10 x11 x12 x13 x14 x15 x16) = some (.nx (lwEnv ns x1 x2 (.val (tabD rows)) (.val (tabD more)) y5 y6 y7 y8 y9 y10 y11 y12 y13 y14 y15 y16)) := by
  have hu1 := unw_is hM h1
  have hu2 := unw_is hM h2
  have h3 := tab_app h1 h2 (by omega)
  have hadd := add_tab (a := rows) (b := more) (by omega)
  have hu3 := unw_is hM h3
  rw [fbad_app, Nat.zero_add] at hu3
  have hsh := fbad_shift (M := M) rows.length more 0
  rw [Nat.zero_add] at hsh
  rw [hsh] at hu3
  have hal := aall_head (M := M) rows 0
  have hall := aall_len (M := M) rows 0 fun r hr => (h1.g r hr).hi
  obtain ⟨y9, y10, y11, y12, e2⟩ := lw_2 (ns := ns) hM (x1 := x1) (x2 := x2) (x3 := .val (tabD rows)) (x4 := .val (tabD more)) (x6 := .val (prD (fbad M 0 rows))) (x7 := .val (prD (fbad M 0 more))) (x13 := x13) (x14 := x14) (x15 := x15) (x16 := x16) rows 0 [] x9 x10 x11 x12 h1.g (by simp; omega)
  rw [List.nil_append] at e2
  have en : enumD [tabD rows] = some (enumL 0 (rows.map rowD)) := rfl
  have hne := al_ne (aall M 0 rows)
  have hp : ∀ z8 : Sl, fPar2 6 7 (fCons (fCall rt_unwritable (fCons (fV 3) (fCons (fV 5) fNil))) (fCons (fCall rt_unwritable (fCons (fV 4) (fCons (fV 5) fNil))) fNil)) (lwEnv ns x1 x2 (.val (tabD rows)) (.val (tabD more)) (.val (manD M)) x6 x7 z8 x9 x10 x11 x12 x13 x14 x15 x16) = some (.nx (lwEnv ns x1 x2 (.val (tabD rows)) (.val (tabD more)) (.val (manD M)) (.val (prD (fbad M 0 rows))) (.val (prD (fbad M 0 more))) z8 x9 x10 x11 x12 x13 x14 x15 x16)) := fun z8 => by
    rw [e_fPar2 (a := prD (fbad M 0 rows)) (b := prD (fbad M 0 more)) (h := by simp only [lwEnv, e_fCons, e_fCall, e_fNil, e_fV, gV_succ, gV_zero, bO_some, Option.map_some, hu1, hu2])]
    simp only [lwEnv, List.set_cons_succ, List.set_cons_zero]
  have hlen : lenD [tabD rows] = some (.int rows.length) := by
    show some (Dt.int ((rows.map rowD).length : Nat)) = _
    rw [List.length_map]
  have hx : ∀ o : Option (Nat × Nat), neD (prD o) (prD o) = some (.bl false) := prD_ne
  unfold lwEnv at hp e2
  simp only [List.map_nil] at e2
  have hhead : ∀ z : PL.Env, gV z 8 = some (.lst ((aall M 0 rows).map pD)) → (fIf (asB (fOp neD (fV 8) (fL (fLst fNil)))) (fOp ixD (fV 8) (fC (.int 0))) (fC .non)) z = some (prD (fbad M 0 rows)) := fun z hz => by
    rw [e_fIf, e_asB, e_fOp, e_fOp, e_fL, e_fV, hz, bO_some, e_fLst _ _ [] rfl (by simp), Option.map_some, bO_some, hne]
    cases e : aall M 0 rows with
    | nil =>
      rw [e] at hal
      rw [← hal]; rfl
    | cons p l =>
      rw [e] at hal
      rw [← hal]
      show ixD (.lst ((p :: l).map pD)) (.int 0) = _
      have := ixD_l ((p :: l).map pD) 0
      exact this
  have htx : fbad M 0 rows = none → ∀ (u5 u6 u7 z8 z9 z10 z11 z12 z13 z14 z16 : Sl), ∃ y8 y9 y10 y16, loopF (tNm 9) LT_law_3 (rows.map rowD) (lwEnv ns x1 x2 (.val (tabD rows)) (.val (tabD more)) (.val (manD M)) u6 u7 z8 z9 z10 z11 z12 z13 z14 (.val (.str [])) z16) = some (.nx (lwEnv ns x1 x2 (.val (tabD rows)) (.val (tabD more)) (.val (manD M)) u6 u7 y8 y9 y10 z11 z12 z13 z14 (.val (.str (twS M rows))) y16)) := fun hb u5 u6 u7 z8 z9 z10 z11 z12 z13 z14 z16 =>
    lw_text (ns := ns) hM rows [] z8 z9 z10 z16 h1.g ((fbad_none rows 0).mp hb) (by simp; omega)
  have hits : itemsD (tabD rows) = some (rows.map rowD) := rfl
  have hw1 := fun hb => wrt_is hM h1 hb
  have hw2 := fun hb => wrt_is hM h2 hb
  have hw3 : fbad M 0 rows = none → fbad M 0 more = none → rt_written [tabD (rows ++ more), manD M] = some (.str (twS M rows ++ twS M more)) := fun ha hb => by
    rw [← tw_app]
    refine wrt_is hM h3 ?_
    rw [fbad_app, ha, Nat.zero_add, hsh, hb]
    rfl
  have hl1 := twS_len (mn_ok hM) rows
  have hl2 := twS_len (mn_ok hM) more
  have hl3 := wt_tab h1
  have hl4 := wt_tab h2
  have hat : addD (.str (twS M rows)) (.str (twS M more)) = some (.str (twS M rows ++ twS M more)) := addD_s _ _ (by omega)
  have hate : addD (.str (twS M rows)) (.str []) = some (.str (twS M rows)) := by
    rw [addD_s _ _ (by simp; omega), List.append_nil]
  cases eb : fbad M 0 rows with
  | some p =>
    obtain ⟨pi, pj⟩ := p
    have hxx := hx (some (pi, pj))
    rw [eb] at hu3 hp e2 hhead
    cases eo : fbad M 0 more with
    | some q =>
      obtain ⟨qi, qj⟩ := q
      rw [eo] at hp e2
      simp only [prD] at hu3 hp e2 hhead hxx
      have hq0 : ixD (.tup [.int qi, .int qj]) (.int 0) = some (.int qi) := ixD_t0 _ _
      have hq1 : ixD (.tup [.int qi, .int qj]) (.int 1) = some (.int qj) := rfl
      refine ⟨.val (manD M), .val (prD (some (pi, pj))), .val (prD (some (qi, qj))), .own ((aall M 0 rows).map pD), y9, y10, y11, y12, .val (prD (some (pi, pj))), .val (.tup [.int ((qi : Int) + rows.length), .int qj]), x15, x16, ?_⟩
      simp only [turnO, lwEnv, LT_law_4, e_tNm, Option.bind_some, List.set_cons_succ, List.set_cons_zero, e_fSeq, hp, seqO_nx, e_fSetO, fLst, e_fNil, List.length_nil, Nat.zero_le, if_true, Option.map_some, e_fFor, e_fArgs, e_fCons, e_fV, gV_succ, gV_zero, bO_some, en, e2, e_fIfS, frzE_cons, frzE_nil, frz1_val, frz1_own]
      rw [e_asB, e_fOp, hhead _ rfl]
      simp only [e_fV, gV_succ, gV_zero, bO_some, hxx, blO_some, ifO_f, e_fNext, seqO_nx, e_fSeq, e_fSet, e_fCall, e_fCons, e_fNil, e_fOp, hadd, Option.map_some, hu3, List.set_cons_succ, List.set_cons_zero, e_fIf, e_asB, e_fPl, Dt.pl, Dt.pls, e_fC, isnD_n, isD_n, blO_some, ifO_t, e_fTup, hq0, hlen, addD_i, hq1, tupO_2, e_fIfS, frzE_cons, frzE_nil, frz1_val, frz1_own, prD]
    | none =>
      rw [eo] at hp e2
      simp only [prD] at hu3 hp e2 hhead hxx
      refine ⟨.val (manD M), .val (prD (some (pi, pj))), .val .non, .own ((aall M 0 rows).map pD), y9, y10, y11, y12, .val (prD (some (pi, pj))), .val .non, x15, x16, ?_⟩
      simp only [turnO, lwEnv, LT_law_4, e_tNm, Option.bind_some, List.set_cons_succ, List.set_cons_zero, e_fSeq, hp, seqO_nx, e_fSetO, fLst, e_fNil, List.length_nil, Nat.zero_le, if_true, Option.map_some, e_fFor, e_fArgs, e_fCons, e_fV, gV_succ, gV_zero, bO_some, en, e2, e_fIfS, frzE_cons, frzE_nil, frz1_val, frz1_own]
      rw [e_asB, e_fOp, hhead _ rfl]
      simp only [e_fV, gV_succ, gV_zero, bO_some, hxx, blO_some, ifO_f, e_fNext, seqO_nx, e_fSeq, e_fSet, e_fCall, e_fCons, e_fNil, e_fOp, hadd, Option.map_some, hu3, List.set_cons_succ, List.set_cons_zero, e_fIf, e_asB, e_fPl, Dt.pl, Dt.pls, e_fC, isnD_n, isD_n, blO_some, ifO_t, e_fTup, hlen, addD_i, tupO_2, e_fIfS, frzE_cons, frzE_nil, frz1_val, frz1_own, prD]
  | none =>
    rw [eb] at hu3 hp e2 hhead
    have hw1' := hw1 eb
    cases eo : fbad M 0 more with
    | some q =>
      obtain ⟨qi, qj⟩ := q
      rw [eo] at hp e2 hu3
      have hxx := hx none
      have hxy := hx (some (qi + rows.length, qj))
      rw [Option.map_some] at hu3
      simp only [prD, Int.natCast_add] at hu3 hp e2 hhead hxx hxy
      have hq0 : ixD (.tup [.int qi, .int qj]) (.int 0) = some (.int qi) := ixD_t0 _ _
      have hq1 : ixD (.tup [.int qi, .int qj]) (.int 1) = some (.int qj) := rfl
      obtain ⟨u8, u9, u10, u16, e3⟩ := htx eb x5 (.val .non) (.val (.tup [.int qi, .int qj])) (.own ((aall M 0 rows).map pD)) y9 y10 y11 y12 (.val (.tup [.int ((qi : Int) + rows.length), .int qj])) (.val (.tup [.int ((qi : Int) + rows.length), .int qj])) x16
      unfold lwEnv at e3
      refine ⟨.val (manD M), .val .non, .val (prD (some (qi, qj))), u8, u9, u10, y11, y12, .val (.tup [.int ((qi : Int) + rows.length), .int qj]), .val (.tup [.int ((qi : Int) + rows.length), .int qj]), .val (.str (twS M rows)), .val (.str []), ?_⟩
      simp only [turnO, lwEnv, LT_law_4, e_tNm, Option.bind_some, List.set_cons_succ, List.set_cons_zero, e_fSeq, hp, seqO_nx, e_fSetO, fLst, e_fNil, List.length_nil, Nat.zero_le, if_true, Option.map_some, e_fFor, e_fArgs, e_fCons, e_fV, gV_succ, gV_zero, bO_some, en, e2, e_fIfS, frzE_cons, frzE_nil, frz1_val, frz1_own]
      rw [e_asB, e_fOp, hhead _ rfl]
      simp only [e_fV, gV_succ, gV_zero, bO_some, hxx, blO_some, ifO_f, e_fNext, seqO_nx, e_fSeq, e_fSet, e_fCall, e_fCons, e_fNil, e_fOp, hadd, Option.map_some, hu3, List.set_cons_succ, List.set_cons_zero, e_fIf, e_asB, e_fPl, Dt.pl, Dt.pls, e_fC, isnD_n, isD_n, blO_some, ifO_t, e_fTup, hq0, hlen, addD_i, hq1, tupO_2, e_fIfS, frzE_cons, frzE_nil, frz1_val, frz1_own, prD, hxy, e_fFor, e_fItems, hits, e3, hw1', neD_s, decide_true, Bool.not_true, e_fAnd, andO_f]
    | none =>
      have hw2' := hw2 eo
      have hw3' := hw3 eb eo
      rw [eo] at hp e2 hu3
      have hxx := hx none
      rw [Option.map_none] at hu3
      simp only [prD] at hu3 hp e2 hhead hxx
      obtain ⟨u8, u9, u10, u16, e3⟩ := htx eb x5 (.val .non) (.val .non) (.own ((aall M 0 rows).map pD)) y9 y10 y11 y12 (.val .non) (.val .non) x16
      unfold lwEnv at e3
      refine ⟨.val (manD M), .val .non, .val .non, u8, u9, u10, y11, y12, .val .non, .val .non, .val (.str (twS M rows)), .val (.str (twS M more)), ?_⟩
      simp only [turnO, lwEnv, LT_law_4, e_tNm, Option.bind_some, List.set_cons_succ, List.set_cons_zero, e_fSeq, hp, seqO_nx, e_fSetO, fLst, e_fNil, List.length_nil, Nat.zero_le, if_true, Option.map_some, e_fFor, e_fArgs, e_fCons, e_fV, gV_succ, gV_zero, bO_some, en, e2, e_fIfS, frzE_cons, frzE_nil, frz1_val, frz1_own]
      rw [e_asB, e_fOp, hhead _ rfl]
      simp only [e_fV, gV_succ, gV_zero, bO_some, hxx, blO_some, ifO_f, e_fNext, seqO_nx, e_fSeq, e_fSet, e_fCall, e_fCons, e_fNil, e_fOp, hadd, Option.map_some, hu3, List.set_cons_succ, List.set_cons_zero, e_fIf, e_asB, e_fPl, Dt.pl, Dt.pls, e_fC, isnD_n, isD_n, blO_some, ifO_t, e_fTup, hlen, addD_i, tupO_2, e_fIfS, frzE_cons, frzE_nil, frz1_val, frz1_own, prD, e_fFor, e_fItems, hits, e3, hw1', hw2', hw3', hat, neD_s, decide_true, Bool.not_true, e_fAnd, andO_t]
theorem take_tab {rows : List (List (List Nat))} (h : TabOk rows) (k : Nat) : TabOk (rows.take k) :=
  ⟨by have := h.len; rw [List.length_take]; omega, fun r hr => h.g r (List.mem_of_mem_take hr)⟩
theorem lw_5 {ns : List Int} {x1 x2 x3 x4 x5 x6 x7 x8 x9 x10 x11 x12 x13 x14 x15 x16 : Sl} (k : Nat) (hk : k ≤ 100) :
    ∃ y1 y2 y3 y4 y5 y6 y7 y8 y9 y10 y11 y12 y13 y14 y15 y16, turnO (tNm 1) LT_law_5 (.int k) (lwEnv ns x1 x2 x3 x4 x5 x6 x7 x8 x9 x10 x11 x12 x13 x14 x15 x16) = some (.nx (lwEnv ns y1 y2 y3 y4 y5 y6 y7 y8 y9 y10 y11 y12 y13 y14 y15 y16)) := by
  obtain ⟨D, hD, hd⟩ := manner_okT ns k (by omega)
  obtain ⟨R, hR, tR⟩ := rows_ok ns k D (mn_ok hD) (by omega)
  obtain ⟨S, hS, tS⟩ := rows_ok ns (k + 1) D (mn_ok hD) (by omega)
  have hS' : r__law_rows [.scr ns, .int ((k : Int) + 1), mnD D] = some (tabD S) := hS
  have hcut : ∀ T : List (List (List Nat)), sliceD (tabD T) none (some 6) = some (tabD (T.take 6)) := fun T => by
    have := cut_to (T.map rowD) 6
    show some (Dt.lst (cutL (T.map rowD) none (some ((6 : Nat) : Int)))) = _
    rw [this, ← List.map_take]; rfl
  obtain ⟨a, hab, ha2⟩ : ∃ a : Nat, (k : Int) / 3 % 5 = a ∧ a < 5 := ⟨k / 3 % 5, by omega, by omega⟩
  have hst : stepD (.lst (mns.map manD)) (some (a : Int)) none (some 5) = some (.lst (pickL (mns.map manD) (some (a : Int)) none (some 5))) := by
    have h24 : (mns.map manD).length = 24 := rfl
    have this : (pickL (mns.map manD) (some (a : Int)) none (some 5)).length ≤ 1000000 := by
      unfold pickL
      refine Nat.le_trans (List.length_filterMap_le _ _) ?_
      rw [h24]
      match a, ha2 with
      | 0, _ => decide +kernel
      | 1, _ => decide +kernel
      | 2, _ => decide +kernel
      | 3, _ => decide +kernel
      | 4, _ => decide +kernel
    exact if_pos ⟨by simp, this⟩
  have hmem : ∀ x ∈ pickL (mns.map manD) (some (a : Int)) none (some 5), ∃ M, M ∈ mns ∧ x = manD M := by
    intro x hx
    obtain ⟨M, hM, e⟩ := List.mem_map.mp (pick_mem hx)
    exact ⟨M, hM, e.symm⟩
  have l1 : (R.take 6).length ≤ 6 := by rw [List.length_take]; omega
  have l2 : (S.take 6).length ≤ 6 := by rw [List.length_take]; omega
  obtain ⟨r', el, y5, y6, y7, y8, y9, y10, y11, y12, y13, y14, y15, y16, rfl⟩ := loop_inv (t := tNm 5) (b := LT_law_4) (fun r => ∃ y5 y6 y7 y8 y9 y10 y11 y12 y13 y14 y15 y16, r = lwEnv ns (.val (.int k)) (.val (manD D)) (.val (tabD (R.take 6))) (.val (tabD (S.take 6))) y5 y6 y7 y8 y9 y10 y11 y12 y13 y14 y15 y16) (pickL (mns.map manD) (some (a : Int)) none (some 5)) (lwEnv ns (.val (.int k)) (.val (manD D)) (.val (tabD (R.take 6))) (.val (tabD (S.take 6))) x5 x6 x7 x8 x9 x10 x11 x12 x13 x14 x15 x16)
      (fun x hx r ⟨y5, y6, y7, y8, y9, y10, y11, y12, y13, y14, y15, y16, er⟩ => by
        obtain ⟨M, hM, rfl⟩ := hmem x hx
        rw [er]
        obtain ⟨z5, z6, z7, z8, z9, z10, z11, z12, z13, z14, z15, z16, e⟩ := lw_4 (ns := ns) hM (x1 := .val (.int k)) (x2 := .val (manD D)) (take_tab tR 6) (take_tab tS 6) l1 l2 (x5 := y5) (x6 := y6) (x7 := y7) (x8 := y8) (x9 := y9) (x10 := y10) (x11 := y11) (x12 := y12) (x13 := y13) (x14 := y14) (x15 := y15) (x16 := y16)
        exact ⟨_, .inl e, _, _, _, _, _, _, _, _, _, _, _, _, rfl⟩) ⟨_, _, _, _, _, _, _, _, _, _, _, _, rfl⟩
  refine ⟨.val (.int k), .val (manD D), .val (tabD (R.take 6)), .val (tabD (S.take 6)), y5, y6, y7, y8, y9, y10, y11, y12, y13, y14, y15, y16, ?_⟩
  unfold lwEnv at el ⊢
  have hfs : ∀ r : PL.Env, gV r 1 = some (.int k) → fLs (fStep (fun _ => rt__law_manners []) (oSo (fOp modD (fOp fdvD (fV 1) (fC (.int 3))) (fC (.int 5)))) oNo (oSo (fC (.int 5)))) r = some (pickL (mns.map manD) (some (a : Int)) none (some 5)) := fun r h1 => by
    refine e_fLs _ _ ?_
    have e1 : (oSo (fOp modD (fOp fdvD (fV 1) (fC (.int 3))) (fC (.int 5)))) r = some (some (a : Int)) := by
      simp (disch := omega) [h1, hab]
    unfold fStep
    rw [mansT_eq, e1]
    exact hst
  have hpl : (manD D).pl = mnD D := rfl
  simp only [turnO, LT_law_5, e_tNm, Option.bind_some, List.set_cons_succ, List.set_cons_zero, e_fSeq, e_fSet, e_fCall, e_fCons, e_fNil, e_fV, gV_succ, gV_zero, bO_some, Option.map_some, hd, seqO_nx, e_fPar, e_fMs_v, e_fMs_nil, e_fSlice, e_fPl, hpl, hR, hS', e_fOp, e_fC, addD_i, e_oNo, e_oSo, intO_s, hcut, e_setS_cons, e_setS_nil, e_fFor]
  rw [hfs _ rfl]
  simp only [bO_some, el]
theorem plain (ns : List Int) (hn : ns.length ≤ 63) : rt_law [.scr ns] = some (.bl true) := by
  refine run_rt rfl ?_
  obtain ⟨items, hit, hmem⟩ : ∃ items, rng3 [.int 0, .int (if (if (ns.length : Int) < 9 then (ns.length : Int) else 9) > 1 then (if (ns.length : Int) < 9 then (ns.length : Int) else 9) else 1), .int 3] = some items ∧ ∀ x ∈ items, ∃ j : Nat, j ≤ 100 ∧ x = .int j := by
    refine ⟨_, rng3_i _ _ _ (by omega) (by omega) (by split <;> (try split) <;> omega) (by split <;> (try split) <;> omega) (by omega) (by omega), fun x hx => ?_⟩
    obtain ⟨j, hj, rfl⟩ := range_mem hx
    refine ⟨j * 3, ?_, by simp⟩
    have : (if (if (ns.length : Int) < 9 then (ns.length : Int) else 9) > 1 then (if (ns.length : Int) < 9 then (ns.length : Int) else 9) else 1) ≤ 9 := by split <;> (try split) <;> omega
    generalize (if (if (ns.length : Int) < 9 then (ns.length : Int) else 9) > 1 then (if (ns.length : Int) < 9 then (ns.length : Int) else 9) else 1) = u at hj this
    split at hj <;> omega
  obtain ⟨r', el, y1, y2, y3, y4, y5, y6, y7, y8, y9, y10, y11, y12, y13, y14, y15, y16, rfl⟩ := loop_inv (t := tNm 1) (b := LT_law_5) (fun r => ∃ y1 y2 y3 y4 y5 y6 y7 y8 y9 y10 y11 y12 y13 y14 y15 y16, r = lwEnv ns y1 y2 y3 y4 y5 y6 y7 y8 y9 y10 y11 y12 y13 y14 y15 y16) items (lwEnv ns .no .no .no .no .no .no .no .no .no .no .no .no .no .no .no .no)
      (fun x hx r ⟨y1, y2, y3, y4, y5, y6, y7, y8, y9, y10, y11, y12, y13, y14, y15, y16, er⟩ => by
        obtain ⟨j, hj, rfl⟩ := hmem x hx
        rw [er]
        obtain ⟨z1, z2, z3, z4, z5, z6, z7, z8, z9, z10, z11, z12, z13, z14, z15, z16, e⟩ := lw_5 (ns := ns) (x1 := y1) (x2 := y2) (x3 := y3) (x4 := y4) (x5 := y5) (x6 := y6) (x7 := y7) (x8 := y8) (x9 := y9) (x10 := y10) (x11 := y11) (x12 := y12) (x13 := y13) (x14 := y14) (x15 := y15) (x16 := y16) j hj
        exact ⟨_, .inl e, _, _, _, _, _, _, _, _, _, _, _, _, _, _, _, _, rfl⟩) ⟨_, _, _, _, _, _, _, _, _, _, _, _, _, _, _, _, rfl⟩
  unfold lwEnv at el
  simp only [gt_iff_lt] at hit
  have g1 : TabOk [[[97]], [[124]]] := ⟨by decide, by
    intro r hr
    simp only [List.mem_cons, List.not_mem_nil, or_false] at hr
    rcases hr with rfl | rfl
    · exact ⟨by decide, by decide, by unfold good; decide⟩
    · exact ⟨by decide, by decide, by unfold good; decide⟩⟩
  have g2 : TabOk [[[97], [98]], [[99]]] := ⟨by decide, by
    intro r hr
    simp only [List.mem_cons, List.not_mem_nil, or_false] at hr
    rcases hr with rfl | rfl
    · exact ⟨by decide, by decide, by unfold good; decide⟩
    · exact ⟨by decide, by decide, by unfold good; decide⟩⟩
  have hu := unw_is (M := ⟨124, [], []⟩) (by decide) g1
  have hw := wrt_is (M := ⟨124, [], []⟩) (by decide) g2 (by decide)
  have hu' : rt_unwritable [.lst [.lst [.str [97]], .lst [.str [124]]], .man [124] [] []] = some (.tup [.int 1, .int 0]) := hu
  have hw' : rt_written [.lst [.lst [.str [97], .str [98]], .lst [.str [99]]], .man [124] [] []] = some (.str [97, 124, 98, 10, 99, 10]) := hw
  have hne : neD (.tup [.int 1, .int 0]) (.tup [.int 1, .int 0]) = some (.bl false) := rfl
  simp (disch := omega) [bt_law, hit, el, -rng3_i, fLst, hu', hw', hne]
end W

open PySem PySem.W PyProof.Rows
set_option maxHeartbeats 0 in
theorem PySem.Challenge.cw_tablemanners_k16_whole_cell_by_cell_holds : PySem.Challenge.rw_tablemanners_k16_whole_cell_by_cell.Holds := by
  w_on; o_law; k_head; (case hw => w_witness2)
  k_fill
  refine PL.walk_ofG (l := PySem.Challenge.rw_tablemanners_k16_whole_cell_by_cell) (n := 63) (k := 5) (x := "_law_script") (sp := fun w => W.spLaw _) rfl (by decide) rfl ⟨rfl, by decide, by decide⟩ (fun w h Y => PySem.W.kIn_of Y) ?F (fun _ _ a ns hl ho hS => ⟨a, ns, rfl, hS, hl, ho, fun _ => rfl⟩) (fun _ _ _ _ h => h)
  case F =>
    intro w mg fa h KX G hmg
    refine' W.all_mk W.plain KX G hmg ?a0 ?l0 ?c0c ?k0 ?a1 ?l1 ?c1c ?k1 ?a2 ?l2 ?c2c ?k2 ?a3 ?l3 ?c3c ?k3 ?a4 ?l4 ?c4c ?k4 ?a5 ?l5 ?c5c ?k5 ?a6 ?l6 ?c6c ?k6 ?a7 ?l7 ?c7c ?k7 ?a8 ?l8 ?c8c ?k8 ?a9 ?l9 ?c9c ?k9 ?a10 ?l10 ?c10c ?k10 ?a11 ?l11 ?c11c ?k11 ?a12 ?l12 ?c12c ?k12 ?a13 ?l13 ?c13c ?k13 ?a14 ?l14 ?c14c ?k14 ?a15 ?l15 ?c15c ?k15 ?a16 ?l16 ?c16c ?k16 ?a17 ?l17 ?c17c ?k17 ?gt ?tk ?z_all ?z_enumerate ?z_isinstance ?z_len ?z_list ?z_max ?z_min ?z_range ?z_str ?z_tuple ?q_ESCAPES ?h_ESCAPES ?v_ESCAPES ?q_LONGEST_CELL ?q_MARKS ?h_MARKS ?v_MARKS ?q_MOST_CELLS ?q_MOST_ROWS ?q_QUOTES ?h_QUOTES ?v_QUOTES ?q_SIGNS ?v_SIGNS
    (case a0 => k_is)
    (case l0 => k_is)
    (case c0c => k_is)
    (case k0 => k_is)
    (case a1 => k_is)
    (case l1 => k_is)
    (case c1c => k_is)
    (case k1 => k_is)
    (case a2 => k_is)
    (case l2 => k_is)
    (case c2c => k_is)
    (case k2 => k_is)
    (case a3 => k_is)
    (case l3 => k_is)
    (case c3c => k_is)
    (case k3 => k_is)
    (case a4 => k_is)
    (case l4 => k_is)
    (case c4c => k_is)
    (case k4 => k_is)
    (case a5 => k_is)
    (case l5 => k_is)
    (case c5c => k_is)
    (case k5 => k_is)
    (case a6 => k_is)
    (case l6 => k_is)
    (case c6c => k_is)
    (case k6 => k_is)
    (case a7 => k_is)
    (case l7 => k_is)
    (case c7c => k_is)
    (case k7 => k_is)
    (case a8 => k_is)
    (case l8 => k_is)
    (case c8c => k_is)
    (case k8 => k_is)
    (case a9 => k_is)
    (case l9 => k_is)
    (case c9c => k_is)
    (case k9 => k_is)
    (case a10 => k_is)
    (case l10 => k_is)
    (case c10c => k_is)
    (case k10 => k_is)
    (case a11 => k_is)
    (case l11 => k_is)
    (case c11c => k_is)
    (case k11 => k_is)
    (case a12 => k_is)
    (case l12 => k_is)
    (case c12c => k_is)
    (case k12 => k_is)
    (case a13 => k_is)
    (case l13 => k_is)
    (case c13c => k_is)
    (case k13 => k_is)
    (case a14 => k_is)
    (case l14 => k_is)
    (case c14c => k_is)
    (case k14 => k_is)
    (case a15 => k_is)
    (case l15 => k_is)
    (case c15c => k_is)
    (case k15 => k_is)
    (case a16 => k_is)
    (case l16 => k_is)
    (case c16c => k_is)
    (case k16 => k_is)
    (case a17 => k_is)
    (case l17 => k_is)
    (case c17c => k_is)
    (case k17 => k_is)
    (case gt => k_is)
    (case tk => k_is)
    (case z_all => k_is)
    (case z_enumerate => k_is)
    (case z_isinstance => k_is)
    (case z_len => k_is)
    (case z_list => k_is)
    (case z_max => k_is)
    (case z_min => k_is)
    (case z_range => k_is)
    (case z_str => k_is)
    (case z_tuple => k_is)
    (case q_ESCAPES => k_is)
    (case h_ESCAPES => k_is)
    (case v_ESCAPES => first | rfl | kernel_rfl | decide +kernel)
    (case q_LONGEST_CELL => k_is)
    (case q_MARKS => k_is)
    (case h_MARKS => k_is)
    (case v_MARKS => first | rfl | kernel_rfl | decide +kernel)
    (case q_MOST_CELLS => k_is)
    (case q_MOST_ROWS => k_is)
    (case q_QUOTES => k_is)
    (case h_QUOTES => k_is)
    (case v_QUOTES => first | rfl | kernel_rfl | decide +kernel)
    (case q_SIGNS => k_is)
    (case v_SIGNS => first | rfl | kernel_rfl | decide +kernel)
#print axioms PySem.Challenge.cw_tablemanners_k16_whole_cell_by_cell_holds

