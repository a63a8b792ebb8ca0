import PyProof.Rows.All
import Wide.All
import OpenK.AllK
import Wide.FinOn
import HandS.ForMost
import HandS.Exc
import HandS.ExcOwn
import HandS.TryMany
import HandS.WordsExc
import HandS.Style
import HandS.Conv
import HandS.TupAny
import HandS.SetFor
import HandS.Lambda
import HandS.AnyAll
import HandS.Defaults
import KE.GoesEnum
import PyProof.GenQ
import HandS.GenList
import HandS.WordsDict
import KE.GoesRaise
import KE.KMinKey
import HandS.SortKw
import KE.KIndexOf
import HandS.Head0
import HandS.Head1
import HandS.Head2
import HandS.HeadHook1
import HandS.HeadHook2
import HandS.HeadHook3
import HandS.HeadHook4
import HandS.EndTab
import HandS.HeadWalk
import KE.KStateDown
import HandS.HeadEnd
import PySem.Challenge.RW_pairmart_k02_matchings_and_what_blocks
set_option Elab.async false
set_option linter.all false
set_option maxRecDepth 100000
set_option maxHeartbeats 0
/-! The data, the ghost heap, the slots. -/
namespace PM
open PySem PySem.Spec PyProof.Rows L2

/-- what a value stands for -/
inductive D where
  | non | bl (b : Bool) | int (i : Int) | str (x : Str) | tup (l : List D) | ftu (l : List D) | lst (l : List D) | scr (l : List Int)
  | dic (l : List (Int × Int)) | wish (l : List Int) | mkt (as rs : List (List Int)) (ss : List Int) | obj (a : Addr) (o : HO) (b : Addr) (u : HO)
instance : Inhabited D := ⟨.non⟩

/-- what is fixed through the law -/
structure Th where
  P : Program
  w : World
  K : PySem.W.Frag
  mg : Str → Option Value
  base : Heap
  CW : Addr
  CM : Addr
  T : List (Addr × Str)
  TG : List Addr

def wf (p q : Addr) : List (Str × V) := putF "ranks" (.ref q) (putF "order" (.ref p) [])
def mf (p q r : Addr) : List (Str × V) := putF "seats" (.ref r) (putF "rooms" (.ref q) (putF "askers" (.ref p) []))
/-- a dict of whole numbers -/
def dk (l : List (Int × Int)) : List (Key × V) := l.map fun p => (Sum.inl p.1, V.int p.2)
def rkL (l : List Int) : List (Int × Int) := l.zipIdx.map fun p => (p.1, (p.2 : Int))
abbrev rk (l : List Int) : List (Key × V) := dk (rkL l)

/-- G' knows what G knows -/
def Gr (G G' : Hp) : Prop := ∀ a o, G a = some o → G' a = some o
/-- a tuple; one whose object is known, without a dict -/
def TupAt (G : Hp) (a : Addr) (xs : List V) : Prop := Rd G a (.tup xs)
def FrzT (G : Hp) (a : Addr) (xs : List V) : Prop := ∃ o : Obj, o.dict = none ∧ G a = some (.frz o (.tup xs))
theorem FrzT.at {G : Hp} {a : Addr} {xs : List V} (h : FrzT G a xs) : TupAt G a xs := by
  obtain ⟨o, _, e⟩ := h
  exact .inr ⟨o, e⟩
theorem FrzT.gr {G G' : Hp} {a : Addr} {xs : List V} (h : FrzT G a xs) (g : Gr G G') : FrzT G' a xs := by
  obtain ⟨o, d, e⟩ := h
  exact ⟨o, d, g _ _ e⟩
theorem TupAt.gr {G G' : Hp} {a : Addr} {xs : List V} (h : TupAt G a xs) (g : Gr G G') : TupAt G' a xs := by
  rcases h with e | ⟨o, e⟩
  · exact .inl (g _ _ e)
  · exact .inr ⟨o, g _ _ e⟩
theorem sqL_gr {K : PySem.W.Frag} {G G' : Hp} {a : Addr} {xs : List V} (h : SqL K G a xs) (g : Gr G G') : SqL K G' a xs := by
  rcases h with (e | ⟨o, e⟩) | h
  · exact .inl (.inl (g _ _ e))
  · exact .inl (.inr ⟨o, g _ _ e⟩)
  · exact .inr h
mutual
inductive Rep (Θ : Th) (G : Hp) : V → D → Prop
  | non : Rep Θ G .non .non
  | bl (b : Bool) : Rep Θ G (.bl b) (.bl b)
  | int (i : Int) : Rep Θ G (.int i) (.int i)
  | str (x : Str) : Rep Θ G (.str x) (.str x)
  | tup {a : Addr} {xs : List V} {ds : List D} : TupAt G a xs → RepA Θ G xs ds → Rep Θ G (.ref a) (.tup ds)
  | ftu {a : Addr} {xs : List V} {ds : List D} : FrzT G a xs → RepA Θ G xs ds → Rep Θ G (.ref a) (.ftu ds)
  | lst {a : Addr} {xs : List V} {ds : List D} : G a = some (.lst xs) → RepA Θ G xs ds → Rep Θ G (.ref a) (.lst ds)
  | scr {a : Addr} {l : List Int} : SqL Θ.K G a (l.map V.int) → Rep Θ G (.ref a) (.scr l)
  | dic {a : Addr} {l : List (Int × Int)} : G a = some (.dK (dk l)) → Rep Θ G (.ref a) (.dic l)
  | obj {a b : Addr} {o u : HO} : G a = some o → G b = some u → Rep Θ G (.ref a) (.obj a o b u)
  | wish {a dx p q : Addr} {l : List Int} : G a = some (.ins Θ.CW dx (wf p q)) → TupAt G p (l.map V.int) → G q = some (.dK (rk l)) → l.Nodup → l.length ≤ 1000 → Rep Θ G (.ref a) (.wish l)
  | mkt {a dx p q r : Addr} {ws vs : List V} {as rs : List (List Int)} {ss : List Int} : G a = some (.ins Θ.CM dx (mf p q r)) → G p = some (.lst ws) → RepA Θ G ws (as.map D.wish) → G q = some (.lst vs) → RepA Θ G vs (rs.map D.wish) →
      TupAt G r (ss.map V.int) → Rep Θ G (.ref a) (.mkt as rs ss)
inductive RepA (Θ : Th) (G : Hp) : List V → List D → Prop
  | nil : RepA Θ G [] []
  | cons {v : V} {vs : List V} {d : D} {ds : List D} : Rep Θ G v d → RepA Θ G vs ds → RepA Θ G (v :: vs) (d :: ds)
end
theorem Gr.refl (G : Hp) : Gr G G := fun _ _ h => h
theorem Gr.trans {A B C : Hp} (h : Gr A B) (k : Gr B C) : Gr A C := fun a o e => k a o (h a o e)
theorem Gr.new {G : Hp} {p : Addr} {o : HO} (h : G p = none) : Gr G (upd G p o) := fun a u e => by
  rw [upd_ne (ne_of_none e h)]
  exact e
section
variable {Θ : Th} {G G' H H' : Hp}
mutual
theorem Rep.gr (g : Gr G G') : ∀ {v : V} {d : D}, Rep Θ G v d → Rep Θ G' v d
  | _, _, .non => .non
  | _, _, .bl b => .bl b
  | _, _, .int i => .int i
  | _, _, .str x => .str x
  | _, _, .tup h r => .tup (h.gr g) (RepA.gr g r)
  | _, _, .ftu h r => .ftu (h.gr g) (RepA.gr g r)
  | _, _, .lst h r => .lst (g _ _ h) (RepA.gr g r)
  | _, _, .scr h => .scr (sqL_gr h g)
  | _, _, .dic h => .dic (g _ _ h)
  | _, _, .obj h1 h2 => .obj (g _ _ h1) (g _ _ h2)
  | _, _, .wish h1 h2 h3 h4 h5 => .wish (g _ _ h1) (h2.gr g) (g _ _ h3) h4 h5
  | _, _, .mkt h1 h2 r1 h3 r2 h4 => .mkt (g _ _ h1) (g _ _ h2) (RepA.gr g r1) (g _ _ h3) (RepA.gr g r2) (h4.gr g)
theorem RepA.gr (g : Gr G G') : ∀ {vs : List V} {ds : List D}, RepA Θ G vs ds → RepA Θ G' vs ds
  | _, _, .nil => .nil
  | _, _, .cons r t => .cons (Rep.gr g r) (RepA.gr g t)
end
theorem RepA.length : ∀ {vs : List V} {ds : List D}, RepA Θ G vs ds → vs.length = ds.length
  | _, _, .nil => rfl
  | _, _, .cons _ t => congrArg (· + 1) (RepA.length t)
theorem RepA.get : ∀ {vs : List V} {ds : List D} {i : Nat} {d : D}, RepA Θ G vs ds → ds[i]? = some d → ∃ v, vs[i]? = some v ∧ Rep Θ G v d
  | _, _, _, _, .nil, e => by simp at e
  | _, _, 0, _, .cons r _, e => by simp at e; subst e; exact ⟨_, rfl, r⟩
  | _, _, i + 1, d, .cons _ t, e => by
    obtain ⟨v, h1, h2⟩ := RepA.get (i := i) (d := d) t (by simpa using e)
    exact ⟨v, by simpa using h1, h2⟩
theorem RepA.getV : ∀ {vs : List V} {ds : List D} {i : Nat} {v : V}, RepA Θ G vs ds → vs[i]? = some v → ∃ d, ds[i]? = some d ∧ Rep Θ G v d
  | _, _, _, _, .nil, e => by simp at e
  | _, _, 0, _, .cons r _, e => by simp at e; subst e; exact ⟨_, rfl, r⟩
  | _, _, i + 1, v, .cons _ t, e => by
    obtain ⟨d, h1, h2⟩ := RepA.getV (i := i) (v := v) t (by simpa using e)
    exact ⟨d, by simpa using h1, h2⟩
theorem RepA.append : ∀ {vs us : List V} {ds es : List D}, RepA Θ G vs ds → RepA Θ G us es → RepA Θ G (vs ++ us) (ds ++ es)
  | _, _, _, _, .nil, s => s
  | _, _, _, _, .cons r t, s => .cons r (RepA.append t s)
theorem RepA.set : ∀ {vs : List V} {ds : List D} {v : V} {d : D} (i : Nat), Rep Θ G v d → RepA Θ G vs ds → RepA Θ G (vs.set i v) (ds.set i d)
  | _, _, _, _, _, _, .nil => .nil
  | _, _, _, _, 0, r, .cons _ t => .cons r t
  | _, _, _, _, i + 1, r, .cons q t => .cons q (RepA.set i r t)
theorem RepA.take : ∀ {vs : List V} {ds : List D} (n : Nat), RepA Θ G vs ds → RepA Θ G (vs.take n) (ds.take n)
  | _, _, 0, _ => by simp; exact .nil
  | _, _, n + 1, .nil => .nil
  | _, _, n + 1, .cons r t => .cons r (RepA.take n t)
theorem RepA.drop : ∀ {vs : List V} {ds : List D} (n : Nat), RepA Θ G vs ds → RepA Θ G (vs.drop n) (ds.drop n)
  | _, _, 0, r => r
  | _, _, n + 1, .nil => .nil
  | _, _, n + 1, .cons _ t => RepA.drop n t
theorem RepA.eraseIdx : ∀ {vs : List V} {ds : List D} (n : Nat), RepA Θ G vs ds → RepA Θ G (vs.eraseIdx n) (ds.eraseIdx n)
  | _, _, _, .nil => .nil
  | _, _, 0, .cons _ t => t
  | _, _, n + 1, .cons r t => .cons r (RepA.eraseIdx n t)
theorem RepA.ints (l : List Int) : RepA Θ G (l.map V.int) (l.map D.int) := by
  induction l with
  | nil => exact .nil
  | cons a l ih => exact .cons (.int a) ih
/-! inversions -/
theorem Rep.non_inv {v : V} (h : Rep Θ G v .non) : v = .non := by cases h; rfl
theorem Rep.int_inv {v : V} {i : Int} (h : Rep Θ G v (.int i)) : v = .int i := by cases h; rfl
theorem Rep.obj_inv {v : V} {a b : Addr} {o u : HO} (h : Rep Θ G v (.obj a o b u)) : v = .ref a ∧ G a = some o ∧ G b = some u := by
  cases h with
  | obj h1 h2 => exact ⟨rfl, h1, h2⟩
theorem Rep.bl_inv {v : V} {b : Bool} (h : Rep Θ G v (.bl b)) : v = .bl b := by cases h; rfl
theorem Rep.str_inv {v : V} {b : Str} (h : Rep Θ G v (.str b)) : v = .str b := by cases h; rfl
theorem Rep.tup_inv {v : V} {ds : List D} (h : Rep Θ G v (.tup ds)) : ∃ a xs, v = .ref a ∧ TupAt G a xs ∧ RepA Θ G xs ds := by
  cases h with
  | tup h r => exact ⟨_, _, rfl, h, r⟩
theorem Rep.ftu_inv {v : V} {ds : List D} (h : Rep Θ G v (.ftu ds)) : ∃ a xs, v = .ref a ∧ FrzT G a xs ∧ RepA Θ G xs ds := by
  cases h with
  | ftu h r => exact ⟨_, _, rfl, h, r⟩
theorem Rep.scr_inv {v : V} {l : List Int} (h : Rep Θ G v (.scr l)) : ∃ a, v = .ref a ∧ SqL Θ.K G a (l.map V.int) := by
  cases h with
  | scr h => exact ⟨_, rfl, h⟩
/-- a known tuple is a tuple -/
theorem Rep.thaw {v : V} {ds : List D} (h : Rep Θ G v (.ftu ds)) : Rep Θ G v (.tup ds) := by
  obtain ⟨a, xs, rfl, e, r⟩ := h.ftu_inv
  exact .tup e.at r
theorem Rep.lst_inv {v : V} {ds : List D} (h : Rep Θ G v (.lst ds)) : ∃ a xs, v = .ref a ∧ G a = some (.lst xs) ∧ RepA Θ G xs ds := by
  cases h with
  | lst h r => exact ⟨_, _, rfl, h, r⟩
theorem Rep.dic_inv {v : V} {l : List (Int × Int)} (h : Rep Θ G v (.dic l)) : ∃ a, v = .ref a ∧ G a = some (.dK (dk l)) := by
  cases h with
  | dic h => exact ⟨_, rfl, h⟩
theorem Rep.wish_inv {v : V} {l : List Int} (h : Rep Θ G v (.wish l)) : ∃ a dx p q, v = .ref a ∧ G a = some (.ins Θ.CW dx (wf p q)) ∧ TupAt G p (l.map V.int) ∧ G q = some (.dK (rk l)) ∧ l.Nodup ∧ l.length ≤ 1000 := by
  cases h with
  | wish h1 h2 h3 h4 h5 => exact ⟨_, _, _, _, rfl, h1, h2, h3, h4, h5⟩
theorem Rep.mkt_inv {v : V} {as rs : List (List Int)} {ss : List Int} (h : Rep Θ G v (.mkt as rs ss)) : ∃ a dx p q r ws vs, v = .ref a ∧ G a = some (.ins Θ.CM dx (mf p q r)) ∧ G p = some (.lst ws) ∧ RepA Θ G ws (as.map D.wish) ∧
    G q = some (.lst vs) ∧ RepA Θ G vs (rs.map D.wish) ∧ TupAt G r (ss.map V.int) := by
  cases h with
  | mkt h1 h2 r1 h3 r2 h4 => exact ⟨_, _, _, _, _, _, _, rfl, h1, h2, r1, h3, r2, h4⟩
theorem RepA.ints_inv : ∀ {vs : List V} {l : List Int}, RepA Θ G vs (l.map D.int) → vs = l.map V.int
  | _, [], .nil => rfl
  | _, i :: l, .cons r t => by
    rw [Rep.int_inv r, RepA.ints_inv t]
    rfl
/-! flat data -/
def D.flat : D → Option V
  | .non => some .non
  | .bl b => some (.bl b)
  | .int i => some (.int i)
  | .str x => some (.str x)
  | _ => none
theorem Rep.flat {v u : V} {d : D} (h : Rep Θ G v d) (e : d.flat = some u) : v = u := by
  cases h <;> simp [D.flat] at e <;> exact e
theorem Rep.of_flat {u : V} {d : D} (e : d.flat = some u) : Rep Θ G u d := by
  cases d <;> simp [D.flat] at e <;> subst e
  · exact .non
  · exact .bl _
  · exact .int _
  · exact .str _

/-! ### heaps -/
/-- G: what never changes, known within H; the tables are sound -/
structure Hs (Θ : Th) (G H : Hp) : Prop where
  sub : Gr G H
  nt : ∀ a ps, G a ≠ some (.tbl ps)
  tabs : ∀ p ∈ Θ.T, LamX.TabS H p.1 p.2
  tabg : ∀ p ∈ Θ.TG, GxR.TabG H p
/-- what a def may hold as its own: lists, instances -/
def Kp : Option HO → Prop
  | some (.lst _) => True
  | some (.ins _ _ _) => True
  | _ => False
theorem kp_ne {H : Hp} {a p : Addr} (e : Kp (H a)) (hp : H p = none) : a ≠ p := fun z => by
  rw [z, hp] at e
  exact e
/-- from (G, H) to (G', H'): what is new in G' is new in the heap; what was tracked stays, but the tables and what stands at M -/
structure Stp (M : Option Addr) (G H G' H' : Hp) : Prop where
  g : Gr G G'
  new : ∀ a, Kp (H a) → G' a = G a ∧ Kp (H' a)
  h : ∀ a o, H a = some o → (∀ ps, o ≠ .tbl ps) → M ≠ some a → H' a = some o
  some : ∀ a, H a ≠ none → H' a ≠ none
theorem Stp.refl (M : Option Addr) (G H : Hp) : Stp M G H G H := ⟨.refl G, fun _ e => ⟨rfl, e⟩, fun _ _ e _ _ => e, fun _ e => e⟩
theorem Stp.trans {M : Option Addr} {G0 H0 G1 H1 G2 H2 : Hp} (x : Stp M G0 H0 G1 H1) (y : Stp M G1 H1 G2 H2) : Stp M G0 H0 G2 H2 :=
  ⟨x.g.trans y.g, fun a e => ⟨(y.new a (x.new a e).2).1.trans (x.new a e).1, (y.new a (x.new a e).2).2⟩, fun a o e n m => y.h a o (x.h a o e n m) n m, fun a e => y.some a (x.some a e)⟩
theorem Stp.weak {M : Option Addr} {G H G' H' : Hp} (x : Stp none G H G' H') : Stp M G H G' H' := ⟨x.g, x.new, fun a o e n _ => x.h a o e n (by simp), x.some⟩
/-- a new object, never to be changed -/
theorem Stp.laid {M : Option Addr} {G H : Hp} {p : Addr} {o : HO} (hp : H p = none) (hg : G p = none) : Stp M G H (upd G p o) (upd H p o) :=
  ⟨.new hg, fun a e => ⟨upd_ne (kp_ne e hp), by rw [upd_ne (kp_ne e hp)]; exact e⟩, fun a u e _ _ => by rw [upd_ne (ne_of_none e hp)]; exact e, fun a e => by rw [upd_ne fun z => e (by rw [z]; exact hp)]; exact e⟩
/-- a new object that may change -/
theorem Stp.made {M : Option Addr} {G H : Hp} {p : Addr} {o : HO} (hp : H p = none) : Stp M G H G (upd H p o) :=
  ⟨.refl G, fun a e => ⟨rfl, by rw [upd_ne (kp_ne e hp)]; exact e⟩, fun a u e _ _ => by rw [upd_ne (ne_of_none e hp)]; exact e, fun a e => by rw [upd_ne fun z => e (by rw [z]; exact hp)]; exact e⟩
theorem Gr.free {p : Addr} (g : Gr G H) (hp : H p = none) : G p = none := by
  cases e : G p with
  | none => rfl
  | some o => rw [g _ _ e] at hp; cases hp
theorem tabG_keep {P p : Addr} {o : HO} (n : H p = none ∨ ∃ u, H p = some u ∧ ∀ ps, u ≠ .tbl ps) (h : GxR.TabG H P) : GxR.TabG (upd H p o) P := by
  obtain ⟨ps, e, t⟩ := h
  refine ⟨ps, ?_, t⟩
  rw [upd_ne fun z => ?_]
  · exact e
  · rw [z] at e
    rcases n with n | ⟨u, n, q⟩
    · rw [n] at e; cases e
    · rw [n] at e; cases e; exact q _ rfl
theorem tabS_keep {P p : Addr} {q : Str} {o : HO} (n : H p = none ∨ ∃ xs, H p = some (.lst xs)) (h : LamX.TabS H P q) : LamX.TabS (upd H p o) P q := by
  obtain ⟨ps, e, t, k⟩ := h
  have ne : ∀ b u, H b = some u → (∀ xs, u ≠ .lst xs) → b ≠ p := fun b u e1 e2 z => by
    rw [z] at e1
    rcases n with n | ⟨xs, n⟩
    · rw [n] at e1; cases e1
    · rw [n] at e1; cases e1; exact e2 _ rfl
  refine ⟨ps, by rw [upd_ne (ne _ _ e fun xs z => by cases z)]; exact e, t, fun pos cv hc => ?_⟩
  obtain ⟨c, e1, e2⟩ := k pos cv hc
  exact ⟨c, e1, by rw [upd_ne (ne _ _ e2 fun xs z => by unfold LamX.CodeO at z; cases z)]; exact e2⟩
theorem Hs.laid {p : Addr} {o : HO} (x : Hs Θ G H) (hp : H p = none) (no : ∀ ps, o ≠ .tbl ps) : Hs Θ (upd G p o) (upd H p o) :=
  ⟨fun a u e => by
    by_cases z : a = p
    · subst z; rw [upd_same] at e ⊢; exact e
    · rw [upd_ne z] at e ⊢; exact x.sub a u e,
   fun a ps e => by
    by_cases z : a = p
    · subst z; rw [upd_same] at e; cases e; exact no _ rfl
    · rw [upd_ne z] at e; exact x.nt a ps e,
   fun q hq => tabS_keep (.inl hp) (x.tabs q hq), fun q hq => tabG_keep (.inl hp) (x.tabg q hq)⟩
theorem Hs.made {p : Addr} {o : HO} (x : Hs Θ G H) (hp : H p = none) : Hs Θ G (upd H p o) :=
  ⟨x.sub.trans (.new hp), x.nt, fun q hq => tabS_keep (.inl hp) (x.tabs q hq), fun q hq => tabG_keep (.inl hp) (x.tabg q hq)⟩
/-- a list that G does not know is changed -/
theorem Hs.write {p : Addr} {o : HO} {xs : List V} (x : Hs Θ G H) (hp : H p = some (.lst xs)) (hg : G p = none) : Hs Θ G (upd H p o) :=
  ⟨fun a u e => by rw [upd_ne (ne_of_none e hg)]; exact x.sub a u e, x.nt, fun q hq => tabS_keep (.inr ⟨xs, hp⟩) (x.tabs q hq), fun q hq => tabG_keep (.inr ⟨_, hp, fun ps z => by cases z⟩) (x.tabg q hq)⟩
/-- a list is taken up among what never changes -/
theorem Hs.frozen {p : Addr} {xs : List V} (x : Hs Θ G H) (hp : H p = some (.lst xs)) : Hs Θ (upd G p (.lst xs)) H :=
  ⟨fun a u e => by
    by_cases z : a = p
    · subst z; rw [upd_same] at e; rw [hp]; exact e
    · rw [upd_ne z] at e; exact x.sub a u e,
   fun a ps e => by
    by_cases z : a = p
    · subst z; rw [upd_same] at e; cases e
    · rw [upd_ne z] at e; exact x.nt a ps e, x.tabs, x.tabg⟩
end

/-! ### the dice: a list of three numbers, which every roll changes -/
def DiceAt (G H : Hp) (d : Addr) : Prop := G d = none ∧ ∃ a b c : Int, H d = some (.lst [.int a, .int b, .int c])

/-! ### the slots -/
inductive SD where
  | no | im (d : D) | mu (l : List D) | dc

structure StOk (Θ : Th) (M : Option Addr) (G0 H0 G H : Hp) (σ : L2.St) (δ : List SD) : Prop where
  stp : Stp M G0 H0 G H
  hs : Hs Θ G H
  dice : ∀ d, M = some d → H0 d ≠ none ∧ DiceAt G H d
  len : σ.length = δ.length
  im : ∀ (i : Nat) (d : D), δ[i]? = some (SD.im d) → ∃ v : V, σ[i]? = some (some v) ∧ Rep Θ G v d
  mu : ∀ (i : Nat) (ds : List D), δ[i]? = some (SD.mu ds) → ∃ (l : Addr) (vs : List V), σ[i]? = some (some (V.ref l)) ∧ H l = some (HO.lst vs) ∧ RepA Θ G vs ds ∧ G l = none ∧ M ≠ some l
  dc : ∀ i : Nat, δ[i]? = some SD.dc → ∃ d : Addr, σ[i]? = some (some (V.ref d)) ∧ M = some d
  dist : ∀ (i j : Nat) (l k : List D) (v : V), i ≠ j → δ[i]? = some (SD.mu l) → δ[j]? = some (SD.mu k) → σ[i]? = some (some v) → σ[j]? ≠ some (some v)
/-- the lists that may change are the def's own -/
def Own (H0 : Hp) (σ : L2.St) (δ : List SD) : Prop := ∀ (i : Nat) (ds : List D) (l : Addr), δ[i]? = some (SD.mu ds) → σ[i]? = some (some (V.ref l)) → H0 l = none

theorem lt_of_set {α : Type} {l : List α} {i j : Nat} {x y : α} (h : (l.set i x)[j]? = some y) : j < l.length := by
  have q := (List.getElem?_eq_some_iff.mp h).1
  rw [List.length_set] at q
  exact q
section
variable {Θ : Th} {M : Option Addr} {G0 H0 G H G' H' : Hp} {σ : L2.St} {δ : List SD}
/-- what was evaluated or called left the slots as they are -/
theorem StOk.step (S : StOk Θ M G0 H0 G H σ δ) (x : Stp M G H G' H') (y : Hs Θ G' H') (z : ∀ d, M = some d → DiceAt G' H' d) : StOk Θ M G0 H0 G' H' σ δ where
  stp := S.stp.trans x
  hs := y
  dice := fun d e => ⟨(S.dice d e).1, z d e⟩
  len := S.len
  im := fun i d e => let ⟨v, h1, h2⟩ := S.im i d e; ⟨v, h1, h2.gr x.g⟩
  mu := fun i ds e => by
    obtain ⟨l, vs, h1, h2, h3, h4, h5⟩ := S.mu i ds e
    exact ⟨l, vs, h1, x.h l _ h2 (fun _ z => by cases z) h5, h3.gr x.g, by rw [(x.new l (by rw [h2]; trivial)).1]; exact h4, h5⟩
  dc := S.dc
  dist := S.dist
theorem DiceAt.pure {d : Addr} (z : DiceAt G H d) (x : Stp none G H G' H') : DiceAt G' H' d := by
  obtain ⟨hg, a, b, c, hd⟩ := z
  exact ⟨by rw [(x.new d (by rw [hd]; trivial)).1]; exact hg, a, b, c, x.h d _ hd (fun _ z => by cases z) (by simp)⟩
theorem StOk.pure (S : StOk Θ M G0 H0 G H σ δ) (x : Stp none G H G' H') (y : Hs Θ G' H') : StOk Θ M G0 H0 G' H' σ δ :=
  S.step x.weak y fun d e => (S.dice d e).2.pure x
/-- from here on -/
theorem StOk.anew (S : StOk Θ M G0 H0 G H σ δ) : StOk Θ M G H G H σ δ :=
  ⟨.refl _ _ _, S.hs, fun d e => ⟨S.stp.some d (S.dice d e).1, (S.dice d e).2⟩, S.len, S.im, S.mu, S.dc, S.dist⟩
/-- .. and back -/
theorem StOk.back {σ' : L2.St} {δ' : List SD} (S : StOk Θ M G0 H0 G H σ δ) (R : StOk Θ M G H G' H' σ' δ') : StOk Θ M G0 H0 G' H' σ' δ' :=
  ⟨S.stp.trans R.stp, R.hs, fun d e => ⟨(S.dice d e).1, (R.dice d e).2⟩, R.len, R.im, R.mu, R.dc, R.dist⟩
/-- a list that the start does not know changes -/
theorem Stp.mut {p : Addr} {o : HO} (x : Stp M G H G' H') (hp : H p = none) : Stp M G H G' (upd H' p o) :=
  ⟨x.g, fun a e => ⟨(x.new a e).1, by rw [upd_ne (kp_ne e hp)]; exact (x.new a e).2⟩, fun a u e n m => by rw [upd_ne (ne_of_none e hp)]; exact x.h a u e n m, fun a e => by rw [upd_ne fun z => e (by rw [z]; exact hp)]; exact x.some a e⟩
/-- .. is frozen -/
theorem Stp.froze {p : Addr} {o : HO} (x : Stp M G H G' H') (hp : H p = none) (hg : G p = none) : Stp M G H (upd G' p o) H' :=
  ⟨fun a u e => by rw [upd_ne (ne_of_none e hg)]; exact x.g a u e, fun a e => ⟨by rw [upd_ne (kp_ne e hp)]; exact (x.new a e).1, (x.new a e).2⟩, x.h, x.some⟩
/-- a name is given what never changes -/
theorem StOk.set {i : Nat} {v : V} {d : D} (S : StOk Θ M G0 H0 G H σ δ) (r : Rep Θ G v d) : StOk Θ M G0 H0 G H (σ.set i (some v)) (δ.set i (.im d)) where
  stp := S.stp
  hs := S.hs
  dice := S.dice
  len := by rw [List.length_set, List.length_set]; exact S.len
  im := fun j e h => by
    by_cases hj : i = j
    · subst hj
      have hl : i < δ.length := lt_of_set h
      rw [List.getElem?_set_self hl] at h
      cases h
      exact ⟨v, by rw [List.getElem?_set_self (by rw [S.len]; exact hl)], r⟩
    · rw [List.getElem?_set_ne hj] at h ⊢
      exact S.im j e h
  mu := fun j ds h => by
    by_cases hj : i = j
    · subst hj
      have hl : i < δ.length := lt_of_set h
      rw [List.getElem?_set_self hl] at h
      cases h
    · rw [List.getElem?_set_ne hj] at h ⊢
      exact S.mu j ds h
  dc := fun j h => by
    by_cases hj : i = j
    · subst hj
      have hl : i < δ.length := lt_of_set h
      rw [List.getElem?_set_self hl] at h
      cases h
    · rw [List.getElem?_set_ne hj] at h ⊢
      exact S.dc j h
  dist := fun j k l l' v' hn h1 h2 h3 => by
    have key : ∀ {m : Nat} {l : List D}, (δ.set i (.im d))[m]? = some (.mu l) → i ≠ m := fun {m l} h q => by
      subst q
      have hl : i < δ.length := lt_of_set h
      rw [List.getElem?_set_self hl] at h
      cases h
    have e1 := key h1
    have e2 := key h2
    rw [List.getElem?_set_ne e1] at h1 h3
    rw [List.getElem?_set_ne e2] at h2 ⊢
    exact S.dist j k l l' v' hn h1 h2 h3
/-- a name is given a new list of the def's own -/
theorem StOk.setMu {i : Nat} {l : Addr} {vs : List V} {ds : List D} (S : StOk Θ M G0 H0 G H σ δ) (hl : H l = some (.lst vs)) (r : RepA Θ G vs ds) (hg : G l = none) (h0 : M ≠ some l)
    (hn : ∀ j ds, j ≠ i → δ[j]? = some (.mu ds) → σ[j]? ≠ some (some (.ref l))) : StOk Θ M G0 H0 G H (σ.set i (some (.ref l))) (δ.set i (.mu ds)) where
  stp := S.stp
  hs := S.hs
  dice := S.dice
  len := by rw [List.length_set, List.length_set]; exact S.len
  im := fun j e h => by
    by_cases hj : i = j
    · subst hj
      have hl : i < δ.length := lt_of_set h
      rw [List.getElem?_set_self hl] at h
      cases h
    · rw [List.getElem?_set_ne hj] at h ⊢
      exact S.im j e h
  mu := fun j ds' h => by
    by_cases hj : i = j
    · subst hj
      have hlt : i < δ.length := lt_of_set h
      rw [List.getElem?_set_self hlt] at h
      cases h
      exact ⟨l, vs, by rw [List.getElem?_set_self (by rw [S.len]; exact hlt)], hl, r, hg, h0⟩
    · rw [List.getElem?_set_ne hj] at h ⊢
      exact S.mu j ds' h
  dc := fun j h => by
    by_cases hj : i = j
    · subst hj
      have hl : i < δ.length := lt_of_set h
      rw [List.getElem?_set_self hl] at h
      cases h
    · rw [List.getElem?_set_ne hj] at h ⊢
      exact S.dc j h
  dist := fun j k l1 l2 v' hjk h1 h2 h3 => by
    have at_ : ∀ {m : Nat} {x : SD}, (δ.set i (.mu ds))[m]? = some x → m < δ.length := fun {m x} h => by
      have q := (List.getElem?_eq_some_iff.mp h).1
      rw [List.length_set] at q
      exact q
    by_cases e1 : i = j
    · subst e1
      have e2 : i ≠ k := hjk
      rw [List.getElem?_set_self (by rw [S.len]; exact at_ h1)] at h3
      cases h3
      rw [List.getElem?_set_ne e2] at h2 ⊢
      exact hn k l2 (Ne.symm e2) h2
    · rw [List.getElem?_set_ne e1] at h1 h3
      by_cases e2 : i = k
      · subst e2
        rw [List.getElem?_set_self (by rw [S.len]; exact at_ h2)]
        intro q
        cases q
        exact hn j l1 (Ne.symm e1) h1 h3
      · rw [List.getElem?_set_ne e2] at h2 ⊢
        exact S.dist j k l1 l2 v' hjk h1 h2 h3
end
end PM

/-! The judgements. -/
namespace PM
open PySem PySem.Spec PyProof.Rows L2

/-! ### the weakest readings -/
def tE (X : Cx) (e : Expr) : TE := fun σ H Q => ∀ pins s, Inv X pins σ H s → wpAny (model X.prog X.w) X.A (eval e X.env) (EP X pins σ Q) X.xe s
theorem pe_can {X : Cx} {e : Expr} : PE X e (tE X e) := ⟨fun pins s σ H Q I h => h pins s I⟩
theorem tE.of {X : Cx} {e : Expr} {t : TE} {σ : L2.St} {H : Hp} {Q : VK} (p : PE X e t) (h : t σ H Q) : tE X e σ H Q := fun pins s I => p.run pins s σ H Q I h
def tT (X : Cx) (e : Expr) : TT := fun σ H Q => ∀ pins s, Inv X pins σ H s → wpAny (model X.prog X.w) X.A (isTrue e X.env (eval e X.env)) (TP X pins σ Q) X.xe s
theorem pt_can {X : Cx} {e : Expr} : PT X e (tT X e) := ⟨fun pins s σ H Q I h => h pins s I⟩
theorem tT.of {X : Cx} {e : Expr} {t : TT} {σ : L2.St} {H : Hp} {Q : Bool → Hp → Prop} (p : PT X e t) (h : t σ H Q) : tT X e σ H Q := fun pins s I => p.run pins s σ H Q I h
def tA (X : Cx) (es : List Expr) : TA := fun σ H Q => ∀ pos pins s, Inv X pins σ H s → wpAny (model X.prog X.w) X.A (spliced (backTo pos (starEach es X.env))) (AP X pins σ Q) X.xe s
theorem pa_can {X : Cx} {es : List Expr} : PA X es (tA X es) := ⟨fun pos pins s σ H Q I h => h pos pins s I⟩
theorem tA.of {X : Cx} {es : List Expr} {t : TA} {σ : L2.St} {H : Hp} {Q : List V → Hp → Prop} (p : PA X es t) (h : t σ H Q) : tA X es σ H Q := fun pos pins s I => p.run pos pins s σ H Q I h
def tW (X : Cx) (e : Expr) : TT := fun σ H Q => ∀ whole pins s, Inv X pins σ H s → wpAny (model X.prog X.w) X.A (isTrue e X.env whole) (TP X pins σ Q) X.xe s
theorem pw_can {X : Cx} {e : Expr} : PW X e (tW X e) := ⟨fun whole pins s σ H Q I h => h whole pins s I⟩
theorem tW.of {X : Cx} {e : Expr} {t : TT} {σ : L2.St} {H : Hp} {Q : Bool → Hp → Prop} (p : PW X e t) (h : t σ H Q) : tW X e σ H Q := fun whole pins s I => p.run whole pins s σ H Q I h
def tSs (X : Cx) (st : List Stmt) : TS := fun D σ H => ∀ pins s, Inv X pins σ H s → wpAny (model X.prog X.w) X.A (execs st X.env) (SP X pins D) X.xe s
theorem pss_can {X : Cx} {st : List Stmt} : PSs X st (tSs X st) := ⟨fun pins s σ H D I h => h pins s I⟩
theorem tSs.of {X : Cx} {st : List Stmt} {t : TS} {σ : L2.St} {H : Hp} {D : Ends} (p : PSs X st t) (h : t D σ H) : tSs X st D σ H := fun pins s I => p.run pins s σ H D I h

/-! ### the judgements -/
/-- e, from slots that hold δ, gives something of P -/
def EV (Θ : Th) (X : Cx) (e : Expr) (δ : List SD) (P : D → Prop) : Prop :=
  ∀ (M : Option Addr) (G0 H0 G H : Hp) (σ : L2.St) (Q : VK), StOk Θ M G0 H0 G H σ δ → (∀ v d G' H', StOk Θ M G0 H0 G' H' σ δ → Gr G G' → Rep Θ G' v d → P d → Q v H') → tE X e σ H Q
/-- a test -/
def ET (Θ : Th) (X : Cx) (e : Expr) (δ : List SD) (b : Bool) : Prop :=
  ∀ (M : Option Addr) (G0 H0 G H : Hp) (σ : L2.St) (Q : Bool → Hp → Prop), StOk Θ M G0 H0 G H σ δ → (∀ G' H', StOk Θ M G0 H0 G' H' σ δ → Gr G G' → Q b H') → tT X e σ H Q
/-- a test within and, or -/
def EW (Θ : Th) (X : Cx) (e : Expr) (δ : List SD) (b : Bool) : Prop :=
  ∀ (M : Option Addr) (G0 H0 G H : Hp) (σ : L2.St) (Q : Bool → Hp → Prop), StOk Θ M G0 H0 G H σ δ → (∀ G' H', StOk Θ M G0 H0 G' H' σ δ → Gr G G' → Q b H') → tW X e σ H Q
/-- arguments -/
def EA (Θ : Th) (X : Cx) (es : List Expr) (δ : List SD) (P : List D → Prop) : Prop :=
  ∀ (M : Option Addr) (G0 H0 G H : Hp) (σ : L2.St) (Q : List V → Hp → Prop), StOk Θ M G0 H0 G H σ δ → (∀ vs ds G' H', StOk Θ M G0 H0 G' H' σ δ → Gr G G' → RepA Θ G' vs ds → P ds → Q vs H') → tA X es σ H Q
/-- e raises the class c -/
def EX (Θ : Th) (X : Cx) (e : Expr) (δ : List SD) (c : Addr) : Prop :=
  ∀ (M : Option Addr) (G0 H0 G H : Hp) (σ : L2.St) (Q : VK) (E : XK), Takes X (fun cls d _ H => E cls d H) → StOk Θ M G0 H0 G H σ δ → (∀ G' H', StOk Θ M G0 H0 G' H' σ δ → E (.ref c) none H') → tE X e σ H Q
/-- where a def's end is: what was there before is as it was -/
structure EndOk (Θ : Th) (M : Option Addr) (G0 H0 G H : Hp) : Prop where
  stp : Stp M G0 H0 G H
  hs : Hs Θ G H
  dice : ∀ d, M = some d → DiceAt G H d
theorem StOk.endOk {Θ : Th} {M : Option Addr} {G0 H0 G H : Hp} {σ : L2.St} {δ : List SD} (S : StOk Θ M G0 H0 G H σ δ) : EndOk Θ M G0 H0 G H := ⟨S.stp, S.hs, fun d e => (S.dice d e).2⟩
/-- statements: to slots of N, or a return of something of P, or an exception of Ξ -/
def SV (Θ : Th) (X : Cx) (st : List Stmt) (δ : List SD) (N : List SD → Prop) (P : D → Prop) (Ξ : Addr → Prop) : Prop :=
  ∀ (M : Option Addr) (G0 H0 G H : Hp) (σ : L2.St) (Dn : Ends) (E : XK), Takes X (fun cls d _ H => E cls d H) → StOk Θ M G0 H0 G H σ δ → Own H0 σ δ →
    (∀ σ' δ' G' H', StOk Θ M G0 H0 G' H' σ' δ' → Own H0 σ' δ' → Gr G G' → N δ' → Dn.nx σ' H') →
    (∀ v d G' H', EndOk Θ M G0 H0 G' H' → Rep Θ G' v d → P d → Dn.rt v H') →
    (∀ c G' H', EndOk Θ M G0 H0 G' H' → Ξ c → E (.ref c) none H') → tSs X st Dn σ H

/-- the context of a def of the law's text -/
structure XOk (Θ : Th) (X : Cx) : Prop where
  P : Θ.P = X.prog
  w : Θ.w = X.w
  K : Θ.K = X.K
  mg : Θ.mg = X.mg
  base : Θ.base = X.base
  calm : X.calm = true
  nd : X.N.Nodup

section
variable {Θ : Th} {X : Cx} {a b c e : Expr} {es : List Expr} {δ : List SD} {pos : Pos} {P P' PA PB : D → Prop} {d da db : D} {i : Nat} {x : Str}
theorem EV.imp (h : EV Θ X e δ P) (k : ∀ d, P d → P' d) : EV Θ X e δ P' := fun M G0 H0 G H σ Q S q => h M G0 H0 G H σ Q S fun v d G' H' S' g r p => q v d G' H' S' g r (k d p)
theorem EV.eq {d' : D} (h : EV Θ X e δ (· = d)) (k : d = d') : EV Θ X e δ (· = d') := h.imp fun _ p => p.trans k
theorem ET.eq {b b' : Bool} (h : ET Θ X e δ b) (k : b = b') : ET Θ X e δ b' := k ▸ h
/-! ### names, constants -/
theorem ev_var (hδ : δ[i]? = some (.im d)) (hN : X.N[i]? = some x) (hv : Vis X.env.scope x) (hd : (x == ("__debug__" : Str)) = false := by decide) (hcd : (x == ("__classdict__" : Str)) = false := by decide) :
    EV Θ X (.Name x pos) δ (· = d) := fun M G0 H0 G H σ Q S q => by
  obtain ⟨v, h1, h2⟩ := S.im i d hδ
  exact .of (pe_var hN hv hd hcd) ⟨v, h1, q v d G H S (.refl G) h2 rfl⟩
theorem ev_int {n : Int} {j} : EV Θ X (.Constant (.int n) j pos) δ (· = .int n) := fun M G0 H0 G H σ Q S q => .of pe_int (q _ _ G H S (.refl G) (.int n) rfl)
theorem ev_non {j} : EV Θ X (.Constant .none j pos) δ (· = .non) := fun M G0 H0 G H σ Q S q => .of pe_non (q _ _ G H S (.refl G) .non rfl)
theorem ev_bool {n : Bool} {j} : EV Θ X (.Constant (.bool n) j pos) δ (· = .bl n) := fun M G0 H0 G H σ Q S q => .of pe_bl (q _ _ G H S (.refl G) (.bl n) rfl)
theorem ev_str {n : Str} {j} : EV Θ X (.Constant (.str n) j pos) δ (· = .str n) := fun M G0 H0 G H σ Q S q => .of pe_str (q _ _ G H S (.refl G) (.str n) rfl)

/-! ### operations on data -/
/-- what follows an operation on data -/
abbrev KD (Θ : Th) (G H : Hp) (P : D → Prop) (Q : VK) : Prop := ∀ v d G' H', Stp none G H G' H' → Hs Θ G' H' → Rep Θ G' v d → P d → Q v H'
def OpD (Θ : Th) (r : R2) (dx dy : D) (P : D → Prop) : Prop := ∀ {G H : Hp} {x y : V} {Q : VK}, Hs Θ G H → Rep Θ G x dx → Rep Θ G y dy → KD Θ G H P Q → r x y H Q
def CaD (Θ : Th) (r : List V → Hp → VK → Prop) (ds : List D) (P : D → Prop) : Prop := ∀ {G H : Hp} {xs : List V} {Q : VK}, Hs Θ G H → RepA Θ G xs ds → KD Θ G H P Q → r xs H Q
theorem StOk.kd {M : Option Addr} {G0 H0 G H : Hp} {σ : L2.St} {Q : VK} (S : StOk Θ M G0 H0 G H σ δ) (q : ∀ v d G' H', StOk Θ M G0 H0 G' H' σ δ → Gr G G' → Rep Θ G' v d → P d → Q v H') : KD Θ G H P Q :=
  fun v d G' H' s h r p => q v d G' H' (S.pure s h) s.g r p
theorem KD.same {G H : Hp} {Q : VK} {v : V} (k : KD Θ G H P Q) (hs : Hs Θ G H) (r : Rep Θ G v d) (p : P d) : Q v H := k v d G H (.refl _ _ _) hs r p

theorem ev_bin {op : Operator} {r : R2} (ho : OpR X (binaryOp op) r) (ha : EV Θ X a δ PA) (hb : EV Θ X b δ PB) (k : ∀ dx dy, PA dx → PB dy → OpD Θ r dx dy P) : EV Θ X (.BinOp a op b pos) δ P := fun M G0 H0 G H σ Q S q =>
  .of (pe_op ho pe_can pe_can) (ha M G0 H0 G H σ _ S fun x dx G1 H1 S1 g1 r1 p1 => hb M G0 H0 G1 H1 σ _ S1 fun y dy G2 H2 S2 g2 r2 p2 => k dx dy p1 p2 S2.hs (r1.gr g2) r2 (S2.kd fun v d G' H' S' g => q v d G' H' S' ((g1.trans g2).trans g)))
theorem ev_cmp {op : CmpOp} {r : R2} (ho : OpR X (compareOp op) r) (ha : EV Θ X a δ PA) (hb : EV Θ X b δ PB) (hm : behindInMarks op b = false) (k : ∀ dx dy, PA dx → PB dy → OpD Θ r dx dy P) : EV Θ X (.Compare a [op] [b] pos) δ P := fun M G0 H0 G H σ Q S q =>
  .of (pe_cmpR ho pe_can pe_can hm) (ha M G0 H0 G H σ _ S fun x dx G1 H1 S1 g1 r1 p1 => hb M G0 H0 G1 H1 σ _ S1 fun y dy G2 H2 S2 g2 r2 p2 => k dx dy p1 p2 S2.hs (r1.gr g2) r2 (S2.kd fun v d G' H' S' g => q v d G' H' S' ((g1.trans g2).trans g)))
theorem et_cmp {op : CmpOp} {r : R2} {k : Bool} (ho : OpR X (compareOp op) r) (ha : EV Θ X a δ PA) (hb : EV Θ X b δ PB) (hm : behindInMarks op b = false) (hk : ∀ dx dy, PA dx → PB dy → OpD Θ r dx dy (· = .bl k)) : ET Θ X (.Compare a [op] [b] pos) δ k := fun M G0 H0 G H σ Q S q =>
  .of (pt_cmpR ho pe_can pe_can hm) (ha M G0 H0 G H σ _ S fun x dx G1 H1 S1 g1 r1 p1 => hb M G0 H0 G1 H1 σ _ S1 fun y dy G2 H2 S2 g2 r2 p2 => hk dx dy p1 p2 S2.hs (r1.gr g2) r2 (S2.kd fun v d G' H' S' g rv e => by
    subst e
    exact ⟨k, rv.bl_inv, q G' H' S' ((g1.trans g2).trans g)⟩))
end
end PM

/-! Operations on data. -/
namespace PM
open PySem PySem.Spec PyProof.Rows L2

/-! ### data without objects, as the library's -/
mutual
def D.py : D → PyData
  | .non => .none
  | .bl b => .bool b
  | .int i => .int i
  | .str x => .str x
  | .tup l => .tuple (D.pyA l)
  | .lst l => .list (D.pyA l)
  | .dic _ => .none
  | .ftu _ => .none
  | .scr _ => .none
  | .wish _ => .none
  | .mkt _ _ _ => .none
  | .obj _ _ _ _ => .none
def D.pyA : List D → List PyData
  | [] => []
  | d :: r => d.py :: D.pyA r
end
def D.plain : Nat → D → Bool
  | _, .non => true
  | _, .bl _ => true
  | _, .int _ => true
  | n + 1, .tup l => l.all (D.plain n)
  | n + 1, .lst l => l.all (D.plain n)
  | _, _ => false
section
variable {Θ : Th} {G H : Hp} {K : PySem.W.Frag}
theorem dpAll_of {n : Nat} (ih : ∀ (d : D) (v : V), D.plain n d = true → Rep Θ G v d → Dp K H v d.py) : ∀ (l : List D) (vs : List V), l.all (D.plain n) = true → RepA Θ G vs l → DpAll K H vs (D.pyA l)
  | [], _, _, .nil => .nil
  | d :: r, _, h, .cons a b => by
    simp only [List.all_cons, Bool.and_eq_true] at h
    exact .cons (ih d _ h.1 a) (dpAll_of ih r _ h.2 b)
theorem dp_of (g : Gr G H) : ∀ (n : Nat) (d : D) (v : V), D.plain n d = true → Rep Θ G v d → Dp K H v d.py
  | _, .non, _, _, r => by rw [r.non_inv]; exact .non
  | _, .bl b, _, _, r => by rw [r.bl_inv]; exact .bl b
  | _, .int i, _, _, r => by rw [r.int_inv]; exact .int i
  | n + 1, .tup l, v, h, r => by
    obtain ⟨a, xs, rfl, e, q⟩ := r.tup_inv
    exact .tup (.inl (e.gr g)) (dpAll_of (dp_of g n) l xs h q)
  | n + 1, .lst l, v, h, r => by
    obtain ⟨a, xs, rfl, e, q⟩ := r.lst_inv
    exact .lst (.of (g _ _ e)) (dpAll_of (dp_of g n) l xs h q)
  | n, .str x, _, h, _ => by cases n <;> cases h
  | n, .dic x, _, h, _ => by cases n <;> cases h
  | n, .ftu x, _, h, _ => by cases n <;> cases h
  | n, .scr x, _, h, _ => by cases n <;> cases h
  | n, .wish x, _, h, _ => by cases n <;> cases h
  | n, .mkt _ _ _, _, h, _ => by cases n <;> cases h
  | n, .obj _ _ _ _, _, h, _ => by cases n <;> cases h
theorem canA_of {n : Nat} (ih : ∀ d : D, D.plain n d = true → d.py.canLay0 = true ∧ d.py.depth ≤ n) : ∀ l : List D, l.all (D.plain n) = true → PyData.canLayAll0 (D.pyA l) = true ∧ PyData.depthAll (D.pyA l) ≤ n
  | [], _ => ⟨rfl, Nat.zero_le _⟩
  | d :: r, h => by
    simp only [List.all_cons, Bool.and_eq_true] at h
    obtain ⟨a1, a2⟩ := ih d h.1
    obtain ⟨b1, b2⟩ := canA_of ih r h.2
    refine ⟨by rw [D.pyA, PyData.canLayAll0, a1, b1]; rfl, ?_⟩
    rw [D.pyA, PyData.depthAll]
    omega
theorem can_of : ∀ (n : Nat) (d : D), D.plain n d = true → d.py.canLay0 = true ∧ d.py.depth ≤ n
  | _, .non, _ => ⟨rfl, Nat.zero_le _⟩
  | _, .bl b, _ => ⟨rfl, Nat.zero_le _⟩
  | _, .int i, _ => ⟨rfl, Nat.zero_le _⟩
  | n + 1, .tup l, h => by
    obtain ⟨a, b⟩ := canA_of (can_of n) l h
    exact ⟨by rw [D.py, PyData.canLay0]; exact a, by rw [D.py, PyData.depth]; omega⟩
  | n + 1, .lst l, h => by
    obtain ⟨a, b⟩ := canA_of (can_of n) l h
    exact ⟨by rw [D.py, PyData.canLay0]; exact a, by rw [D.py, PyData.depth]; omega⟩
  | n, .str x, h => by cases n <;> cases h
  | n, .dic x, h => by cases n <;> cases h
  | n, .ftu x, h => by cases n <;> cases h
  | n, .scr x, h => by cases n <;> cases h
  | n, .wish x, h => by cases n <;> cases h
  | n, .mkt _ _ _, h => by cases n <;> cases h
  | n, .obj _ _ _ _, h => by cases n <;> cases h
theorem shaped_of {n : Nat} {d : D} (h : D.plain n d = true) (hn : n ≤ 64) : SeqAt.shaped d.py = true := by
  obtain ⟨a, b⟩ := can_of n d h
  unfold SeqAt.shaped
  rw [a, decide_eq_true (Nat.le_trans b hn)]
  rfl
end
theorem plain_ints (n : Nat) (l : List Int) : (l.map D.int).all (D.plain n) = true := by
  induction l with
  | nil => rfl
  | cons a l ih => rw [List.map_cons, List.all_cons, ih]; cases n <;> rfl

section
variable {Θ : Th} {dx dy d : D} {P : D → Prop}
/-! ### == and != -/
theorem opd_eqD {n : Nat} (h : D.plain n d = true) (hn : n ≤ 64 := by decide) : OpD Θ (rEqD Θ.K) d d (· = .bl true) := fun {G H x y Q} hs rx ry k => by
  refine ⟨d.py, d.py, dp_of hs.sub n d x h rx, dp_of hs.sub n d y h ry, shaped_of h hn, shaped_of h hn, ?_⟩
  rw [PySem.SeqAt.eqv_refl _ (can_of n d h).1]
  exact k.same hs (.bl true) rfl
theorem opd_neD {n : Nat} (h : D.plain n d = true) (hn : n ≤ 64 := by decide) : OpD Θ (rNeD Θ.K) d d (· = .bl false) := fun {G H x y Q} hs rx ry k => by
  refine ⟨d.py, d.py, dp_of hs.sub n d x h rx, dp_of hs.sub n d y h ry, shaped_of h hn, shaped_of h hn, ?_⟩
  rw [PySem.SeqAt.eqv_refl _ (can_of n d h).1]
  exact k.same hs (.bl false) rfl
theorem eqv_nilL (l : List D) : PyData.eqv (D.lst l).py (D.lst []).py = l.isEmpty := by
  cases l <;> rfl
theorem eqv_nilT (l : List D) : PyData.eqv (D.tup l).py (D.tup []).py = l.isEmpty := by
  cases l <;> rfl
theorem opd_eqL {n : Nat} {l : List D} (h : l.all (D.plain n) = true) (hn : n + 1 ≤ 64 := by decide) : OpD Θ (rEqD Θ.K) (.lst l) (.lst []) (· = .bl l.isEmpty) := fun {G H x y Q} hs rx ry k => by
  refine ⟨(D.lst l).py, (D.lst []).py, dp_of hs.sub (n + 1) _ x h rx, dp_of hs.sub 1 _ y rfl ry, shaped_of (n := n + 1) h hn, shaped_of (n := 1) (d := .lst []) rfl (by decide), ?_⟩
  rw [eqv_nilL]
  exact k.same hs (.bl _) rfl
theorem opd_neL {n : Nat} {l : List D} (h : l.all (D.plain n) = true) (hn : n + 1 ≤ 64 := by decide) : OpD Θ (rNeD Θ.K) (.lst l) (.lst []) (· = .bl (!l.isEmpty)) := fun {G H x y Q} hs rx ry k => by
  refine ⟨(D.lst l).py, (D.lst []).py, dp_of hs.sub (n + 1) _ x h rx, dp_of hs.sub 1 _ y rfl ry, shaped_of (n := n + 1) h hn, shaped_of (n := 1) (d := .lst []) rfl (by decide), ?_⟩
  rw [eqv_nilL]
  exact k.same hs (.bl _) rfl
theorem opd_eqT {n : Nat} {l : List D} (h : l.all (D.plain n) = true) (hn : n + 1 ≤ 64 := by decide) : OpD Θ (rEqD Θ.K) (.tup l) (.tup []) (· = .bl l.isEmpty) := fun {G H x y Q} hs rx ry k => by
  refine ⟨(D.tup l).py, (D.tup []).py, dp_of hs.sub (n + 1) _ x h rx, dp_of hs.sub 1 _ y rfl ry, shaped_of (n := n + 1) h hn, shaped_of (n := 1) (d := .tup []) rfl (by decide), ?_⟩
  rw [eqv_nilT]
  exact k.same hs (.bl _) rfl
/-- flat values -/
theorem opd_eqF {u v : V} (hx : dx.flat = some u) (hy : dy.flat = some v) (h : scal u v = true) : OpD Θ rEq dx dy (· = .bl (decide (u = v))) := fun {G H x y Q} hs rx ry k => by
  rw [rx.flat hx, ry.flat hy]
  exact ⟨h, k.same hs (.bl _) rfl⟩
theorem opd_neF {u v : V} (hx : dx.flat = some u) (hy : dy.flat = some v) (h : scal u v = true) : OpD Θ rNe dx dy (· = .bl (!decide (u = v))) := fun {G H x y Q} hs rx ry k => by
  rw [rx.flat hx, ry.flat hy]
  exact ⟨h, k.same hs (.bl _) rfl⟩
/-! ### whole numbers -/
theorem opd_I0 {i j : Int} {g : Int → Int → V} {o : D} (hg : o.flat = some (g i j)) : OpD Θ (rI0 g) (.int i) (.int j) (· = o) := fun {G H x y Q} hs rx ry k =>
  ⟨i, j, rx.int_inv, ry.int_inv, k.same hs (.of_flat hg) rfl⟩
theorem opd_I {i j : Int} {C : Int → Int → Prop} {g : Int → Int → V} {o : D} (hc : C i j) (hg : o.flat = some (g i j)) : OpD Θ (rI C g) (.int i) (.int j) (· = o) := fun {G H x y Q} hs rx ry k =>
  ⟨i, j, rx.int_inv, ry.int_inv, hc, k.same hs (.of_flat hg) rfl⟩
/-! ### is None -/
theorem opd_isN {u : V} (hx : dx.flat = some u) : OpD Θ (fun x y H Q => y = .non ∧ Q (.bl (decide (x = .non))) H) dx .non (· = .bl (decide (u = .non))) := fun {G H x y Q} hs rx ry k => by
  rw [rx.flat hx]
  exact ⟨ry.non_inv, k.same hs (.bl _) rfl⟩
theorem opd_notN {u : V} (hx : dx.flat = some u) : OpD Θ (fun x y H Q => y = .non ∧ Q (.bl (!decide (x = .non))) H) dx .non (· = .bl (!decide (u = .non))) := fun {G H x y Q} hs rx ry k => by
  rw [rx.flat hx]
  exact ⟨ry.non_inv, k.same hs (.bl _) rfl⟩
/-! ### in -/
theorem inV_ints (i : Int) (l : List Int) : inV (.int i) (l.map V.int) = decide (i ∈ l) := by
  unfold inV
  induction l with
  | nil => rfl
  | cons a l ih =>
    rw [List.map_cons, List.any_cons, ih]
    by_cases h : i = a
    · subst h
      simp [eqV]
    · have h2 : (a == i) = false := by simpa using fun e : a = i => h e.symm
      have h3 : eqV (.int a) (.int i) = false := h2
      rw [h3]
      simp [h]
theorem inV_non (l : List Int) : inV .non (l.map V.int) = false := by
  unfold inV
  induction l with
  | nil => rfl
  | cons a l ih => rw [List.map_cons, List.any_cons, ih]; rfl
theorem flat_ints (l : List Int) : (l.map V.int).all flatV = true := by
  induction l with
  | nil => rfl
  | cons a l ih => rw [List.map_cons, List.all_cons, ih]; rfl
theorem opd_in {i : Int} {l : List Int} {neg : Bool} : OpD Θ (rIn Θ.K neg) (.int i) (.tup (l.map D.int)) (· = .bl (if neg then !decide (i ∈ l) else decide (i ∈ l))) := fun {G H x y Q} hs rx ry k => by
  obtain ⟨a, xs, rfl, e, q⟩ := ry.tup_inv
  rw [rx.int_inv]
  have e2 := q.ints_inv
  subst e2
  refine ⟨a, _, rfl, .inr (.inl (e.gr hs.sub)), rfl, flat_ints l, ?_⟩
  rw [inV_ints]
  exact k.same hs (.bl _) rfl
theorem opd_inN {l : List Int} {neg : Bool} : OpD Θ (rIn Θ.K neg) .non (.tup (l.map D.int)) (· = .bl neg) := fun {G H x y Q} hs rx ry k => by
  obtain ⟨a, xs, rfl, e, q⟩ := ry.tup_inv
  rw [rx.non_inv]
  have e2 := q.ints_inv
  subst e2
  refine ⟨a, _, rfl, .inr (.inl (e.gr hs.sub)), rfl, flat_ints l, ?_⟩
  rw [inV_non]
  have : (if neg = true then !false else false) = neg := by cases neg <;> rfl
  rw [this]
  exact k.same hs (.bl _) rfl
/-! ### a new object -/
theorem KD.newT {G H : Hp} {Q : VK} {p : Addr} {vs : List V} {ds : List D} (k : KD Θ G H (· = .tup ds) Q) (hs : Hs Θ G H) (hp : H p = none) (r : RepA Θ G vs ds) : Q (.ref p) (upd H p (.tup vs)) :=
  k _ _ _ _ (.laid hp (hs.sub.free hp)) (hs.laid hp fun _ z => by cases z) (.tup (.inl upd_same) (r.gr (.new (hs.sub.free hp)))) rfl
theorem KD.newL {G H : Hp} {Q : VK} {p : Addr} {vs : List V} {ds : List D} (k : KD Θ G H (· = .lst ds) Q) (hs : Hs Θ G H) (hp : H p = none) (r : RepA Θ G vs ds) : Q (.ref p) (upd H p (.lst vs)) :=
  k _ _ _ _ (.laid hp (hs.sub.free hp)) (hs.laid hp fun _ z => by cases z) (.lst upd_same (r.gr (.new (hs.sub.free hp)))) rfl
/-! ### + of tuples and lists, items, slices -/
theorem sz_of {n : Nat} (h : n ≤ 1000) : n ≤ sizeLine := Nat.le_trans h (by decide)
theorem sz_lt {n : Nat} (h : n ≤ 1000) : n < sizeLine := Nat.lt_of_le_of_lt h (by decide)
theorem opd_catT {l m : List D} (hl : l.length + m.length ≤ 1000) : OpD Θ (rCatA Θ.K) (.tup l) (.tup m) (· = .tup (l ++ m)) := fun {G H x y Q} hs rx ry k => by
  obtain ⟨a, xs, rfl, e1, q1⟩ := rx.tup_inv
  obtain ⟨b, ys, rfl, e2, q2⟩ := ry.tup_inv
  refine ⟨a, b, xs, ys, rfl, rfl, .inl (e1.gr hs.sub), .inl (e2.gr hs.sub), sz_of (by rw [q1.length, q2.length]; exact hl), fun h => ?_, fun h h2 => ?_, fun _ _ p hp => k.newT hs hp (q1.append q2)⟩
  · subst h
    cases q1
    exact k.same hs ry rfl
  · subst h2
    cases q2
    exact k.same hs rx (by rw [List.append_nil])
theorem opd_catL {l m : List D} (hl : l.length + m.length ≤ 1000) : OpD Θ rCat (.lst l) (.lst m) (· = .lst (l ++ m)) := fun {G H x y Q} hs rx ry k => by
  obtain ⟨a, xs, rfl, e1, q1⟩ := rx.lst_inv
  obtain ⟨b, ys, rfl, e2, q2⟩ := ry.lst_inv
  exact ⟨a, b, xs, ys, rfl, rfl, hs.sub _ _ e1, hs.sub _ _ e2, sz_of (by rw [q1.length, q2.length]; exact hl), fun p hp => k.newL hs hp (q1.append q2)⟩
theorem opd_ixL {l : List D} {j : Nat} {i : Int} (hi : i = (j : Int)) (h : l[j]? = some d) : OpD Θ (rIxL Θ.K) (.lst l) (.int i) (· = d) := fun {G H x y Q} hs rx ry k => by
  obtain ⟨a, xs, rfl, e1, q1⟩ := rx.lst_inv
  obtain ⟨v, h1, h2⟩ := q1.get h
  rw [ry.int_inv, hi]
  exact ⟨a, xs, _, v, rfl, rfl, .of (hs.sub _ _ e1), atI_nat h1, k.same hs h2 rfl⟩
theorem opd_ixT {l : List D} {j : Nat} {i : Int} (hi : i = (j : Int)) (h : l[j]? = some d) : OpD Θ (rIxT Θ.K) (.tup l) (.int i) (· = d) := fun {G H x y Q} hs rx ry k => by
  obtain ⟨a, xs, rfl, e1, q1⟩ := rx.tup_inv
  obtain ⟨v, h1, h2⟩ := q1.get h
  rw [ry.int_inv, hi]
  exact ⟨a, xs, _, v, rfl, rfl, .inl (e1.gr hs.sub), atI_nat h1, k.same hs h2 rfl⟩
/-! ### calls -/
theorem cad_lenL {l : List D} : CaD Θ (fun xs H Q => ∃ p ys, xs = [.ref p] ∧ (SqL Θ.K H p ys ∨ SqT Θ.K H p ys) ∧ Q (.int ys.length) H) [.lst l] (· = .int (l.length : Int)) := fun {G H xs Q} hs r k => by
  cases r with
  | cons r t =>
    cases t
    obtain ⟨a, xs, rfl, e1, q1⟩ := r.lst_inv
    exact ⟨a, xs, rfl, .inl (.of (hs.sub _ _ e1)), k.same hs (.int _) (by rw [q1.length])⟩
theorem cad_lenT {l : List D} : CaD Θ (fun xs H Q => ∃ p ys, xs = [.ref p] ∧ (SqL Θ.K H p ys ∨ SqT Θ.K H p ys) ∧ Q (.int ys.length) H) [.tup l] (· = .int (l.length : Int)) := fun {G H xs Q} hs r k => by
  cases r with
  | cons r t =>
    cases t
    obtain ⟨a, xs, rfl, e1, q1⟩ := r.tup_inv
    exact ⟨a, xs, rfl, .inr (.inl (e1.gr hs.sub)), k.same hs (.int _) (by rw [q1.length])⟩
theorem cad_listL {l : List D} : CaD Θ (fun xs H Q => ∃ p ys, xs = [.ref p] ∧ (SqL Θ.K H p ys ∨ SqT Θ.K H p ys) ∧ ∀ l, H l = none → Q (.ref l) (upd H l (.lst ys))) [.lst l] (· = .lst l) := fun {G H xs Q} hs r k => by
  cases r with
  | cons r t =>
    cases t
    obtain ⟨a, xs, rfl, e1, q1⟩ := r.lst_inv
    exact ⟨a, xs, rfl, .inl (.of (hs.sub _ _ e1)), fun p hp => k.newL hs hp q1⟩
theorem cad_listT {l : List D} : CaD Θ (fun xs H Q => ∃ p ys, xs = [.ref p] ∧ (SqL Θ.K H p ys ∨ SqT Θ.K H p ys) ∧ ∀ l, H l = none → Q (.ref l) (upd H l (.lst ys))) [.tup l] (· = .lst l) := fun {G H xs Q} hs r k => by
  cases r with
  | cons r t =>
    cases t
    obtain ⟨a, xs, rfl, e1, q1⟩ := r.tup_inv
    exact ⟨a, xs, rfl, .inr (.inl (e1.gr hs.sub)), fun p hp => k.newL hs hp q1⟩
theorem cad_tupL {l : List D} : CaD Θ (fun xs H Q => ∃ p ys, xs = [.ref p] ∧ ((SqL Θ.K H p ys ∧ ∀ l, H l = none → Q (.ref l) (upd H l (.tup ys))) ∨ (SqT Θ.K H p ys ∧ Q (.ref p) H))) [.lst l] (· = .tup l) := fun {G H xs Q} hs r k => by
  cases r with
  | cons r t =>
    cases t
    obtain ⟨a, xs, rfl, e1, q1⟩ := r.lst_inv
    exact ⟨a, xs, rfl, .inl ⟨.of (hs.sub _ _ e1), fun p hp => k.newT hs hp q1⟩⟩
theorem cad_tupT {l : List D} : CaD Θ (fun xs H Q => ∃ p ys, xs = [.ref p] ∧ ((SqL Θ.K H p ys ∧ ∀ l, H l = none → Q (.ref l) (upd H l (.tup ys))) ∨ (SqT Θ.K H p ys ∧ Q (.ref p) H))) [.tup l] (· = .tup l) := fun {G H xs Q} hs r k => by
  cases r with
  | cons r t =>
    cases t
    obtain ⟨a, xs, rfl, e1, q1⟩ := r.tup_inv
    exact ⟨a, xs, rfl, .inr ⟨.inl (e1.gr hs.sub), k.same hs (.tup e1 q1) rfl⟩⟩
end
end PM

/-! Expressions. -/
namespace PM
open PySem PySem.Spec PyProof.Rows L2

section
variable {Θ : Th} {X : Cx} {a b c e : Expr} {es : List Expr} {δ : List SD} {pos : Pos} {P P' PA PB : D → Prop} {d da db : D} {i : Nat} {x : Str} {k m : Bool}
/-! ### tests -/
/-- an expression that gives a truth value, as a test -/
theorem et_val (h : EV Θ X e δ (· = .bl k)) (he : ∀ whole, isTrue e X.env whole = (do let v ← whole; standAt e.pos; holding [v] (truthy v)) := by intro _; rfl) : ET Θ X e δ k := fun M G0 H0 G H σ Q S q =>
  .of (pt_val pe_can he) (h M G0 H0 G H σ _ S fun v d G' H' S' g r p => by
    subst p
    exact ⟨k, r.bl_inv, q G' H' S' g⟩)
theorem et_not (h : ET Θ X a δ k) : ET Θ X (.UnaryOp .Not a pos) δ (!k) := fun M G0 H0 G H σ Q S q =>
  .of (pt_not pt_can) (h M G0 H0 G H σ _ S q)
theorem ew_and (h : ET Θ X a δ k) (h2 : k = true → EW Θ X (.BoolOp .And (b :: es) pos) δ m) : EW Θ X (.BoolOp .And (a :: b :: es) pos) δ (k && m) := fun M G0 H0 G H σ Q S q =>
  .of (pw_and pt_can pw_can) (h M G0 H0 G H σ _ S fun G' H' S' g => by
    cases k with
    | false => exact q G' H' S' g
    | true => exact h2 rfl M G0 H0 G' H' σ Q S' fun G2 H2 S2 g2 => q G2 H2 S2 (g.trans g2))
theorem ew_and1 (h : ET Θ X a δ k) : EW Θ X (.BoolOp .And [a] pos) δ k := fun M G0 H0 G H σ Q S q =>
  .of (pw_and1 pt_can) (h M G0 H0 G H σ Q S q)
theorem ew_or (h : ET Θ X a δ k) (h2 : k = false → EW Θ X (.BoolOp .Or (b :: es) pos) δ m) : EW Θ X (.BoolOp .Or (a :: b :: es) pos) δ (k || m) := fun M G0 H0 G H σ Q S q =>
  .of (pw_or pt_can pw_can) (h M G0 H0 G H σ _ S fun G' H' S' g => by
    cases k with
    | true => exact q G' H' S' g
    | false => exact h2 rfl M G0 H0 G' H' σ Q S' fun G2 H2 S2 g2 => q G2 H2 S2 (g.trans g2))
theorem ew_or1 (h : ET Θ X a δ k) : EW Θ X (.BoolOp .Or [a] pos) δ k := fun M G0 H0 G H σ Q S q =>
  .of (pw_or1 pt_can) (h M G0 H0 G H σ Q S q)
theorem et_w (h : EW Θ X e δ k) : ET Θ X e δ k := fun M G0 H0 G H σ Q S q => .of pw_can.pt (h M G0 H0 G H σ Q S q)
/-! ### and, or, not as values -/
theorem ev_one {op} (h : EV Θ X a δ P) : EV Θ X (.BoolOp op [a] pos) δ P := fun M G0 H0 G H σ Q S q => .of (pe_one pe_can) (h M G0 H0 G H σ Q S q)
theorem ev_and (h : EV Θ X a δ (· = .bl k)) (h2 : k = true → EV Θ X (.BoolOp .And (b :: es) pos) δ (· = .bl m)) : EV Θ X (.BoolOp .And (a :: b :: es) pos) δ (· = .bl (k && m)) := fun M G0 H0 G H σ Q S q =>
  .of (pe_and pe_can pe_can) (h M G0 H0 G H σ _ S fun v d G' H' S' g r p => by
    subst p
    refine ⟨k, r.bl_inv, ?_⟩
    cases k with
    | false => exact q _ _ G' H' S' g (.bl false) rfl
    | true => exact h2 rfl M G0 H0 G' H' σ Q S' fun v2 d2 G2 H2 S2 g2 => q v2 d2 G2 H2 S2 (g.trans g2))
theorem ev_or (h : EV Θ X a δ (· = .bl k)) (h2 : k = false → EV Θ X (.BoolOp .Or (b :: es) pos) δ (· = .bl m)) : EV Θ X (.BoolOp .Or (a :: b :: es) pos) δ (· = .bl (k || m)) := fun M G0 H0 G H σ Q S q =>
  .of (pe_or pe_can pe_can) (h M G0 H0 G H σ _ S fun v d G' H' S' g r p => by
    subst p
    refine ⟨k, r.bl_inv, ?_⟩
    cases k with
    | true => exact q _ _ G' H' S' g (.bl true) rfl
    | false => exact h2 rfl M G0 H0 G' H' σ Q S' fun v2 d2 G2 H2 S2 g2 => q v2 d2 G2 H2 S2 (g.trans g2))
theorem ev_not (h : EV Θ X a δ (· = .bl k)) : EV Θ X (.UnaryOp .Not a pos) δ (· = .bl (!k)) := fun M G0 H0 G H σ Q S q =>
  .of (pe_not pe_can) (h M G0 H0 G H σ _ S fun v d G' H' S' g r p => by
    subst p
    exact ⟨k, r.bl_inv, q _ _ G' H' S' g (.bl _) rfl⟩)
theorem ev_if (h : ET Θ X c δ k) (h1 : k = true → EV Θ X a δ P) (h2 : k = false → EV Θ X b δ P) : EV Θ X (.IfExp c a b pos) δ P := fun M G0 H0 G H σ Q S q =>
  .of (pe_ifExp pt_can pe_can pe_can) (h M G0 H0 G H σ _ S fun G' H' S' g => by
    cases k with
    | true => exact h1 rfl M G0 H0 G' H' σ Q S' fun v2 d2 G2 H2 S2 g2 => q v2 d2 G2 H2 S2 (g.trans g2)
    | false => exact h2 rfl M G0 H0 G' H' σ Q S' fun v2 d2 G2 H2 S2 g2 => q v2 d2 G2 H2 S2 (g.trans g2))
/-- 0 <= a < b and its like -/
theorem ev_chain {op op' : CmpOp} {r r' : R2} (ho : OpR X (compareOp op) r) (ho' : OpR X (compareOp op') r') (ha : EV Θ X a δ (· = da)) (hb : EV Θ X b δ (· = db)) (hc : k = true → EV Θ X c δ (· = d))
    (h1 : OpD Θ r da db (· = .bl k)) (h2 : k = true → OpD Θ r' db d (· = .bl m)) (hm : lastMarks [op, op'] [b, c] = false := by with_unfolding_all rfl) :
    EV Θ X (.Compare a [op, op'] [b, c] pos) δ (· = .bl (k && m)) := fun M G0 H0 G H σ Q S q =>
  .of (pe_chain ho ho' pe_can pe_can pe_can hm) (ha M G0 H0 G H σ _ S fun x dx G1 H1 S1 g1 r1 p1 => hb M G0 H0 G1 H1 σ _ S1 fun y dy G2 H2 S2 g2 r2 p2 => by
    subst p1 p2
    refine h1 S2.hs (r1.gr g2) r2 (S2.kd fun v d3 G3 H3 S3 g3 r3 p3 => ?_)
    subst p3
    refine ⟨k, r3.bl_inv, ?_⟩
    cases k with
    | false => exact q _ _ G3 H3 S3 ((g1.trans g2).trans g3) (.bl false) rfl
    | true =>
      refine hc rfl M G0 H0 G3 H3 σ _ S3 fun z dz G4 H4 S4 g4 r4 p4 => ?_
      subst p4
      exact h2 rfl S4.hs ((r2.gr g3).gr g4) r4 (S4.kd fun v d5 G5 H5 S5 g5 => q v d5 G5 H5 S5 ((((g1.trans g2).trans g3).trans g4).trans g5)))
/-! ### arguments, displays -/
theorem ea_nil : EA Θ X [] δ (· = []) := fun M G0 H0 G H σ Q S q => .of pa_nil (q [] [] G H S (.refl G) .nil rfl)
theorem ea_cons {PR : List D → Prop} {PL : List D → Prop} (h : EV Θ X e δ P) (h2 : EA Θ X es δ PR) (k : ∀ d ds, P d → PR ds → PL (d :: ds)) (hs : starEach (e :: es) X.env = (false, eval e X.env) :: starEach es X.env := by rfl) : EA Θ X (e :: es) δ PL := fun M G0 H0 G H σ Q S q =>
  .of (pa_cons pe_can pa_can hs) (h M G0 H0 G H σ _ S fun x dx G1 H1 S1 g1 r1 p1 => h2 M G0 H0 G1 H1 σ _ S1 fun vs ds G2 H2 S2 g2 r2 p2 => q _ _ G2 H2 S2 (g1.trans g2) (.cons (r1.gr g2) r2) (k _ _ p1 p2))
theorem ea_c {ds : List D} (h : EV Θ X e δ (· = d)) (h2 : EA Θ X es δ (· = ds)) (hs : starEach (e :: es) X.env = (false, eval e X.env) :: starEach es X.env := by rfl) : EA Θ X (e :: es) δ (· = d :: ds) :=
  ea_cons h h2 (fun _ _ p q => by rw [p, q]) hs
theorem ev_tupP {PL : List D → Prop} {x1} (h : EA Θ X es δ PL) (hl : es.length ≤ 1000) (hn : ∀ ds, PL ds → ds.length = es.length) : EV Θ X (.Tuple es x1 pos) δ (fun d => ∃ ds, d = .tup ds ∧ PL ds) := fun M G0 H0 G H σ Q S q =>
  .of (pe_tup pa_can) (h M G0 H0 G H σ _ S fun vs ds G1 H1 S1 g1 r1 p1 => ⟨sz_of (by rw [r1.length, hn _ p1]; exact hl), fun p hp =>
    KD.newT (Q := Q) (S1.kd (P := (· = .tup ds)) fun v d G' H' S' g r e => q v d G' H' S' (g1.trans g) r ⟨ds, e, p1⟩) S1.hs hp r1⟩)
theorem ev_tup {ds : List D} {x1} (h : EA Θ X es δ (· = ds)) (hl : ds.length ≤ 1000 := by first | decide | exact Nat.le_of_ble_eq_true rfl) : EV Θ X (.Tuple es x1 pos) δ (· = .tup ds) := fun M G0 H0 G H σ Q S q =>
  .of (pe_tup pa_can) (h M G0 H0 G H σ _ S fun vs ds' G1 H1 S1 g1 r1 p1 => ⟨sz_of (by rw [r1.length, p1]; exact hl), fun p hp =>
    KD.newT (Q := Q) (S1.kd (P := (· = .tup ds)) fun v d G' H' S' g r e => q v d G' H' S' (g1.trans g) r e) S1.hs hp (p1 ▸ r1)⟩)
theorem ev_lst {ds : List D} (h : EA Θ X es δ (· = ds)) (hl : ds.length ≤ 1000 := by first | decide | exact Nat.le_of_ble_eq_true rfl) : EV Θ X (.List es pos) δ (· = .lst ds) := fun M G0 H0 G H σ Q S q =>
  .of (pe_lst pa_can) (h M G0 H0 G H σ _ S fun vs ds' G1 H1 S1 g1 r1 p1 => ⟨sz_of (by rw [r1.length, p1]; exact hl), fun p hp =>
    KD.newL (Q := Q) (S1.kd (P := (· = .lst ds)) fun v d G' H' S' g r e => q v d G' H' S' (g1.trans g) r e) S1.hs hp (p1 ▸ r1)⟩)
/-! ### items -/
theorem ev_ix {r : R2} (hr : IxR X r) (ha : EV Θ X a δ PA) (hb : EV Θ X b δ PB) (k : ∀ dx dy, PA dx → PB dy → OpD Θ r dx dy P) (hs : PlainIx b) : EV Θ X (.Subscript a b pos) δ P := fun M G0 H0 G H σ Q S q =>
  .of (pe_ix hr pe_can pe_can hs) (ha M G0 H0 G H σ _ S fun x dx G1 H1 S1 g1 r1 p1 => hb M G0 H0 G1 H1 σ _ S1 fun y dy G2 H2 S2 g2 r2 p2 => k dx dy p1 p2 S2.hs (r1.gr g2) r2 (S2.kd fun v d G' H' S' g => q v d G' H' S' ((g1.trans g2).trans g)))
/-! ### slices: t[n:], t[:n] -/
theorem cut_from {α : Type} (l : List α) (n : Nat) : (l.drop (HT.sIx l.length 0 (some (n : Int)))).take (HT.sIx l.length l.length none - HT.sIx l.length 0 (some (n : Int))) = l.drop n := by
  have e1 : HT.sIx l.length 0 (some (n : Int)) = min n l.length := by
    unfold HT.sIx
    simp only
    split <;> omega
  have e2 : HT.sIx l.length l.length none = l.length := rfl
  rw [e1, e2, List.take_of_length_le (by rw [List.length_drop]; omega)]
  by_cases h : n ≤ l.length
  · rw [Nat.min_eq_left h]
  · rw [Nat.min_eq_right (by omega), List.drop_of_length_le (by omega), List.drop_of_length_le (by omega)]
theorem cut_to {α : Type} (l : List α) (n : Nat) : (l.drop (HT.sIx l.length 0 none)).take (HT.sIx l.length l.length (some (n : Int)) - HT.sIx l.length 0 none) = l.take n := by
  have e1 : HT.sIx l.length l.length (some (n : Int)) = min n l.length := by
    unfold HT.sIx
    simp only
    split <;> omega
  have e2 : HT.sIx l.length 0 none = 0 := rfl
  rw [e1, e2, List.drop_zero, Nat.sub_zero]
  by_cases h : n ≤ l.length
  · rw [Nat.min_eq_left h]
  · rw [Nat.min_eq_right (by omega), List.take_of_length_le (by omega), List.take_of_length_le (by omega)]
/-- what a slice gives -/
def SlD (Θ : Th) (r : V → Option Int → Option Int → Hp → VK → Prop) (dx : D) (lo hi : Option Int) (P : D → Prop) : Prop := ∀ {G H : Hp} {x : V} {Q : VK}, Hs Θ G H → Rep Θ G x dx → KD Θ G H P Q → r x lo hi H Q
theorem sld_fromL {l : List D} {n : Nat} : SlD Θ (rSlL Θ.K) (.lst l) (some (n : Int)) none (· = .lst (l.drop n)) := fun {G H x Q} hs rx k => by
  obtain ⟨a, xs, rfl, e1, q1⟩ := rx.lst_inv
  refine ⟨a, xs, rfl, .of (hs.sub _ _ e1), fun p hp => ?_⟩
  rw [show cutV xs (some (n : Int)) none = xs.drop n from cut_from xs n]
  exact k.newL hs hp (q1.drop n)
theorem sld_toL {l : List D} {n : Nat} : SlD Θ (rSlL Θ.K) (.lst l) none (some (n : Int)) (· = .lst (l.take n)) := fun {G H x Q} hs rx k => by
  obtain ⟨a, xs, rfl, e1, q1⟩ := rx.lst_inv
  refine ⟨a, xs, rfl, .of (hs.sub _ _ e1), fun p hp => ?_⟩
  rw [show cutV xs none (some (n : Int)) = xs.take n from cut_to xs n]
  exact k.newL hs hp (q1.take n)
theorem sld_fromT {l : List D} {n : Nat} : SlD Θ (rSlA Θ.K) (.tup l) (some (n : Int)) none (· = .tup (l.drop n)) := fun {G H x Q} hs rx k => by
  obtain ⟨a, xs, rfl, e1, q1⟩ := rx.tup_inv
  refine ⟨a, xs, rfl, .inl (e1.gr hs.sub), fun h => ?_, fun _ p hp => ?_⟩
  · refine k.same hs rx ?_
    have e := cut_from l n
    rw [show HT.sIx l.length 0 (some (n : Int)) = 0 by rw [← q1.length]; exact h.1, show HT.sIx l.length l.length none = l.length from rfl] at e
    rw [← e, List.drop_zero, Nat.sub_zero, List.take_length]
  · rw [show cutV xs (some (n : Int)) none = xs.drop n from cut_from xs n]
    exact k.newT hs hp (q1.drop n)
theorem sld_toT {l : List D} {n : Nat} : SlD Θ (rSlA Θ.K) (.tup l) none (some (n : Int)) (· = .tup (l.take n)) := fun {G H x Q} hs rx k => by
  obtain ⟨a, xs, rfl, e1, q1⟩ := rx.tup_inv
  refine ⟨a, xs, rfl, .inl (e1.gr hs.sub), fun h => ?_, fun _ p hp => ?_⟩
  · refine k.same hs rx ?_
    have e := cut_to l n
    rw [show HT.sIx l.length l.length (some (n : Int)) = l.length by rw [← q1.length]; exact h.2, show HT.sIx l.length 0 none = 0 from rfl] at e
    rw [← e, List.drop_zero, Nat.sub_zero, List.take_length]
  · rw [show cutV xs none (some (n : Int)) = xs.take n from cut_to xs n]
    exact k.newT hs hp (q1.take n)
theorem ev_from {r : V → Option Int → Option Int → Hp → VK → Prop} {n : Int} {p2 : Pos} (hr : SlR X r) (ha : EV Θ X a δ (· = d)) (hb : EV Θ X b δ (· = .int n)) (k : SlD Θ r d (some n) none P) : EV Θ X (.Subscript a (.Slice (some b) none none p2) pos) δ P := fun M G0 H0 G H σ Q S q =>
  .of (pe_slice hr pe_can (po_some pe_can) po_none) (ha M G0 H0 G H σ _ S fun x dx G1 H1 S1 g1 r1 p1 => hb M G0 H0 G1 H1 σ _ S1 fun y dy G2 H2 S2 g2 r2 p2 => by
    subst p1 p2
    exact ⟨n, r2.int_inv, k S2.hs (r1.gr g2) (S2.kd fun v d G' H' S' g => q v d G' H' S' ((g1.trans g2).trans g))⟩)
theorem ev_to {r : V → Option Int → Option Int → Hp → VK → Prop} {n : Int} {p2 : Pos} (hr : SlR X r) (ha : EV Θ X a δ (· = d)) (hb : EV Θ X b δ (· = .int n)) (k : SlD Θ r d none (some n) P) : EV Θ X (.Subscript a (.Slice none (some b) none p2) pos) δ P := fun M G0 H0 G H σ Q S q =>
  .of (pe_slice hr pe_can po_none (po_some pe_can)) (ha M G0 H0 G H σ _ S fun x dx G1 H1 S1 g1 r1 p1 => hb M G0 H0 G1 H1 σ _ S1 fun y dy G2 H2 S2 g2 r2 p2 => by
    subst p1 p2
    exact ⟨n, r2.int_inv, k S2.hs (r1.gr g2) (S2.kd fun v d G' H' S' g => q v d G' H' S' ((g1.trans g2).trans g))⟩)
/-! ### calls of built-ins -/
theorem ev_callB {id : String} {r : List V → Hp → VK → Prop} {ds : List D} {p : Pos} (hc : CallR X (.builtin id) r) (hg : Gl X x) (hm : X.mg x = none) (hv : bootBuiltins x = some (.builtin id)) (ha : EA Θ X (e :: es) δ (· = ds)) (k : CaD Θ r ds P)
    (hn : x ≠ "__name__" := by decide) (hdb : (x == ("__debug__" : Str)) = false := by decide) (he : starEach (e :: es) X.env = (false, eval e X.env) :: starEach es X.env := by rfl) (hpl : (backTo pos (starEach es X.env)).any (·.1) = false := by rfl) :
    EV Θ X (.Call (.Name x p) (e :: es) [] pos) δ P := fun M G0 H0 G H σ Q S q =>
  .of (pe_callB hc hg hm hv pa_can hn hdb he hpl) (ha M G0 H0 G H σ _ S fun vs ds' G1 H1 S1 g1 r1 p1 => by
    subst p1
    exact k S1.hs r1 (S1.kd fun v d G' H' S' g => q v d G' H' S' (g1.trans g)))
theorem ev_callTy {T : String} {r : List V → Hp → VK → Prop} {ds : List D} {p : Pos} (hc : CallR X (.type T) r) (hg : Gl X x) (hm : X.mg x = none) (hv : bootBuiltins x = some (.type T)) (ha : EA Θ X (e :: es) δ (· = ds)) (k : CaD Θ r ds P)
    (hn : x ≠ "__name__" := by decide) (hdb : (x == ("__debug__" : Str)) = false := by decide) (he : starEach (e :: es) X.env = (false, eval e X.env) :: starEach es X.env := by rfl) (hpl : (backTo pos (starEach es X.env)).any (·.1) = false := by rfl) :
    EV Θ X (.Call (.Name x p) (e :: es) [] pos) δ P := fun M G0 H0 G H σ Q S q =>
  .of (pe_callTy hc hg hm hv pa_can hn hdb he hpl) (ha M G0 H0 G H σ _ S fun vs ds' G1 H1 S1 g1 r1 p1 => by
    subst p1
    exact k S1.hs r1 (S1.kd fun v d G' H' S' g => q v d G' H' S' (g1.trans g)))
/-! ### fields -/
theorem ev_fld {f : Str} {K : PySem.W.Frag} (ha : EV Θ X a δ (· = d)) (hb : attributeBase a f X.env (eval a X.env) = eval a X.env := by rfl)
    (k : ∀ {G H : Hp} {x : V} {Q : VK}, Hs Θ G H → Rep Θ G x d → KD Θ G H P Q → ∃ p C dx fs v, x = .ref p ∧ H p = some (.ins C dx fs) ∧ Cls X.K C ∧ NoAttr X.K C f ∧ fs.lookup f = some v ∧ Q v H) : EV Θ X (.Attribute a f pos) δ P := fun M G0 H0 G H σ Q S q =>
  .of (pe_fld pe_can hb) (ha M G0 H0 G H σ _ S fun x dx G1 H1 S1 g1 r1 p1 => by
    subst p1
    exact k S1.hs r1 (S1.kd fun v d G' H' S' g => q v d G' H' S' (g1.trans g)))
end
end PM

/-! Promises of defs, calls. -/
namespace PM
open PySem PySem.Spec PyProof.Rows L2

/-- what follows an exception of the class c -/
abbrev KX (Θ : Th) (G H : Hp) (c : Addr) (E : XK) : Prop := ∀ G' H', Stp none G H G' H' → Hs Θ G' H' → E (.ref c) none H'
/-- a def that only reads: R, what it gives; RX, what it raises -/
def PSp (Θ : Th) (n : Nat) (R : List D → D → Prop) (RX : List D → Addr → Prop) : Sp := fun vs H Q E => vs.length = n ∧ ∃ G ds, Hs Θ G H ∧ RepA Θ G vs ds ∧
  ((∃ d, R ds d ∧ KD Θ G H (· = d) Q) ∨ (∃ c, RX ds c ∧ KX Θ G H c E))
/-- a def that throws the dice, its first argument -/
def DSp (Θ : Th) (n : Nat) (R : List D → (D → Prop) → Prop) : Sp := fun vs H Q E => vs.length = n + 1 ∧ ∃ G d us ds P, vs = .ref d :: us ∧ Hs Θ G H ∧ DiceAt G H d ∧ RepA Θ G us ds ∧ R ds P ∧
  ∀ v x G' H', Stp (some d) G H G' H' → Hs Θ G' H' → DiceAt G' H' d → Rep Θ G' v x → P x → Q v H'
/-- an __init__ of the class C -/
def ISp (Θ : Th) (C : Addr) (n : Nat) (R : List D → D → Prop) (RX : List D → Addr → Prop) : Sp := fun vs H Q E => vs.length = n + 1 ∧ ∃ x dx H0 G us ds, vs = .ref x :: us ∧ H0 x = none ∧ H0 dx = none ∧ dx ≠ x ∧
  H = upd (upd H0 dx (.own x)) x (.ins C dx []) ∧ Hs Θ G H0 ∧ RepA Θ G us ds ∧
  ((∃ d, R ds d ∧ ∀ G' H', Stp none G H0 G' H' → Hs Θ G' H' → Rep Θ G' (.ref x) d → Q .non H') ∨ (∃ c, RX ds c ∧ KX Θ G H0 c E))

structure Dfn (Θ : Th) (x : Str) (k n : Nat) (R : List D → D → Prop) (RX : List D → Addr → Prop) : Prop where
  ex : ∃ f fd ps, FnOk Θ.P Θ.w Θ.K Θ.mg Θ.base (L2.CX Θ.P Θ.w) k f fd ps (PSp Θ n R RX) ∧ Θ.mg x = some (.ref f) ∧ PySem.W.keepIn Θ.K (.ref f) = true ∧ Binds Θ.K fd ps []
structure DfnD (Θ : Th) (x : Str) (k n : Nat) (R : List D → (D → Prop) → Prop) : Prop where
  ex : ∃ f fd ps, FnOk Θ.P Θ.w Θ.K Θ.mg Θ.base (L2.CX Θ.P Θ.w) k f fd ps (DSp Θ n R) ∧ Θ.mg x = some (.ref f) ∧ PySem.W.keepIn Θ.K (.ref f) = true ∧ Binds Θ.K fd ps []
structure Mth (Θ : Th) (C : Addr) (m : Str) (k n : Nat) (R : List D → D → Prop) (RX : List D → Addr → Prop) : Prop where
  ex : ∃ f fd ps, Cls Θ.K C ∧ Meth Θ.K C m f ∧ FnOk Θ.P Θ.w Θ.K Θ.mg Θ.base (L2.CX Θ.P Θ.w) k f fd ps (PSp Θ n R RX) ∧ Binds Θ.K fd ps []
structure Mkr (Θ : Th) (x : Str) (C : Addr) (k n : Nat) (R : List D → D → Prop) (RX : List D → Addr → Prop) : Prop where
  ex : ∃ f fd ps, Mk Θ.K C f ∧ FnOk Θ.P Θ.w Θ.K Θ.mg Θ.base (L2.CX Θ.P Θ.w) k f fd ps (ISp Θ C n R RX) ∧ Θ.mg x = some (.ref C) ∧ Binds Θ.K fd ps []

theorem passE0 {X : Cx} : Passes (L2.CX X.prog X.w) X E0 := fun _ _ _ _ _ _ _ c => by
  obtain ⟨_, _, _, _, _, _, _, _, _, _, _, _, z⟩ := c
  exact z.elim
/-- no field of that name -/
def NoFld (Θ : Th) (C : Addr) (m : Str) (d : D) : Prop := ∀ {G : Hp} {x : V}, Rep Θ G x d → ∃ a dx fs, x = .ref a ∧ G a = some (.ins C dx fs) ∧ fs.lookup m = none
theorem wf_no {p q : Addr} {m : Str} (h1 : ¬ m = "order") (h2 : ¬ m = "ranks") : (wf p q).lookup m = none := by
  unfold wf
  rw [lookup_putF, if_neg h2, lookup_putF, if_neg h1]
  rfl
theorem mf_no {p q r : Addr} {m : Str} (h1 : ¬ m = "askers") (h2 : ¬ m = "rooms") (h3 : ¬ m = "seats") : (mf p q r).lookup m = none := by
  unfold mf
  rw [lookup_putF, if_neg h3, lookup_putF, if_neg h2, lookup_putF, if_neg h1]
  rfl
theorem noFld_wish {Θ : Th} {m : Str} {l : List Int} (h1 : ¬ m = "order" := by decide +kernel) (h2 : ¬ m = "ranks" := by decide +kernel) : NoFld Θ Θ.CW m (.wish l) := fun {G x} r => by
  obtain ⟨a, dx, p, q, rfl, e, _⟩ := r.wish_inv
  exact ⟨a, dx, _, rfl, e, wf_no h1 h2⟩
theorem noFld_mkt {Θ : Th} {m : Str} {as rs : List (List Int)} {ss : List Int} (h1 : ¬ m = "askers" := by decide +kernel) (h2 : ¬ m = "rooms" := by decide +kernel) (h3 : ¬ m = "seats" := by decide +kernel) : NoFld Θ Θ.CM m (.mkt as rs ss) := fun {G x} r => by
  obtain ⟨a, dx, p, q, t, ws, vs, rfl, e, _⟩ := r.mkt_inv
  exact ⟨a, dx, _, rfl, e, mf_no h1 h2 h3⟩

section
variable {Θ : Th} {X : Cx} {a b c e o : Expr} {es : List Expr} {δ : List SD} {pos p apos : Pos} {P : D → Prop} {d ds0 : D} {i k j n : Nat} {x m : Str} {R : List D → D → Prop} {RX : List D → Addr → Prop} {ds : List D} {C cx : Addr}
theorem ev_call (xo : XOk Θ X) (F : Dfn Θ x k n R RX) (hr : Room j X.A) (hk : k ≤ j) (hg : Gl X x) (ha : EA Θ X (e :: es) δ (· = ds)) (hR : R ds d) (hn : ds.length = n := by rfl)
    (hdb : (x == ("__debug__" : Str)) = false := by decide) (he : starEach (e :: es) X.env = (false, eval e X.env) :: starEach es X.env := by rfl) (hpl : (backTo pos (starEach es X.env)).any (·.1) = false := by rfl) :
    EV Θ X (.Call (.Name x p) (e :: es) [] pos) δ (· = d) := fun M G0 H0 G H σ Q S q => by
  obtain ⟨f, fd, ps, F, hm, kp, b⟩ := F.ex
  rw [xo.P, xo.w, xo.K, xo.mg, xo.base] at F
  rw [xo.mg] at hm
  rw [xo.K] at kp b
  refine .of (pe_call F (hr.mono hk) hg hm kp b .nil passE0 pa_can hdb he hpl) (ha M G0 H0 G H σ _ S fun vs ds' G1 H1 S1 g1 r1 p1 => ?_)
  subst p1
  rw [List.append_nil]
  exact ⟨by rw [r1.length]; exact hn, G1, ds', S1.hs, r1, .inl ⟨d, hR, S1.kd fun v d G' H' S' g => q v d G' H' S' (g1.trans g)⟩⟩
theorem ex_call (xo : XOk Θ X) (F : Dfn Θ x k n R RX) (hr : Room j X.A) (hk : k ≤ j) (hg : Gl X x) (ha : EA Θ X (e :: es) δ (· = ds)) (hR : RX ds cx) (hn : ds.length = n := by rfl)
    (hdb : (x == ("__debug__" : Str)) = false := by decide) (he : starEach (e :: es) X.env = (false, eval e X.env) :: starEach es X.env := by rfl) (hpl : (backTo pos (starEach es X.env)).any (·.1) = false := by rfl) :
    EX Θ X (.Call (.Name x p) (e :: es) [] pos) δ cx := fun M G0 H0 G H σ Q E tk S q => by
  obtain ⟨f, fd, ps, F, hm, kp, b⟩ := F.ex
  rw [xo.P, xo.w, xo.K, xo.mg, xo.base] at F
  rw [xo.mg] at hm
  rw [xo.K] at kp b
  refine .of (pe_call F (hr.mono hk) hg hm kp b .nil (passes_call tk fun _ _ _ _ h => h) pa_can hdb he hpl) (ha M G0 H0 G H σ _ S fun vs ds' G1 H1 S1 g1 r1 p1 => ?_)
  subst p1
  rw [List.append_nil]
  exact ⟨by rw [r1.length]; exact hn, G1, ds', S1.hs, r1, .inr ⟨cx, hR, fun G' H' s h => q G' H' (S1.pure s h)⟩⟩
/-- the dice are thrown: the first argument is their name -/
theorem ev_callD {RD : List D → (D → Prop) → Prop} {y : Str} {py : Pos} (xo : XOk Θ X) (F : DfnD Θ x k n RD) (hr : Room j X.A) (hk : k ≤ j) (hg : Gl X x) (hi : δ[i]? = some .dc) (hN : X.N[i]? = some y) (hv : Vis X.env.scope y) (ha : EA Θ X es δ (· = ds)) (hR : RD ds P) (hn : ds.length = n := by rfl)
    (hdb : (x == ("__debug__" : Str)) = false := by decide) (hyd : (y == ("__debug__" : Str)) = false := by decide) (hyc : (y == ("__classdict__" : Str)) = false := by decide)
    (he : starEach (.Name y py :: es) X.env = (false, eval (.Name y py) X.env) :: starEach es X.env := by rfl) (hpl : (backTo pos (starEach es X.env)).any (·.1) = false := by rfl) :
    EV Θ X (.Call (.Name x p) (.Name y py :: es) [] pos) δ P := fun M G0 H0 G H σ Q S q => by
  obtain ⟨f, fd, ps, F, hm, kp, b⟩ := F.ex
  rw [xo.P, xo.w, xo.K, xo.mg, xo.base] at F
  rw [xo.mg] at hm
  rw [xo.K] at kp b
  obtain ⟨d, hσ, rfl⟩ := S.dc i hi
  refine .of (pe_call F (hr.mono hk) hg hm kp b .nil passE0 (pa_cons (pe_var hN hv hyd hyc) pa_can he) hdb he hpl) ⟨_, hσ, ha _ G0 H0 G H σ _ S fun vs ds' G1 H1 S1 g1 r1 p1 => ?_⟩
  subst p1
  rw [List.append_nil]
  exact ⟨by rw [List.length_cons, r1.length, hn], G1, d, vs, ds', P, rfl, S1.hs, (S1.dice d rfl).2, r1, hR, fun v x G' H' s h z r p => q v x G' H' (S1.step s h fun d' e => by cases e; exact z) (g1.trans s.g) r p⟩
theorem ev_meth {pl : Sem Bool} (xo : XOk Θ X) (F : Mth Θ C m k n R RX) (hr : Room j X.A) (hk : k ≤ j) (ho : EV Θ X o δ (· = ds0)) (hf : NoFld Θ C m ds0) (ha : EA Θ X (e :: es) δ (· = ds)) (hR : R (ds0 :: ds) d) (hn : ds.length + 1 = n := by rfl)
    (hst : starEach (e :: es) X.env = (false, eval e X.env) :: starEach es X.env := by rfl) (hpl : (backTo pos (starEach es X.env)).any (·.1) = false := by rfl)
    (ht : eval (.Call (.Attribute o m apos) (e :: es) [] pos) X.env = (do
      let ov ← eval o X.env
      standAt apos.atName
      let (f, first) ← holding [ov] (getMethod ov m pl)
      callWith pos f first (backTo pos (starEach (e :: es) X.env)) (backToKw pos (keywordEach [] X.env))) := by rfl) :
    EV Θ X (.Call (.Attribute o m apos) (e :: es) [] pos) δ (· = d) := fun M G0 H0 G H σ Q S q => by
  obtain ⟨f, fd, ps, hc, hm, F, b⟩ := F.ex
  rw [xo.P, xo.w, xo.K, xo.mg, xo.base] at F
  rw [xo.K] at hc hm b
  refine .of (pe_meth (pl := pl) pe_can hc hm F (hr.mono hk) b .nil passE0 pa_can hst hpl ht) (ho M G0 H0 G H σ _ S fun xv dx G1 H1 S1 g1 r1 p1 => ?_)
  subst p1
  obtain ⟨a, dx', fs, rfl, e1, l⟩ := hf r1
  refine ⟨a, dx', fs, rfl, S1.hs.sub _ _ e1, l, ha M G0 H0 G1 H1 σ _ S1 fun vs ds' G2 H2 S2 g2 r2 p2 => ?_⟩
  subst p2
  rw [List.append_nil]
  exact ⟨by rw [List.length_cons, r2.length, hn], G2, dx :: ds', S2.hs, .cons (r1.gr g2) r2, .inl ⟨d, hR, S2.kd fun v d G' H' S' g => q v d G' H' S' ((g1.trans g2).trans g)⟩⟩
theorem ex_meth {pl : Sem Bool} (xo : XOk Θ X) (F : Mth Θ C m k n R RX) (hr : Room j X.A) (hk : k ≤ j) (ho : EV Θ X o δ (· = ds0)) (hf : NoFld Θ C m ds0) (ha : EA Θ X (e :: es) δ (· = ds)) (hR : RX (ds0 :: ds) cx) (hn : ds.length + 1 = n := by rfl)
    (hst : starEach (e :: es) X.env = (false, eval e X.env) :: starEach es X.env := by rfl) (hpl : (backTo pos (starEach es X.env)).any (·.1) = false := by rfl)
    (ht : eval (.Call (.Attribute o m apos) (e :: es) [] pos) X.env = (do
      let ov ← eval o X.env
      standAt apos.atName
      let (f, first) ← holding [ov] (getMethod ov m pl)
      callWith pos f first (backTo pos (starEach (e :: es) X.env)) (backToKw pos (keywordEach [] X.env))) := by rfl) :
    EX Θ X (.Call (.Attribute o m apos) (e :: es) [] pos) δ cx := fun M G0 H0 G H σ Q E tk S q => by
  obtain ⟨f, fd, ps, hc, hm, F, b⟩ := F.ex
  rw [xo.P, xo.w, xo.K, xo.mg, xo.base] at F
  rw [xo.K] at hc hm b
  refine .of (pe_meth (pl := pl) pe_can hc hm F (hr.mono hk) b .nil (passes_call tk fun _ _ _ _ h => h) pa_can hst hpl ht) (ho M G0 H0 G H σ _ S fun xv dx G1 H1 S1 g1 r1 p1 => ?_)
  subst p1
  obtain ⟨a, dx', fs, rfl, e1, l⟩ := hf r1
  refine ⟨a, dx', fs, rfl, S1.hs.sub _ _ e1, l, ha M G0 H0 G1 H1 σ _ S1 fun vs ds' G2 H2 S2 g2 r2 p2 => ?_⟩
  subst p2
  rw [List.append_nil]
  exact ⟨by rw [List.length_cons, r2.length, hn], G2, dx :: ds', S2.hs, .cons (r1.gr g2) r2, .inr ⟨cx, hR, fun G' H' s h => q G' H' (S2.pure s h)⟩⟩
theorem ev_meth0 {pl : Sem Bool} (xo : XOk Θ X) (F : Mth Θ C m k 1 R RX) (hr : Room j X.A) (hk : k ≤ j) (ho : EV Θ X o δ (· = ds0)) (hf : NoFld Θ C m ds0) (hR : R [ds0] d)
    (ht : eval (.Call (.Attribute o m apos) [] [] pos) X.env = (do
      let ov ← eval o X.env
      standAt apos.atName
      let (f, first) ← holding [ov] (getMethod ov m pl)
      callWith pos f first (backTo pos (starEach [] X.env)) (backToKw pos (keywordEach [] X.env))) := by rfl) :
    EV Θ X (.Call (.Attribute o m apos) [] [] pos) δ (· = d) := fun M G0 H0 G H σ Q S q => by
  obtain ⟨f, fd, ps, hc, hm, F, b⟩ := F.ex
  rw [xo.P, xo.w, xo.K, xo.mg, xo.base] at F
  rw [xo.K] at hc hm b
  refine .of (pe_meth0 (pl := pl) pe_can hc hm F (hr.mono hk) b .nil passE0 ht) (ho M G0 H0 G H σ _ S fun xv dx G1 H1 S1 g1 r1 p1 => ?_)
  subst p1
  obtain ⟨a, dx', fs, rfl, e1, l⟩ := hf r1
  exact ⟨a, dx', fs, rfl, S1.hs.sub _ _ e1, l, rfl, G1, [dx], S1.hs, .cons r1 .nil, .inl ⟨d, hR, S1.kd fun v d G' H' S' g => q v d G' H' S' (g1.trans g)⟩⟩
theorem ev_make (xo : XOk Θ X) (F : Mkr Θ x C k n R RX) (hr : Room j X.A) (hk : k + 1 ≤ j) (hg : Gl X x) (ha : EA Θ X (e :: es) δ (· = ds)) (hR : R ds d) (hn : ds.length = n := by rfl)
    (hdb : (x == ("__debug__" : Str)) = false := by decide) (he : starEach (e :: es) X.env = (false, eval e X.env) :: starEach es X.env := by rfl) (hpl : (backTo pos (starEach es X.env)).any (·.1) = false := by rfl) :
    EV Θ X (.Call (.Name x p) (e :: es) [] pos) δ (· = d) := fun M G0 H0 G H σ Q S q => by
  obtain ⟨f, fd, ps, mk, F, hm, b⟩ := F.ex
  rw [xo.P, xo.w, xo.K, xo.mg, xo.base] at F
  rw [xo.mg] at hm
  rw [xo.K] at mk b
  refine .of (pe_make mk F (hr.mono hk) hg hm b .nil passE0 pa_can hdb he hpl) (ha M G0 H0 G H σ _ S fun vs ds' G1 H1 S1 g1 r1 p1 => ?_)
  subst p1
  intro xa dx nx ndx nex
  rw [List.append_nil]
  exact ⟨by rw [List.length_cons, r1.length, hn], xa, dx, H1, G1, vs, ds', rfl, nx, ndx, nex, rfl, S1.hs, r1, .inl ⟨d, hR, fun G' H' s h r => ⟨rfl, q _ _ G' H' (S1.pure s h) (g1.trans s.g) r rfl⟩⟩⟩
theorem ex_make (xo : XOk Θ X) (F : Mkr Θ x C k n R RX) (hr : Room j X.A) (hk : k + 1 ≤ j) (hg : Gl X x) (ha : EA Θ X (e :: es) δ (· = ds)) (hR : RX ds cx) (hn : ds.length = n := by rfl)
    (hdb : (x == ("__debug__" : Str)) = false := by decide) (he : starEach (e :: es) X.env = (false, eval e X.env) :: starEach es X.env := by rfl) (hpl : (backTo pos (starEach es X.env)).any (·.1) = false := by rfl) :
    EX Θ X (.Call (.Name x p) (e :: es) [] pos) δ cx := fun M G0 H0 G H σ Q E tk S q => by
  obtain ⟨f, fd, ps, mk, F, hm, b⟩ := F.ex
  rw [xo.P, xo.w, xo.K, xo.mg, xo.base] at F
  rw [xo.mg] at hm
  rw [xo.K] at mk b
  refine .of (pe_make mk F (hr.mono hk) hg hm b .nil (passes_call tk fun _ _ _ _ h => h) pa_can hdb he hpl) (ha M G0 H0 G H σ _ S fun vs ds' G1 H1 S1 g1 r1 p1 => ?_)
  subst p1
  intro xa dx nx ndx nex
  rw [List.append_nil]
  exact ⟨by rw [List.length_cons, r1.length, hn], xa, dx, H1, G1, vs, ds', rfl, nx, ndx, nex, rfl, S1.hs, r1, .inr ⟨cx, hR, fun G' H' s h => q G' H' (S1.pure s h)⟩⟩
end
/-! ### the slots at a def's entry -/
def δ0 (N : List Str) (ds : List D) : List SD := ds.map .im ++ List.replicate (N.length - ds.length) .no
theorem stOk_start {Θ : Th} {N : List Str} {G H : Hp} {vs : List V} {ds : List D} (hs : Hs Θ G H) (r : RepA Θ G vs ds) : StOk Θ none G H G H (L2.start N vs) (δ0 N ds) ∧ Own H (L2.start N vs) (δ0 N ds) := by
  have hl := r.length
  have get : ∀ (i : Nat) (s : SD), (δ0 N ds)[i]? = some s → (∃ d, s = .im d ∧ ds[i]? = some d) ∨ s = .no := fun i s h => by
    unfold δ0 at h
    by_cases hi : i < ds.length
    · rw [List.getElem?_append_left (by simpa using hi), List.getElem?_map] at h
      cases e : ds[i]? with
      | none => rw [e] at h; cases h
      | some d => rw [e] at h; cases h; exact .inl ⟨d, rfl, rfl⟩
    · rw [List.getElem?_append_right (by simpa using hi), List.getElem?_replicate] at h
      split at h
      · cases h; exact .inr rfl
      · cases h
  refine ⟨⟨.refl _ _ _, hs, fun d e => (by cases e), ?_, fun i d h => ?_, fun i l h => ?_, fun i h => ?_, fun i j l k v _ h => ?_⟩, fun i l a h => ?_⟩
  · unfold L2.start δ0
    rw [List.length_append, List.length_append, List.length_map, List.length_map, List.length_replicate, List.length_replicate, hl]
  · rcases get i _ h with ⟨d', e, h2⟩ | e
    · cases e
      obtain ⟨v, h3, h4⟩ := r.get h2
      refine ⟨v, ?_, h4⟩
      have hi : i < vs.length := (List.getElem?_eq_some_iff.mp h3).1
      unfold L2.start
      rw [List.getElem?_append_left (by simpa using hi), List.getElem?_map, h3]
      rfl
    · cases e
  · rcases get i _ h with ⟨d', e, h2⟩ | e <;> cases e
  · rcases get i _ h with ⟨d', e, h2⟩ | e <;> cases e
  · rcases get i _ h with ⟨d', e, h2⟩ | e <;> cases e
  · rcases get i _ h with ⟨d', e, h2⟩ | e <;> cases e
/-- a def by its body -/
abbrev cxP (Θ : Th) (N : List Str) (qual : Str) (scope : Scope) (f : Addr) (cd : Value) (A : Around) (outer : List Env) (s : Shared) (H : Hp) (E : XK) : Cx := cxOf (L2.CX Θ.P Θ.w) Θ.P Θ.w Θ.K Θ.mg Θ.base N qual scope f cd A outer s H E
section
variable {Θ : Th} {x qual : Str} {st : Stmt} {f : Addr} {fd : FuncData} {N ps : List Str} {k n : Nat} {R : List D → D → Prop} {RX : List D → Addr → Prop}
theorem fn_ok (F : Fun Θ.K x qual st f fd) (S : FnScope N ps (defScope st)) (hn : ps.length = n)
    (h1 : ∀ (cdv : Value) (A : Around) (outer : List Env) (s : Shared) (H : Hp) (E : XK) (ds : List D) (d : D), Room k (A.deeper (envOfC qual (defScope st) s.heap.objs.size f cdv)) → ds.length = n → R ds d →
      SV Θ (cxP Θ N qual (defScope st) f cdv A outer s H E) (defBody st) (δ0 N ds) (fun _ => False) (· = d) (fun _ => False))
    (h2 : ∀ (cdv : Value) (A : Around) (outer : List Env) (s : Shared) (H : Hp) (E : XK) (ds : List D) (c : Addr), Room k (A.deeper (envOfC qual (defScope st) s.heap.objs.size f cdv)) → ds.length = n → RX ds c →
      SV Θ (cxP Θ N qual (defScope st) f cdv A outer s H E) (defBody st) (δ0 N ds) (fun _ => False) (fun _ => False) (· = c)) :
    FnOk Θ.P Θ.w Θ.K Θ.mg Θ.base (L2.CX Θ.P Θ.w) (k + 1) f fd ps (PSp Θ n R RX) := by
  refine F.okX S (fun vs H Q E h => by rw [hn]; exact h.1) fun cdv A outer s H vs Q E hr h => ?_
  obtain ⟨hl, G, ds, hs, r, h⟩ := h
  have hl2 : ds.length = n := by rw [← r.length]; exact hl
  obtain ⟨S0, O0⟩ := stOk_start (N := N) hs r
  have tk : Takes (cxP Θ N qual (defScope st) f cdv A outer s H E) (fun cls d _ H => E cls d H) := takes_of rfl rfl rfl rfl
  rcases h with ⟨d, hR, q⟩ | ⟨c, hR, q⟩
  · exact ⟨_, pss_can, h1 cdv A outer s H E ds d hr hl2 hR none G H G H _ _ E tk S0 O0 (fun _ _ _ _ _ _ _ z => z.elim) (fun v d G' H' e r p => q v d G' H' e.stp e.hs r p) (fun _ _ _ _ z => z.elim)⟩
  · exact ⟨_, pss_can, h2 cdv A outer s H E ds c hr hl2 hR none G H G H _ _ E tk S0 O0 (fun _ _ _ _ _ _ _ z => z.elim) (fun _ _ _ _ _ _ z => z.elim) (fun c' G' H' e p => by rw [p]; exact q G' H' e.stp e.hs)⟩
end
end PM

/-! What is walked; loops, comprehensions; statements. -/
namespace PM
open PySem PySem.Spec PyProof.Rows L2

/-! ### names bound in a turn -/
def setV (σ : L2.St) : List (Nat × V) → L2.St
  | [] => σ
  | (i, v) :: r => setV (σ.set i (some v)) r
def setD (δ : List SD) : List (Nat × D) → List SD
  | [] => δ
  | (i, d) :: r => setD (δ.set i (.im d)) r
/-- the values that stand for what is bound -/
inductive Bnd (Θ : Th) (G : Hp) : List (Nat × V) → List (Nat × D) → Prop
  | nil : Bnd Θ G [] []
  | cons {i : Nat} {v : V} {d : D} {r : List (Nat × V)} {q : List (Nat × D)} : Rep Θ G v d → Bnd Θ G r q → Bnd Θ G ((i, v) :: r) ((i, d) :: q)
section
variable {Θ : Th} {M : Option Addr} {G0 H0 G H G' H' : Hp} {σ : L2.St} {δ : List SD}
theorem StOk.setB {bv : List (Nat × V)} {bd : List (Nat × D)} (b : Bnd Θ G bv bd) : ∀ {σ : L2.St} {δ : List SD}, StOk Θ M G0 H0 G H σ δ → StOk Θ M G0 H0 G H (setV σ bv) (setD δ bd) := by
  induction b with
  | nil => exact fun S => S
  | cons r _ ih => exact fun S => ih (S.set r)
theorem Own.set {i : Nat} {v : V} {d : D} (O : Own H0 σ δ) : Own H0 (σ.set i (some v)) (δ.set i (.im d)) := fun j ds l h1 h2 => by
  by_cases hj : i = j
  · subst hj
    rw [List.getElem?_set_self (lt_of_set h1)] at h1
    cases h1
  · rw [List.getElem?_set_ne hj] at h1 h2
    exact O j ds l h1 h2
theorem Own.setB {bv : List (Nat × V)} {bd : List (Nat × D)} (b : Bnd Θ G bv bd) : ∀ {σ : L2.St} {δ : List SD}, Own H0 σ δ → Own H0 (setV σ bv) (setD δ bd) := by
  induction b with
  | nil => exact fun S => S
  | cons r _ ih => exact fun S => ih S.set
/-- slots forgotten -/
def wipeD (δ : List SD) : List Nat → List SD
  | [] => δ
  | v :: vs => (wipeD δ vs).set v .no
theorem StOk.drop {i : Nat} {o : Option V} (S : StOk Θ M G0 H0 G H σ δ) : StOk Θ M G0 H0 G H (σ.set i o) (δ.set i .no) where
  stp := S.stp
  hs := S.hs
  dice := S.dice
  len := by rw [List.length_set, List.length_set]; exact S.len
  im := fun j d h => by
    by_cases hj : i = j
    · subst hj
      rw [List.getElem?_set_self (lt_of_set h)] at h
      cases h
    · rw [List.getElem?_set_ne hj] at h ⊢
      exact S.im j d h
  mu := fun j ds h => by
    by_cases hj : i = j
    · subst hj
      rw [List.getElem?_set_self (lt_of_set h)] at h
      cases h
    · rw [List.getElem?_set_ne hj] at h ⊢
      exact S.mu j ds h
  dc := fun j h => by
    by_cases hj : i = j
    · subst hj
      rw [List.getElem?_set_self (lt_of_set h)] at h
      cases h
    · rw [List.getElem?_set_ne hj] at h ⊢
      exact S.dc j h
  dist := fun j k l l' v' hn h1 h2 h3 => by
    have key : ∀ {m : Nat} {l : List D}, (δ.set i SD.no)[m]? = some (SD.mu l) → i ≠ m := fun {m l} h q => by
      subst q
      rw [List.getElem?_set_self (lt_of_set h)] at h
      cases h
    have e1 := key h1
    have e2 := key h2
    rw [List.getElem?_set_ne e1] at h1 h3
    rw [List.getElem?_set_ne e2] at h2 ⊢
    exact S.dist j k l l' v' hn h1 h2 h3
theorem Own.drop {i : Nat} {o : Option V} (O : Own H0 σ δ) : Own H0 (σ.set i o) (δ.set i .no) := fun j ds l h1 h2 => by
  by_cases hj : i = j
  · subst hj
    rw [List.getElem?_set_self (lt_of_set h1)] at h1
    cases h1
  · rw [List.getElem?_set_ne hj] at h1 h2
    exact O j ds l h1 h2
theorem StOk.wipe (S : StOk Θ M G0 H0 G H σ δ) : ∀ vs : List Nat, StOk Θ M G0 H0 G H (wipe σ vs) (wipeD δ vs)
  | [] => S
  | v :: vs => (StOk.wipe S vs).drop
end

/-! ### what is walked -/
/-- n turns; turn i binds bd i -/
structure ItD (Θ : Th) (J : It) (g : TG) (n : Nat) (bd : Nat → List (Nat × D)) (G : Hp) : Prop where
  go : ∀ {G' H' : Hp}, Gr G G' → Hs Θ G' H' → ∀ i, i < n → J.go i H'
  stop : ∀ {G' H' : Hp}, Gr G G' → Hs Θ G' H' → J.stop n H'
  yld : ∀ {G' H' : Hp}, Gr G G' → Hs Θ G' H' → ∀ i, i < n → ∀ x H2, J.yld i H' x H2 → ∀ (σ : L2.St) (Q : L2.St → Hp → Prop), (∀ bv G2, Stp none G' H' G2 H2 → Hs Θ G2 H2 → Bnd Θ G2 bv (bd i) → Q (setV σ bv) H2) → g x σ H2 Q
/-- the walked thing under a name -/
def EI (Θ : Th) (X : Cx) (tg iter : Expr) (δ : List SD) (g : TG) (n : Nat) (bd : Nat → List (Nat × D)) : Prop :=
  ∃ wi, PI X tg iter wi ∧ ∀ (M : Option Addr) (G0 H0 G H : Hp) (σ : L2.St) (R : It → Hp → Prop), StOk Θ M G0 H0 G H σ δ → (∀ J G' H', StOk Θ M G0 H0 G' H' σ δ → Gr G G' → ItD Θ J g n bd G' → R J H') → wi σ H R
section
variable {Θ : Th} {X : Cx} {tg iter : Expr} {δ : List SD} {l : List D} {j j2 : Nat} {d : D}
theorem getI (l : List D) (i : Nat) (h : i < l.length) : l[i]? = some (l.getD i .non) := by
  rw [List.getD_eq_getElem?_getD, List.getElem?_eq_getElem h]
  rfl
theorem ei_list (h : EV Θ X iter δ (· = .lst l)) : EI Θ X tg iter δ (gName j) l.length (fun i => [(j, l.getD i .non)]) := ⟨_, pi_list pe_can, fun M G0 H0 G H σ R S q => by
  refine h M G0 H0 G H σ _ S fun v d G1 H1 S1 g1 r1 p1 => ?_
  subst p1
  obtain ⟨a, xs, rfl, e1, q1⟩ := r1.lst_inv
  have at_ : ∀ {G' H' : Hp}, Gr G1 G' → Hs Θ G' H' → SqL X.K H' a xs := fun g hs => .of (hs.sub _ _ (g _ _ e1))
  refine ⟨a, rfl, ⟨xs, at_ (.refl _) S1.hs⟩, q _ G1 H1 S1 g1 ⟨fun {G' H'} g hs i hi => ?_, fun {G' H'} g hs => ⟨xs, at_ g hs, Nat.le_of_eq q1.length⟩, fun {G' H'} g hs i hi x H2 y σ' Q' k => ?_⟩⟩
  · obtain ⟨v, h1, _⟩ := q1.get (getI l i hi)
    exact ⟨xs, v, at_ g hs, h1⟩
  · obtain ⟨rfl, y⟩ := y
    obtain ⟨v, h1, h2⟩ := q1.get (getI l i hi)
    have e := y xs (at_ g hs)
    rw [h1] at e
    have e2 := Option.some.inj e
    subst e2
    exact k [(j, v)] G' (.refl _ _ _) hs (.cons (h2.gr g) .nil)⟩
theorem ei_tup (h : EV Θ X iter δ (· = .tup l)) : EI Θ X tg iter δ (gName j) l.length (fun i => [(j, l.getD i .non)]) := ⟨_, pi_tup pe_can, fun M G0 H0 G H σ R S q => by
  refine h M G0 H0 G H σ _ S fun v d G1 H1 S1 g1 r1 p1 => ?_
  subst p1
  obtain ⟨a, xs, rfl, e1, q1⟩ := r1.tup_inv
  have at_ : ∀ {G' H' : Hp}, Gr G1 G' → Hs Θ G' H' → SqT X.K H' a xs := fun g hs => .inl ((e1.gr g).gr hs.sub)
  refine ⟨a, rfl, ⟨xs, at_ (.refl _) S1.hs⟩, q _ G1 H1 S1 g1 ⟨fun {G' H'} g hs i hi => ?_, fun {G' H'} g hs => ⟨xs, at_ g hs, Nat.le_of_eq q1.length⟩, fun {G' H'} g hs i hi x H2 y σ' Q' k => ?_⟩⟩
  · obtain ⟨v, h1, _⟩ := q1.get (getI l i hi)
    exact ⟨xs, v, at_ g hs, h1⟩
  · obtain ⟨rfl, y⟩ := y
    obtain ⟨v, h1, h2⟩ := q1.get (getI l i hi)
    have e := y xs (at_ g hs)
    rw [h1] at e
    have e2 := Option.some.inj e
    subst e2
    exact k [(j, v)] G' (.refl _ _ _) hs (.cons (h2.gr g) .nil)⟩
theorem itd_range {n : Nat} {G : Hp} : ItD Θ (Itr 0 n) (gName j) n (fun i => [(j, .int (i : Int))]) G :=
  ⟨fun {G' H'} g hs i hi => hi, fun {G' H'} g hs => Nat.le_refl _, fun {G' H'} g hs i hi x H2 y σ' Q' k => by
    obtain ⟨rfl, rfl⟩ := y
    refine k [(j, .int (0 + (i : Int)))] G' (.refl _ _ _) hs (.cons ?_ .nil)
    rw [Int.zero_add]
    exact .int _⟩
/-- range(n) of a number that is known -/
theorem ei_range {a : Expr} {p pos : Pos} {n : Nat} (hg : Gl X "range") (hm : X.mg "range" = none) (h : EV Θ X a δ (· = .int (n : Int))) (hn : n ≤ 1000) (hs : starEach [a] X.env = [(false, eval a X.env)] := by rfl) (hs0 : starEach [a] X.env = (false, eval a X.env) :: starEach [] X.env := by rfl) :
    EI Θ X tg (.Call (.Name "range" p) [a] [] pos) δ (gName j) n (fun i => [(j, .int (i : Int))]) := ⟨_, pi_range1 hg hm (pa_cons pe_can pa_nil hs0) hs, fun M G0 H0 G H σ R S q => by
  refine h M G0 H0 G H σ _ S fun v d G1 H1 S1 g1 r1 p1 => ?_
  subst p1
  refine ⟨(n : Int), by rw [r1.int_inv], by omega, by omega, ?_⟩
  have e : (n : Int).toNat = n := Int.toNat_natCast n
  rw [e]
  exact q _ G1 H1 S1 g1 itd_range⟩
/-- enumerate of a list -/
theorem ei_enum {a : Expr} {p pos tpos : Pos} {elts : List Expr} {kk : Nat} (hg : Gl X "enumerate") (hm : X.mg "enumerate" = none) (h : EV Θ X a δ (· = .lst l)) (hs : starEach [a] X.env = [(false, eval a X.env)] := by rfl) (hs0 : starEach [a] X.env = (false, eval a X.env) :: starEach [] X.env := by rfl) :
    EI Θ X (.Tuple elts kk tpos) (.Call (.Name "enumerate" p) [a] [] pos) δ (gTup X.K 2 (gCons (gName j) (gCons (gName j2) gNil))) l.length (fun i => [(j, .int (i : Int)), (j2, l.getD i .non)]) := ⟨_, pi_enum hg hm (pa_cons pe_can pa_nil hs0) hs, fun M G0 H0 G H σ R S q => by
  refine h M G0 H0 G H σ _ S fun v d G1 H1 S1 g1 r1 p1 => ?_
  subst p1
  obtain ⟨a, xs, rfl, e1, q1⟩ := r1.lst_inv
  have at_ : ∀ {G' H' : Hp}, Gr G1 G' → Hs Θ G' H' → SqL X.K H' a xs := fun g hs => .of (hs.sub _ _ (g _ _ e1))
  refine ⟨a, xs, rfl, at_ (.refl _) S1.hs, q _ G1 H1 S1 g1 ⟨fun {G' H'} g hs i hi => ?_, fun {G' H'} g hs => ⟨xs, at_ g hs, Nat.le_of_eq q1.length⟩, fun {G' H'} g hs i hi x H2 y σ' Q' k => ?_⟩⟩
  · obtain ⟨v, h1, _⟩ := q1.get (getI l i hi)
    exact ⟨xs, v, at_ g hs, h1⟩
  · obtain ⟨T, z, rfl, hT, rfl, y⟩ := y
    obtain ⟨v, h1, h2⟩ := q1.get (getI l i hi)
    have e := y xs (at_ g hs)
    rw [h1] at e
    have e2 := Option.some.inj e
    subst e2
    refine ⟨T, _, rfl, .of upd_same, rfl, _, _, rfl, _, _, rfl, rfl, ?_⟩
    exact k [(j, .int (i : Int)), (j2, v)] _ (.laid hT (hs.sub.free hT)) (hs.laid hT fun _ z => by cases z) (.cons (.int _) (.cons ((h2.gr g).gr (.new (hs.sub.free hT))) .nil))⟩
end

/-! ### comprehensions -/
/-- what is made in the first turns -/
inductive AccR (kp : Nat → Bool) (P : Nat → D → Prop) : Nat → List D → Prop
  | zero : AccR kp P 0 []
  | skip {i : Nat} {l : List D} : kp i = false → AccR kp P i l → AccR kp P (i + 1) l
  | take {i : Nat} {l : List D} {d : D} : kp i = true → P i d → AccR kp P i l → AccR kp P (i + 1) (l ++ [d])
theorem AccR.le {kp : Nat → Bool} {P : Nat → D → Prop} {n : Nat} {l : List D} (h : AccR kp P n l) : l.length ≤ n := by
  induction h with
  | zero => exact Nat.le_refl _
  | skip _ _ ih => omega
  | take _ _ _ ih => rw [List.length_append, List.length_singleton]; omega
theorem AccR.det {kp : Nat → Bool} {f : Nat → D} {n : Nat} {l : List D} (h : AccR kp (fun i d => d = f i) n l) : l = ((List.range n).filter kp).map f := by
  induction h with
  | zero => rfl
  | skip e _ ih => rw [List.range_succ, List.filter_append, List.map_append, ← ih]; simp [e]
  | take e p _ ih => rw [List.range_succ, List.filter_append, List.map_append, ← ih, p]; simp [e]
theorem AccR.all {P : Nat → D → Prop} {n : Nat} {l : List D} (h : AccR (fun _ => true) P n l) : l.length = n ∧ ∀ i, i < n → ∃ d, l[i]? = some d ∧ P i d := by
  induction h with
  | zero => exact ⟨rfl, fun i hi => absurd hi (Nat.not_lt_zero _)⟩
  | skip e _ _ => cases e
  | take _ p _ ih =>
    obtain ⟨h1, h2⟩ := ih
    refine ⟨by rw [List.length_append, h1]; rfl, fun i hi => ?_⟩
    rename_i k l d _ _
    by_cases hik : i < k
    · obtain ⟨e, e1, e2⟩ := h2 i hik
      exact ⟨e, by rw [List.getElem?_append_left (by omega)]; exact e1, e2⟩
    · have : i = k := by omega
      subst this
      exact ⟨d, by rw [← h1]; simp, p⟩

def tTs (X : Cx) (ifs : List Expr) : TT := fun σ H Q => ∀ pins s, Inv X pins σ H s →
  wpAny (model X.prog X.w) X.A (forIn ifs true fun c r => if r = true then do let ok ← isTrue c X.env (eval c X.env); pure (ForInStep.yield ok) else pure (ForInStep.yield r)) (TP X pins σ Q) X.xe s
theorem pts_can {X : Cx} {ifs : List Expr} : PTs X ifs (tTs X ifs) := ⟨fun pins s σ H Q I h => h pins s I⟩
theorem tTs.of {X : Cx} {ifs : List Expr} {t : TT} {σ : L2.St} {H : Hp} {Q : Bool → Hp → Prop} (p : PTs X ifs t) (h : t σ H Q) : tTs X ifs σ H Q := fun pins s I => p.run pins s σ H Q I h
def ETs (Θ : Th) (X : Cx) (ifs : List Expr) (δ : List SD) (b : Bool) : Prop :=
  ∀ (M : Option Addr) (G0 H0 G H : Hp) (σ : L2.St) (Q : Bool → Hp → Prop), StOk Θ M G0 H0 G H σ δ → (∀ G' H', StOk Θ M G0 H0 G' H' σ δ → Gr G G' → Q b H') → tTs X ifs σ H Q
theorem ets_nil {Θ : Th} {X : Cx} {δ : List SD} : ETs Θ X [] δ true := fun M G0 H0 G H σ Q S q => .of pts_nil (q G H S (.refl G))
theorem ets_one {Θ : Th} {X : Cx} {δ : List SD} {c : Expr} {b : Bool} (h : ET Θ X c δ b) : ETs Θ X [c] δ b := fun M G0 H0 G H σ Q S q => .of (pts_one pt_can) (h M G0 H0 G H σ Q S q)

/-- a comprehension's block -/
abbrev bk (X : Cx) (scope : Scope) (s : Shared) (H : Hp) (C : Addr) (cl : List (Str × Addr)) (fp : List Addr) : Cx := X.blk s H scope (compEnvC scope cl C X.env) fp
/-- the readings within the block, whatever it is -/
def tEb (X : Cx) (scope : Scope) (e : Expr) : TE := fun σ H Q => ∀ s H0 C cl fp, tE (bk X scope s H0 C cl fp) e σ H Q
def tTb (X : Cx) (scope : Scope) (ifs : List Expr) : TT := fun σ H Q => ∀ s H0 C cl fp, tTs (bk X scope s H0 C cl fp) ifs σ H Q
section
variable {Θ : Th} {X : Cx} {tg iter elt : Expr} {ifs : List Expr} {scope : Scope} {δ : List SD} {g : TG} {n : Nat} {bd : Nat → List (Nat × D)} {own : List (Str × Nat)} {kp : Nat → Bool} {P : Nat → D → Prop} {pos : Pos}
theorem lcD1 {wi : TI} {vs : List Nat} (hn : n ≤ 1000)
    (hw : ∀ i, i < n → ∀ (σ : L2.St) bv G, Bnd Θ G bv (bd i) → wipe (setV (wipe σ vs) bv) vs = wipe σ vs)
    (ht : ∀ i, i < n → ∀ s H C cl fp, ETs Θ (bk X scope s H C cl fp) ifs (setD (wipeD δ vs) (bd i)) (kp i))
    (he : ∀ i, i < n → kp i = true → ∀ s H C cl fp, EV Θ (bk X scope s H C cl fp) elt (setD (wipeD δ vs) (bd i)) (P i))
    {M : Option Addr} {G0 H0 G H : Hp} {σ : L2.St} {Q : VK} (hi : ∀ (R : It → Hp → Prop), (∀ J G' H', StOk Θ M G0 H0 G' H' σ δ → Gr G G' → ItD Θ J g n bd G' → R J H') → wi σ H R) (S : StOk Θ M G0 H0 G H σ δ) (q : ∀ v d G' H', StOk Θ M G0 H0 G' H' σ δ → Gr G G' → Rep Θ G' v d → (∃ l, d = .lst l ∧ AccR kp P n l) → Q v H') :
    tLc wi g (tTb X scope ifs) (tEb X scope elt) vs σ H Q := by
  refine hi _ fun J G1 H1 S1 g1 it => fun L hD => ?_
  have hgD : G1 L = none := S1.hs.sub.free hD
  -- at turn i: acc is made
  let Pv : Nat → Hp → Prop := fun i Hi => ∃ (Gi : Hp) (acc : List V) (l : List D), StOk Θ M G1 H1 Gi Hi (wipe σ vs) (wipeD δ vs) ∧ Gr G1 Gi ∧ Gi L = none ∧ Hi L = some (.lst acc) ∧ RepA Θ Gi acc l ∧ AccR kp P i l
  have hMD : M ≠ some L := fun e => by
    have := (S1.dice L e).1
    exact this (S1.stp.some L |> fun f => by
      cases z : H0 L with
      | none => rfl
      | some o => exact absurd hD (f (by rw [z]; simp)))
  have up : ∀ {Gi Hi : Hp} {σ' : L2.St} {δ' : List SD} {o : HO} {xs : List V}, StOk Θ M G1 H1 Gi Hi σ' δ' → Gi L = none → Hi L = some (.lst xs) → (∀ j ds, δ'[j]? = some (SD.mu ds) → σ'[j]? ≠ some (some (V.ref L))) → StOk Θ M G1 H1 Gi (upd Hi L o) σ' δ' := fun {Gi Hi σ' δ' o xs} Si hg hl hm =>
    ⟨Si.stp.mut hD, Si.hs.write hl hg, fun d e => by
      obtain ⟨z1, z2, a, b, c, z3⟩ := Si.dice d e
      exact ⟨z1, z2, a, b, c, by rw [upd_ne fun z => hMD (by rw [e, z])]; exact z3⟩, Si.len, Si.im, fun j ds h => by
      obtain ⟨l, vs', e1, e2, e3, e4, e5⟩ := Si.mu j ds h
      exact ⟨l, vs', e1, by rw [upd_ne fun z => hm j ds h (by rw [← z]; exact e1)]; exact e2, e3, e4, e5⟩, Si.dc, Si.dist⟩
  have noMu : ∀ (j : Nat) (ds : List D), (wipeD δ vs)[j]? = some (SD.mu ds) → (wipe σ vs)[j]? ≠ some (some (V.ref L)) := fun j ds h1 h2 => by
    obtain ⟨l, vs', e1, e2, _⟩ := (S1.wipe vs).mu j ds h1
    rw [e1] at h2
    cases h2
    rw [hD] at e2
    cases e2
  refine ⟨fun i m Hi => m = n - i ∧ i ≤ n ∧ Pv i Hi, ⟨n, by simp, Nat.zero_le _, G1, [], [], ?_, .refl _, hgD, upd_same, .nil, .zero⟩, ?_⟩
  · have S2 := (S1.wipe vs).anew
    refine ⟨S2.stp.mut hD, S2.hs.made hD, fun d e => ?_, S2.len, S2.im, fun j ds h => ?_, S2.dc, S2.dist⟩
    · obtain ⟨z1, z2, a, b, c, z3⟩ := S2.dice d e
      exact ⟨z1, z2, a, b, c, by rw [upd_ne (ne_of_none z3 hD)]; exact z3⟩
    · obtain ⟨l, vs', e1, e2, e3, e4, e5⟩ := S2.mu j ds h
      exact ⟨l, vs', e1, by rw [upd_ne (ne_of_none e2 hD)]; exact e2, e3, e4, e5⟩
  rintro i m Hi ⟨rfl, hle, Gi, acc, l, Si, gi, hgi, hDi, ri, ai⟩
  by_cases hlt : i < n
  · refine .inr ⟨it.go gi Si.hs i hlt, Pv (i + 1), fun H' p' => ⟨n - (i + 1), by omega, rfl, hlt, p'⟩, fun x H2 y => ?_⟩
    refine it.yld gi Si.hs i hlt x H2 y _ _ fun bv G2 s2 h2 hb => ?_
    have S3 := ((Si.anew.pure s2 h2).setB hb)
    refine ⟨hw i hlt σ bv G2 hb, fun s H0' C cl fp => ht i hlt s H0' C cl fp M Gi Hi G2 H2 _ _ S3 fun G3 H3 S4 g3 => ?_⟩
    have d3 : ∀ {G' H' : Hp} {σ' : L2.St} {δ' : List SD}, StOk Θ M Gi Hi G' H' σ' δ' → G' L = none ∧ H' L = some (.lst acc) := fun {G' H' σ' δ'} Z =>
      ⟨by rw [(Z.stp.new L (by rw [hDi]; trivial)).1]; exact hgi, Z.stp.h L _ hDi (fun _ z => by cases z) hMD⟩
    -- the block's slots again
    have reset : ∀ {G' H' : Hp}, StOk Θ M Gi Hi G' H' (setV (wipe σ vs) bv) (setD (wipeD δ vs) (bd i)) → StOk Θ M G1 H1 G' H' (wipe σ vs) (wipeD δ vs) := fun {G' H'} Z =>
      Si.back (Si.anew.step Z.stp Z.hs fun d e => (Z.dice d e).2)
    cases hk : kp i with
    | false =>
      rw [if_neg Bool.false_ne_true]
      exact ⟨G3, acc, l, reset S4, (gi.trans s2.g).trans g3, (d3 S4).1, (d3 S4).2, (ri.gr s2.g).gr g3, .skip hk ai⟩
    | true =>
      rw [if_pos rfl]
      refine fun s H0' C cl fp => he i hlt hk s H0' C cl fp M Gi Hi G3 H3 _ _ S4 fun v d G4 H4 S5 g4 r4 p4 => ?_
      refine ⟨acc, (d3 S5).2, sz_lt (by rw [ri.length]; exact Nat.le_trans ai.le (by omega)), G4, acc ++ [v], l ++ [d], ?_, ((gi.trans s2.g).trans g3).trans g4, (d3 S5).1, upd_same, (((ri.gr s2.g).gr g3).gr g4).append (.cons r4 .nil), .take hk p4 ai⟩
      exact up (reset S5) (d3 S5).1 (d3 S5).2 noMu
  · have e : i = n := by omega
    subst e
    refine .inl ⟨it.stop gi Si.hs, ?_⟩
    have hf : Hs Θ (upd Gi L (.lst acc)) Hi := Si.hs.frozen hDi
    have st : Stp M G1 H1 (upd Gi L (.lst acc)) Hi := Si.stp.froze hD hgD
    have S6 : StOk Θ M G0 H0 (upd Gi L (.lst acc)) Hi σ δ := S1.step st hf fun d e => by
      obtain ⟨_, z2, z3⟩ := Si.dice d e
      exact ⟨by rw [upd_ne fun z => hMD (by rw [e, z])]; exact z2, z3⟩
    exact q (.ref L) _ _ Hi S6 (g1.trans st.g) (.lst upd_same (ri.gr (.new hgi))) ⟨l, rfl, ai⟩
theorem lcD {wi : TI} {vs : List Nat} (hi : ∀ (M : Option Addr) (G0 H0 G H : Hp) (σ : L2.St) (R : It → Hp → Prop), StOk Θ M G0 H0 G H σ δ → (∀ J G' H', StOk Θ M G0 H0 G' H' σ δ → Gr G G' → ItD Θ J g n bd G' → R J H') → wi σ H R) (hn : n ≤ 1000)
    (hw : ∀ i, i < n → ∀ (σ : L2.St) bv G, Bnd Θ G bv (bd i) → wipe (setV (wipe σ vs) bv) vs = wipe σ vs)
    (ht : ∀ i, i < n → ∀ s H C cl fp, ETs Θ (bk X scope s H C cl fp) ifs (setD (wipeD δ vs) (bd i)) (kp i))
    (he : ∀ i, i < n → kp i = true → ∀ s H C cl fp, EV Θ (bk X scope s H C cl fp) elt (setD (wipeD δ vs) (bd i)) (P i))
    {M : Option Addr} {G0 H0 G H : Hp} {σ : L2.St} {Q : VK} (S : StOk Θ M G0 H0 G H σ δ) (q : ∀ v d G' H', StOk Θ M G0 H0 G' H' σ δ → Gr G G' → Rep Θ G' v d → (∃ l, d = .lst l ∧ AccR kp P n l) → Q v H') :
    tLc wi g (tTb X scope ifs) (tEb X scope elt) vs σ H Q :=
  lcD1 hn hw ht he (fun R k => hi M G0 H0 G H σ R S k) S q
/-- [elt for tg in iter if ..] -/
theorem ev_lc (xo : XOk Θ X) (hi : EI Θ X tg iter δ g n bd) (ok : BlkOk X.N X.env.scope scope own) (hn : n ≤ 1000)
    (hw : ∀ i, i < n → ∀ (σ : L2.St) bv G, Bnd Θ G bv (bd i) → wipe (setV (wipe σ (own.map (·.2))) bv) (own.map (·.2)) = wipe σ (own.map (·.2)))
    (hg : ∀ s H C cl fp, PG (bk X scope s H C cl fp) tg g)
    (ht : ∀ i, i < n → ∀ s H C cl fp, ETs Θ (bk X scope s H C cl fp) ifs (setD (wipeD δ (own.map (·.2))) (bd i)) (kp i))
    (he : ∀ i, i < n → kp i = true → ∀ s H C cl fp, EV Θ (bk X scope s H C cl fp) elt (setD (wipeD δ (own.map (·.2))) (bd i)) (P i)) (hs : ∀ x, foldedSetIterable iter X.env x = pure x := by intro _; rfl) :
    EV Θ X (.ListComp elt [⟨tg, iter, ifs, 0⟩] scope pos) δ (fun d => ∃ l, d = .lst l ∧ AccR kp P n l) := fun M G0 H0 G H σ Q S q => by
  obtain ⟨wi, hpi, hi⟩ := hi
  exact .of (pe_lc (tt := tTb X scope ifs) (te := tEb X scope elt) xo.calm xo.nd hpi ok hg (fun s H C cl fp => ⟨fun pins s' σ' H' Q' I h => h s H C cl fp pins s' I⟩) (fun s H C cl fp => ⟨fun pins s' σ' H' Q' I h => h s H C cl fp pins s' I⟩) hs)
    (lcD hi hn hw ht he S q)
end
end PM

/-! Statements. -/
namespace PM
open PySem PySem.Spec PyProof.Rows L2
section
variable {Θ : Th} {X : Cx} {a b c e o tg iter elt : Expr} {es ifs : List Expr} {rest body s1 s2 : List Stmt} {δ : List SD} {pos p1 p2 p3 : Pos} {N N1 : List SD → Prop} {P PE : D → Prop} {Ξ : Addr → Prop} {i j n : Nat} {x y : Str} {d : D} {k : Bool} {g : TG} {bd : Nat → List (Nat × D)} {l : List D}
theorem Own.same {H0 : Hp} {σ : L2.St} (O : Own H0 σ δ) : Own H0 σ δ := O
theorem sv_nil (h : N δ) : SV Θ X [] δ N P Ξ := fun M G0 H0 G H σ Dn E tk S O q r ex => .of pss_nil (q σ δ G H S O (.refl G) h)
theorem SV.imp {N' : List SD → Prop} (h : SV Θ X body δ N P Ξ) (k : ∀ δ', N δ' → N' δ') : SV Θ X body δ N' P Ξ := fun M G0 H0 G H σ Dn E tk S O q r ex => h M G0 H0 G H σ Dn E tk S O (fun σ' δ' G' H' S' O' g n => q σ' δ' G' H' S' O' g (k _ n)) r ex
/-- x = e -/
theorem sv_set (xo : XOk Θ X) (hi : X.N[i]? = some x) (hx : Loc X.env.scope x) (he : EV Θ X e δ PE) (hr : ∀ d, PE d → SV Θ X rest (δ.set i (.im d)) N P Ξ) (hs : swapsWith e (some (.Name x p1)) pos.line X.env = pure false := by rfl)
    (hf : X.fn x = true ∨ X.env.scope.names.lookup x = some .local := by first | exact .inl rfl | exact .inr rfl | assumption) : SV Θ X (.Assign [.Name x p1] e pos :: rest) δ N P Ξ := fun M G0 H0 G H σ Dn E tk S O q r ex =>
  .of (pss_cons (ps_set xo.nd hi hx pe_can hs hf) pss_can) (he M G0 H0 G H σ _ S fun v d G1 H1 S1 g1 r1 p1 =>
    hr d p1 M G0 H0 G1 H1 _ Dn E tk (S1.set r1) O.set (fun σ' δ' G' H' S' O' g n => q σ' δ' G' H' S' O' (g1.trans g) n) r ex)
/-- x = [..], on one line -/
theorem sv_setLc {scope : Scope} {own : List (Str × Nat)} {kp : Nat → Bool} {PL : Nat → D → Prop} {spos : Pos} (xo : XOk Θ X) (hy : X.N[i]? = some x) (hyl : X.env.scope.names.lookup x = some .local)
    (hsw : swapsWith (.ListComp elt [⟨tg, iter, ifs, 0⟩] scope pos) (some (.Name x p1)) spos.line X.env = pure true) (hi : EI Θ X tg iter δ g n bd) (ok : BlkOk X.N X.env.scope scope own) (hn : n ≤ 1000)
    (hw : ∀ i, i < n → ∀ (σ : L2.St) bv G, Bnd Θ G bv (bd i) → wipe (setV (wipe σ (own.map (·.2))) bv) (own.map (·.2)) = wipe σ (own.map (·.2)))
    (hg : ∀ s H C cl fp, PG (bk X scope s H C cl fp) tg g)
    (ht : ∀ i, i < n → ∀ s H C cl fp, ETs Θ (bk X scope s H C cl fp) ifs (setD (wipeD δ (own.map (·.2))) (bd i)) (kp i))
    (he : ∀ i, i < n → kp i = true → ∀ s H C cl fp, EV Θ (bk X scope s H C cl fp) elt (setD (wipeD δ (own.map (·.2))) (bd i)) (PL i))
    (hr : ∀ l, AccR kp PL n l → SV Θ X rest (δ.set i (.im (.lst l))) N P Ξ) (hs : ∀ x, foldedSetIterable iter X.env x = pure x := by intro _; rfl) :
    SV Θ X (.Assign [.Name x p1] (.ListComp elt [⟨tg, iter, ifs, 0⟩] scope pos) spos :: rest) δ N P Ξ := fun M G0 H0 G H σ Dn E tk S O q r ex => by
  obtain ⟨wi, hpi, hi⟩ := hi
  refine .of (pss_cons (ps_setLc (tt := tTb X scope ifs) (te := tEb X scope elt) xo.calm xo.nd hy hyl hsw hpi ok hg (fun s H C cl fp => ⟨fun pins s' σ' H' Q' I h => h s H C cl fp pins s' I⟩) (fun s H C cl fp => ⟨fun pins s' σ' H' Q' I h => h s H C cl fp pins s' I⟩) hs) pss_can) ?_
  show tLc wi g (tTb X scope ifs) (tEb X scope elt) (own.map (·.2)) σ H fun x H1 => gName i x σ H1 (tSs X rest Dn)
  refine lcD hi hn hw ht he S fun v d G1 H1 S1 g1 r1 p1 => ?_
  obtain ⟨l, rfl, al⟩ := p1
  exact hr l al M G0 H0 G1 H1 _ Dn E tk (S1.set r1) O.set (fun σ' δ' G' H' S' O' g n => q σ' δ' G' H' S' O' (g1.trans g) n) r ex
theorem sv_ret (he : EV Θ X e δ PE) (hr : ∀ d, PE d → P d) : SV Θ X (.Return (some e) pos :: rest) δ N P Ξ := fun M G0 H0 G H σ Dn E tk S O q r ex =>
  .of (pss_cons (ps_ret pe_can) pss_can) (he M G0 H0 G H σ _ S fun v d G1 H1 S1 g1 r1 p1 => r v d G1 H1 S1.endOk r1 (hr d p1))
/-- return of what raises -/
theorem sv_retX {c : Addr} (he : EX Θ X e δ c) (hr : Ξ c) : SV Θ X (.Return (some e) pos :: rest) δ N P Ξ := fun M G0 H0 G H σ Dn E tk S O q r ex =>
  .of (pss_cons (ps_ret pe_can) pss_can) (he M G0 H0 G H σ _ E tk S fun G1 H1 S1 => ex c G1 H1 S1.endOk hr)
/-- an expression for its own sake -/
theorem sv_expr (he : EV Θ X e δ PE) (hr : SV Θ X rest δ N P Ξ) (hs : swapsWith e none pos.line X.env = pure false := by rfl) : SV Θ X (.Expr e pos :: rest) δ N P Ξ := fun M G0 H0 G H σ Dn E tk S O q r ex =>
  .of (pss_cons (ps_expr pe_can hs) pss_can) (he M G0 H0 G H σ _ S fun v d G1 H1 S1 g1 r1 p1 => hr M G0 H0 G1 H1 _ Dn E tk S1 O (fun σ' δ' G' H' S' O' g n => q σ' δ' G' H' S' O' (g1.trans g) n) r ex)
theorem sv_if (hc : ET Θ X c δ k) (h1 : k = true → SV Θ X s1 δ N1 P Ξ) (h2 : k = false → SV Θ X s2 δ N1 P Ξ) (h3 : ∀ δ', N1 δ' → SV Θ X rest δ' N P Ξ) : SV Θ X (.If c s1 s2 pos :: rest) δ N P Ξ := fun M G0 H0 G H σ Dn E tk S O q r ex =>
  .of (pss_cons (ps_if pt_can pss_can pss_can) pss_can) (hc M G0 H0 G H σ _ S fun G1 H1 S1 g1 => by
    cases k with
    | true => exact h1 rfl M G0 H0 G1 H1 _ _ E tk S1 O (fun σ' δ' G' H' S' O' g n => h3 δ' n M G0 H0 G' H' σ' Dn E tk S' O' (fun σ2 δ2 G2 H2 S2 O2 g2 n2 => q σ2 δ2 G2 H2 S2 O2 ((g1.trans g).trans g2) n2) r ex) r ex
    | false => exact h2 rfl M G0 H0 G1 H1 _ _ E tk S1 O (fun σ' δ' G' H' S' O' g n => h3 δ' n M G0 H0 G' H' σ' Dn E tk S' O' (fun σ2 δ2 G2 H2 S2 O2 g2 n2 => q σ2 δ2 G2 H2 S2 O2 ((g1.trans g).trans g2) n2) r ex) r ex)
/-- an if that ends the def, or goes on with nothing changed -/
theorem sv_ifRet (hc : ET Θ X c δ k) (h1 : k = true → SV Θ X s1 δ (fun _ => False) P Ξ) (h3 : k = false → SV Θ X rest δ N P Ξ) : SV Θ X (.If c s1 [] pos :: rest) δ N P Ξ := by
  refine sv_if (N1 := fun δ' => k = false ∧ δ' = δ) hc (fun e => (h1 e).imp fun _ z => z.elim) (fun e => sv_nil ⟨e, rfl⟩) fun δ' z => ?_
  obtain ⟨e, rfl⟩ := z
  exact h3 e
/-- a, b = e1, e2 -/
theorem sv_par {P1 P2 : D → Prop} {px py pt : Pos} {kt k2 pt2} (xo : XOk Θ X) (hi : X.N[i]? = some x) (hj : X.N[j]? = some y) (hij : i ≠ j) (hx : X.env.scope.names.lookup x = some .local) (hy : X.env.scope.names.lookup y = some .local)
    (ha : EV Θ X a δ P1) (hb : EV Θ X b δ P2) (hw : swappedStores [.Tuple [.Name x px, .Name y py] kt pt] (.Tuple [a, b] k2 pt2) X.env = pure (some [x, y]))
    (hr : ∀ d1 d2, P1 d1 → P2 d2 → SV Θ X rest ((δ.set i (.im d1)).set j (.im d2)) N P Ξ)
    (hs : swapsWithSole [.Tuple [.Name x px, .Name y py] kt pt] (.Tuple [a, b] k2 pt2) pos.line X.env = pure false := by rfl) (h1 : starEach [a, b] X.env = (false, eval a X.env) :: starEach [b] X.env := by rfl) (h2 : starEach [b] X.env = (false, eval b X.env) :: starEach [] X.env := by rfl) :
    SV Θ X (.Assign [.Tuple [.Name x px, .Name y py] kt pt] (.Tuple [a, b] k2 pt2) pos :: rest) δ N P Ξ := fun M G0 H0 G H σ Dn E tk S O q r ex =>
  .of (pss_cons (ps_par xo.calm xo.nd hi hj hij hx hy (pa_cons pe_can (pa_cons pe_can pa_nil h2) h1) hw hs) pss_can) (ha M G0 H0 G H σ _ S fun v d1 G1 H1 S1 g1 r1 q1 => hb M G0 H0 G1 H1 σ _ S1 fun v2 d2 G2 H2 S2 g2 r2 q2 =>
    ⟨v, v2, rfl, hr d1 d2 q1 q2 M G0 H0 G2 H2 _ Dn E tk ((S2.set (r1.gr g2)).set r2) O.set.set (fun σ' δ' G' H' S' O' g n => q σ' δ' G' H' S' O' ((g1.trans g2).trans g) n) r ex⟩)
/-- targets: a tuple's items to names -/
theorem bnd_two {G : Hp} {xs : List V} {d1 d2 : D} {σ : L2.St} {H : Hp} {Q : L2.St → Hp → Prop} (r : RepA Θ G xs [d1, d2]) (k : ∀ bv, Bnd Θ G bv [(i, d1), (j, d2)] → Q (setV σ bv) H) : gCons (gName i) (gCons (gName j) gNil) xs σ H Q := by
  cases r with
  | cons r1 t =>
    cases t with
    | cons r2 t =>
      cases t
      exact ⟨_, _, rfl, _, _, rfl, rfl, k [(i, _), (j, _)] (.cons r1 (.cons r2 .nil))⟩
/-- a, b = e, e a pair -/
theorem sv_unpack {d1 d2 : D} {elts : List Expr} {kt : Nat} {pt : Pos} (he : EV Θ X e δ (· = .tup [d1, d2])) (hg : PG X (.Tuple elts kt pt) (gTup X.K 2 (gCons (gName i) (gCons (gName j) gNil))))
    (hr : SV Θ X rest ((δ.set i (.im d1)).set j (.im d2)) N P Ξ) (hs : swapsWithSole [.Tuple elts kt pt] e pos.line X.env = pure false := by rfl) (hw : swappedStores [.Tuple elts kt pt] e X.env = pure none := by rfl)
    (h1 : (assignEach [.Tuple elts kt pt] X.env).map (·.2) = [assign (.Tuple elts kt pt) X.env] := by rfl) : SV Θ X (.Assign [.Tuple elts kt pt] e pos :: rest) δ N P Ξ := fun M G0 H0 G H σ Dn E tk S O q r ex =>
  .of (pss_cons (ps_asg pe_can hg hs hw h1) pss_can) (he M G0 H0 G H σ _ S fun v d G1 H1 S1 g1 r1 p1 => by
    subst p1
    obtain ⟨a, xs, rfl, e1, q1⟩ := r1.tup_inv
    refine ⟨a, xs, rfl, .inl (e1.gr S1.hs.sub), q1.length, bnd_two q1 fun bv hb => ?_⟩
    exact hr M G0 H0 G1 H1 _ Dn E tk (S1.setB hb) (O.setB hb) (fun σ' δ' G' H' S' O' g n => q σ' δ' G' H' S' O' (g1.trans g) n) r ex)
theorem bnd_three {G : Hp} {xs : List V} {d1 d2 d3 : D} {m : Nat} {σ : L2.St} {H : Hp} {Q : L2.St → Hp → Prop} (r : RepA Θ G xs [d1, d2, d3]) (k : ∀ bv, Bnd Θ G bv [(i, d1), (j, d2), (m, d3)] → Q (setV σ bv) H) : gCons (gName i) (gCons (gName j) (gCons (gName m) gNil)) xs σ H Q := by
  cases r with
  | cons r1 t =>
    cases t with
    | cons r2 t =>
      cases t with
      | cons r3 t =>
        cases t
        exact ⟨_, _, rfl, _, _, rfl, _, _, rfl, rfl, k [(i, _), (j, _), (m, _)] (.cons r1 (.cons r2 (.cons r3 .nil)))⟩
/-- a, b, c = e, e three things that are somehow -/
theorem sv_unpack3 {m : Nat} {PT : D → D → D → Prop} {elts : List Expr} {kt : Nat} {pt : Pos} (he : EV Θ X e δ (fun d => ∃ d1 d2 d3, d = .tup [d1, d2, d3] ∧ PT d1 d2 d3)) (hg : PG X (.Tuple elts kt pt) (gTup X.K 3 (gCons (gName i) (gCons (gName j) (gCons (gName m) gNil)))))
    (hr : ∀ d1 d2 d3, PT d1 d2 d3 → SV Θ X rest (((δ.set i (.im d1)).set j (.im d2)).set m (.im d3)) N P Ξ) (hs : swapsWithSole [.Tuple elts kt pt] e pos.line X.env = pure false := by rfl) (hw : swappedStores [.Tuple elts kt pt] e X.env = pure none := by rfl)
    (h1 : (assignEach [.Tuple elts kt pt] X.env).map (·.2) = [assign (.Tuple elts kt pt) X.env] := by rfl) : SV Θ X (.Assign [.Tuple elts kt pt] e pos :: rest) δ N P Ξ := fun M G0 H0 G H σ Dn E tk S O q r ex =>
  .of (pss_cons (ps_asg pe_can hg hs hw h1) pss_can) (he M G0 H0 G H σ _ S fun v d G1 H1 S1 g1 r1 p1 => by
    obtain ⟨d1, d2, d3, rfl, pt⟩ := p1
    obtain ⟨a, xs, rfl, e1, q1⟩ := r1.tup_inv
    refine ⟨a, xs, rfl, .inl (e1.gr S1.hs.sub), q1.length, bnd_three q1 fun bv hb => ?_⟩
    exact hr d1 d2 d3 pt M G0 H0 G1 H1 _ Dn E tk (S1.setB hb) (O.setB hb) (fun σ' δ' G' H' S' O' g n => q σ' δ' G' H' S' O' (g1.trans g) n) r ex)
/-- a loop -/
theorem sv_for (xo : XOk Θ X) (po : PassesOwn (model X.prog X.w) X.A X.env X.xe) (hi : EI Θ X tg iter δ g n bd) (hg : PG X tg g) (Iv : Nat → List SD → Prop) (h0 : Iv 0 δ)
    (hb : ∀ m δ', m < n → Iv m δ' → SV Θ X body (setD δ' (bd m)) (Iv (m + 1)) P Ξ) (hr : ∀ δ', Iv n δ' → SV Θ X rest δ' N P Ξ) (hs : ∀ x, foldedSetIterable iter X.env x = pure x := by intro _; rfl) :
    SV Θ X (.For tg iter body [] pos :: rest) δ N P Ξ := fun M G0 H0 G H σ Dn E tk S O q r ex => by
  obtain ⟨wi, hpi, hi⟩ := hi
  refine .of (pss_cons (ps_for po xo.calm hpi hg pss_can hs) pss_can) (hi M G0 H0 G H σ _ S fun J G1 H1 S1 g1 it => ?_)
  refine ⟨fun m k σ' H' => k = n - m ∧ m ≤ n ∧ ∃ G' δ', StOk Θ M G0 H0 G' H' σ' δ' ∧ Own H0 σ' δ' ∧ Gr G1 G' ∧ Iv m δ', ⟨n, by simp, Nat.zero_le _, G1, δ, S1, O, .refl _, h0⟩, ?_⟩
  rintro m k σ' H' ⟨rfl, hle, G', δ', S', O', g', iv⟩
  by_cases hlt : m < n
  · refine .inr ⟨it.go g' S'.hs m hlt, fun σ2 H2 => ∃ G2 δ2, StOk Θ M G0 H0 G2 H2 σ2 δ2 ∧ Own H0 σ2 δ2 ∧ Gr G1 G2 ∧ Iv (m + 1) δ2, fun σ2 H2 z => ⟨n - (m + 1), by omega, rfl, hlt, z⟩, fun x H2 y => ?_⟩
    refine it.yld g' S'.hs m hlt x H2 y σ' _ fun bv G2 s2 h2 hbnd => ?_
    exact hb m δ' hlt iv M G0 H0 G2 H2 _ _ E tk ((S'.pure s2 h2).setB hbnd) (O'.setB hbnd) (fun σ3 δ3 G3 H3 S3 O3 g3 n3 => ⟨G3, δ3, S3, O3, (g'.trans s2.g).trans g3, n3⟩) r ex
  · have e : m = n := by omega
    subst e
    exact .inl ⟨it.stop g' S'.hs, hr δ' iv M G0 H0 G' H' σ' Dn E tk S' O' (fun σ3 δ3 G3 H3 S3 O3 g3 n3 => q σ3 δ3 G3 H3 S3 O3 ((g1.trans g').trans g3) n3) r ex⟩
/-- raise -/
theorem sv_raise {c : Addr} (xo : XOk Θ X) (hm : PMk X e (fun _ H Q => Q (.ref c) none H)) (hc : Ξ c) : SV Θ X (.Raise (some e) none pos :: rest) δ N P Ξ := fun M G0 H0 G H σ Dn E tk S O q r ex =>
  .of (pss_cons (ps_raise xo.calm tk hm) pss_can) (ex c G H S.endOk hc)

/-! ### lists of the def's own -/
/-- x = a new list of the def's own; e makes it -/
theorem sv_new {t : TE} (xo : XOk Θ X) (hi : X.N[i]? = some x) (hx : Loc X.env.scope x) (hp : L2.PE X e t)
    (he : ∀ (M : Option Addr) (G0 H0 G H : Hp) (σ : L2.St) (Q : VK), StOk Θ M G0 H0 G H σ δ → (∀ (G' H' : Hp) (p : Addr) (vs : List V), StOk Θ M G0 H0 G' H' σ δ → Gr G G' → H' p = none → RepA Θ G' vs l → Q (.ref p) (upd H' p (.lst vs))) → t σ H Q)
    (hr : SV Θ X rest (δ.set i (.mu l)) N P Ξ) (hs : swapsWith e (some (.Name x p1)) pos.line X.env = pure false := by rfl)
    (hf : X.fn x = true ∨ X.env.scope.names.lookup x = some .local := by first | exact .inl rfl | exact .inr rfl | assumption) : SV Θ X (.Assign [.Name x p1] e pos :: rest) δ N P Ξ := fun M G0 H0 G H σ Dn E tk S O q r ex => by
  refine .of (pss_cons (ps_set xo.nd hi hx hp hs hf) pss_can) (he M G0 H0 G H σ _ S fun G1 H1 p vs S1 g1 hp r1 => ?_)
  have h0 : H0 p = none := by
    cases z : H0 p with
    | none => rfl
    | some o => exact absurd hp (S1.stp.some p (by rw [z]; simp))
  have S2 : StOk Θ M G0 H0 G1 (upd H1 p (.lst vs)) σ δ := S1.step (.made hp) (S1.hs.made hp) fun d e => by
    obtain ⟨_, z2, a, b, c, z3⟩ := S1.dice d e
    exact ⟨z2, a, b, c, by rw [upd_ne (ne_of_none z3 hp)]; exact z3⟩
  have fresh : ∀ (j : Nat) (ds : List D), δ[j]? = some (SD.mu ds) → σ[j]? ≠ some (some (V.ref p)) := fun j ds h1 h2 => by
    obtain ⟨l', vs', e1, e2, _⟩ := S1.mu j ds h1
    rw [e1] at h2
    cases h2
    rw [hp] at e2
    cases e2
  refine hr M G0 H0 G1 (upd H1 p (.lst vs)) _ Dn E tk (S2.setMu upd_same r1 (S1.hs.sub.free hp) (fun e => ?_) fun j ds _ h => fresh j ds h) (fun j ds l' h1 h2 => ?_) (fun σ' δ' G' H' S' O' g n => q σ' δ' G' H' S' O' (g1.trans g) n) r ex
  · obtain ⟨z1, _⟩ := S1.dice p e
    exact z1 h0
  · by_cases hj : i = j
    · subst hj
      have hlt := lt_of_set h1
      rw [List.getElem?_set_self (by rw [S1.len]; exact hlt)] at h2
      cases h2
      exact h0
    · rw [List.getElem?_set_ne hj] at h1 h2
      exact O j ds l' h1 h2
/-- the list is never changed any more -/
theorem sv_freeze {st : List Stmt} (hδ : δ[i]? = some (.mu l)) (h : SV Θ X st (δ.set i (.im (.lst l))) N P Ξ) : SV Θ X st δ N P Ξ := fun M G0 H0 G H σ Dn E tk S O q r ex => by
  obtain ⟨p, vs, e1, e2, e3, e4, e5⟩ := S.mu i l hδ
  have h0 := O i l p hδ e1
  have hl : i < δ.length := (List.getElem?_eq_some_iff.mp hδ).1
  have g : Gr G (upd G p (.lst vs)) := .new e4
  have eσ : σ.set i (some (.ref p)) = σ := by
    refine List.ext_getElem? fun j => ?_
    by_cases hj : i = j
    · subst hj
      rw [List.getElem?_set_self (by rw [S.len]; exact hl), e1]
    · rw [List.getElem?_set_ne hj]
  have S1 : StOk Θ M G0 H0 (upd G p (.lst vs)) H σ (δ.set i .no) := by
    have Z := S.drop (i := i) (o := some (.ref p))
    rw [eσ] at Z
    refine ⟨⟨Z.stp.g.trans g, fun a e => ⟨by rw [upd_ne (kp_ne e h0)]; exact (Z.stp.new a e).1, (Z.stp.new a e).2⟩, Z.stp.h, Z.stp.some⟩, Z.hs.frozen e2, fun d e => ?_, Z.len, fun j d h => ?_, fun j ds h => ?_, Z.dc, Z.dist⟩
    · obtain ⟨z1, z2, a, b, c, z3⟩ := Z.dice d e
      exact ⟨z1, by rw [upd_ne fun z => e5 (by rw [e, z])]; exact z2, a, b, c, z3⟩
    · obtain ⟨v, h1, h2⟩ := Z.im j d h
      exact ⟨v, h1, h2.gr g⟩
    · obtain ⟨l', vs', h1, h2, h3, h4, h5⟩ := Z.mu j ds h
      have hj : i ≠ j := fun z => by
        subst z
        rw [List.getElem?_set_self (lt_of_set h)] at h
        cases h
      rw [List.getElem?_set_ne hj] at h
      have np : l' ≠ p := fun z => by
        subst z
        exact S.dist i j l ds (.ref l') hj hδ h e1 h1
      exact ⟨l', vs', h1, h2, h3.gr g, by rw [upd_ne np]; exact h4, h5⟩
  have S2 := S1.set (i := i) (Rep.lst (ds := l) upd_same (e3.gr g))
  rw [eσ, List.set_set] at S2
  refine h M G0 H0 (upd G p (.lst vs)) H σ Dn E tk S2 (fun j ds l' h1 h2 => ?_) (fun σ' δ' G' H' S' O' g' n => q σ' δ' G' H' S' O' (g.trans g') n) r ex
  by_cases hj : i = j
  · subst hj
    rw [List.getElem?_set_self (lt_of_set h1)] at h1
    cases h1
  · rw [List.getElem?_set_ne hj] at h1
    exact O j ds l' h1 h2
/-- the own list at slot i is now l' -/
theorem StOk.mut {M : Option Addr} {G0 H0 G H : Hp} {σ : L2.St} {p : Addr} {vs' : List V} {l' : List D} (S : StOk Θ M G0 H0 G H σ δ) (O : Own H0 σ δ) (hδ : δ[i]? = some (SD.mu l)) (hσ : σ[i]? = some (some (V.ref p))) (r : RepA Θ G vs' l') :
    StOk Θ M G0 H0 G (upd H p (.lst vs')) σ (δ.set i (.mu l')) ∧ Own H0 σ (δ.set i (.mu l')) := by
  obtain ⟨p', vs, e1, e2, e3, e4, e5⟩ := S.mu i l hδ
  rw [hσ] at e1
  cases e1
  have h0 := O i l p hδ hσ
  have hl : i < δ.length := (List.getElem?_eq_some_iff.mp hδ).1
  have at_ : ∀ {j : Nat} {ds : List D}, (δ.set i (SD.mu l'))[j]? = some (SD.mu ds) → (i = j ∧ ds = l') ∨ (i ≠ j ∧ δ[j]? = some (SD.mu ds)) := fun {j ds} h => by
    by_cases hj : i = j
    · subst hj
      rw [List.getElem?_set_self hl] at h
      cases h
      exact .inl ⟨rfl, rfl⟩
    · rw [List.getElem?_set_ne hj] at h
      exact .inr ⟨hj, h⟩
  refine ⟨⟨S.stp.mut h0, S.hs.write e2 e4, fun d e => ?_, by rw [List.length_set]; exact S.len, fun j d h => ?_, fun j ds h => ?_, fun j h => ?_, fun j k l1 l2 v hjk h1 h2 h3 => ?_⟩, fun j ds q h1 h2 => ?_⟩
  · obtain ⟨z1, z2, a, b, c, z3⟩ := S.dice d e
    exact ⟨z1, z2, a, b, c, by rw [upd_ne fun z => e5 (by rw [e, z])]; exact z3⟩
  · have hj : i ≠ j := fun z => by
      subst z
      rw [List.getElem?_set_self hl] at h
      cases h
    rw [List.getElem?_set_ne hj] at h
    exact S.im j d h
  · rcases at_ h with ⟨rfl, rfl⟩ | ⟨hj, h⟩
    · exact ⟨p, vs', hσ, upd_same, r, e4, e5⟩
    · obtain ⟨l2, vs2, h1, h2, h3, h4, h5⟩ := S.mu j ds h
      have np : l2 ≠ p := fun z => by
        subst z
        exact S.dist i j l ds (.ref l2) hj hδ h hσ h1
      exact ⟨l2, vs2, h1, by rw [upd_ne np]; exact h2, h3, h4, h5⟩
  · have hj : i ≠ j := fun z => by
      subst z
      rw [List.getElem?_set_self hl] at h
      cases h
    rw [List.getElem?_set_ne hj] at h
    exact S.dc j h
  · have g1 : ∃ l0, δ[j]? = some (SD.mu l0) := by
      rcases at_ h1 with ⟨rfl, _⟩ | ⟨_, h⟩
      · exact ⟨l, hδ⟩
      · exact ⟨_, h⟩
    have g2 : ∃ l0, δ[k]? = some (SD.mu l0) := by
      rcases at_ h2 with ⟨rfl, _⟩ | ⟨_, h⟩
      · exact ⟨l, hδ⟩
      · exact ⟨_, h⟩
    obtain ⟨l3, g1⟩ := g1
    obtain ⟨l4, g2⟩ := g2
    exact S.dist j k l3 l4 v hjk g1 g2 h3
  · rcases at_ h1 with ⟨rfl, _⟩ | ⟨_, h⟩
    · exact O i l q hδ h2
    · exact O j ds q h h2
end
end PM

/-! The text by places. -/
namespace PM
open PySem PySem.Spec PyProof.Rows L2
def top (i : Nat) : Stmt := PySem.Challenge.pw_pairmart_k02_matchings_and_what_blocks.main.body.getD i (.Pass ⟨0, 0, 0, 0⟩)
abbrev s_W_init : Stmt := inClass (top 13) 0
abbrev s_W_has : Stmt := inClass (top 13) 1
abbrev s_W_rank : Stmt := inClass (top 13) 2
abbrev s_W_better : Stmt := inClass (top 13) 3
abbrev s_W_ahead_of : Stmt := inClass (top 13) 4
abbrev s_W_worst : Stmt := inClass (top 13) 5
abbrev s_W_best_of : Stmt := inClass (top 13) 6
abbrev s_check_list : Stmt := top 14
abbrev s_M_init : Stmt := inClass (top 16) 0
abbrev s_M_size : Stmt := inClass (top 16) 1
abbrev s_M_likes : Stmt := inClass (top 16) 2
abbrev s_M_pairs : Stmt := inClass (top 16) 3
abbrev s_M_with_list : Stmt := inClass (top 16) 4
abbrev s_M_with_order : Stmt := inClass (top 16) 5
abbrev s_M_with_seats : Stmt := inClass (top 16) 6
abbrev s_M_shown : Stmt := inClass (top 16) 7
abbrev s_check_match : Stmt := top 17
abbrev s_those_in : Stmt := top 18
abbrev s_unwanted : Stmt := top 19
abbrev s_would_take : Stmt := top 20
abbrev s_blocks : Stmt := top 21
abbrev s_is_stable : Stmt := top 22
abbrev s_settled : Stmt := top 23
abbrev s_ranks_of : Stmt := top 24
abbrev s_as_good : Stmt := top 25
abbrev s_filled : Stmt := top 26
abbrev s_L_flat : Stmt := top 28
abbrev s_L_dice : Stmt := top 29
abbrev s_L_roll : Stmt := top 30
abbrev s_L_rounds : Stmt := top 31
abbrev s_L_told : Stmt := top 32
abbrev s_L_list : Stmt := top 33
abbrev s_L_market : Stmt := top 34
abbrev s_L_place : Stmt := top 35
abbrev s_L_blocks : Stmt := top 36
abbrev s_L_cases1 : Stmt := top 37
abbrev s_L_part1 : Stmt := top 38
abbrev s_L_seated : Stmt := top 39
abbrev s_law : Stmt := top 40
end PM

/-! Fields, dicts. -/
namespace PM
open PySem PySem.Spec PyProof.Rows L2

/-- what the top of the text has left -/
structure Tx (Θ : Th) : Prop where
  clW : Cls Θ.K Θ.CW
  clM : Cls Θ.K Θ.CM
  nOrder : NoAttr Θ.K Θ.CW "order"
  nRanks : NoAttr Θ.K Θ.CW "ranks"
  nAskers : NoAttr Θ.K Θ.CM "askers"
  nRooms : NoAttr Θ.K Θ.CM "rooms"
  nSeats : NoAttr Θ.K Θ.CM "seats"
  len : Θ.mg "len" = none
  tuple : Θ.mg "tuple" = none
  list : Θ.mg "list" = none
  dict : Θ.mg "dict" = none
  enumerate : Θ.mg "enumerate" = none
  range : Θ.mg "range" = none
  any : Θ.mg "any" = none
  all : Θ.mg "all" = none
  max : Θ.mg "max" = none
  abs : Θ.mg "abs" = none
  int : Θ.mg "int" = none

theorem wf_order {p q : Addr} : (wf p q).lookup ("order" : Str) = some (.ref p) := by
  unfold wf
  rw [lookup_putF, if_neg (by decide +kernel), lookup_putF, if_pos rfl]
theorem wf_ranks {p q : Addr} : (wf p q).lookup ("ranks" : Str) = some (.ref q) := by
  unfold wf
  rw [lookup_putF, if_pos rfl]
theorem mf_askers {p q r : Addr} : (mf p q r).lookup ("askers" : Str) = some (.ref p) := by
  unfold mf
  rw [lookup_putF, if_neg (by decide +kernel), lookup_putF, if_neg (by decide +kernel), lookup_putF, if_pos rfl]
theorem mf_rooms {p q r : Addr} : (mf p q r).lookup ("rooms" : Str) = some (.ref q) := by
  unfold mf
  rw [lookup_putF, if_neg (by decide +kernel), lookup_putF, if_pos rfl]
theorem mf_seats {p q r : Addr} : (mf p q r).lookup ("seats" : Str) = some (.ref r) := by
  unfold mf
  rw [lookup_putF, if_pos rfl]
section
variable {Θ : Th} {X : Cx} {a e : Expr} {δ : List SD} {pos apos : Pos} {l : List Int} {as rs : List (List Int)} {ss : List Int} {i : Int} {kvs : List (Int × Int)} {k : Nat}
theorem ev_order (xo : XOk Θ X) (T : Tx Θ) (h : EV Θ X a δ (· = .wish l)) (hb : attributeBase a "order" X.env (eval a X.env) = eval a X.env := by rfl) : EV Θ X (.Attribute a "order" pos) δ (· = .tup (l.map .int)) :=
  ev_fld (K := X.K) h hb fun {G H x Q} hs r k => by
    obtain ⟨p, dx, q1, q2, rfl, e1, e2, e3, _⟩ := r.wish_inv
    exact ⟨p, _, dx, _, _, rfl, hs.sub _ _ e1, xo.K ▸ T.clW, xo.K ▸ T.nOrder, wf_order, k.same hs (.tup e2 (RepA.ints l)) rfl⟩
theorem ev_ranks (xo : XOk Θ X) (T : Tx Θ) (h : EV Θ X a δ (· = .wish l)) (hb : attributeBase a "ranks" X.env (eval a X.env) = eval a X.env := by rfl) : EV Θ X (.Attribute a "ranks" pos) δ (· = .dic (rkL l)) :=
  ev_fld (K := X.K) h hb fun {G H x Q} hs r k => by
    obtain ⟨p, dx, q1, q2, rfl, e1, e2, e3, _⟩ := r.wish_inv
    exact ⟨p, _, dx, _, _, rfl, hs.sub _ _ e1, xo.K ▸ T.clW, xo.K ▸ T.nRanks, wf_ranks, k.same hs (.dic e3) rfl⟩
theorem ev_askers (xo : XOk Θ X) (T : Tx Θ) (h : EV Θ X a δ (· = .mkt as rs ss)) (hb : attributeBase a "askers" X.env (eval a X.env) = eval a X.env := by rfl) : EV Θ X (.Attribute a "askers" pos) δ (· = .lst (as.map .wish)) :=
  ev_fld (K := X.K) h hb fun {G H x Q} hs r k => by
    obtain ⟨p, dx, q1, q2, q3, ws, vs, rfl, e1, e2, r1, e3, r2, e4⟩ := r.mkt_inv
    exact ⟨p, _, dx, _, _, rfl, hs.sub _ _ e1, xo.K ▸ T.clM, xo.K ▸ T.nAskers, mf_askers, k.same hs (.lst e2 r1) rfl⟩
theorem ev_rooms (xo : XOk Θ X) (T : Tx Θ) (h : EV Θ X a δ (· = .mkt as rs ss)) (hb : attributeBase a "rooms" X.env (eval a X.env) = eval a X.env := by rfl) : EV Θ X (.Attribute a "rooms" pos) δ (· = .lst (rs.map .wish)) :=
  ev_fld (K := X.K) h hb fun {G H x Q} hs r k => by
    obtain ⟨p, dx, q1, q2, q3, ws, vs, rfl, e1, e2, r1, e3, r2, e4⟩ := r.mkt_inv
    exact ⟨p, _, dx, _, _, rfl, hs.sub _ _ e1, xo.K ▸ T.clM, xo.K ▸ T.nRooms, mf_rooms, k.same hs (.lst e3 r2) rfl⟩
theorem ev_seats (xo : XOk Θ X) (T : Tx Θ) (h : EV Θ X a δ (· = .mkt as rs ss)) (hb : attributeBase a "seats" X.env (eval a X.env) = eval a X.env := by rfl) : EV Θ X (.Attribute a "seats" pos) δ (· = .tup (ss.map .int)) :=
  ev_fld (K := X.K) h hb fun {G H x Q} hs r k => by
    obtain ⟨p, dx, q1, q2, q3, ws, vs, rfl, e1, e2, r1, e3, r2, e4⟩ := r.mkt_inv
    exact ⟨p, _, dx, _, _, rfl, hs.sub _ _ e1, xo.K ▸ T.clM, xo.K ▸ T.nSeats, mf_seats, k.same hs (.tup e4 (RepA.ints ss)) rfl⟩

/-! ### dicts -/
def lookI (kvs : List (Int × Int)) (i : Int) : Option Int := (kvs.find? fun p => decide (p.1 = i)).map (·.2)
theorem valV_dk (kvs : List (Int × Int)) (i : Int) : valV (dk kvs) (Sum.inl i : Key) = (lookI kvs i).map V.int := by
  unfold lookI dk
  induction kvs with
  | nil => rfl
  | cons p r ih =>
    rw [List.map_cons]
    by_cases h : p.1 = i
    · rw [valV_pos (by rw [h]), List.find?_cons_of_pos (by simp [h])]
      rfl
    · rw [valV_neg (by intro e; exact h (Sum.inl.inj e)), List.find?_cons_of_neg (by simp [h])]
      exact ih
theorem dget_of {G H : Hp} {d : Addr} (hs : Hs Θ G H) (e : G d = some (.dK (dk kvs))) : DGet H d (.int i) ((lookI kvs i).map V.int) := by
  rw [← valV_dk]
  exact DGet.k (k := (Sum.inl i : Key)) (hs.sub _ _ e)
/-- i in d -/
theorem ev_inD {b : Expr} (hu : X.A.units + 1 < cLine) (ha : EV Θ X a δ (· = .int i)) (hb : EV Θ X b δ (· = .dic kvs)) (h1 : behindInMarks .In b = false := by rfl) : EV Θ X (.Compare a [.In] [b] pos) δ (· = .bl (lookI kvs i).isSome) := fun M G0 H0 G H σ Q S q =>
  .of (pe_cmp (pc_din hu pe_can pe_can) h1) (ha M G0 H0 G H σ _ S fun x dx G1 H1 S1 g1 r1 p1 => hb M G0 H0 G1 H1 σ _ S1 fun y dy G2 H2 S2 g2 r2 p2 => by
    subst p1 p2
    obtain ⟨d, rfl, e⟩ := r2.dic_inv
    rw [(r1.gr g2).int_inv]
    refine ⟨d, _, rfl, dget_of S2.hs e, q _ _ G2 H2 S2 (g1.trans g2) (.bl _) ?_⟩
    rw [Option.isSome_map])
theorem et_inD {b : Expr} (hu : X.A.units + 1 < cLine) (ha : EV Θ X a δ (· = .int i)) (hb : EV Θ X b δ (· = .dic kvs)) (h1 : behindInMarks .In b = false := by rfl) : ET Θ X (.Compare a [.In] [b] pos) δ (lookI kvs i).isSome := fun M G0 H0 G H σ Q S q =>
  .of (pt_cmp (pc_din hu pe_can pe_can) h1) (ha M G0 H0 G H σ _ S fun x dx G1 H1 S1 g1 r1 p1 => hb M G0 H0 G1 H1 σ _ S1 fun y dy G2 H2 S2 g2 r2 p2 => by
    subst p1 p2
    obtain ⟨d, rfl, e⟩ := r2.dic_inv
    rw [(r1.gr g2).int_inv]
    refine ⟨d, _, rfl, dget_of S2.hs e, _, rfl, ?_⟩
    rw [Option.isSome_map]
    exact q G2 H2 S2 (g1.trans g2))
/-- what get gives -/
def optD : Option Int → D
  | some i => .int i
  | none => .non
theorem ev_getD {o : Expr} (hu : X.A.units + 1 < cLine) (ho : EV Θ X o δ (· = .dic kvs)) (ha : EV Θ X a δ (· = .int i)) (m : M1 X o "get" apos a pos) : EV Θ X (.Call (.Attribute o "get" apos) [a] [] pos) δ (· = optD (lookI kvs i)) := fun M G0 H0 G H σ Q S q =>
  .of (pe_dget1 hu pe_can pe_can m) (ho M G0 H0 G H σ _ S fun x dx G1 H1 S1 g1 r1 p1 => by
    subst p1
    obtain ⟨d, rfl, e⟩ := r1.dic_inv
    refine ⟨d, rfl, .inl ⟨_, .inl (S1.hs.sub _ _ e)⟩, ha M G0 H0 G1 H1 σ _ S1 fun y dy G2 H2 S2 g2 r2 p2 => ?_⟩
    subst p2
    rw [r2.int_inv]
    refine ⟨_, dget_of S2.hs (g2 _ _ e), ?_⟩
    cases e3 : lookI kvs i with
    | none => exact q _ _ G2 H2 S2 (g1.trans g2) .non (by show D.non = optD (lookI kvs i); rw [e3]; rfl)
    | some v => exact q _ _ G2 H2 S2 (g1.trans g2) (.int v) (by show D.int v = optD (lookI kvs i); rw [e3]; rfl))
/-- d[i], there -/
theorem ev_ixD {b : Expr} {v : Int} (hu : X.A.units + 1 < cLine) (ha : EV Θ X a δ (· = .dic kvs)) (hb : EV Θ X b δ (· = .int i)) (hv : lookI kvs i = some v) (hs : NoSl b := by exact fun _ _ => rfl) : EV Θ X (.Subscript a b pos) δ (· = .int v) := fun M G0 H0 G H σ Q S q =>
  .of (pe_dget hu pe_can pe_can hs) (ha M G0 H0 G H σ _ S fun x dx G1 H1 S1 g1 r1 p1 => hb M G0 H0 G1 H1 σ _ S1 fun y dy G2 H2 S2 g2 r2 p2 => by
    subst p1 p2
    obtain ⟨d, rfl, e⟩ := (r1.gr g2).dic_inv
    rw [r2.int_inv]
    have h := dget_of (i := i) S2.hs e
    rw [hv] at h
    exact ⟨d, _, rfl, h, q _ _ G2 H2 S2 (g1.trans g2) (.int v) rfl⟩)
theorem cad_lenD : CaD Θ (fun xs H Q => ∃ a kvs, xs = [V.ref a] ∧ H a = some (.dK kvs) ∧ Q (.int kvs.length) H) [.dic kvs] (· = .int (kvs.length : Int)) := fun {G H xs Q} hs r k => by
  cases r with
  | cons r t =>
    cases t
    obtain ⟨d, rfl, e⟩ := r.dic_inv
    refine ⟨d, _, rfl, hs.sub _ _ e, k.same hs (.int _) ?_⟩
    unfold dk
    rw [List.length_map]
/-! ### dict(pairs) -/
def putL (acc : List (Int × Int)) (p : Int × Int) : List (Int × Int) := if acc.any (fun q => decide (q.1 = p.1)) then acc.map (fun q => if q.1 = p.1 then (q.1, p.2) else q) else acc ++ [p]
def mergeL (ps : List (Int × Int)) : List (Int × Int) := ps.foldl putL []
theorem putK_dk (acc : List (Int × Int)) (p : Int × Int) : putK (dk acc) (Sum.inl p.1 : Key) (.int p.2) = dk (putL acc p) := by
  unfold putK putL dk
  have e : ((acc.map fun p => ((Sum.inl p.1 : Key), V.int p.2)).any fun kv => decide (kv.1 = (Sum.inl p.1 : Key))) = acc.any (fun q => decide (q.1 = p.1)) := by
    rw [List.any_map]
    congr 1
    funext q
    simp
  rw [e]
  by_cases h : acc.any (fun q => decide (q.1 = p.1)) = true
  · rw [if_pos h, if_pos h, List.map_map, List.map_map]
    congr 1
    funext q
    by_cases hq : q.1 = p.1
    · simp [hq]
    · simp [hq]
  · rw [if_neg h, if_neg h, List.map_append]
    rfl
theorem merge_dk (ps acc : List (Int × Int)) : mergeK (dk acc) (dk ps) = dk (ps.foldl putL acc) := by
  induction ps generalizing acc with
  | nil => rfl
  | cons p r ih =>
    have e : mergeK (dk acc) (dk (p :: r)) = mergeK (putK (dk acc) (Sum.inl p.1 : Key) (.int p.2)) (dk r) := rfl
    rw [e, putK_dk, ih]
    rfl
theorem pairs_in {G H : Hp} (hs : Hs Θ G H) : ∀ {ps : List (Int × Int)} {vs : List V}, RepA Θ G vs (ps.map fun p => D.tup [.int p.1, .int p.2]) → ∃ as : List Addr, vs = as.map V.ref ∧ Paired (fun p kv => SqT Θ.K H p [kV kv.1, kv.2]) as (dk ps)
  | [], _, .nil => ⟨[], rfl, .nil⟩
  | p :: r, _, .cons a t => by
    obtain ⟨as, rfl, h⟩ := pairs_in hs t
    obtain ⟨b, xs, rfl, e, q⟩ := a.tup_inv
    cases q with
    | cons q1 t1 =>
      cases t1 with
      | cons q2 t2 =>
        cases t2
        rw [q1.int_inv, q2.int_inv] at e
        exact ⟨b :: as, rfl, .cons (.inl (e.gr hs.sub)) h⟩
theorem cad_dict {ps : List (Int × Int)} : CaD Θ (fun xs H Q => ∃ (a : Addr) (bs : List Addr) (kvs : List (Key × V)), xs = [.ref a] ∧ SqL Θ.K H a (bs.map V.ref) ∧ Paired (fun p kv => SqT Θ.K H p [kV kv.1, kv.2]) bs kvs ∧
    ∀ p, H p = none → Q (.ref p) (upd H p (.dK (mergeK [] kvs)))) [.lst (ps.map fun p => D.tup [.int p.1, .int p.2])] (· = .dic (mergeL ps)) := fun {G H xs Q} hs r k => by
  cases r with
  | cons r t =>
    cases t
    obtain ⟨a, vs, rfl, e, q⟩ := r.lst_inv
    obtain ⟨as, rfl, h⟩ := pairs_in hs q
    refine ⟨a, as, dk ps, rfl, .of (hs.sub _ _ e), h, fun p hp => ?_⟩
    have e2 : mergeK [] (dk ps) = dk (mergeL ps) := merge_dk ps []
    rw [e2]
    exact k _ _ _ _ (.laid hp (hs.sub.free hp)) (hs.laid hp fun _ z => by cases z) (.dic upd_same) rfl
end
/-! ### what these dicts hold -/
theorem mergeL_nodup (ps : List (Int × Int)) : ∀ acc : List (Int × Int), (acc.map (·.1) ++ ps.map (·.1)).Nodup → ps.foldl putL acc = acc ++ ps := by
  induction ps with
  | nil => intro acc _; simp
  | cons p r ih =>
    intro acc h
    have h1 : acc.any (fun q => decide (q.1 = p.1)) = false := by
      rw [List.any_eq_false]
      intro q hq
      simp only [decide_eq_true_eq]
      intro e
      rw [List.nodup_append] at h
      exact h.2.2 q.1 (List.mem_map.mpr ⟨q, hq, rfl⟩) p.1 (by simp) e
    have h2 : putL acc p = acc ++ [p] := by
      unfold putL
      rw [if_neg (by rw [h1]; simp)]
    rw [List.foldl_cons, h2, ih _ (by simpa using h)]
    simp
theorem mergeL_id {ps : List (Int × Int)} (h : (ps.map (·.1)).Nodup) : mergeL ps = ps := by
  have e := mergeL_nodup ps [] (by simpa using h)
  simpa [mergeL] using e
theorem putL_len (acc : List (Int × Int)) (p : Int × Int) : (putL acc p).length ≤ acc.length + 1 := by
  unfold putL
  split <;> simp
theorem foldl_len (ps : List (Int × Int)) : ∀ acc : List (Int × Int), (ps.foldl putL acc).length ≤ acc.length + ps.length := by
  induction ps with
  | nil => intro acc; simp
  | cons p r ih =>
    intro acc
    rw [List.foldl_cons]
    have h1 := ih (putL acc p)
    have h2 := putL_len acc p
    rw [List.length_cons]
    omega
theorem putL_keys (acc : List (Int × Int)) (p : Int × Int) : ∀ x, x ∈ (putL acc p).map (·.1) ↔ x ∈ acc.map (·.1) ∨ x = p.1 := by
  intro x
  unfold putL
  split
  · rename_i h
    have e : (acc.map (fun q => if q.1 = p.1 then (q.1, p.2) else q)).map (·.1) = acc.map (·.1) := by
      rw [List.map_map]
      congr 1
      funext q
      show (if q.1 = p.1 then (q.1, p.2) else q).1 = q.1
      split <;> rfl
    rw [e]
    obtain ⟨q, hq, hd⟩ := List.any_eq_true.mp h
    have hd := of_decide_eq_true hd
    constructor
    · exact fun h => .inl h
    · rintro (h | rfl)
      · exact h
      · exact List.mem_map.mpr ⟨q, hq, hd⟩
  · simp
/-- a key told twice makes the dict shorter -/
theorem mergeL_short (ps : List (Int × Int)) : ∀ acc : List (Int × Int), ¬ (acc.map (·.1) ++ ps.map (·.1)).Nodup → (acc.map (·.1)).Nodup → (ps.foldl putL acc).length < acc.length + ps.length := by
  induction ps with
  | nil => intro acc h1 h2; simp at h1; exact absurd h2 h1
  | cons p r ih =>
    intro acc h1 h2
    rw [List.foldl_cons, List.length_cons]
    by_cases hp : acc.any (fun q => decide (q.1 = p.1)) = true
    · have e : (putL acc p).length = acc.length := by
        unfold putL
        rw [if_pos hp, List.length_map]
      have h := foldl_len r (putL acc p)
      omega
    · have e2 : putL acc p = acc ++ [p] := by
        unfold putL
        rw [if_neg hp]
      have hn : p.1 ∉ acc.map (·.1) := by
        intro hm
        obtain ⟨q, hq, e⟩ := List.mem_map.mp hm
        exact hp (List.any_eq_true.mpr ⟨q, hq, by simpa using e⟩)
      have h := ih (acc ++ [p]) (by rw [List.map_append]; simpa using h1) (by
        rw [List.map_append, List.nodup_append]
        refine ⟨h2, by simp, ?_⟩
        intro x hx y hy e
        simp at hy
        subst hy
        subst e
        exact hn hx)
      rw [e2]
      rw [List.length_append, List.length_singleton] at h
      omega
theorem mergeL_len {l : List Int} (h : ¬ l.Nodup) : (mergeL (l.map fun x => (x, 1))).length ≠ l.length := by
  have e : (l.map fun x => (x, (1 : Int))).map (·.1) = l := by
    rw [List.map_map]
    simp [Function.comp_def]
  have z := mergeL_short (l.map fun x => (x, 1)) [] (by simpa [e] using h) (by simp)
  simp only [List.length_nil, List.length_map, Nat.zero_add] at z
  unfold mergeL
  omega
theorem rkL_keys (l : List Int) : (rkL l).map (·.1) = l := by
  unfold rkL
  rw [List.map_map]
  have : ((fun p : Int × Int => p.1) ∘ fun p : Int × Nat => (p.1, (p.2 : Int))) = Prod.fst := rfl
  rw [this, List.zipIdx_map_fst]
/-- the rank of i in l -/
theorem look_rkL (l : List Int) (i : Int) : lookI (rkL l) i = (l.findIdx? fun x => decide (x = i)).map fun n : Nat => (n : Int) := by
  unfold lookI rkL
  suffices h : ∀ (l : List Int) (m : Nat), (((l.zipIdx m).map fun p => (p.1, (p.2 : Int))).find? fun p => decide (p.1 = i)).map (·.2) = (l.findIdx? fun x => decide (x = i)).map fun n : Nat => ((n + m : Nat) : Int) by
    have z := h l 0
    simp only [Nat.add_zero] at z
    exact z
  intro l
  induction l with
  | nil => intro m; rfl
  | cons a r ih =>
    intro m
    rw [List.zipIdx_cons, List.map_cons, List.findIdx?_cons]
    by_cases h : a = i
    · rw [List.find?_cons_of_pos (by simp [h]), if_pos (by simp [h])]
      simp
    · rw [List.find?_cons_of_neg (by simp [h]), if_neg (by simp [h]), ih (m + 1)]
      cases r.findIdx? fun x => decide (x = i) with
      | none => rfl
      | some n => simp; omega
end PM

/-! Short forms. -/
namespace PM
open PySem PySem.Spec PyProof.Rows L2
section
variable {Θ : Th} {X : Cx} {a b c e : Expr} {es : List Expr} {δ : List SD} {pos p : Pos} {P : D → Prop} {d da db : D} {x : Str} {k : Bool}
theorem v (i : Nat) (hδ : δ[i]? = some (.im d) := by rfl) (hN : X.N[i]? = some x := by rfl) (hv : Vis X.env.scope x := by first | exact Or.inl rfl | exact Or.inr (Or.inl rfl) | exact Or.inr (Or.inr rfl)) (hd : (x == ("__debug__" : Str)) = false := by decide) (hcd : (x == ("__classdict__" : Str)) = false := by decide) :
    EV Θ X (.Name x pos) δ (· = d) := ev_var hδ hN hv hd hcd
theorem bin2 {op : Operator} {r : R2} (ho : OpR X (binaryOp op) r) (ha : EV Θ X a δ (· = da)) (hb : EV Θ X b δ (· = db)) (k : OpD Θ r da db P) : EV Θ X (.BinOp a op b pos) δ P := ev_bin ho ha hb fun dx dy p q => by rw [p, q]; exact k
theorem cmp2 {op : CmpOp} {r : R2} (ho : OpR X (compareOp op) r) (ha : EV Θ X a δ (· = da)) (hb : EV Θ X b δ (· = db)) (k : OpD Θ r da db P) (hm : behindInMarks op b = false := by first | exact nomark _ | rfl) : EV Θ X (.Compare a [op] [b] pos) δ P := ev_cmp ho ha hb hm fun dx dy p q => by rw [p, q]; exact k
theorem tst2 {op : CmpOp} {r : R2} (ho : OpR X (compareOp op) r) (ha : EV Θ X a δ (· = da)) (hb : EV Θ X b δ (· = db)) (h : OpD Θ r da db (· = .bl k)) (hm : behindInMarks op b = false := by first | exact nomark _ | rfl) : ET Θ X (.Compare a [op] [b] pos) δ k := et_cmp ho ha hb hm fun dx dy p q => by rw [p, q]; exact h
theorem ixL {l : List D} {i : Int} {j : Nat} (ha : EV Θ X a δ (· = .lst l)) (hb : EV Θ X b δ (· = .int i)) (hi : i = (j : Int)) (h : l[j]? = some d) (hK : Θ.K = X.K := by rfl) (hs : PlainIx b := by exact fun _ _ => rfl) : EV Θ X (.Subscript a b pos) δ (· = d) :=
  ev_ix ix_list ha hb (fun dx dy p q => by rw [p, q, ← hK]; exact opd_ixL hi h) hs
theorem ixT {l : List D} {i : Int} {j : Nat} (ha : EV Θ X a δ (· = .tup l)) (hb : EV Θ X b δ (· = .int i)) (hi : i = (j : Int)) (h : l[j]? = some d) (hK : Θ.K = X.K := by rfl) (hs : PlainIx b := by exact fun _ _ => rfl) : EV Θ X (.Subscript a b pos) δ (· = d) :=
  ev_ix ix_tup ha hb (fun dx dy p q => by rw [p, q, ← hK]; exact opd_ixT hi h) hs
theorem lenT {l : List D} (T : Tx Θ) (h : EV Θ X a δ (· = .tup l)) (hK : Θ.K = X.K := by rfl) (hm : Θ.mg = X.mg := by rfl) (hg : Gl X "len" := by rfl) (hs : starEach [a] X.env = (false, eval a X.env) :: starEach [] X.env := by rfl) (hpl : (backTo pos (starEach [] X.env)).any (·.1) = false := by rfl) :
    EV Θ X (.Call (.Name "len" p) [a] [] pos) δ (· = .int (l.length : Int)) :=
  ev_callB call_len_seq hg (hm ▸ T.len) boot_len (ea_c h ea_nil hs) (by rw [← hK]; exact cad_lenT) (by decide) (by decide) hs hpl
theorem lenL {l : List D} (T : Tx Θ) (h : EV Θ X a δ (· = .lst l)) (hK : Θ.K = X.K := by rfl) (hm : Θ.mg = X.mg := by rfl) (hg : Gl X "len" := by rfl) (hs : starEach [a] X.env = (false, eval a X.env) :: starEach [] X.env := by rfl) (hpl : (backTo pos (starEach [] X.env)).any (·.1) = false := by rfl) :
    EV Θ X (.Call (.Name "len" p) [a] [] pos) δ (· = .int (l.length : Int)) :=
  ev_callB call_len_seq hg (hm ▸ T.len) boot_len (ea_c h ea_nil hs) (by rw [← hK]; exact cad_lenL) (by decide) (by decide) hs hpl
theorem tupL {l : List D} (T : Tx Θ) (h : EV Θ X a δ (· = .lst l)) (hK : Θ.K = X.K := by rfl) (hm : Θ.mg = X.mg := by rfl) (hg : Gl X "tuple" := by rfl) (hs : starEach [a] X.env = (false, eval a X.env) :: starEach [] X.env := by rfl) (hpl : (backTo pos (starEach [] X.env)).any (·.1) = false := by rfl) :
    EV Θ X (.Call (.Name "tuple" p) [a] [] pos) δ (· = .tup l) :=
  ev_callTy call_tuple_of hg (hm ▸ T.tuple) boot_tuple (ea_c h ea_nil hs) (by rw [← hK]; exact cad_tupL) (by decide) (by decide) hs hpl
theorem tupT {l : List D} (T : Tx Θ) (h : EV Θ X a δ (· = .tup l)) (hK : Θ.K = X.K := by rfl) (hm : Θ.mg = X.mg := by rfl) (hg : Gl X "tuple" := by rfl) (hs : starEach [a] X.env = (false, eval a X.env) :: starEach [] X.env := by rfl) (hpl : (backTo pos (starEach [] X.env)).any (·.1) = false := by rfl) :
    EV Θ X (.Call (.Name "tuple" p) [a] [] pos) δ (· = .tup l) :=
  ev_callTy call_tuple_of hg (hm ▸ T.tuple) boot_tuple (ea_c h ea_nil hs) (by rw [← hK]; exact cad_tupT) (by decide) (by decide) hs hpl
theorem lstT {l : List D} (T : Tx Θ) (h : EV Θ X a δ (· = .tup l)) (hK : Θ.K = X.K := by rfl) (hm : Θ.mg = X.mg := by rfl) (hg : Gl X "list" := by rfl) (hs : starEach [a] X.env = (false, eval a X.env) :: starEach [] X.env := by rfl) (hpl : (backTo pos (starEach [] X.env)).any (·.1) = false := by rfl) :
    EV Θ X (.Call (.Name "list" p) [a] [] pos) δ (· = .lst l) :=
  ev_callTy call_list_of hg (hm ▸ T.list) boot_list (ea_c h ea_nil hs) (by rw [← hK]; exact cad_listT) (by decide) (by decide) hs hpl

theorem flat_opt (o : Option Int) : (optD o).flat = some (match o with | none => V.non | some i => V.int i) := by cases o <;> rfl
theorem dec_non (o : Option Int) : decide ((match o with | none => V.non | some i => V.int i) = V.non) = o.isNone := by cases o <;> rfl
variable {j : Nat} {p2 : Pos}
theorem tIsN (o : Option Int) (ha : EV Θ X a δ (· = optD o)) : ET Θ X (.Compare a [.Is] [.Constant .none j p2] pos) δ o.isNone := by
  have h := tst2 (pos := pos) (op_isN (X := X)) ha (ev_non (j := j) (pos := p2)) (opd_isN (flat_opt o)) (nomark _)
  rw [dec_non] at h
  exact h
theorem eIsN (o : Option Int) (ha : EV Θ X a δ (· = optD o)) : EV Θ X (.Compare a [.Is] [.Constant .none j p2] pos) δ (· = .bl o.isNone) := by
  have h := cmp2 (pos := pos) (op_isN (X := X)) ha (ev_non (j := j) (pos := p2)) (opd_isN (flat_opt o)) (nomark _)
  rw [dec_non] at h
  exact h
theorem tNotN (o : Option Int) (ha : EV Θ X a δ (· = optD o)) : ET Θ X (.Compare a [.IsNot] [.Constant .none j p2] pos) δ o.isSome := by
  have h := tst2 (pos := pos) (op_notN (X := X)) ha (ev_non (j := j) (pos := p2)) (opd_notN (flat_opt o)) (nomark _)
  rw [dec_non] at h
  cases o <;> exact h
theorem eNotN (o : Option Int) (ha : EV Θ X a δ (· = optD o)) : EV Θ X (.Compare a [.IsNot] [.Constant .none j p2] pos) δ (· = .bl o.isSome) := by
  have h := cmp2 (pos := pos) (op_notN (X := X)) ha (ev_non (j := j) (pos := p2)) (opd_notN (flat_opt o)) (nomark _)
  rw [dec_non] at h
  cases o <;> exact h
end
end PM

/-! The methods of Wish. -/
namespace PM
open PySem PySem.Spec PyProof.Rows L2

/-! ### what they give -/
def rnk (l : List Int) : Option Int → Option Int
  | none => some (l.length : Int)
  | some i => lookI (rkL l) i
def cmpO : Option Int → Option Int → Bool
  | none, _ => false
  | some _, none => true
  | some a, some b => decide (a < b)
def betterB (l : List Int) (o p : Option Int) : Bool := cmpO (rnk l o) (rnk l p)
def aheadL (l : List Int) (o : Option Int) : List Int := match rnk l o with
  | none => l
  | some n => l.take n.toNat
theorem has_look (l : List Int) (i : Int) : (lookI (rkL l) i).isSome = decide (i ∈ l) := by
  rw [look_rkL, Option.isSome_map]
  rw [Bool.eq_iff_iff, List.findIdx?_isSome, List.any_eq_true]
  simp
abbrev NoX : List D → Addr → Prop := fun _ _ => False
def R_has (ds : List D) (d : D) : Prop := ∃ l i, ds = [.wish l, .int i] ∧ d = .bl (decide (i ∈ l))
def R_rank (ds : List D) (d : D) : Prop := ∃ l o, ds = [.wish l, optD o] ∧ d = optD (rnk l o)
def R_better (ds : List D) (d : D) : Prop := ∃ l o p, ds = [.wish l, optD o, optD p] ∧ d = .bl (betterB l o p)
def R_ahead (ds : List D) (d : D) : Prop := ∃ l o, ds = [.wish l, optD o] ∧ d = .tup ((aheadL l o).map .int)

theorem xo_cx {Θ : Th} {N ps : List Str} {qual : Str} {scope : Scope} {f : Addr} {cd : Value} {A : Around} {outer : List Env} {s : Shared} {H : Hp} {E : XK} (S : FnScope N ps scope) : XOk Θ (cxP Θ N qual scope f cd A outer s H E) := ⟨rfl, rfl, rfl, rfl, rfl, rfl, S.nd⟩
section
variable {Θ : Th} {f : Addr} {fd : FuncData}
theorem sc_has : FnScope ["self", "one"] ["self", "one"] (defScope s_W_has) := ⟨rfl, rfl, rfl, by decide +kernel, rfl, by decide +kernel, by decide +kernel⟩
theorem ok_has (T : Tx Θ) (F : Fun Θ.K "has" "Wish.has" s_W_has f fd) : FnOk Θ.P Θ.w Θ.K Θ.mg Θ.base (L2.CX Θ.P Θ.w) 1 f fd ["self", "one"] (PSp Θ 2 R_has NoX) := by
  refine fn_ok F sc_has rfl (fun cdv A outer s H E ds d hr hl hR => ?_) (fun _ _ _ _ _ _ _ _ _ _ h => h.elim)
  obtain ⟨l, i, rfl, rfl⟩ := hR
  have xo := xo_cx (Θ := Θ) (qual := "Wish.has") (f := f) (cd := cdv) (A := A) (outer := outer) (s := s) (H := H) (E := E) sc_has
  refine sv_ret (ev_inD (hu_of hr) (ev_var (i := 1) rfl rfl (.inl rfl)) (ev_ranks xo T (ev_var (i := 0) rfl rfl (.inl rfl)))) fun d e => ?_
  rw [e, has_look]

theorem sc_rank : FnScope ["self", "one"] ["self", "one"] (defScope s_W_rank) := ⟨rfl, rfl, rfl, by decide +kernel, rfl, by decide +kernel, by decide +kernel⟩
theorem ok_rank (T : Tx Θ) (F : Fun Θ.K "rank" "Wish.rank" s_W_rank f fd) : FnOk Θ.P Θ.w Θ.K Θ.mg Θ.base (L2.CX Θ.P Θ.w) 1 f fd ["self", "one"] (PSp Θ 2 R_rank NoX) := by
  refine fn_ok F sc_rank rfl (fun cdv A outer s H E ds d hr hl hR => ?_) (fun _ _ _ _ _ _ _ _ _ _ h => h.elim)
  obtain ⟨l, o, rfl, rfl⟩ := hR
  have xo := xo_cx (Θ := Θ) (qual := "Wish.rank") (f := f) (cd := cdv) (A := A) (outer := outer) (s := s) (H := H) (E := E) sc_rank
  cases o with
  | none =>
    refine sv_ret (ev_if (k := true) (tIsN none (v 1)) (fun _ => lenT T (ev_order xo T (v 0))) (fun h => nomatch h)) fun d e => ?_
    rw [e, List.length_map]
    rfl
  | some i =>
    exact sv_ret (ev_if (k := false) (tIsN (some i) (v 1)) (fun h => nomatch h) (fun _ => ev_getD (hu_of hr) (ev_ranks xo T (v 0)) (v 1) ⟨rfl, rfl, rfl, rfl⟩)) fun d e => e
/-- a method of a class, known by its promise -/
theorem sc_better : FnScope ["self", "one", "other", "left", "right"] ["self", "one", "other"] (defScope s_W_better) := ⟨rfl, rfl, rfl, by decide +kernel, rfl, by decide +kernel, by decide +kernel⟩
theorem ok_better (T : Tx Θ) (F : Fun Θ.K "better" "Wish.better" s_W_better f fd) (mR : Mth Θ Θ.CW "rank" 1 2 R_rank NoX) : FnOk Θ.P Θ.w Θ.K Θ.mg Θ.base (L2.CX Θ.P Θ.w) 2 f fd ["self", "one", "other"] (PSp Θ 3 R_better NoX) := by
  refine fn_ok F sc_better rfl (fun cdv A outer s H E ds d hr hl hR => ?_) (fun _ _ _ _ _ _ _ _ _ _ h => h.elim)
  obtain ⟨l, o, p, rfl, rfl⟩ := hR
  have xo := xo_cx (Θ := Θ) (qual := "Wish.better") (f := f) (cd := cdv) (A := A) (outer := outer) (s := s) (H := H) (E := E) sc_better
  refine sv_par (i := 3) (j := 4) xo rfl rfl (by decide) rfl rfl (ev_meth xo mR hr (by decide) (v 0) noFld_wish (ea_c (v 1) ea_nil) ⟨l, o, rfl, rfl⟩) (ev_meth xo mR hr (by decide) (v 0) noFld_wish (ea_c (v 2) ea_nil) ⟨l, p, rfl, rfl⟩) rfl fun d1 d2 e1 e2 => ?_
  subst e1 e2
  unfold betterB
  generalize rnk l o = ro
  generalize rnk l p = rp
  cases ro with
  | none =>
    refine sv_ret (ev_and (k := false) (m := true) (eNotN none (v 3)) (fun h => nomatch h)) fun d e => e
  | some a =>
    cases rp with
    | none =>
      refine sv_ret (ev_and (k := true) (m := true) (eNotN (some a) (v 3)) fun _ => ev_one (ev_or (k := true) (m := true) (eIsN none (v 4)) (fun h => nomatch h))) fun d e => e
    | some b =>
      refine sv_ret (ev_and (k := true) (m := decide (a < b)) (eNotN (some a) (v 3)) fun _ => ev_one (ev_or (k := false) (m := decide (a < b)) (eIsN (some b) (v 4)) fun _ => ev_one (cmp2 op_lt (v 3) (v 4) (opd_I0 rfl)))) fun d e => e
theorem sc_ahead : FnScope ["self", "one", "place"] ["self", "one"] (defScope s_W_ahead_of) := ⟨rfl, rfl, rfl, by decide +kernel, rfl, by decide +kernel, by decide +kernel⟩
theorem rnk_nat {l : List Int} {o : Option Int} {a : Int} (h : rnk l o = some a) : a = (a.toNat : Int) := by
  cases o with
  | none => cases h; rfl
  | some i =>
    have h : lookI (rkL l) i = some a := h
    rw [look_rkL] at h
    obtain ⟨n, _, e⟩ := Option.map_eq_some_iff.mp h
    rw [← e]
    rfl
theorem ok_ahead (T : Tx Θ) (F : Fun Θ.K "ahead_of" "Wish.ahead_of" s_W_ahead_of f fd) (mR : Mth Θ Θ.CW "rank" 1 2 R_rank NoX) : FnOk Θ.P Θ.w Θ.K Θ.mg Θ.base (L2.CX Θ.P Θ.w) 2 f fd ["self", "one"] (PSp Θ 2 R_ahead NoX) := by
  refine fn_ok F sc_ahead rfl (fun cdv A outer s H E ds d hr hl hR => ?_) (fun _ _ _ _ _ _ _ _ _ _ h => h.elim)
  obtain ⟨l, o, rfl, rfl⟩ := hR
  have xo := xo_cx (Θ := Θ) (qual := "Wish.ahead_of") (f := f) (cd := cdv) (A := A) (outer := outer) (s := s) (H := H) (E := E) sc_ahead
  refine sv_set (i := 2) xo rfl (.inl rfl) (ev_meth xo mR hr (by decide) (v 0) noFld_wish (ea_c (v 1) ea_nil) ⟨l, o, rfl, rfl⟩) fun d e => ?_
  subst e
  generalize ho : rnk l o = ro
  cases ro with
  | none =>
    refine sv_ret (ev_if (k := true) (tIsN none (v 2)) (fun _ => ev_order xo T (v 0)) (fun h => nomatch h)) fun d e => ?_
    rw [e]
    unfold aheadL
    rw [ho]
  | some a =>
    refine sv_ret (ev_if (k := false) (tIsN (some a) (v 2)) (fun h => nomatch h) (fun _ => ev_to (n := (a.toNat : Int)) sl_tupA (ev_order xo T (v 0)) ((v 2).eq (by rw [← rnk_nat ho]; rfl)) sld_toT)) fun d e => ?_
    rw [e]
    unfold aheadL
    rw [ho, List.map_take]
end
end PM

/-! enumerate of a tuple. -/
namespace PySem
theorem meets_enumerate_newT (l : Addr) (items : Array Value) (n : Nat) (dct : Option Addr) (sl : Array (Option Value)) :
    Meets (Builtin.«enumerate.__new__» ⟨[.type "enumerate", .ref l], []⟩) (fun _ R s => s.heap.get? l = some { cls := .type "tuple", dict := dct, data := .seq items n, slots := sl } ∧
      R (.ok (.ret (.ref (s.heap.push { cls := .type "tuple_iterator", data := .fields #[.ref l, .int 0 0] }).objs.size)))
        { s with heap := (s.heap.push { cls := .type "tuple_iterator", data := .fields #[.ref l, .int 0 0] }).push { cls := .type "enumerate", data := .fields #[.none, .bool false, .ref s.heap.objs.size, rawInt 0, .none, .none] } }) :=
  .of_wp fun prog w A R s h => by
    obtain ⟨hp, g, d, tk, os⟩ := s; obtain ⟨hl, h⟩ := h
    have hsub := sub_enumerate
    have hL : Heap.IsTuple (Shared.heap ⟨hp, g, d, tk, os⟩) l items := ⟨_, hl, rfl, n, rfl⟩
    wp_walk using AutoSeq1.wpAny_loadPart' hl
    refine wpAny_stack_any fun st => wpAny_pure ?_
    split
    · rename_i c _ _ _ _ _
      cases (c == Value.type "enumerate")
      · wp_walk using AutoSeq1.wpAny_loadPart' hl, wpAny_pyIter_tuple hL
        exact ⟨_, rfl, h⟩
      · wp_walk using AutoSeq1.wpAny_loadPart' hl, wpAny_pyIter_tuple hL
        exact ⟨_, rfl, h⟩
    · wp_walk using AutoSeq1.wpAny_loadPart' hl, wpAny_pyIter_tuple hL
      exact ⟨_, rfl, h⟩
theorem call_enumerate_tuple {prog : Program} {w : World} {A : Around} {E : Value → Shared → Prop} {s : Shared} {l : Addr} {items : Array Value} {Q : Value → Shared → Prop} (hL : s.heap.IsTuple l items)
    (h : ∀ h', IsEnum h' (s.heap.objs.size + 1) s.heap.objs.size 0 .none → h'.IsTupleIter s.heap.objs.size l 0 → h'.objs.size = s.heap.objs.size + 2 →
      (∀ b o, s.heap.get? b = some o → h'.get? b = some o) → Q (.ref (s.heap.objs.size + 1)) { s with heap := h' }) :
    wpAny (model prog w) A (call (.type "enumerate") [.ref l]) Q E s := by
  obtain ⟨⟨c, dct, dt, sl⟩, hl, hc, n, hd⟩ := hL
  replace hc : c = .type "tuple" := hc
  replace hd : dt = .seq items n := hd
  subst hc hd
  refine callType_new F.called_enumerate (by decide) (F.typeCall_enumerate_1 _) (F.newCall_enumerate_1 _) (fun obj => F.args_object_init_2 obj _) F.entry_enumerate_new
    (meets_enumerate_newT l items n dct sl) ⟨hl, ?_⟩
  have hz : (s.heap.push { cls := .type "tuple_iterator", data := .fields #[.ref l, .int 0 0] }).objs.size = s.heap.objs.size + 1 := Heap.size_push ..
  show _ ∧ _
  rw [hz]
  have he : IsEnum ((s.heap.push { cls := .type "tuple_iterator", data := .fields #[.ref l, .int 0 0] }).push
      { cls := .type "enumerate", data := .fields #[.none, .bool false, .ref s.heap.objs.size, rawInt 0, .none, .none] }) (s.heap.objs.size + 1) s.heap.objs.size 0 .none := by
    have := Heap.get?_push_size (s.heap.push { cls := .type "tuple_iterator", data := .fields #[.ref l, .int 0 0] })
      (o := { cls := .type "enumerate", data := .fields #[.none, .bool false, .ref s.heap.objs.size, rawInt 0, .none, .none] }) rfl
    rw [hz] at this; exact this
  refine ⟨⟨_, he, rfl⟩, h _ he ⟨_, Heap.get?_push_of_some _ (Heap.get?_push_size _ rfl), rfl, rfl⟩ (by rw [Heap.size_push, hz]) fun b o x => Heap.get?_push_of_some _ (Heap.get?_push_of_some _ x)⟩
end PySem
namespace PM
open PySem PySem.Spec PyProof.Rows L2
/-- the tuple at a, each item in a new pair -/
def IteT (K : PySem.W.Frag) (a : Addr) : It :=
  ⟨fun i H => ∃ (xs : List V) (x : V), SqT K H a xs ∧ xs[i]? = some x, fun i H v H' => ∃ T x, v = .ref T ∧ H T = none ∧ H' = upd H T (.tup [.int (i : Nat), x]) ∧ ∀ xs, SqT K H a xs → xs[i]? = some x, fun i H => ∃ xs : List V, SqT K H a xs ∧ xs.length ≤ i⟩
theorem turn_enumT {P : Program} {w : World} {K : PySem.W.Frag} {elts : List Expr} {kk : Nat} {tpos : Pos} (a e it : Addr) :
    Turn P w K (.Tuple elts kk tpos) (IteT K a) [e, it] e (fun i h => (∃ old, IsEnum h e it ((i : Nat) : Int) old) ∧ h.IsTupleIter it a i ∧ e ≠ it ∧ e ≠ a ∧ a ≠ it) where
  mem := by simp
  obj := fun i h st b hb => by
    obtain ⟨⟨old, he⟩, ⟨o, ho, hc, hd⟩, _⟩ := st
    have e' : b = e ∨ b = it := by simpa using hb
    rcases e' with z | z
    · rw [z]; exact ⟨_, he, fun v q => nomatch q⟩
    · rw [z]; exact ⟨o, ho, fun v q => by rw [hd] at q; cases q⟩
  keep := fun i h h' st k => let ⟨⟨old, he⟩, hi, hne⟩ := st; ⟨⟨old, k e (by simp) _ he⟩, hi.at fun o q => k it (by simp) o q, hne⟩
  item := by
    intro X hP hw hK hc i pins s σ H E I hf st hg
    subst hP hw hK
    obtain ⟨⟨old, he⟩, hit, hne, hea, hai⟩ := st
    obtain ⟨xs, x, hq, hx⟩ := hg
    obtain ⟨its, rv, p, hz⟩ := I.tuple hq
    obtain ⟨u, hu, ru⟩ := rv.get hx
    have p : s.heap.IsTuple a its.toArray := p
    have hel : e < s.heap.objs.size := Heap.lt_size he
    have hil : it < s.heap.objs.size := by obtain ⟨_, q, _⟩ := hit; exact Heap.lt_size q
    have hlt : i < its.toArray.size := by
      have := (List.getElem?_eq_some_iff.mp hu).1
      simpa using this
    refine wpAny_pyNext_enum_itemD (Draws.tuple (A := X.A.in1) (I.ok.hd hc) it a hai its.toArray) he ⟨hit, p⟩ hlt hne (by simp [hne, hea]) fun x' h' tk hP ho hst hT hsz hk => ?_
    have ex : x' = u := by
      rw [List.getElem?_toArray, hu] at hP
      exact (Option.some.inj hP).symm
    subst ex
    refine ⟨_, rfl, wpAny_letOwnedTupleGo_enum (s := { s with heap := h', toks := tk + 1 }) ho fun h'' he' sb => ?_⟩
    have hT2 : h''.get? s.heap.objs.size = some { cls := .type "tuple", data := .seq #[.int i tk, x'] } := (sb.2 _ (Nat.ne_of_gt hel)).trans hT
    have new : ObjOk X.prog X.w (upd H s.heap.objs.size (.tup [.int (i : Nat), x])) h'' s.heap.objs.size (.tup [.int (i : Nat), x]) :=
      ⟨by show 2 ≤ sizeLine; decide, [.int i tk, x'], .cons ⟨_, rfl⟩ (.cons ru .nil), ⟨_, hT2, rfl, _, rfl⟩⟩
    have I1 : Inv X pins σ (upd H s.heap.objs.size (.tup [.int (i : Nat), x])) { s with heap := h'', toks := tk + 1 } :=
      I.turnedNew (ch := [e, it]) (fun b ob hb q => (sb.2 b (fun z => hb (by simp [z]))).trans (hk b ob (fun z => hb (by simp [z])) (fun z => hb (by simp [z])) q)) hf (Nat.le_refl _) new
    refine ⟨.ref s.heap.objs.size, _, I1, rfl, ⟨_, x, rfl, I.hok.fresh (Nat.le_refl _), rfl, fun ys hy => by rw [I.tuple_inj hy hq]; exact hx⟩, ⟨⟨x', ?_⟩, hst.1.at fun o q => (sb.2 it (Ne.symm hne)).trans q, hne, hea, hai⟩, fun b hb => ?_⟩
    · have e1 : ((i + 1 : Nat) : Int) = (i : Int) + 1 := by omega
      rw [e1]; exact he'
    · have hb' : b < s.heap.objs.size := by
        have e' : b = e ∨ b = it := by simpa using hb
        rcases e' with z | z
        · rw [z]; exact hel
        · rw [z]; exact hil
      rw [upd_ne (Nat.ne_of_lt hb')]
      exact (hf b hb).1
  done := by
    intro X hP hw hK hc i pins s σ H E I hf st hg
    subst hP hw hK
    obtain ⟨⟨old, he⟩, hit, hne, hea, hai⟩ := st
    obtain ⟨xs, hq, hx⟩ := hg
    obtain ⟨its, rv, p, hz⟩ := I.tuple hq
    have p : s.heap.IsTuple a its.toArray := p
    obtain ⟨f0, f1, f2, f3, f4, f5⟩ := hf it (by simp)
    have hl := rv.length
    have hT : s.TypeIs (.ref e) "enumerate" := ⟨_, he, rfl⟩
    unfold pyNext
    refine wpAny_bind (wpAny_attempt (wpAny_callSpecial?_slot (name := Str.ofString "__next__") hT F.slot_enumerate_next
      (wpAny_call_entry F.slot_enumerate_next hT F.entry_enumerate_next ?_ (F.args_enumerate_next_1 _))))
    show wpAny _ _ (field (.ref e) 2 >>= _) _ _ _
    refine wpAny_bind (wpAny_field he rfl (x := .ref it) rfl (wpAny_bind (wpAny_nextOf_tuple_end (A := X.A.in1) (I.ok.hd hc) hit p (by simp; omega) fun h' z eb hz => ?_)))
    obtain ⟨o, ho, hcl⟩ := hz
    exact wpAny_bind (wpAny_isInstance (T := "StopIteration") (b := true) ⟨o, ho, hcl⟩ isSubtype_stop (wpAny_pure ⟨rfl, I.turned (t' := s.toks) (fun b o hb q => eb b o hb q) f0 f1 f3 f4 f5⟩))
  self := fun A i s Q E st h => let ⟨⟨_, he⟩, _⟩ := st; wpAny_pyIter_enum he h
def iEnumT (K : PySem.W.Frag) (ta : TA) : TI := fun σ H R => ta σ H fun vs H1 => ∃ a xs, vs = [.ref a] ∧ SqT K H1 a xs ∧ R (IteT K a) H1
theorem pi_enumT {X : Cx} {e : Expr} {ta : TA} {p pos tpos : Pos} {elts : List Expr} {kk : Nat} (hg : Gl X "enumerate") (hm : X.mg "enumerate" = none) (ha : PA X [e] ta) (hs : starEach [e] X.env = [(false, eval e X.env)] := by rfl) :
    PI X (.Tuple elts kk tpos) (.Call (.Name "enumerate" p) [e] [] pos) (iEnumT X.K ta) := by
  refine ⟨fun pins s σ H R I h => ?_⟩
  refine Call_ (ld_blt I hg hm boot_enumerate (PyProof.Rows.callWith_type1 (thn (ha.run pos pins s σ H _ I h) fun us s1 ⟨vs, H1, I1, r1, q1⟩ => ?_) hs rfl))
  obtain ⟨a, xs, ex, hq, q⟩ := q1
  subst ex
  cases r1 with
  | cons r rr =>
    cases rr
    cases r
    obtain ⟨its, rv, p', hz⟩ := I1.tuple hq
    have p' : s1.heap.IsTuple a its.toArray := p'
    have hlt : a < s1.heap.objs.size := by obtain ⟨_, z, _⟩ := p'; exact Heap.lt_size z
    refine call_enumerate_tuple p' fun h' he hit hsz hk => wpAny_pyIter_enum he ?_
    have I2 : Inv X pins σ H1 { s1 with heap := h' } := I1.kept (t' := s1.toks) hk
    refine ⟨s1.heap.objs.size + 1, [s1.heap.objs.size + 1, s1.heap.objs.size], _, _, H1, rfl, I2, turn_enumT a (s1.heap.objs.size + 1) s1.heap.objs.size, ⟨⟨.none, he⟩, hit, Nat.succ_ne_self _, Nat.ne_of_gt (Nat.lt_succ_of_lt hlt), Nat.ne_of_lt hlt⟩, fun b hb => ?_, q⟩
    have e' : b = s1.heap.objs.size + 1 ∨ b = s1.heap.objs.size := by simpa using hb
    have hle : s1.heap.objs.size ≤ b := by
      rcases e' with z | z
      · rw [z]; exact Nat.le_add_right _ _
      · rw [z]; exact Nat.le_refl _
    exact I1.fpOk hle (I1.hok.fresh hle)
section
variable {Θ : Th} {X : Cx} {δ : List SD} {l : List D} {j j2 : Nat}
/-- for i, a in enumerate(a tuple) -/
theorem ei_enumT {a : Expr} {p pos tpos : Pos} {elts : List Expr} {kk : Nat} (T : Tx Θ) (h : EV Θ X a δ (· = .tup l)) (hmg : Θ.mg = X.mg := by rfl) (hg : Gl X "enumerate" := by rfl) (hs : starEach [a] X.env = [(false, eval a X.env)] := by rfl) (hs0 : starEach [a] X.env = (false, eval a X.env) :: starEach [] X.env := by rfl) :
    EI Θ X (.Tuple elts kk tpos) (.Call (.Name "enumerate" p) [a] [] pos) δ (gTup X.K 2 (gCons (gName j) (gCons (gName j2) gNil))) l.length (fun i => [(j, .int (i : Int)), (j2, l.getD i .non)]) := ⟨_, pi_enumT hg (hmg ▸ T.enumerate) (pa_cons pe_can pa_nil hs0) hs, fun M G0 H0 G H σ R S q => by
  refine h M G0 H0 G H σ _ S fun v d G1 H1 S1 g1 r1 p1 => ?_
  subst p1
  obtain ⟨a, xs, rfl, e1, q1⟩ := r1.tup_inv
  have at_ : ∀ {G' H' : Hp}, Gr G1 G' → Hs Θ G' H' → SqT X.K H' a xs := fun g hs => .inl ((e1.gr g).gr hs.sub)
  refine ⟨a, xs, rfl, at_ (.refl _) S1.hs, q _ G1 H1 S1 g1 ⟨fun {G' H'} g hs i hi => ?_, fun {G' H'} g hs => ⟨xs, at_ g hs, Nat.le_of_eq q1.length⟩, fun {G' H'} g hs i hi x H2 y σ' Q' k => ?_⟩⟩
  · obtain ⟨v, h1, _⟩ := q1.get (getI l i hi)
    exact ⟨xs, v, at_ g hs, h1⟩
  · obtain ⟨T, z, rfl, hT, rfl, y⟩ := y
    obtain ⟨v, h1, h2⟩ := q1.get (getI l i hi)
    have e := y xs (at_ g hs)
    rw [h1] at e
    have e2 := Option.some.inj e
    subst e2
    refine ⟨T, _, rfl, .of upd_same, rfl, _, _, rfl, _, _, rfl, rfl, ?_⟩
    exact k [(j, .int (i : Int)), (j2, v)] _ (.laid hT (hs.sub.free hT)) (hs.laid hT fun _ z => by cases z) (.cons (.int _) (.cons ((h2.gr g).gr (.new (hs.sub.free hT))) .nil))⟩
/-- for i, a in enumerate(a list) -/
theorem ei_enumL {a : Expr} {p pos tpos : Pos} {elts : List Expr} {kk : Nat} (T : Tx Θ) (h : EV Θ X a δ (· = .lst l)) (hmg : Θ.mg = X.mg := by rfl) (hg : Gl X "enumerate" := by rfl) (hs : starEach [a] X.env = [(false, eval a X.env)] := by rfl) (hs0 : starEach [a] X.env = (false, eval a X.env) :: starEach [] X.env := by rfl) :
    EI Θ X (.Tuple elts kk tpos) (.Call (.Name "enumerate" p) [a] [] pos) δ (gTup X.K 2 (gCons (gName j) (gCons (gName j2) gNil))) l.length (fun i => [(j, .int (i : Int)), (j2, l.getD i .non)]) := ei_enum hg (hmg ▸ T.enumerate) h hs hs0
end
end PM

/-! any, all of a generator expression that walks anything and calls anything. -/
namespace PM
open PySem PySem.Spec PyProof.Rows L2

/-- the context of a generator expression's code: made at s, walked from the loop of any, all -/
def gCx (X : Cx) (s : Shared) (H : Hp) (cenv : Env) (fp : List Addr) : Cx where
  prog := X.prog
  w := X.w
  K := X.K
  mg := X.mg
  base := X.base
  A := X.A.in1.in1.deeper cenv
  N := X.N
  s_0 := s
  H_0 := H
  env := cenv
  outer := X.stack
  stack := cenv :: X.stack
  ex := fp
  fn := fun _ => false
  calm := true
  pn := []
  xe := fun _ _ => False
/-- a generator expression's names -/
structure GnOk (N : List Str) (sc scope : Scope) (own : List (Str × Nat)) : Prop where
  blk : BlkOk N sc scope own
  co : scope.isCoroutine = false
  cell : ∀ y ∈ scope.names, y.2 ≠ .cell
  dot : scope.names.lookup (".0" : Str) = some NameKind.local
abbrev gEnv (X : Cx) (scope : Scope) (L : Addr) (code : Value) : Env := genEnv scope (cloFrom X.env.cells scope.names []) L code builtinsNs X.env
section
variable {X : Cx} {pins : List (Addr × Obj)} {σ : L2.St} {H : Hp} {s : Shared}
theorem gen_start {scope : Scope} {own : List (Str × Nat)} {fp : List Addr} {code : Value} {h2 : Heap} {m : Str → Option Value} {a : Addr} {go : Obj} {g' : Array GenState} {t' : Nat} (I : Inv X pins σ H s) (hc : X.calm = true) (ok : GnOk X.N X.env.scope scope own) (hN : X.N.Nodup)
    (hfp : ∀ b ∈ fp, FpOk X pins H b ∧ b < s.heap.objs.size) (kp : ∀ b o, s.heap.get? b = some o → h2.get? b = some o) (hns : h2.Ns s.heap.objs.size m) (hg : AllBare g') (ha : h2.get? a = some go) (hal : s.heap.objs.size < a) (hgo : ∀ v, go.data ≠ .cell v) :
    Inv (gCx X s H (gEnv X scope s.heap.objs.size code) fp) [(a, go)] (wipe σ (own.map (·.2))) H { s with heap := h2, gens := g', toks := t' } := by
  have hfree : ∀ y ∈ scope.names, y.2 = .free → ∃ c, X.env.cells.lookup y.1 = some c := fun y hy e => by
    rcases ok.blk.free y hy e with k | k
    · exact I.ok.has _ (.inl k)
    · exact I.ok.has _ (.inr k)
  have cm : ∀ {y c}, (cloFrom X.env.cells scope.names []).lookup y = some c → X.env.cells.lookup y = some c := fun {y c} e => by
    rcases cloFrom_mem (PySem.mem_of_lookup e) with hm | ⟨h1, h2⟩
    · cases hm
    · obtain ⟨c1, hc1⟩ := hfree _ h1 rfl
      have hc1 : X.env.cells.lookup y = some c1 := hc1
      have e2 : c = c1 := by rw [h2, hc1] <;> rfl
      rw [e2]; exact hc1
  have clt : ∀ {y c}, X.env.cells.lookup y = some c → c < s.heap.objs.size := fun {y c} e => by
    obtain ⟨v, z⟩ := I.cell y c e
    exact z.lt
  have look : ∀ {y}, scope.names.lookup y = some .free → ∃ c, (cloFrom X.env.cells scope.names []).lookup y = some c := fun {y} hl =>
    mem_lookup (cloFrom_has (cells := X.env.cells) (acc := []) (PySem.mem_of_lookup hl))
  have noCell : ∀ {y}, scope.names.lookup y ≠ some .cell := fun {y} e => ok.cell _ (PySem.mem_of_lookup e) rfl
  have nst : ∀ b ∈ frs X.stack, b < s.heap.objs.size := fun b hb => by
    rcases List.mem_cons.mp (I.stkSub b hb) with e | e
    · rw [e]; exact I.lt
    · exact Nat.lt_of_not_le fun z => I.nofs z e
  have okG : (gCx X s H (gEnv X scope s.heap.objs.size code) fp).Ok := by
    refine ⟨I.ok.mod, ok.blk.kind, I.ok.glob, rfl, Nat.le_refl _, fun y z c e1 e2 => I.ok.inj y z c (cm e1) (cm e2), fun y hy => ?_, fun y c z _ => ?_, fun _ => I.ok.hd hc, Around.frames_deeper I.ok.frames, .inr ⟨rfl, rfl⟩,
      fun b hb => ⟨Nat.ne_of_lt (hfp b hb).2, fun y c e z => (hfp b hb).1.2.2.2.2.1 y c (cm e) z⟩, I.bs, Nat.le_trans I.ok.bsz I.sz, fun b o e hb => ?_, fun b hb z => ?_, I.stack, I.stkFree⟩
    · have hy : scope.names.lookup y = some .cell ∨ scope.names.lookup y = some .free := hy
      rcases hy with hy | hy
      · exact absurd hy noCell
      · exact look hy
    · cases (show false = true from z)
    · rcases (hfp b hb).1.2.2.2.1 with z | z
      · exact I.ok.noex b o e z
      · exact absurd (Nat.lt_of_lt_of_le (Heap.lt_size e) (Nat.le_trans I.ok.bsz z)) (Nat.lt_irrefl _)
    · rcases List.mem_cons.mp (I.stkSub b z) with z | z
      · exact (hfp b hb).1.2.1 z
      · exact (hfp b hb).1.2.2.1 z
  refine ⟨okG, rfl, hg, Un.kept kp, ⟨m, hns, fun i y av e1 e2 e3 => ?_⟩, fun y c e => ?_, I.hok.fresh (Nat.le_refl _), fun y c e => I.freeC y c (cm e), fun p hp => ?_, I.hok.kept kp, by rw [wipe_length]; exact I.len⟩
  · obtain ⟨e2, hne⟩ := wipe_some e2
    have no : ¬ (scope.names.lookup y = some .local) := fun e => by
      rcases ok.blk.own _ (PySem.mem_of_lookup e) (.inl rfl) with e' | e'
      · obtain ⟨p, hp, hpy⟩ := List.mem_map.mp e'
        have e3 := ok.blk.ix p hp
        have hpy : p.1 = y := hpy
        rw [hpy] at e3
        exact hne (List.mem_map.mpr ⟨p, hp, nodup_ix hN e3 e1⟩)
      · exact e' (List.mem_of_getElem? e1)
    have e3 : Vis scope y := e3
    rcases e3 with k | k | k
    · exact absurd k no
    · exact absurd k noCell
    · obtain ⟨m0, hn, hl⟩ := I.loc
      have hvis : Vis X.env.scope y := (ok.blk.free _ (PySem.mem_of_lookup k) rfl).elim (fun k => .inr (.inl k)) (fun k => .inr (.inr k))
      obtain ⟨w', r, q⟩ := hl i y av e1 e2 hvis
      obtain ⟨c2, h2'⟩ := look k
      refine ⟨w', r, .inr ⟨.inr k, c2, h2', ?_⟩⟩
      rcases q with ⟨k', _⟩ | ⟨_, c3, e', z⟩
      · have k' : X.env.scope.names.lookup y = some .local := k'
        rcases ok.blk.free _ (PySem.mem_of_lookup k) rfl with k2 | k2 <;> rw [show X.env.scope.names.lookup y = _ from k2] at k' <;> cases k'
      · rw [cm h2'] at e'
        cases e'
        exact z.keeps kp
  · obtain ⟨w', z⟩ := I.cell y c (cm e)
    exact ⟨w', z.keeps kp⟩
  · have e : p = (a, go) := by simpa using (show p ∈ ([] : List (Addr × Obj)) ++ [(a, go)] from hp)
    subst e
    refine ⟨ha, I.hok.fresh (Nat.le_of_lt hal), Nat.ne_of_gt hal, fun z => ?_, hgo⟩
    exact Nat.lt_asymm hal (nst a z)
end
/-- the around of a generator's code that is woken -/
theorem over_gen {A : Around} {elt tg iter : Expr} {ifs : List Expr} {scope : Scope} {pos : Pos} {it acc : Value} {cenv : Env} : A.over (.compLoop (.GeneratorExp elt [⟨tg, iter, ifs, 0⟩] scope pos) 0 it acc cenv) [] = A.deeper cenv := by
  first
    | rfl
    | (obtain ⟨hd, d, fr, gs, u⟩ := A; simp [Around.over, Around.deeper, marksOver, frameCount, unitsOf, envsOf, guardsOf, pushEnvs, pushGuards, Code.envs, Code.env?, Code.isFrame, Code.guards, Code.isGuard, Code.weight, Code.frames, Code.isCreation, Code.isCaller, Code.cUnits])
theorem over_genS {A : Around} {elt tg iter : Expr} {ifs : List Expr} {scope : Scope} {pos : Pos} {it acc : Value} {cenv : Env} : A.over (.compStart (.GeneratorExp elt [⟨tg, iter, ifs, 0⟩] scope pos) 0 it acc cenv) [] = A.deeper cenv := by
  first
    | rfl
    | (obtain ⟨hd, d, fr, gs, u⟩ := A; simp [Around.over, Around.deeper, marksOver, frameCount, unitsOf, envsOf, guardsOf, pushEnvs, pushGuards, Code.envs, Code.env?, Code.isFrame, Code.guards, Code.isGuard, Code.weight, Code.frames, Code.isCreation, Code.isCaller, Code.cUnits])
/-- its end: it has walked all -/
def GnR (X : Cx) (pins : List (Addr × Obj)) (Qe : Hp → Prop) : GenEnd := fun _ _ r s1 => r = .ok .next ∧ ∃ σ' H', Inv X pins σ' H' s1 ∧ Qe H'
/-- what it hands out: sv ends the consumer's loop -/
def GnY (X : Cx) (pins : List (Addr × Obj)) (sv : Bool) (Qs : Hp → Prop) : Protocol := fun _ _ v s kap => ∃ b σ' H', v = .bool b ∧ Inv X pins σ' H' s ∧
  if b = sv then Qs H' else ∀ s'', s''.heap = s.heap → s''.os = s.os → AllBare s''.gens → kap (.send .none) s''
section
variable {X : Cx} {A : Around} {pins : List (Addr × Obj)} {elt tg iter : Expr} {scope : Scope} {pos : Pos} {it : Addr} {acc : Value} {fp : List Addr} {tn : Nat → Heap → Prop} {J : It} {g : TG} {te : TE} {vs : List Nat} {σ : L2.St} {n : Nat} {sv : Bool} {Qe Qs : Hp → Prop} {W : Nat → Hp → Prop}
theorem reheap {s s' : Shared} {σ : L2.St} {H : Hp} (I : Inv X pins σ H s) (h1 : s'.heap = s.heap) (h2 : s'.os = s.os) (h3 : AllBare s'.gens) : Inv X pins σ H s' := by
  obtain ⟨h, g, d, t, o⟩ := s'
  obtain rfl : h = s.heap := h1
  obtain rfl : o = s.os := h2
  exact I.call (h' := s.heap) (g' := g) (t' := t) (d' := d) (ch := []) Un.refl I.hok h3 fun b hb => absurd hb (by simp)
theorem seg_gen (hA : X.A = A.deeper X.env) (hc : X.calm = true) (hx : ∀ e s', ¬ X.xe e s') (hco : X.env.scope.isCoroutine = false) (T : Turn X.prog X.w X.K tg J fp it tn) (hg : PG X tg g) (he : PE X elt te)
    (stat : ∀ {σ' : L2.St} {H' : Hp} {s' : Shared}, Inv X pins σ' H' s' → (∀ b ∈ fp, H' b = none) → ∀ b ∈ fp, FpOk X pins H' b)
    (turn : ∀ i H, i ≤ n → W i H → (i = n → J.stop n H ∧ Qe H) ∧ (i < n → J.go i H ∧ ∀ x H', J.yld i H x H' → g x (wipe σ vs) H' fun σ2 H2 => wipe σ2 vs = wipe σ vs ∧ te σ2 H2 fun y H4 => ∃ b, y = .bl b ∧ if b = sv then Qs H4 else W (i + 1) H4)) :
    ∀ (k i : Nat) (s₀ s : Shared) (H : Hp), n - i = k → i ≤ n → Inv X pins (wipe σ vs) H s → tn i s.heap → (∀ b ∈ fp, H b = none) → W i H →
      Seg (model X.prog X.w) A (GnR X pins Qe) (GnY X pins sv Qs) k s₀ (.compLoop (.GeneratorExp elt [⟨tg, iter, [], 0⟩] scope pos) 0 (.ref it) acc X.env)
        ((model X.prog X.w).den (.compLoop (.GeneratorExp elt [⟨tg, iter, [], 0⟩] scope pos) 0 (.ref it) acc X.env)) [] s := by
  intro k
  induction k with
  | zero =>
    intro i s₀ s H hk hi I st nf w
    have hin : i = n := by omega
    obtain ⟨hstop, hq⟩ := (turn i H hi w).1 hin
    subst hin
    show Seg _ A _ _ _ s₀ _ ((compTurn (.GeneratorExp elt [⟨tg, iter, [], 0⟩] scope pos) 0 (.ref it) acc X.env).onRaise (leaving X.env)) [] s
    rw [compTurn_gen, Sem.onRaise_eq_wrap]
    refine seg_bind_wrap (wpAny_standAt ?_)
    refine seg_bind_wrap ?_
    rw [over_gen, ← hA]
    refine thnF (T.done X rfl rfl rfl hc i pins s _ H (fun _ _ => False) I (stat I nf) st hstop) fun r s1 ⟨hr, I1⟩ => ?_
    subst hr
    exact seg_end (.ok .next) ⟨rfl, _, H, I1, hq⟩
  | succ k ih =>
    intro i s₀ s H hk hi I st nf w
    have hlt : i < n := by omega
    obtain ⟨hgo, step⟩ := (turn i H hi w).2 hlt
    show Seg _ A _ _ _ s₀ _ ((compTurn (.GeneratorExp elt [⟨tg, iter, [], 0⟩] scope pos) 0 (.ref it) acc X.env).onRaise (leaving X.env)) [] s
    rw [compTurn_gen, Sem.onRaise_eq_wrap]
    refine seg_bind_wrap (wpAny_standAt ?_)
    refine seg_bind_wrap ?_
    rw [over_gen, ← hA]
    refine thnF (T.item X rfl rfl rfl hc i pins s _ H (fun _ _ => False) I (stat I nf) st hgo) fun r s1 ⟨u, hr, h1⟩ => ?_
    subst hr
    refine seg_bind_wrap ?_
    rw [over_gen, ← hA]
    refine thnF h1 fun _ s2 ⟨x, H2, I2, r2, y2, st2, n2⟩ => ?_
    have I2' := I2.pinned (stat I2 n2) (T.obj _ _ st2)
    refine seg_bind_wrap ?_
    rw [over_gen, ← hA]
    refine wpAny_mono (hg.run _ s2 _ H2 x u _ I2' r2 (step x H2 y2)) (fun _ s3 ⟨σ3, H3, I3, hw3, q3⟩ => ?_) fun e s' z => (hx e s' z).elim
    refine seg_bind_wrap ?_
    simp only [List.forIn_nil]
    refine wpAny_pure ?_
    simp only [if_true]
    have hy : ∀ v, yieldOut X.env v = yieldValue v := fun v => by simp only [yieldOut, hco, Bool.false_eq_true, if_false]
    simp only [hy]
    rw [Sem.bind_eq_wrap', Sem.bind_eq_wrap', Sem.wrap_wrap, Sem.wrap_wrap]
    refine seg_wrap ?_
    rw [over_gen, ← hA]
    refine wpAny_mono (he.run _ s3 σ3 H3 _ I3 q3) (fun v s4 ⟨yv, H4, I4, r4, b, hb, q4⟩ => ?_) fun e s' z => (hx e s' z).elim
    subst hb
    obtain rfl : v = .bool b := r4
    refine seg_at (seg_yield rfl rfl rfl ⟨b, σ3, H4, rfl, I4.unpinned, ?_⟩)
    by_cases hbs : b = sv
    · rw [if_pos hbs] at q4 ⊢
      exact q4
    · rw [if_neg hbs] at q4 ⊢
      intro s5 e1 e2 e3
      have pin' : ∀ b ∈ fp, ∀ o, s2.heap.get? b = some o → s4.heap.get? b = some o ∧ H4 b = none := fun b hb o e =>
        let z := I4.pin (b, o) (List.mem_append_right _ (List.mem_append_right _ (mem_pinsAt hb e)))
        ⟨z.1, z.2.1⟩
      have I5 : Inv X pins σ3 H4 s5 := reheap I4.unpinned e1 e2 e3
      have hl : (wipe σ vs).length = σ3.length := by rw [← hw3, wipe_length]
      refine seg_again rfl (ih (i + 1) s5 s5 H4 (by omega) hlt (I5.weak hl fun j v e => ?_) (T.keep _ _ _ st2 fun b hb o e => by rw [e1]; exact (pin' b hb o e).1) (fun b hb => ?_) q4)
      · rw [← hw3] at e
        exact (wipe_some e).1
      · obtain ⟨o, e, _⟩ := T.obj _ _ st2 b hb
        exact (pin' b hb o e).2
end
section
variable {X : Cx} {A : Around} {pins : List (Addr × Obj)} {Qe Qs : Hp → Prop} {a : Addr} {g : Nat} {go : Obj} {Rf : Result → Shared → Prop}
theorem setGen_get {s : Shared} {g : Nat} {x : GenState} (h : g < s.gens.size) : (s.setGen g x).gens[g]? = some x := by
  show (s.gens.setIfInBounds g x)[g]? = some x
  simp [h]
theorem bare_set {s : Shared} {g : Nat} {x : GenState} (h : AllBare s.gens) (hx : x.bare = true) : AllBare (s.setGen g x).gens := L2.allBare_setGen h hx
/-- what the loop of any asks of the generator -/
def Wake (X : Cx) (A : Around) (pins : List (Addr × Obj)) (sv : Bool) (Qe Qs : Hp → Prop) (g m : Nat) (s : Shared) : Prop :=
  ∃ gs, s.gens[g]? = some gs ∧ gs.Goes (model X.prog X.w) A (GnR X pins Qe) (GnY X pins sv Qs) m (.send .none) (s.setGen g .running)
theorem any_loop (hh : A.handled = none) (hd : A.depth < recursionLimit) (hgo : go.cls = .type "generator" ∧ (∃ nm qn, go.data = .fields #[.int g 0, nm, qn]) ∧ go.slots = #[]) (hp : (a, go) ∈ pins)
    (hstop : ∀ s1 σ' H' gs', Inv X pins σ' H' s1 → Qs H' → gs'.bare = true → Rf (.ok (.ret (.bool true))) (s1.setGen g gs'))
    (hend : ∀ s1 σ' H' h', Inv X pins σ' H' s1 → Qe H' → (∀ b o, s1.heap.get? b = some o → h'.get? b = some o) → Rf (.ok (.ret (.bool false))) { s1.setGen g .finished with heap := h' }) :
    ∀ (m : Nat) (s : Shared), s.heap.IsGen a g → s.heap.NoLimit → Wake X A.in1.in1 pins true Qe Qs g m s →
      codeAny (model X.prog X.w) A (.builtin "any.loop" ⟨[.ref a], []⟩) Rf s := by
  obtain ⟨hg1, ⟨nm, qn, hg2⟩, hg3⟩ := hgo
  have live : ∀ {s1 : Shared} {σ' : L2.St} {H' : Hp}, Inv X pins σ' H' s1 → s1.heap.IsGen a g := fun {s1 σ' H'} I => ⟨go, nm, qn, (I.pin (a, go) (List.mem_append_right _ hp)).1, hg1, hg2, hg3⟩
  intro m
  induction m with
  | zero =>
    rintro s ig nl ⟨gs, hgs, hgo⟩
    refine codeAny_builtin F.entry_any_loop ?_
    rw [Around.under_plainId F.plain_any_loop _]
    show wpAny _ A.in1 (pyNext (.ref a) >>= _) _ _ s
    refine wpAny_bind (wpAny_pyNext_genexpQ (A := A.in1) hh nl hd ig hgs hgo (fun v s₁ gs' hb hv => ?_) fun s₁ hp' h' hk => ?_)
    · obtain ⟨b, σ', H', rfl, I, q⟩ := hv
      refine wpAny_bind (wpAny_holding (wpAny_truthy_bool ?_))
      refine wpAny_bind (wpAny_letGo ?_)
      cases b with
      | true =>
        rw [if_pos rfl] at q
        simp only [if_true]
        exact wpAny_bind (wpAny_rule (wpAny_pure (hstop s₁ σ' H' gs' I q hb)))
      | false =>
        rw [if_neg Bool.false_ne_true] at q
        exact (q s₁ rfl rfl I.bare).elim
    · obtain ⟨σ', H', I, q⟩ := hp'
      exact wpAny_bind (wpAny_rule (wpAny_pure (hend s₁ σ' H' h' I q hk)))
  | succ m ih =>
    rintro s ig nl ⟨gs, hgs, hgo⟩
    have hgl : g < s.gens.size := (Array.getElem?_eq_some_iff.mp hgs).1
    refine codeAny_builtin F.entry_any_loop ?_
    rw [Around.under_plainId F.plain_any_loop _]
    show wpAny _ A.in1 (pyNext (.ref a) >>= _) _ _ s
    refine wpAny_bind (GenW.wpAny_gsz (n := g + 1) hgl (wpAny_pyNext_genexpQ (A := A.in1) hh nl hd ig hgs hgo (fun v s₁ gs' hb hv => ?_) fun s₁ hp' h' hk => ?_))
    · intro hsz
      obtain ⟨b, σ', H', rfl, I, q⟩ := hv
      refine wpAny_bind (wpAny_holding (wpAny_truthy_bool ?_))
      refine wpAny_bind (wpAny_letGo ?_)
      cases b with
      | true =>
        rw [if_pos rfl] at q
        simp only [if_true]
        exact wpAny_bind (wpAny_rule (wpAny_pure (hstop s₁ σ' H' gs' I q hb)))
      | false =>
        rw [if_neg Bool.false_ne_true] at q
        simp only [Bool.false_eq_true, if_false]
        have hsz1 : g < s₁.gens.size := by
          have q1 : (s₁.setGen g gs').gens.size = s₁.gens.size := GenW.setGen_size _ _ _
          have hsz' : g + 1 ≤ (s₁.setGen g gs').gens.size := hsz
          omega
        refine wpAny_pure ⟨plainId_quiet F.plain_any_loop _, ih (s₁.setGen g gs') (show s₁.heap.IsGen a g from live I) I.nolimit ⟨gs', setGen_get hsz1, ?_⟩⟩
        exact q _ rfl rfl (bare_set (bare_set I.bare hb) rfl)
    · intro hsz
      obtain ⟨σ', H', I, q⟩ := hp'
      exact wpAny_bind (wpAny_rule (wpAny_pure (hend s₁ σ' H' h' I q hk)))
theorem all_loop (hh : A.handled = none) (hd : A.depth < recursionLimit) (hgo : go.cls = .type "generator" ∧ (∃ nm qn, go.data = .fields #[.int g 0, nm, qn]) ∧ go.slots = #[]) (hp : (a, go) ∈ pins)
    (hstop : ∀ s1 σ' H' gs', Inv X pins σ' H' s1 → Qs H' → gs'.bare = true → Rf (.ok (.ret (.bool false))) (s1.setGen g gs'))
    (hend : ∀ s1 σ' H' h', Inv X pins σ' H' s1 → Qe H' → (∀ b o, s1.heap.get? b = some o → h'.get? b = some o) → Rf (.ok (.ret (.bool true))) { s1.setGen g .finished with heap := h' }) :
    ∀ (m : Nat) (s : Shared), s.heap.IsGen a g → s.heap.NoLimit → Wake X A.in1.in1 pins false Qe Qs g m s →
      codeAny (model X.prog X.w) A (.builtin "all.loop" ⟨[.ref a], []⟩) Rf s := by
  obtain ⟨hg1, ⟨nm, qn, hg2⟩, hg3⟩ := hgo
  have live : ∀ {s1 : Shared} {σ' : L2.St} {H' : Hp}, Inv X pins σ' H' s1 → s1.heap.IsGen a g := fun {s1 σ' H'} I => ⟨go, nm, qn, (I.pin (a, go) (List.mem_append_right _ hp)).1, hg1, hg2, hg3⟩
  intro m
  induction m with
  | zero =>
    rintro s ig nl ⟨gs, hgs, hgo⟩
    refine codeAny_builtin F.entry_all_loop ?_
    rw [Around.under_plainId F.plain_all_loop _]
    show wpAny _ A.in1 (pyNext (.ref a) >>= _) _ _ s
    refine wpAny_bind (wpAny_pyNext_genexpQ (A := A.in1) hh nl hd ig hgs hgo (fun v s₁ gs' hb hv => ?_) fun s₁ hp' h' hk => ?_)
    · obtain ⟨b, σ', H', rfl, I, q⟩ := hv
      refine wpAny_bind (wpAny_holding (wpAny_truthy_bool ?_))
      refine wpAny_bind (wpAny_letGo ?_)
      cases b with
      | false =>
        rw [if_pos rfl] at q
        simp only [Bool.false_eq_true, if_false]
        exact wpAny_bind (wpAny_rule (wpAny_pure (hstop s₁ σ' H' gs' I q hb)))
      | true =>
        rw [if_neg (by decide)] at q
        exact (q s₁ rfl rfl I.bare).elim
    · obtain ⟨σ', H', I, q⟩ := hp'
      exact wpAny_bind (wpAny_rule (wpAny_pure (hend s₁ σ' H' h' I q hk)))
  | succ m ih =>
    rintro s ig nl ⟨gs, hgs, hgo⟩
    have hgl : g < s.gens.size := (Array.getElem?_eq_some_iff.mp hgs).1
    refine codeAny_builtin F.entry_all_loop ?_
    rw [Around.under_plainId F.plain_all_loop _]
    show wpAny _ A.in1 (pyNext (.ref a) >>= _) _ _ s
    refine wpAny_bind (GenW.wpAny_gsz (n := g + 1) hgl (wpAny_pyNext_genexpQ (A := A.in1) hh nl hd ig hgs hgo (fun v s₁ gs' hb hv => ?_) fun s₁ hp' h' hk => ?_))
    · intro hsz
      obtain ⟨b, σ', H', rfl, I, q⟩ := hv
      refine wpAny_bind (wpAny_holding (wpAny_truthy_bool ?_))
      refine wpAny_bind (wpAny_letGo ?_)
      cases b with
      | false =>
        rw [if_pos rfl] at q
        simp only [Bool.false_eq_true, if_false]
        exact wpAny_bind (wpAny_rule (wpAny_pure (hstop s₁ σ' H' gs' I q hb)))
      | true =>
        rw [if_neg (by decide)] at q
        simp only [if_true]
        have hsz1 : g < s₁.gens.size := by
          have q1 : (s₁.setGen g gs').gens.size = s₁.gens.size := GenW.setGen_size _ _ _
          have hsz' : g + 1 ≤ (s₁.setGen g gs').gens.size := hsz
          omega
        refine wpAny_pure ⟨plainId_quiet F.plain_all_loop _, ih (s₁.setGen g gs') (show s₁.heap.IsGen a g from live I) I.nolimit ⟨gs', setGen_get hsz1, ?_⟩⟩
        exact q _ rfl rfl (bare_set (bare_set I.bare hb) rfl)
    · intro hsz
      obtain ⟨σ', H', I, q⟩ := hp'
      exact wpAny_bind (wpAny_rule (wpAny_pure (hend s₁ σ' H' h' I q hk)))
end
section
variable {X : Cx} {A : Around} {pins : List (Addr × Obj)} {elt tg iter : Expr} {scope : Scope} {pos : Pos} {it : Addr} {acc : Value} {fp : List Addr} {tn : Nat → Heap → Prop} {R : GenEnd} {Y : Protocol} {n : Nat} {s₀ s : Shared} {J : It}
theorem seg_genStart {P : Program} {w : World} {K : PySem.W.Frag} {cenv : Env} (T : Turn P w K tg J fp it tn) (st : tn 0 s.heap)
    (loop : Seg (model P w) A R Y n s₀ (.compLoop (.GeneratorExp elt [⟨tg, iter, [], 0⟩] scope pos) 0 (.ref it) acc cenv) ((model P w).den (.compLoop (.GeneratorExp elt [⟨tg, iter, [], 0⟩] scope pos) 0 (.ref it) acc cenv)) [] s) :
    Seg (model P w) A R Y n s₀ (.compStart (.GeneratorExp elt [⟨tg, iter, [], 0⟩] scope pos) 0 (.ref it) acc cenv) ((model P w).den (.compStart (.GeneratorExp elt [⟨tg, iter, [], 0⟩] scope pos) 0 (.ref it) acc cenv)) [] s := by
  show Seg _ A _ _ _ s₀ _ ((compStart (.GeneratorExp elt [⟨tg, iter, [], 0⟩] scope pos) 0 (.ref it) acc cenv).onRaise (leaving cenv)) [] s
  unfold compStart
  rw [Sem.onRaise_eq_wrap]
  show Seg _ A _ _ _ s₀ _ ((ask >>= _).wrap _ _ _ _) [] s
  refine seg_bind_wrap (wpAny_askSetting ?_)
  split
  · exact seg_again rfl loop
  · refine seg_bind_wrap (wpAny_rule ?_)
    refine seg_bind_wrap (wpAny_standAt (seg_bind_wrap (T.self _ 0 s _ _ st (seg_again rfl loop))))
end
theorem goes_fresh {M : Model} {A : Around} {R : GenEnd} {Y : Protocol} {n : Nat} {s : Shared} {gs : GenState} {c : Code} (h : GenState.fresh c = gs) (hs : Seg M A R Y n s c (M.den c) [] s) : gs.Goes M A R Y n (.send .none) s := by
  subst h
  exact ⟨rfl, hs⟩
/-- any, all of a generator expression; sv ends it; the def's table may have grown -/
def tGn (P : Addr) (wi : TI) (g : TG) (te : TE) (vs : List Nat) (sv : Bool) : TE := fun σ H Q => wi σ H fun J H1 => GxR.TabG H1 P ∧ ∀ H2, GxR.Tabbed P H1 H2 → ∃ (n : Nat) (W : Nat → Hp → Prop), W 0 H2 ∧ ∀ i H, i ≤ n → W i H →
  (i = n → J.stop n H ∧ Q (.bl (!sv)) H) ∧ (i < n → J.go i H ∧ ∀ x H', J.yld i H x H' → g x (wipe σ vs) H' fun σ2 H2 => wipe σ2 vs = wipe σ vs ∧ te σ2 H2 fun y H4 => ∃ b, y = .bl b ∧ if b = sv then Q (.bl sv) H4 else W (i + 1) H4)
section
variable {X : Cx} {pins : List (Addr × Obj)} {σ : L2.St} {H : Hp} {s : Shared} {elt tg iter : Expr} {scope : Scope} {own : List (Str × Nat)} {wi : TI} {g : TG} {te : TE} {c P : Addr} {gpos : Pos} {k : Nat}
/-- the generator is made -/
theorem gen_made {Q : VK} {sv : Bool} {Q' : Value → Shared → Prop} (hr : Room k X.A) (hc : X.calm = true) (hN : X.N.Nodup) (TB : GxR.TabB X.base X.mg c P) (hcode : X.env.code = .ref c) (ok : GnOk X.N X.env.scope scope own) (hi : PI X tg iter wi)
    (hg : ∀ s H L code fp, PG (gCx X s H (gEnv X scope L code) fp) tg g) (he : ∀ s H L code fp, PE (gCx X s H (gEnv X scope L code) fp) elt te) (hs : ∀ x, genFold iter X.env x = pure x) (I : Inv X pins σ H s) (h : tGn P wi g te (own.map (·.2)) sv σ H Q)
    (hQ : ∀ (gx : Cx) (gp : List (Addr × Obj)) (a : Addr) (gi m : Nat) (go : Obj) (s5 : Shared), gx.prog = X.prog → gx.w = X.w → go.cls = .type "generator" ∧ (∃ nm qn, go.data = .fields #[.int gi 0, nm, qn]) ∧ go.slots = #[] → (a, go) ∈ gp → s5.heap.IsGen a gi → s5.heap.NoLimit →
      Wake gx X.A.in1.in1 gp sv (fun H' => Q (.bl (!sv)) H') (fun H' => Q (.bl sv) H') gi m s5 →
      (∀ s1 σ' H' s', Inv gx gp σ' H' s1 → (∀ b o, s1.heap.get? b = some o → s'.heap.get? b = some o) → s'.os = s1.os → AllBare s'.gens → Inv X pins σ H' s') → Q' (.ref a) s5) :
    wpAny (model X.prog X.w) X.A (eval (.GeneratorExp elt [⟨tg, iter, [], 0⟩] scope gpos) X.env) Q' X.xe s := by
  have hfree : ∀ y ∈ scope.names, y.2 = .free → ∃ c, X.env.cells.lookup y.1 = some c := fun y hy e => by
    rcases ok.blk.free y hy e with k | k
    · exact I.ok.has _ (.inl k)
    · exact I.ok.has _ (.inr k)
  refine wpAny_GeneratorExp_make ok.co (closure_ok hfree) ok.cell ok.dot ok.blk.kind (by have := hr.dp; omega) ?_ hs
  refine thn (hi.run pins s σ H _ I h) fun xv s1 hx => thn hx fun itv s2 h2 => ?_
  obtain ⟨it, fp, tn, J, H2, e, I2, T, st2, f2, ⟨ps, hP, ht⟩, q⟩ := h2
  subst e
  have hPs : s2.heap.get? P = some { cls := .none, data := .fields ps } := I2.hok P _ hP
  have hPlt : P < s2.heap.objs.size := Heap.lt_size hPs
  have cd : PySem.W.CodeHd s2.heap c P := TB.code.keeps I2.bk
  have fnP : ∀ b ∈ fp, b ≠ P := fun b hb z => by
    have q := (f2 b hb).1
    rw [z, hP] at q
    cases q
  have flt : ∀ b ∈ fp, b < s2.heap.objs.size := fun b hb => by
    obtain ⟨o, e, _⟩ := T.obj _ _ st2 b hb
    exact Heap.lt_size e
  refine ⟨I2.nolimit, ?_⟩
  have cont : ∀ (code : Value) (h3 : Heap) (tk : Nat) (more : Array Value), Heap.ExtBut P s2.heap h3 → s2.heap.objs.size ≤ h3.objs.size → h3.get? P = some { cls := .none, data := .fields (ps ++ more) } → TriplesOk (ps ++ more).toList →
      wpAny (model X.prog X.w) X.A (builtinsFor X.env.globals X.env.builtins) (fun bi s₄ =>
        ∀ h', h'.Ns s₄.heap.objs.size (fun y => if y = ".0" then some (.ref it) else none) → Heap.SameBut s₄.heap.objs.size (s₄.heap.push { cls := .type "frame", data := .dict #[] }) h' →
          Q' (.ref h'.objs.size) { s₄ with
            gens := s₄.gens.push (.fresh (.compStart (.GeneratorExp elt [⟨tg, iter, [], 0⟩] scope gpos) 0 (.ref it) .none (genEnv scope (cloFrom X.env.cells scope.names []) s₄.heap.objs.size code bi X.env))),
            toks := s₄.toks + 1 + 1 + 1,
            heap := h'.push { cls := .type "generator", data := .fields #[.int s₄.gens.size 0, .str "<genexpr>" (s₄.toks + 1), .str (X.env.qual ++ "<genexpr>") (s₄.toks + 1 + 1)] } }) X.xe { s2 with heap := h3, toks := tk } := by
    intro code h3 tk more hx hsz hP3 ht3
    obtain ⟨bm, ob, e1, e2, e3, e4, e5, e6, e7, e8⟩ := TB.bm
    have keep3 : ∀ b u, b ≠ P → s2.heap.get? b = some u → h3.get? b = some u := fun b u hb e => hx b u hb e
    have I4 : Inv X pins σ (upd H2 P (.tbl (ps ++ more))) { s2 with heap := h3, toks := tk } := GxR.inv_tab (d' := s2.drawn) (t' := tk) I2 hP keep3 hP3 I2.bare
    refine wpAny_builtinsFor (m := X.mg) (by rw [I2.ok.glob]; exact ((I2.mod.glob.keeps I2.bk)).extBut hx TB.gP) e1 e2 (keep3 _ _ e4 (I2.bk _ _ e5)) e6 e7 e8 ?_
    generalize hs4 : ({ s2 with heap := h3, toks := tk } : Shared) = s4 at I4 ⊢
    have h4 : s4.heap = h3 := by rw [← hs4]
    have f4 : ∀ b ∈ fp, FpOk X pins (upd H2 P (.tbl (ps ++ more))) b ∧ b < s4.heap.objs.size := fun b hb =>
      ⟨⟨by rw [upd_ne (fnP b hb)]; exact (f2 b hb).1, (f2 b hb).2⟩, by rw [h4]; exact Nat.lt_of_lt_of_le (flt b hb) hsz⟩
    have st4 : tn 0 s4.heap := T.keep _ _ _ st2 fun b hb o e => by rw [h4]; exact keep3 b o (fnP b hb) e
    obtain ⟨n, W, w0, turn⟩ := q (upd H2 P (.tbl (ps ++ more))) ⟨⟨ps ++ more, upd_same, ht3⟩, fun b hb => upd_ne hb⟩
    generalize hH4 : upd H2 P (.tbl (ps ++ more)) = H4 at I4 f4 w0 ⊢
    intro h' hn' hs'
    have szh : h'.objs.size = s4.heap.objs.size + 1 := by rw [hs'.1, Heap.size_push]
    have keep' : ∀ b o, s4.heap.get? b = some o → h'.get? b = some o := fun b o e => hs'.extBut b o (Nat.ne_of_lt (Heap.lt_size e)) (Heap.get?_push_of_some _ e)
    generalize hgo : ({ cls := .type "generator", data := .fields #[.int s4.gens.size 0, .str "<genexpr>" (s4.toks + 1), .str (X.env.qual ++ "<genexpr>") (s4.toks + 1 + 1)] } : Obj) = go
    have go1 : go.cls = .type "generator" ∧ (∃ nm qn, go.data = .fields #[.int s4.gens.size 0, nm, qn]) ∧ go.slots = #[] := by rw [← hgo]; exact ⟨rfl, ⟨_, _, rfl⟩, rfl⟩
    have gof : go.isFreed = false := by rw [← hgo]; rfl
    have ha : (h'.push go).get? h'.objs.size = some go := Heap.get?_push_size _ gof
    have kp5 : ∀ b o, s4.heap.get? b = some o → (h'.push go).get? b = some o := fun b o e => Heap.get?_push_of_some _ (keep' b o e)
    generalize hgs : GenState.fresh (.compStart (.GeneratorExp elt [⟨tg, iter, [], 0⟩] scope gpos) 0 (.ref it) .none (genEnv scope (cloFrom X.env.cells scope.names []) s4.heap.objs.size code builtinsNs X.env)) = gs
    have gsb : gs.bare = true := by rw [← hgs]; rfl
    have I5 := gen_start (t' := s4.toks + 1 + 1 + 1) (code := code) I4 hc ok hN f4 kp5 (hn'.push go) (I4.bare.push gsb) ha (by rw [szh]; exact Nat.lt_succ_self _) (fun v z => by
      obtain ⟨_, ⟨nm, qn, z2⟩, _⟩ := go1
      rw [z2] at z
      cases z)
    have back : ∀ s1 σ' H' s', Inv (gCx X s4 H4 (gEnv X scope s4.heap.objs.size code) fp) [(h'.objs.size, go)] σ' H' s1 → (∀ b o, s1.heap.get? b = some o → s'.heap.get? b = some o) → s'.os = s1.os → AllBare s'.gens → Inv X pins σ H' s' := fun s1 σ' H' s' J kp os bare =>
      I4.call' (ch := fp) (os.trans J.os) (Un.trans J.base (Un.kept kp)) (J.hok.kept kp) bare fun b hb => ⟨(f4 b hb).1.2.2.2.1, (f4 b hb).1.2.1, (f4 b hb).1.2.2.2.2.1, (f4 b hb).1.2.2.2.2.2⟩
    refine hQ (gCx X s4 H4 (gEnv X scope s4.heap.objs.size code) fp) [(h'.objs.size, go)] h'.objs.size s4.gens.size n go _ rfl rfl go1 (List.mem_singleton.mpr rfl) ?_ I5.nolimit ?_ back
    · obtain ⟨z1, ⟨nm, qn, z2⟩, z3⟩ := go1
      exact ⟨go, nm, qn, ha, z1, z2, z3⟩
    · refine ⟨gs, Array.getElem?_push_size .., ?_⟩
      refine goes_fresh hgs ?_
      have st5 : tn 0 (h'.push go) := T.keep _ _ _ st4 fun b _ o e => kp5 b o e
      refine seg_genStart (P := X.prog) (w := X.w) (K := X.K) T st5 ?_
      refine seg_gen (scope := scope) (X := gCx X s4 H4 (gEnv X scope s4.heap.objs.size code) fp) (A := X.A.in1.in1) (pos := gpos) (iter := iter) (acc := .none) (Qe := fun H' => Q (.bl (!sv)) H') (Qs := fun H' => Q (.bl sv) H') (W := W) (sv := sv) (n := n) rfl rfl (fun _ _ z => z) ok.co T
        (hg s4 H4 s4.heap.objs.size code fp) (he s4 H4 s4.heap.objs.size code fp) (pins := [(h'.objs.size, go)]) (fun {σ' H' s'} J nf b hb => ?_) turn n 0 _ _ H4 (Nat.sub_zero n) (Nat.zero_le _) (reheap (s' := Shared.setGen { s4 with gens := s4.gens.push gs, toks := s4.toks + 1 + 1 + 1, heap := h'.push go } s4.gens.size .running) I5 rfl rfl (bare_set (s := { s4 with gens := s4.gens.push gs, toks := s4.toks + 1 + 1 + 1, heap := h'.push go }) (I4.bare.push gsb) rfl)) st5 (fun b hb => (f4 b hb).1.1) w0
      · refine ⟨nf b hb, (J.ok.exf b hb).1, J.ok.exfs b hb, .inl hb, fun x c e => (J.ok.exf b hb).2 x c e, fun p hp => ?_⟩
        have e : p = (h'.objs.size, go) := by simpa using (show p ∈ ([] : List (Addr × Obj)) ++ [(h'.objs.size, go)] from hp)
        rw [e]
        exact Nat.ne_of_gt (Nat.lt_of_lt_of_le (f4 b hb).2 (by rw [szh]; exact Nat.le_succ _))
  cases hf : codeAmong gpos ps.toList with
  | none =>
    refine wpAny_genexprCodeX hcode (cd.code hPs ht) (cd.tab hPs) hf fun c' h3 tk hx hge hlt hco' _ htab' _ => ?_
    obtain ⟨o1, vs, f1, tf, fl, tg', inF, tx, tt, op, _, _, _, _, _, _, _, _, _, htr, _⟩ := hco'
    exact cont _ h3 tk #[rawInt gpos.line, rawInt gpos.col, .ref c'] hx (Nat.le_trans hge (Nat.le_of_lt hlt)) htab'.2 htr
  | some cv =>
    refine wpAny_genexprCode_hit hcode (cd.code hPs ht) hf ?_
    have e : ps ++ (#[] : Array Value) = ps := by simp
    exact cont cv s2.heap s2.toks #[] (Heap.ExtBut.refl _ _) (Nat.le_refl _) (by rw [e]; exact hPs) (by rw [e]; exact ht)
end
section
variable {X : Cx} {elt tg iter : Expr} {scope : Scope} {own : List (Str × Nat)} {wi : TI} {g : TG} {te : TE} {c P : Addr} {p pos gpos : Pos} {k : Nat}
theorem pe_anyG (hr : Room k X.A) (hc : X.calm = true) (hN : X.N.Nodup) (hgl : Gl X "any") (hm : X.mg "any" = none) (TB : GxR.TabB X.base X.mg c P) (hcode : X.env.code = .ref c) (ok : GnOk X.N X.env.scope scope own) (hi : PI X tg iter wi)
    (hg : ∀ s H L code fp, PG (gCx X s H (gEnv X scope L code) fp) tg g) (he : ∀ s H L code fp, PE (gCx X s H (gEnv X scope L code) fp) elt te) (hs : ∀ x, genFold iter X.env x = pure x)
    (hst : starEach [.GeneratorExp elt [⟨tg, iter, [], 0⟩] scope gpos] X.env = (false, eval (.GeneratorExp elt [⟨tg, iter, [], 0⟩] scope gpos) X.env) :: starEach [] X.env := by rfl) :
    PE X (.Call (.Name "any" p) [.GeneratorExp elt [⟨tg, iter, [], 0⟩] scope gpos] [] pos) (tGn P wi g te (own.map (·.2)) true) := by
  refine ⟨fun pins s σ H Q I h => ?_⟩
  refine wpAny_Call_Name_kw (ld_blt I hgl hm boot_any ?_)
  refine PyProof.Rows.callWith_builtin1 ?_ hst (by rfl)
  rw [hst]
  show wpAny _ _ (spliced ((false, eval (.GeneratorExp elt [⟨tg, iter, [], 0⟩] scope gpos) X.env) :: backTo pos (starEach [] X.env))) _ _ s
  refine Calls.spliced_cons (gen_made hr hc hN TB hcode ok hi hg he hs I h fun gx gp a gi m go s5 e1 e2 go1 hgp ig nl wk back => ?_)
  refine Calls.spliced_nil ?_
  rw [← e1, ← e2] at *
  refine call_function_tree F.kind_any F.plain_any F.entry_any (F.args_any1 _) ?_
  unfold Builtin.«any»
  refine wpAny_bind (m := oneArg "any" _) (wpAny_pure ?_)
  refine wpAny_bind (wpAny_pyIter_gen ig (wpAny_pure ⟨plainId_quiet F.plain_any_loop _, ?_⟩))
  refine any_loop hr.hd hr.depth go1 hgp (fun s1 σ' H' gs' J q hb => ?_) (fun s1 σ' H' h' J q kp => ?_) m s5 ig nl wk
  · exact ⟨.bl true, H', back s1 σ' H' _ J (fun b o e => e) rfl (bare_set J.bare hb), rfl, q⟩
  · exact ⟨.bl false, H', back s1 σ' H' _ J kp rfl (bare_set J.bare rfl), rfl, q⟩
theorem pe_allG (hr : Room k X.A) (hc : X.calm = true) (hN : X.N.Nodup) (hgl : Gl X "all") (hm : X.mg "all" = none) (hb : bootBuiltins "all" = some (.builtin "all")) (TB : GxR.TabB X.base X.mg c P) (hcode : X.env.code = .ref c) (ok : GnOk X.N X.env.scope scope own) (hi : PI X tg iter wi)
    (hg : ∀ s H L code fp, PG (gCx X s H (gEnv X scope L code) fp) tg g) (he : ∀ s H L code fp, PE (gCx X s H (gEnv X scope L code) fp) elt te) (hs : ∀ x, genFold iter X.env x = pure x)
    (hst : starEach [.GeneratorExp elt [⟨tg, iter, [], 0⟩] scope gpos] X.env = (false, eval (.GeneratorExp elt [⟨tg, iter, [], 0⟩] scope gpos) X.env) :: starEach [] X.env := by rfl) :
    PE X (.Call (.Name "all" p) [.GeneratorExp elt [⟨tg, iter, [], 0⟩] scope gpos] [] pos) (tGn P wi g te (own.map (·.2)) false) := by
  refine ⟨fun pins s σ H Q I h => ?_⟩
  refine wpAny_Call_Name_kw (ld_blt I hgl hm hb ?_)
  refine PyProof.Rows.callWith_builtin1 ?_ hst (by rfl)
  rw [hst]
  show wpAny _ _ (spliced ((false, eval (.GeneratorExp elt [⟨tg, iter, [], 0⟩] scope gpos) X.env) :: backTo pos (starEach [] X.env))) _ _ s
  refine Calls.spliced_cons (gen_made hr hc hN TB hcode ok hi hg he hs I h fun gx gp a gi m go s5 e1 e2 go1 hgp ig nl wk back => ?_)
  refine Calls.spliced_nil ?_
  rw [← e1, ← e2] at *
  refine call_function_tree F.kind_all F.plain_all F.entry_all (F.args_all1 _) ?_
  unfold Builtin.«all»
  refine wpAny_bind (m := oneArg "all" _) (wpAny_pure ?_)
  refine wpAny_bind (wpAny_pyIter_gen ig (wpAny_pure ⟨plainId_quiet F.plain_all_loop _, ?_⟩))
  refine all_loop hr.hd hr.depth go1 hgp (fun s1 σ' H' gs' J q hb => ?_) (fun s1 σ' H' h' J q kp => ?_) m s5 ig nl wk
  · exact ⟨.bl false, H', back s1 σ' H' _ J (fun b o e => e) rfl (bare_set J.bare hb), rfl, q⟩
  · exact ⟨.bl true, H', back s1 σ' H' _ J kp rfl (bare_set J.bare rfl), rfl, q⟩
end
end PM

/-! any, all. -/
namespace PM
open PySem PySem.Spec PyProof.Rows L2

/-- a def that makes generator expressions: its code object, its table -/
structure GenT (Θ : Th) (c P : Addr) : Prop where
  mem : P ∈ Θ.TG
  ne : ∀ p ∈ Θ.T, p.1 ≠ P
  tb : GxR.TabB Θ.base Θ.mg c P
section
variable {Θ : Th} {M : Option Addr} {G H H' : Hp} {P : Addr}
theorem tabbed_ok (hs : Hs Θ G H) (ne : ∀ p ∈ Θ.T, p.1 ≠ P) (hP : GxR.TabG H P) (t : GxR.Tabbed P H H') : Stp M G H G H' ∧ Hs Θ G H' := by
  obtain ⟨tP, te⟩ := t
  obtain ⟨ps, e0, _⟩ := hP
  have out : ∀ a o, H a = some o → (∀ q, o ≠ .tbl q) → a ≠ P := fun a o e n z => by
    rw [z, e0] at e
    exact n ps (Option.some.inj e).symm
  refine ⟨⟨.refl G, fun a e => ⟨rfl, by rw [te a fun z => by rw [z, e0] at e; exact e]; exact e⟩, fun a o e n _ => by rw [te a (out a o e n)]; exact e, fun a e => ?_⟩, fun a o e => ?_, hs.nt, fun p hp => ?_, fun p hp => ?_⟩
  · by_cases h : a = P
    · obtain ⟨qs, z, _⟩ := tP
      rw [h, z]
      simp
    · rw [te a h]; exact e
  · have n : ∀ q, o ≠ .tbl q := fun q z => hs.nt a q (by rw [e, z])
    rw [te a (out a o (hs.sub a o e) n)]
    exact hs.sub a o e
  · obtain ⟨qs, e1, e2, e3⟩ := hs.tabs p hp
    refine ⟨qs, by rw [te _ (ne p hp)]; exact e1, e2, fun pos cv hc => ?_⟩
    obtain ⟨c, e4, e5⟩ := e3 pos cv hc
    exact ⟨c, e4, by rw [te c (out c _ e5 LamX.codeO_ne)]; exact e5⟩
  · by_cases h : p = P
    · rw [h]; exact tP
    · obtain ⟨qs, e1, e2⟩ := hs.tabg p hp
      exact ⟨qs, by rw [te p h]; exact e1, e2⟩
theorem DiceAt.tabbed {d : Addr} (z : DiceAt G H d) (hP : GxR.TabG H P) (t : GxR.Tabbed P H H') : DiceAt G H' d := by
  obtain ⟨hg, a, b, c, hd⟩ := z
  obtain ⟨ps, e0, _⟩ := hP
  exact ⟨hg, a, b, c, by rw [t.2 d fun z => by rw [z, e0] at hd; cases hd]; exact hd⟩
end
section
variable {Θ : Th} {X : Cx} {tg iter elt : Expr} {scope : Scope} {δ : List SD} {g : TG} {n : Nat} {bd : Nat → List (Nat × D)} {own : List (Str × Nat)} {pos p gpos : Pos} {f : Nat → Bool} {c P : Addr} {k : Nat}
def tEg (X : Cx) (scope : Scope) (e : Expr) : TE := fun σ H Q => ∀ s H0 L code fp, tE (gCx X s H0 (gEnv X scope L code) fp) e σ H Q
theorem gnD {sv : Bool} {wi : TI} {vs : List Nat} (GT : GenT Θ c P) (hi : ∀ (M : Option Addr) (G0 H0 G H : Hp) (σ : L2.St) (R : It → Hp → Prop), StOk Θ M G0 H0 G H σ δ → (∀ J G' H', StOk Θ M G0 H0 G' H' σ δ → Gr G G' → ItD Θ J g n bd G' → R J H') → wi σ H R)
    (hw : ∀ i, i < n → ∀ (σ : L2.St) bv G, Bnd Θ G bv (bd i) → wipe (setV (wipe σ vs) bv) vs = wipe σ vs)
    (he : ∀ i, i < n → ∀ s H L code fp, EV Θ (gCx X s H (gEnv X scope L code) fp) elt (setD (wipeD δ vs) (bd i)) (· = .bl (f i)))
    {M : Option Addr} {G0 H0 G H : Hp} {σ : L2.St} {Q : VK} (S : StOk Θ M G0 H0 G H σ δ)
    (q1 : ∀ G' H', StOk Θ M G0 H0 G' H' σ δ → Gr G G' → (∀ i, i < n → f i = !sv) → Q (.bl (!sv)) H') (q2 : ∀ G' H' i, StOk Θ M G0 H0 G' H' σ δ → Gr G G' → i < n → f i = sv → Q (.bl sv) H') :
    tGn P wi g (tEg X scope elt) vs sv σ H Q := by
  refine hi M G0 H0 G H σ _ S fun J G1 H1 S1 g1 it => ⟨S1.hs.tabg P GT.mem, fun H2 tb => ?_⟩
  obtain ⟨st2, hs2⟩ := tabbed_ok (M := M) S1.hs GT.ne (S1.hs.tabg P GT.mem) tb
  have S2 : StOk Θ M G0 H0 G1 H2 σ δ := S1.step st2 hs2 fun d e => (S1.dice d e).2.tabbed (S1.hs.tabg P GT.mem) tb
  refine ⟨n, fun i Hi => ∃ Gi, StOk Θ M G1 H2 Gi Hi (wipe σ vs) (wipeD δ vs) ∧ Gr G1 Gi ∧ ∀ j, j < i → f j = !sv, ⟨G1, (S2.wipe vs).anew, .refl _, fun j hj => absurd hj (Nat.not_lt_zero _)⟩, ?_⟩
  rintro i Hi hle ⟨Gi, Si, gi, hb⟩
  -- back in the def
  have out : ∀ {G' H' : Hp} {σ' : L2.St} {δ' : List SD}, StOk Θ M G1 H2 G' H' σ' δ' → StOk Θ M G0 H0 G' H' σ δ := fun {G' H' σ' δ'} Z => S2.step Z.stp Z.hs fun d e => (Z.dice d e).2
  refine ⟨fun e => ?_, fun hlt => ⟨it.go gi Si.hs i hlt, fun x H3 y => ?_⟩⟩
  · subst e
    exact ⟨it.stop gi Si.hs, q1 Gi Hi (out Si) (g1.trans gi) hb⟩
  · refine it.yld gi Si.hs i hlt x H3 y _ _ fun bv G3 s3 h3 hbd => ?_
    have S3 := ((Si.anew.pure s3 h3).setB hbd)
    refine ⟨hw i hlt σ bv G3 hbd, fun s H0' L code fp => he i hlt s H0' L code fp M Gi Hi G3 H3 _ _ S3 fun v d G4 H4 S4 g4 r4 e4 => ?_⟩
    subst e4
    refine ⟨f i, r4.bl_inv, ?_⟩
    have S5 : StOk Θ M G1 H2 G4 H4 (wipe σ vs) (wipeD δ vs) := Si.step S4.stp S4.hs fun d e => (S4.dice d e).2
    have g5 : Gr G1 G4 := (gi.trans s3.g).trans g4
    by_cases hf : f i = sv
    · rw [if_pos hf]
      exact q2 G4 H4 i (out S5) (g1.trans g5) hlt hf
    · rw [if_neg hf]
      refine ⟨G4, S5, g5, fun j hj => ?_⟩
      by_cases hji : j = i
      · rw [hji]
        cases hfi : f i <;> cases sv <;> simp_all
      · exact hb j (by omega)
theorem gx_ok (xo : XOk Θ X) {s : Shared} {H : Hp} {cenv : Env} {fp : List Addr} : XOk Θ (gCx X s H cenv fp) := ⟨xo.P, xo.w, xo.K, xo.mg, xo.base, rfl, xo.nd⟩
theorem gx_room {s : Shared} {H : Hp} {cenv : Env} {fp : List Addr} (hr : Room (k + 1) X.A) : Room k (gCx X s H cenv fp).A :=
  ⟨hr.hd, by have := hr.dp; show X.A.depth + 1 + 3 * k + 5 < _; omega, by have := hr.un; show X.A.units + 1 + 1 + 3 + 16 * k + 200 < _; omega⟩
/-- any(elt for tg in iter) -/
theorem ev_any (xo : XOk Θ X) (T : Tx Θ) (GT : GenT Θ c P) (hcode : X.env.code = .ref c) (hr : Room (k + 1) X.A) (hi : EI Θ X tg iter δ g n bd) (ok : GnOk X.N X.env.scope scope own)
    (hw : ∀ i, i < n → ∀ (σ : L2.St) bv G, Bnd Θ G bv (bd i) → wipe (setV (wipe σ (own.map (·.2))) bv) (own.map (·.2)) = wipe σ (own.map (·.2)))
    (hg : ∀ s H L code fp, PG (gCx X s H (gEnv X scope L code) fp) tg g)
    (he : ∀ i, i < n → ∀ s H L code fp, XOk Θ (gCx X s H (gEnv X scope L code) fp) → Room k (gCx X s H (gEnv X scope L code) fp).A → EV Θ (gCx X s H (gEnv X scope L code) fp) elt (setD (wipeD δ (own.map (·.2))) (bd i)) (· = .bl (f i)))
    (hgl : Gl X "any" := by rfl) (hs : ∀ x, genFold iter X.env x = pure x := by intro _; rfl)
    (hst : starEach [.GeneratorExp elt [⟨tg, iter, [], 0⟩] scope gpos] X.env = (false, eval (.GeneratorExp elt [⟨tg, iter, [], 0⟩] scope gpos) X.env) :: starEach [] X.env := by rfl) :
    EV Θ X (.Call (.Name "any" p) [.GeneratorExp elt [⟨tg, iter, [], 0⟩] scope gpos] [] pos) δ (· = .bl ((List.range n).any f)) := fun M G0 H0 G H σ Q S q => by
  obtain ⟨wi, hpi, hi⟩ := hi
  have TB := GT.tb
  rw [xo.base, xo.mg] at TB
  refine .of (pe_anyG (te := tEg X scope elt) hr xo.calm xo.nd hgl (xo.mg ▸ T.any) TB hcode ok hpi hg (fun s H L code fp => ⟨fun pins s' σ' H' Q' I h => h s H L code fp pins s' I⟩) hs hst)
    (gnD GT hi hw (fun i hlt s H L code fp => he i hlt s H L code fp (gx_ok xo) (gx_room hr)) S (fun G' H' S' g' hf => q _ _ G' H' S' g' (.bl _) ?_) fun G' H' i S' g' hlt hf => q _ _ G' H' S' g' (.bl _) ?_)
  · have e : (List.range n).any f = false := by
      rw [List.any_eq_false]
      intro i hi
      rw [hf i (List.mem_range.mp hi)]
      simp
    rw [e]
    rfl
  · have e : (List.range n).any f = true := List.any_eq_true.mpr ⟨i, List.mem_range.mpr hlt, hf⟩
    rw [e]
theorem boot_all : bootBuiltins ("all" : Str) = some (.builtin "all") := by decide +kernel
/-- all(elt for tg in iter) -/
theorem ev_all (xo : XOk Θ X) (T : Tx Θ) (GT : GenT Θ c P) (hcode : X.env.code = .ref c) (hr : Room (k + 1) X.A) (hi : EI Θ X tg iter δ g n bd) (ok : GnOk X.N X.env.scope scope own)
    (hw : ∀ i, i < n → ∀ (σ : L2.St) bv G, Bnd Θ G bv (bd i) → wipe (setV (wipe σ (own.map (·.2))) bv) (own.map (·.2)) = wipe σ (own.map (·.2)))
    (hg : ∀ s H L code fp, PG (gCx X s H (gEnv X scope L code) fp) tg g)
    (he : ∀ i, i < n → ∀ s H L code fp, XOk Θ (gCx X s H (gEnv X scope L code) fp) → Room k (gCx X s H (gEnv X scope L code) fp).A → EV Θ (gCx X s H (gEnv X scope L code) fp) elt (setD (wipeD δ (own.map (·.2))) (bd i)) (· = .bl (f i)))
    (hgl : Gl X "all" := by rfl) (hs : ∀ x, genFold iter X.env x = pure x := by intro _; rfl)
    (hst : starEach [.GeneratorExp elt [⟨tg, iter, [], 0⟩] scope gpos] X.env = (false, eval (.GeneratorExp elt [⟨tg, iter, [], 0⟩] scope gpos) X.env) :: starEach [] X.env := by rfl) :
    EV Θ X (.Call (.Name "all" p) [.GeneratorExp elt [⟨tg, iter, [], 0⟩] scope gpos] [] pos) δ (· = .bl ((List.range n).all f)) := fun M G0 H0 G H σ Q S q => by
  obtain ⟨wi, hpi, hi⟩ := hi
  have TB := GT.tb
  rw [xo.base, xo.mg] at TB
  refine .of (pe_allG (te := tEg X scope elt) hr xo.calm xo.nd hgl (xo.mg ▸ T.all) boot_all TB hcode ok hpi hg (fun s H L code fp => ⟨fun pins s' σ' H' Q' I h => h s H L code fp pins s' I⟩) hs hst)
    (gnD GT hi hw (fun i hlt s H L code fp => he i hlt s H L code fp (gx_ok xo) (gx_room hr)) S (fun G' H' S' g' hf => q _ _ G' H' S' g' (.bl _) ?_) fun G' H' i S' g' hlt hf => q _ _ G' H' S' g' (.bl _) ?_)
  · have e : (List.range n).all f = true := by
      rw [List.all_eq_true]
      intro i hi
      rw [hf i (List.mem_range.mp hi)]
      rfl
    rw [e]
    rfl
  · have e : (List.range n).all f = false := by
      rw [List.all_eq_false]
      exact ⟨i, List.mem_range.mpr hlt, by simp [hf]⟩
    rw [e]
end
end PM

/-! Short forms for loops, comprehensions, raises; defs with a known code object. -/
namespace PM
open PySem PySem.Spec PyProof.Rows L2

/-! ### own exceptions -/
structure ExC (Θ : Th) (x : Str) (C : Addr) : Prop where
  q : PySem.W.excIn Θ.K C [.type "ValueError", .type "Exception", .type "BaseException", .type "object"] "ValueError.__new__" = true
  g : Θ.mg x = some (.ref C)
  k : PySem.W.keepIn Θ.K (.ref C) = true
  s : PySem.W.subIn Θ.K (.ref C) (.type "BaseException") = some true
  t : PySem.W.typeIn Θ.K (.ref C) = some (.type "type")
section
variable {Θ : Th} {X : Cx} {rest : List Stmt} {δ : List SD} {pos p p2 p3 : Pos} {N : List SD → Prop} {P : D → Prop} {Ξ : Addr → Prop} {x m : Str} {j : Nat} {C : Addr}
/-- raise X('m') -/
theorem sv_raiseC (xo : XOk Θ X) (e : ExC Θ x C) (hc : Ξ C) (hg : Gl X x := by rfl) (hdb : (x == ("__debug__" : Str)) = false := by decide) : SV Θ X (.Raise (some (.Call (.Name x p) [.Constant (.str m) j p2] [] p3)) none pos :: rest) δ N P Ξ := by
  obtain ⟨q, g, k, s, t⟩ := e
  rw [xo.K] at q k s t
  rw [xo.mg] at g
  exact sv_raise xo (pmk_own PySem.F.excBase_ValueError q g k (raises_own s t) hg hdb) hc
end
/-! ### names set -/
section
variable {Θ : Th} {X : Cx} {a b c e o tg iter elt : Expr} {es ifs : List Expr} {rest body : List Stmt} {δ : List SD} {pos p1 p2 p3 px py : Pos} {N N1 : List SD → Prop} {P PE : D → Prop} {Ξ : Addr → Prop} {i j n : Nat} {x y : Str} {d : D} {k : Bool} {g : TG} {bd : Nat → List (Nat × D)} {l : List D} {scope : Scope} {kp : Nat → Bool} {PL : Nat → D → Prop}
theorem set1 (i : Nat) (xo : XOk Θ X) (he : EV Θ X e δ (· = d)) (hr : SV Θ X rest (δ.set i (.im d)) N P Ξ) (hi : X.N[i]? = some x := by rfl) (hx : Loc X.env.scope x := by first | exact .inl rfl | exact .inr rfl) (hs : swapsWith e (some (.Name x p1)) pos.line X.env = pure false := by rfl)
    (hf : X.fn x = true ∨ X.env.scope.names.lookup x = some .local := by first | exact .inl rfl | exact .inr rfl | assumption) : SV Θ X (.Assign [.Name x p1] e pos :: rest) δ N P Ξ := sv_set xo hi hx he (fun d' e => by rw [e]; exact hr) hs hf
/-! ### blocks -/
theorem bk_ok (xo : XOk Θ X) {s : Shared} {H : Hp} {C : Addr} {cl : List (Str × Addr)} {fp : List Addr} : XOk Θ (bk X scope s H C cl fp) := ⟨xo.P, xo.w, xo.K, xo.mg, xo.base, xo.calm, xo.nd⟩
theorem set_set_none (σ : L2.St) (j : Nat) (v : V) : ((σ.set j none).set j (some v)).set j none = σ.set j none := by rw [List.set_set, List.set_set]
theorem hw1 {G : Hp} {d : D} (σ : L2.St) (bv : List (Nat × V)) (h : Bnd Θ G bv [(j, d)]) : wipe (setV (wipe σ [j]) bv) [j] = wipe σ [j] := by
  cases h with
  | cons r t =>
    cases t
    exact set_set_none σ j _
theorem hw2 {G : Hp} {d1 d2 : D} (hij : i ≠ j) (σ : L2.St) (bv : List (Nat × V)) (h : Bnd Θ G bv [(i, d1), (j, d2)]) : wipe (setV (wipe σ [i, j]) bv) [i, j] = wipe σ [i, j] := by
  cases h with
  | cons r t =>
    cases t with
    | cons r2 t =>
      cases t
      rename_i v1 v2
      show (((((σ.set j none).set i none).set i (some v1)).set j (some v2)).set j none).set i none = (σ.set j none).set i none
      refine List.ext_getElem? fun m => ?_
      by_cases h1 : i = m
      · subst h1
        simp [List.getElem?_set]
      · by_cases h2 : j = m
        · subst h2
          simp [List.getElem?_set, h1]
        · simp [List.getElem?_set, h1, h2]
/-- [elt for x in iter if ..], the target one name at slot j -/
theorem lc1 {b : Nat → D} (j : Nat) (xo : XOk Θ X) (hi : EI Θ X (.Name x px) iter δ (gName j) n (fun i => [(j, b i)])) (ok : BlkOk X.N X.env.scope scope [(x, j)]) (hn : n ≤ 1000)
    (ht : ∀ i, i < n → ∀ s H C cl fp, XOk Θ (bk X scope s H C cl fp) → ETs Θ (bk X scope s H C cl fp) ifs ((δ.set j .no).set j (.im (b i))) (kp i))
    (he : ∀ i, i < n → kp i = true → ∀ s H C cl fp, XOk Θ (bk X scope s H C cl fp) → EV Θ (bk X scope s H C cl fp) elt ((δ.set j .no).set j (.im (b i))) (PL i))
    (hj : X.N[j]? = some x := by rfl) (hx : ∀ s H C cl fp, Loc (bk X scope s H C cl fp).env.scope x := by first | (intros; exact .inl rfl) | (intros; exact .inr rfl)) (hf : ∀ s H C cl fp, (bk X scope s H C cl fp).fn x = true ∨ (bk X scope s H C cl fp).env.scope.names.lookup x = some .local := by first | (intros; exact .inl rfl) | (intros; exact .inr rfl))
    (hs : ∀ x, foldedSetIterable iter X.env x = pure x := by intro _; rfl) :
    EV Θ X (.ListComp elt [⟨.Name x px, iter, ifs, 0⟩] scope pos) δ (fun d => ∃ l, d = .lst l ∧ AccR kp PL n l) :=
  ev_lc (own := [(x, j)]) xo hi ok hn (fun i hi σ bv G h => hw1 σ bv h) (fun s H C cl fp => pg_name xo.nd hj (hx s H C cl fp) (hf s H C cl fp)) (fun i hi s H C cl fp => ht i hi s H C cl fp (bk_ok xo)) (fun i hi hk s H C cl fp => he i hi hk s H C cl fp (bk_ok xo)) hs
/-- .. each item told -/
theorem lc1f {b f : Nat → D} (j : Nat) (xo : XOk Θ X) (hi : EI Θ X (.Name x px) iter δ (gName j) n (fun i => [(j, b i)])) (ok : BlkOk X.N X.env.scope scope [(x, j)]) (hn : n ≤ 1000)
    (ht : ∀ i, i < n → ∀ s H C cl fp, XOk Θ (bk X scope s H C cl fp) → ETs Θ (bk X scope s H C cl fp) ifs ((δ.set j .no).set j (.im (b i))) (kp i))
    (he : ∀ i, i < n → kp i = true → ∀ s H C cl fp, XOk Θ (bk X scope s H C cl fp) → EV Θ (bk X scope s H C cl fp) elt ((δ.set j .no).set j (.im (b i))) (· = f i))
    (hj : X.N[j]? = some x := by rfl) (hx : ∀ s H C cl fp, Loc (bk X scope s H C cl fp).env.scope x := by first | (intros; exact .inl rfl) | (intros; exact .inr rfl)) (hf : ∀ s H C cl fp, (bk X scope s H C cl fp).fn x = true ∨ (bk X scope s H C cl fp).env.scope.names.lookup x = some .local := by first | (intros; exact .inl rfl) | (intros; exact .inr rfl))
    (hs : ∀ x, foldedSetIterable iter X.env x = pure x := by intro _; rfl) :
    EV Θ X (.ListComp elt [⟨.Name x px, iter, ifs, 0⟩] scope pos) δ (· = .lst (((List.range n).filter kp).map f)) :=
  (lc1 j xo hi ok hn ht he hj hx hf hs).imp fun d ⟨l, e, a⟩ => by rw [e, a.det]
/-- [elt for x, y in enumerate(..) if ..] -/
theorem lc2f {b f : Nat → D} {kk : Nat} {pt : Pos} (i j : Nat) (xo : XOk Θ X) (hi : EI Θ X (.Tuple [.Name x px, .Name y py] kk pt) iter δ (gTup X.K 2 (gCons (gName i) (gCons (gName j) gNil))) n (fun m => [(i, .int (m : Int)), (j, b m)])) (ok : BlkOk X.N X.env.scope scope [(x, i), (y, j)]) (hn : n ≤ 1000)
    (ht : ∀ m, m < n → ∀ s H C cl fp, XOk Θ (bk X scope s H C cl fp) → ETs Θ (bk X scope s H C cl fp) ifs ((((δ.set j .no).set i .no).set i (.im (.int (m : Int)))).set j (.im (b m))) (kp m))
    (he : ∀ m, m < n → kp m = true → ∀ s H C cl fp, XOk Θ (bk X scope s H C cl fp) → EV Θ (bk X scope s H C cl fp) elt ((((δ.set j .no).set i .no).set i (.im (.int (m : Int)))).set j (.im (b m))) (· = f m))
    (hij : i ≠ j := by decide) (h1 : X.N[i]? = some x := by rfl) (h2 : X.N[j]? = some y := by rfl) (hx : ∀ s H C cl fp, Loc (bk X scope s H C cl fp).env.scope x := by first | (intros; exact .inl rfl) | (intros; exact .inr rfl)) (hf : ∀ s H C cl fp, (bk X scope s H C cl fp).fn x = true ∨ (bk X scope s H C cl fp).env.scope.names.lookup x = some .local := by first | (intros; exact .inl rfl) | (intros; exact .inr rfl))
    (hx2 : ∀ s H C cl fp, Loc (bk X scope s H C cl fp).env.scope y := by first | (intros; exact .inl rfl) | (intros; exact .inr rfl)) (hf2 : ∀ s H C cl fp, (bk X scope s H C cl fp).fn y = true ∨ (bk X scope s H C cl fp).env.scope.names.lookup y = some .local := by first | (intros; exact .inl rfl) | (intros; exact .inr rfl))
    (hs : ∀ x, foldedSetIterable iter X.env x = pure x := by intro _; rfl) :
    EV Θ X (.ListComp elt [⟨.Tuple [.Name x px, .Name y py] kk pt, iter, ifs, 0⟩] scope pos) δ (· = .lst (((List.range n).filter kp).map f)) :=
  (ev_lc (own := [(x, i), (y, j)]) (P := fun m d => d = f m) xo hi ok hn (fun m hm σ bv G h => hw2 hij σ bv h) (fun s H C cl fp => pg_tup xo.calm (pgs_cons (pg_name xo.nd h1 (hx s H C cl fp) (hf s H C cl fp)) (pgs_cons (pg_name xo.nd h2 (hx2 s H C cl fp) (hf2 s H C cl fp)) pgs_nil rfl) rfl) rfl rfl)
    (fun m hm s H C cl fp => ht m hm s H C cl fp (bk_ok xo)) (fun m hm hk s H C cl fp => he m hm hk s H C cl fp (bk_ok xo)) hs).imp fun d ⟨l, e, a⟩ => by rw [e, a.det]
/-! ### generator expressions -/
def gnC (N : List Str) (sc scope : Scope) (own : List (Str × Nat)) : Bool :=
  blkC N sc scope own && !scope.isCoroutine && (scope.names.all fun y => !decide (y.2 = .cell)) && decide (scope.names.lookup (".0" : Str) = some NameKind.local)
theorem gnOk_by {N : List Str} {sc scope : Scope} {own : List (Str × Nat)} (h : gnC N sc scope own = true) : GnOk N sc scope own := by
  unfold gnC at h
  simp only [Bool.and_eq_true, Bool.not_eq_true', List.all_eq_true, decide_eq_true_eq, decide_eq_false_iff_not] at h
  exact ⟨blkOk_by h.1.1.1, h.1.1.2, h.1.2, h.2⟩
section
variable {c P : Addr} {kr : Nat} {f : Nat → Bool} {gpos p : Pos} {b : Nat → D}
theorem any1 (j : Nat) (xo : XOk Θ X) (T : Tx Θ) (GT : GenT Θ c P) (hcode : X.env.code = .ref c) (hr : Room (kr + 1) X.A) (hi : EI Θ X (.Name x px) iter δ (gName j) n (fun i => [(j, b i)])) (ok : GnOk X.N X.env.scope scope [(x, j)])
    (he : ∀ i, i < n → ∀ s H L code fp, XOk Θ (gCx X s H (gEnv X scope L code) fp) → Room kr (gCx X s H (gEnv X scope L code) fp).A → EV Θ (gCx X s H (gEnv X scope L code) fp) elt ((δ.set j .no).set j (.im (b i))) (· = .bl (f i)))
    (hj : X.N[j]? = some x := by rfl) (hx : ∀ s H L code fp, Loc (gCx X s H (gEnv X scope L code) fp).env.scope x := by first | (intros; exact .inl rfl) | (intros; exact .inr rfl)) (hf : ∀ s H L code fp, (gCx X s H (gEnv X scope L code) fp).fn x = true ∨ (gCx X s H (gEnv X scope L code) fp).env.scope.names.lookup x = some .local := by first | (intros; exact .inr rfl) | (intros; exact .inl rfl))
    (hgl : Gl X "any" := by rfl) (hs : ∀ x, genFold iter X.env x = pure x := by intro _; rfl)
    (hst : starEach [.GeneratorExp elt [⟨.Name x px, iter, [], 0⟩] scope gpos] X.env = (false, eval (.GeneratorExp elt [⟨.Name x px, iter, [], 0⟩] scope gpos) X.env) :: starEach [] X.env := by rfl) :
    EV Θ X (.Call (.Name "any" p) [.GeneratorExp elt [⟨.Name x px, iter, [], 0⟩] scope gpos] [] pos) δ (· = .bl ((List.range n).any f)) :=
  ev_any xo T GT hcode hr hi ok (fun i hi σ bv G h => hw1 σ bv h) (fun s H L code fp => pg_name xo.nd hj (hx s H L code fp) (hf s H L code fp)) he hgl hs hst
theorem all2 {kk : Nat} {pt : Pos} (i j : Nat) (xo : XOk Θ X) (T : Tx Θ) (GT : GenT Θ c P) (hcode : X.env.code = .ref c) (hr : Room (kr + 1) X.A) (hi : EI Θ X (.Tuple [.Name x px, .Name y py] kk pt) iter δ (gTup X.K 2 (gCons (gName i) (gCons (gName j) gNil))) n (fun m => [(i, .int (m : Int)), (j, b m)])) (ok : GnOk X.N X.env.scope scope [(x, i), (y, j)])
    (he : ∀ m, m < n → ∀ s H L code fp, XOk Θ (gCx X s H (gEnv X scope L code) fp) → Room kr (gCx X s H (gEnv X scope L code) fp).A → EV Θ (gCx X s H (gEnv X scope L code) fp) elt ((((δ.set j .no).set i .no).set i (.im (.int (m : Int)))).set j (.im (b m))) (· = .bl (f m)))
    (hij : i ≠ j := by decide) (h1 : X.N[i]? = some x := by rfl) (h2 : X.N[j]? = some y := by rfl) (hx : ∀ s H L code fp, Loc (gCx X s H (gEnv X scope L code) fp).env.scope x := by first | (intros; exact .inl rfl) | (intros; exact .inr rfl)) (hf : ∀ s H L code fp, (gCx X s H (gEnv X scope L code) fp).fn x = true ∨ (gCx X s H (gEnv X scope L code) fp).env.scope.names.lookup x = some .local := by first | (intros; exact .inr rfl) | (intros; exact .inl rfl))
    (hx2 : ∀ s H L code fp, Loc (gCx X s H (gEnv X scope L code) fp).env.scope y := by first | (intros; exact .inl rfl) | (intros; exact .inr rfl)) (hf2 : ∀ s H L code fp, (gCx X s H (gEnv X scope L code) fp).fn y = true ∨ (gCx X s H (gEnv X scope L code) fp).env.scope.names.lookup y = some .local := by first | (intros; exact .inr rfl) | (intros; exact .inl rfl))
    (hgl : Gl X "all" := by rfl) (hs : ∀ x, genFold iter X.env x = pure x := by intro _; rfl)
    (hst : starEach [.GeneratorExp elt [⟨.Tuple [.Name x px, .Name y py] kk pt, iter, [], 0⟩] scope gpos] X.env = (false, eval (.GeneratorExp elt [⟨.Tuple [.Name x px, .Name y py] kk pt, iter, [], 0⟩] scope gpos) X.env) :: starEach [] X.env := by rfl) :
    EV Θ X (.Call (.Name "all" p) [.GeneratorExp elt [⟨.Tuple [.Name x px, .Name y py] kk pt, iter, [], 0⟩] scope gpos] [] pos) δ (· = .bl ((List.range n).all f)) :=
  ev_all xo T GT hcode hr hi ok (fun m hm σ bv G h => hw2 hij σ bv h) (fun s H L code fp => pg_tup rfl (pgs_cons (pg_name xo.nd h1 (hx s H L code fp) (hf s H L code fp)) (pgs_cons (pg_name xo.nd h2 (hx2 s H L code fp) (hf2 s H L code fp)) pgs_nil rfl) rfl) rfl rfl) he hgl hs hst
end
end
/-! ### defs whose code object is known -/
section
variable {Θ : Th} {x qual : Str} {st : Stmt} {f c : Addr} {fd : FuncData} {N ps : List Str} {k n : Nat} {R : List D → D → Prop} {RX : List D → Addr → Prop}
/-- a def by its body, its code object at c -/
theorem fn_okC (F : Fun Θ.K x qual st f fd) (hc : fd.code = .ref c) (S : FnScope N ps (defScope st)) (hn : ps.length = n)
    (h1 : ∀ (A : Around) (outer : List Env) (s : Shared) (H : Hp) (E : XK) (ds : List D) (d : D), Room k (A.deeper (envOfC qual (defScope st) s.heap.objs.size f (.ref c))) → ds.length = n → R ds d →
      SV Θ (cxP Θ N qual (defScope st) f (.ref c) A outer s H E) (defBody st) (δ0 N ds) (fun _ => False) (· = d) (fun _ => False))
    (h2 : ∀ (A : Around) (outer : List Env) (s : Shared) (H : Hp) (E : XK) (ds : List D) (cx : Addr), Room k (A.deeper (envOfC qual (defScope st) s.heap.objs.size f (.ref c))) → ds.length = n → RX ds cx →
      SV Θ (cxP Θ N qual (defScope st) f (.ref c) A outer s H E) (defBody st) (δ0 N ds) (fun _ => False) (fun _ => False) (· = cx)) :
    FnOk Θ.P Θ.w Θ.K Θ.mg Θ.base (L2.CX Θ.P Θ.w) (k + 1) f fd ps (PSp Θ n R RX) := by
  obtain ⟨oc, od, kV, doc, pm, an, cdv, ct, osl, rfl, lk, hcd⟩ := F.ex
  obtain rfl : cdv = .ref c := hc
  refine fn_of lk hcd S (fun vs H Q E h => by rw [hn]; exact h.1) fun A outer s H vs Q E hr h => ?_
  obtain ⟨hl, G, ds, hs, r, h⟩ := h
  have hl2 : ds.length = n := by rw [← r.length]; exact hl
  obtain ⟨S0, O0⟩ := stOk_start (N := N) hs r
  have tk : Takes (cxP Θ N qual (defScope st) f (.ref c) A outer s H E) (fun cls d _ H => E cls d H) := takes_of rfl rfl rfl rfl
  rcases h with ⟨d, hR, q⟩ | ⟨c', hR, q⟩
  · exact ⟨_, pss_can, h1 A outer s H E ds d hr hl2 hR none G H G H _ _ E tk S0 O0 (fun _ _ _ _ _ _ _ z => z.elim) (fun v d G' H' e r p => q v d G' H' e.stp e.hs r p) (fun _ _ _ _ z => z.elim)⟩
  · exact ⟨_, pss_can, h2 A outer s H E ds c' hr hl2 hR none G H G H _ _ E tk S0 O0 (fun _ _ _ _ _ _ _ z => z.elim) (fun _ _ _ _ _ _ z => z.elim) (fun c' G' H' e p => by rw [p]; exact q G' H' e.stp e.hs)⟩
end
end PM

/-! Lists by places; dict, len of a dict. -/
namespace PM
open PySem PySem.Spec PyProof.Rows L2

theorem map_range_get {α β : Type} (l : List α) (z : α) (F : α → β) : (List.range l.length).map (fun i => F (l.getD i z)) = l.map F := by
  refine List.ext_getElem (by simp) fun i h1 h2 => ?_
  have h : i < l.length := by simpa using h2
  simp [List.getD_eq_getElem?_getD, List.getElem?_eq_getElem h]
theorem map_range_all {α β : Type} (l : List α) (z : α) (F : α → β) : ((List.range l.length).filter fun _ => true).map (fun i => F (l.getD i z)) = l.map F := by
  rw [List.filter_eq_self.mpr fun _ _ => rfl]
  exact map_range_get l z F
theorem filter_range_get {α β : Type} (l : List α) (z : α) (p : α → Bool) (F : α → β) : ((List.range l.length).filter fun i => p (l.getD i z)).map (fun i => F (l.getD i z)) = (l.filter p).map F := by
  induction l with
  | nil => rfl
  | cons a l ih =>
    rw [List.length_cons, List.range_succ_eq_map, List.filter_cons, List.filter_map, List.filter_cons]
    have e : ((fun i => p ((a :: l).getD i z)) ∘ Nat.succ) = fun i => p (l.getD i z) := by funext i; simp
    have e0 : p ((a :: l).getD 0 z) = p a := by simp
    rw [e, e0]
    by_cases h : p a = true
    · rw [if_pos h, if_pos h, List.map_cons, List.map_cons, List.map_map, ← ih]
      congr 1
    · rw [if_neg h, if_neg h, List.map_map, ← ih]
      congr 1
theorem any_range_get {α : Type} (l : List α) (z : α) (p : α → Bool) : (List.range l.length).any (fun i => p (l.getD i z)) = l.any p := by
  have h := congrArg (fun m : List Bool => m.any id) (map_range_get l z p)
  simp only [List.any_map] at h
  exact h
theorem all_range_get {α : Type} (l : List α) (z : α) (p : α → Bool) : (List.range l.length).all (fun i => p (l.getD i z)) = l.all p := by
  have h := congrArg (fun m : List Bool => m.all id) (map_range_get l z p)
  simp only [List.all_map] at h
  exact h
theorem getD_map {α : Type} (l : List α) (z : α) (F : α → D) {i : Nat} (h : i < l.length) : (l.map F).getD i .non = F (l.getD i z) := by
  simp [List.getD_eq_getElem?_getD, List.getElem?_eq_getElem h]
theorem getD_mem {α : Type} (l : List α) (z : α) {i : Nat} (h : i < l.length) : l.getD i z ∈ l := by
  simp [List.getD_eq_getElem?_getD, List.getElem?_eq_getElem h]
theorem get_getD {α : Type} (l : List α) (z : α) {i : Nat} (h : i < l.length) : l[i]? = some (l.getD i z) := by
  simp [List.getD_eq_getElem?_getD, List.getElem?_eq_getElem h]
section
variable {Θ : Th} {X : Cx} {a b c e : Expr} {es : List Expr} {δ : List SD} {pos p : Pos}
/-- dict(pairs) -/
theorem dictL {ps : List (Int × Int)} {dl : List D} (xo : XOk Θ X) (T : Tx Θ) (h : EV Θ X a δ (· = .lst dl)) (hd : dl = ps.map fun p => D.tup [.int p.1, .int p.2]) (hg : Gl X "dict" := by rfl) (hs : starEach [a] X.env = (false, eval a X.env) :: starEach [] X.env := by rfl) (hpl : (backTo pos (starEach [] X.env)).any (·.1) = false := by rfl) :
    EV Θ X (.Call (.Name "dict" p) [a] [] pos) δ (· = .dic (mergeL ps)) :=
  ev_callTy (call_dictP xo.calm) hg (xo.mg ▸ T.dict) PyProof.Rows.boot_dict (ea_c h ea_nil hs) (by rw [hd, ← xo.K]; exact cad_dict) (by decide) (by decide) hs hpl
theorem lenD {kvs : List (Int × Int)} (xo : XOk Θ X) (T : Tx Θ) (h : EV Θ X a δ (· = .dic kvs)) (hg : Gl X "len" := by rfl) (hs : starEach [a] X.env = (false, eval a X.env) :: starEach [] X.env := by rfl) (hpl : (backTo pos (starEach [] X.env)).any (·.1) = false := by rfl) :
    EV Θ X (.Call (.Name "len" p) [a] [] pos) δ (· = .int (kvs.length : Int)) :=
  ev_callB call_lenD hg (xo.mg ▸ T.len) boot_len (ea_c h ea_nil hs) cad_lenD (by decide) (by decide) hs hpl
end
/-! ### == and != -/
section
variable {Θ : Th}
theorem opd_eqI {i j : Int} : OpD Θ rEq (.int i) (.int j) (· = .bl (decide (i = j))) := fun {G H x y Q} hs rx ry k => by
  have h := opd_eqF (Θ := Θ) (dx := .int i) (dy := .int j) rfl rfl rfl hs rx ry (Q := Q)
  refine h fun v d G' H' s' h' r e => k v d G' H' s' h' r ?_
  rw [e]
  congr 1
  exact decide_eq_decide.mpr ⟨fun h => by cases h; rfl, fun h => by rw [h]⟩
theorem opd_neI {i j : Int} : OpD Θ rNe (.int i) (.int j) (· = .bl (!decide (i = j))) := fun {G H x y Q} hs rx ry k => by
  have h := opd_neF (Θ := Θ) (dx := .int i) (dy := .int j) rfl rfl rfl hs rx ry (Q := Q)
  refine h fun v d G' H' s' h' r e => k v d G' H' s' h' r ?_
  rw [e]
  congr 2
  exact decide_eq_decide.mpr ⟨fun h => by cases h; rfl, fun h => by rw [h]⟩
theorem optV_inj {o p : Option Int} : (match o with | none => V.non | some i => V.int i) = (match p with | none => V.non | some i => V.int i) ↔ o = p := by
  cases o <;> cases p <;> simp
theorem scal_opt (o p : Option Int) : scal (match o with | none => V.non | some i => V.int i) (match p with | none => V.non | some i => V.int i) = true := by
  cases o <;> cases p <;> rfl
theorem opd_eqO (o p : Option Int) : OpD Θ rEq (optD o) (optD p) (· = .bl (decide (o = p))) := fun {G H x y Q} hs rx ry k => by
  have h := opd_eqF (Θ := Θ) (flat_opt o) (flat_opt p) (scal_opt o p) hs rx ry (Q := Q)
  refine h fun v d G' H' s' h' r e => k v d G' H' s' h' r ?_
  rw [e]
  congr 1
  exact decide_eq_decide.mpr optV_inj
theorem opd_neO (o p : Option Int) : OpD Θ rNe (optD o) (optD p) (· = .bl (!decide (o = p))) := fun {G H x y Q} hs rx ry k => by
  have h := opd_neF (Θ := Θ) (flat_opt o) (flat_opt p) (scal_opt o p) hs rx ry (Q := Q)
  refine h fun v d G' H' s' h' r e => k v d G' H' s' h' r ?_
  rw [e]
  congr 2
  exact decide_eq_decide.mpr optV_inj
theorem opd_neB {i j : Bool} : OpD Θ rNe (.bl i) (.bl j) (· = .bl (i != j)) := fun {G H x y Q} hs rx ry k => by
  have h := opd_neF (Θ := Θ) (dx := .bl i) (dy := .bl j) rfl rfl rfl hs rx ry (Q := Q)
  refine h fun v d G' H' s' h' r e => k v d G' H' s' h' r ?_
  rw [e]
  cases i <;> cases j <;> rfl
end
end PM

/-! check_list, check_match and the defs around. -/
namespace PM
open PySem PySem.Spec PyProof.Rows L2
def okL (l : List Int) (n : Int) : Prop := l.Nodup ∧ ∀ i ∈ l, 0 ≤ i ∧ i < n
instance (l : List Int) (n : Int) : Decidable (okL l n) := by unfold okL; infer_instance
def R_clist (ds : List D) (d : D) : Prop := ∃ (l : List Int) (n : Int), ds = [.tup (l.map .int), .int n] ∧ l.length ≤ 1000 ∧ okL l n ∧ d = .tup (l.map .int)
def X_clist (CB : Addr) (ds : List D) (c : Addr) : Prop := ∃ (l : List Int) (n : Int), ds = [.tup (l.map .int), .int n] ∧ l.length ≤ 1000 ∧ ¬ okL l n ∧ c = CB
abbrev N_clist : List Str := ["order", "many", "found", "one"]
theorem sc_clist : FnScope N_clist ["order", "many"] (defScope s_check_list) := ⟨rfl, rfl, rfl, by decide +kernel, rfl, by decide +kernel, by decide +kernel⟩
section
variable {Θ : Th} {f c P CB : Addr} {fd : FuncData}
theorem sv_clist (T : Tx Θ) (GT : GenT Θ c P) (eB : ExC Θ "BadWish" CB) {A : Around} {outer : List Env} {s : Shared} {H : Hp} {E : XK} {l : List Int} {n : Int} (hl : l.length ≤ 1000) (hr : Room 1 (A.deeper (envOfC "check_list" (defScope s_check_list) s.heap.objs.size f (.ref c)))) :
    SV Θ (cxP Θ N_clist "check_list" (defScope s_check_list) f (.ref c) A outer s H E) (defBody s_check_list) (δ0 N_clist [.tup (l.map .int), .int n]) (fun _ => False) (fun d => okL l n ∧ d = .tup (l.map .int)) (fun c => ¬ okL l n ∧ c = CB) := by
  have xo := xo_cx (Θ := Θ) (qual := "check_list") (f := f) (cd := .ref c) (A := A) (outer := outer) (s := s) (H := H) (E := E) sc_clist
  have nl : (l.map D.int).length = l.length := List.length_map _
  have at_ : ∀ i, i < (l.map D.int).length → (l.map D.int).getD i .non = .int (l.getD i 0) := fun i hi => getD_map l 0 D.int (by rw [← nl]; exact hi)
  refine set1 2 xo (tupT T (v 0)) ?_
  refine sv_ifRet (k := !decide (((mergeL (l.map fun x => (x, 1))).length : Int) = (l.length : Int))) (tst2 (da := .int ((mergeL (l.map fun x => (x, 1))).length : Int)) (db := .int (l.length : Int)) op_ne (lenD xo T (dictL xo T (lc1f (n := (l.map D.int).length) (kp := fun _ => true) (f := fun i => .tup [(l.map D.int).getD i .non, .int 1]) 3 xo (ei_tup (v 2)) (blkOk_by (N := N_clist) (sc := defScope s_check_list) (by decide +kernel)) (by rw [nl]; exact hl)
      (fun _ _ _ _ _ _ _ _ => ets_nil) fun i hi _ s H C cl fp xb => ev_tup (ea_c (v 3) (ea_c ev_int ea_nil))) ?_)) ((lenT T (v 2)).eq (by rw [nl])) opd_neI) (fun hk => ?_) fun hk => ?_
  · rw [map_range_all (l.map D.int) .non fun d => D.tup [d, .int 1], List.map_map, List.map_map]
    rfl
  · refine sv_raiseC xo eB ⟨fun h => ?_, rfl⟩
    have e : mergeL (l.map fun x => (x, (1 : Int))) = l.map fun x => (x, (1 : Int)) := mergeL_id (by rw [List.map_map]; simpa [Function.comp_def] using h.1)
    rw [e] at hk
    simp at hk
  have nd : l.Nodup := by
    by_cases h : l.Nodup
    · exact h
    · have := mergeL_len h
      simp at hk
      omega
  have fe : ∀ i, i < (l.map D.int).length → ∀ (X : Cx) (δ : List SD) (e1 : Expr) (h : EV Θ X e1 δ (· = (l.map D.int).getD i .non)), EV Θ X e1 δ (· = .int (l.getD i 0)) := fun i hi X δ e1 h => h.eq (at_ i hi)
  refine sv_ifRet (k := l.any fun x => !(decide (0 ≤ x) && decide (x < n))) (et_val ((any1 (kr := 0) (n := (l.map D.int).length) (f := fun i => !(decide (0 ≤ l.getD i 0) && decide (l.getD i 0 < n))) 3 xo T GT rfl hr (ei_tup (v 2)) (gnOk_by (N := N_clist) (sc := defScope s_check_list) (by decide +kernel)) fun i hi s H L code fp xg hrg =>
      ev_not (ev_chain (da := .int 0) (db := .int (l.getD i 0)) (d := .int n) (k := decide (0 ≤ l.getD i 0)) (m := decide (l.getD i 0 < n)) op_le op_lt ev_int ((v 3).eq (at_ i hi)) (fun _ => v 1) (opd_I0 rfl) (fun _ => opd_I0 rfl))).eq ?_)) (fun hk => ?_) fun hk => ?_
  · rw [nl, any_range_get l 0 fun x => !(decide (0 ≤ x) && decide (x < n))]
  · refine sv_raiseC xo eB ⟨fun h => ?_, rfl⟩
    obtain ⟨x, hx, hb⟩ := List.any_eq_true.mp hk
    have := h.2 x hx
    simp [this] at hb
  · refine sv_ret (v 2) fun d e => ⟨⟨nd, fun x hx => ?_⟩, e⟩
    have := List.any_eq_false.mp hk x hx
    simpa using this
theorem ok_clist (T : Tx Θ) (GT : GenT Θ c P) (eB : ExC Θ "BadWish" CB) (F : Fun Θ.K "check_list" "check_list" s_check_list f fd) (hc : fd.code = .ref c) : FnOk Θ.P Θ.w Θ.K Θ.mg Θ.base (L2.CX Θ.P Θ.w) 2 f fd ["order", "many"] (PSp Θ 2 R_clist (X_clist CB)) := by
  refine fn_okC F hc sc_clist rfl (fun A outer s H E ds d hr hl hR => ?_) (fun A outer s H E ds cx hr hl hR => ?_)
  · obtain ⟨l, n, rfl, hl, hok, rfl⟩ := hR
    exact fun M G0 H0 G H σ Dn E tk S O q r ex => sv_clist T GT eB hl hr M G0 H0 G H σ Dn E tk S O q (fun v d G' H' e rr p => r v d G' H' e rr p.2) fun c' G' H' e p => (p.1 hok).elim
  · obtain ⟨l, n, rfl, hl, hok, rfl⟩ := hR
    exact fun M G0 H0 G H σ Dn E tk S O q r ex => sv_clist T GT eB hl hr M G0 H0 G H σ Dn E tk S O q (fun v d G' H' e rr p => (hok p.1).elim) fun c' G' H' e p => ex c' G' H' e p.2
end
end PM

/-! What the defs of the program give, in plain terms. -/
namespace PM
open PySem PySem.Spec PyProof.Rows L2
abbrev Ma := List (Option Int)
def nth (l : List (List Int)) (i : Int) : List Int := l.getD i.toNat []
def nthI (l : List Int) (i : Int) : Int := l.getD i.toNat 0
def nthM (m : Ma) (i : Int) : Option Int := m.getD i.toNat none
/-- i is a place of l -/
def Ix {α : Type} (l : List α) (i : Int) : Prop := 0 ≤ i ∧ i < l.length
structure MkOk (as rs : List (List Int)) (ss : List Int) : Prop where
  la : as.length ≤ 20
  lr : rs.length ≤ 20
  ls : ss.length = rs.length
  a : ∀ l ∈ as, okL l rs.length ∧ l.length ≤ 20
  r : ∀ l ∈ rs, okL l as.length ∧ l.length ≤ 20
/-- a match of that market -/
structure MtOk (as rs : List (List Int)) (m : Ma) : Prop where
  len : m.length = as.length
  rm : ∀ o ∈ m, ∀ r, o = some r → Ix rs r
def thoseL (m : Ma) (r : Int) : List Int := ((List.range m.length).filter fun i : Nat => decide (m.getD i none = some r)).map fun i : Nat => (i : Int)
def likesB (as rs : List (List Int)) (i r : Int) : Bool := decide (r ∈ nth as i) && decide (i ∈ nth rs r)
def unwL (as rs : List (List Int)) (m : Ma) : List (Int × Int) :=
  ((List.range m.length).filter fun i : Nat => (m.getD i none).isSome && !likesB as rs i ((m.getD i none).getD 0)).map fun i : Nat => ((i : Int), (m.getD i none).getD 0)
def wtB (rs : List (List Int)) (ss : List Int) (m : Ma) (r a : Int) : Bool :=
  if !decide (a ∈ nth rs r) || decide (nthI ss r = 0) then false
  else if ((thoseL m r).length : Int) < nthI ss r then true
  else (thoseL m r).any fun o => betterB (nth rs r) (some a) (some o)
def blkRow (as rs : List (List Int)) (ss : List Int) (m : Ma) (i : Nat) : List (Int × Int) :=
  ((aheadL (as.getD i []) (m.getD i none)).filter fun r => !decide (some r = m.getD i none) && wtB rs ss m r i).map fun r => ((i : Int), r)
def blkL (as rs : List (List Int)) (ss : List Int) (m : Ma) : List (Int × Int) := ((List.range as.length).map (blkRow as rs ss m)).flatten
def pairsL (as rs : List (List Int)) : List (Int × Int) :=
  ((List.range as.length).map fun i => ((as.getD i []).filter fun r => decide ((i : Int) ∈ nth rs r)).map fun r => ((i : Int), r)).flatten
def dPr (p : Int × Int) : D := .tup [.int p.1, .int p.2]
def ranksL (as : List (List Int)) (m : Ma) : List (Option Int) := (List.range as.length).map fun i => rnk (as.getD i []) (m.getD i none)
def goodB (as : List (List Int)) (m1 m2 : Ma) : Bool := (List.range as.length).all fun i => !betterB (as.getD i []) (m2.getD i none) (m1.getD i none)
def fillL (rs : List (List Int)) (m : Ma) : List Int := (List.range rs.length).map fun r : Nat => ((thoseL m r).length : Int)
end PM

/-! The defs over markets. -/
namespace PM
open PySem PySem.Spec PyProof.Rows L2
/-- the methods of Wish -/
structure WiM (Θ : Th) : Prop where
  has : Mth Θ Θ.CW "has" 1 2 R_has NoX
  rank : Mth Θ Θ.CW "rank" 1 2 R_rank NoX
  better : Mth Θ Θ.CW "better" 2 3 R_better NoX
  ahead : Mth Θ Θ.CW "ahead_of" 2 2 R_ahead NoX
section
variable {Θ : Th} {X : Cx} {a b c e : Expr} {es : List Expr} {δ : List SD} {pos p : Pos} {as rs : List (List Int)} {ss : List Int} {m : Ma}
/-- a list of wishes, at a number -/
theorem ixW {l : List (List Int)} {i : Int} (ha : EV Θ X a δ (· = .lst (l.map .wish))) (hb : EV Θ X b δ (· = .int i)) (hi : Ix l i) (hK : Θ.K = X.K := by rfl) (hs : PlainIx b := by exact fun _ _ => rfl) : EV Θ X (.Subscript a b pos) δ (· = .wish (nth l i)) :=
  ixL (j := i.toNat) ha hb (by have := hi.1; omega) (by
    have h : i.toNat < l.length := by have := hi.1; have := hi.2; omega
    rw [List.getElem?_map, get_getD l [] h]
    rfl) hK hs
theorem ixI {l : List Int} {i : Int} (ha : EV Θ X a δ (· = .tup (l.map .int))) (hb : EV Θ X b δ (· = .int i)) (hi : Ix l i) (hK : Θ.K = X.K := by rfl) (hs : PlainIx b := by exact fun _ _ => rfl) : EV Θ X (.Subscript a b pos) δ (· = .int (nthI l i)) :=
  ixT (j := i.toNat) ha hb (by have := hi.1; omega) (by
    have h : i.toNat < l.length := by have := hi.1; have := hi.2; omega
    rw [List.getElem?_map, get_getD l 0 h]
    rfl) hK hs
theorem ixM {i : Int} (ha : EV Θ X a δ (· = .tup (m.map optD))) (hb : EV Θ X b δ (· = .int i)) (hi : Ix m i) (hK : Θ.K = X.K := by rfl) (hs : PlainIx b := by exact fun _ _ => rfl) : EV Θ X (.Subscript a b pos) δ (· = optD (nthM m i)) :=
  ixT (j := i.toNat) ha hb (by have := hi.1; omega) (by
    have h : i.toNat < m.length := by have := hi.1; have := hi.2; omega
    rw [List.getElem?_map, get_getD m none h]
    rfl) hK hs
end
section
variable {Θ : Th} {f c P : Addr} {fd : FuncData}
/-! ### those_in -/
def R_those (ds : List D) (d : D) : Prop := ∃ (m : Ma) (r : Int), ds = [.tup (m.map optD), .int r] ∧ m.length ≤ 1000 ∧ d = .tup ((thoseL m r).map .int)
abbrev N_those : List Str := ["match", "room", "asker", "one"]
theorem sc_those : FnScope N_those ["match", "room"] (defScope s_those_in) := ⟨rfl, rfl, rfl, by decide +kernel, rfl, by decide +kernel, by decide +kernel⟩
theorem ok_those (T : Tx Θ) (F : Fun Θ.K "those_in" "those_in" s_those_in f fd) : FnOk Θ.P Θ.w Θ.K Θ.mg Θ.base (L2.CX Θ.P Θ.w) 1 f fd ["match", "room"] (PSp Θ 2 R_those NoX) := by
  refine fn_ok F sc_those rfl (fun cdv A outer s H E ds d hr hl hR => ?_) (fun _ _ _ _ _ _ _ _ _ _ h => h.elim)
  obtain ⟨m, r, rfl, hm, rfl⟩ := hR
  have xo := xo_cx (Θ := Θ) (qual := "those_in") (f := f) (cd := cdv) (A := A) (outer := outer) (s := s) (H := H) (E := E) sc_those
  have nl : (m.map optD).length = m.length := List.length_map _
  refine sv_ret (tupL T (lc2f (n := (m.map optD).length) (b := fun i => (m.map optD).getD i .non) (kp := fun i => decide (m.getD i none = some r)) (f := fun i => .int (i : Int)) 2 3 xo (ei_enumT T (v 0)) (blkOk_by (N := N_those) (sc := defScope s_those_in) (by decide +kernel)) (by rw [nl]; exact hm)
    (fun i hi s H C cl fp xb => ets_one (tst2 (da := optD (m.getD i none)) (db := optD (some r)) op_eq ((v 3).eq (getD_map m none optD (by rw [← nl]; exact hi))) (v 1) (opd_eqO _ _))) fun i hi _ s H C cl fp xb => v 2)) fun d e => ?_
  rw [e, nl]
  unfold thoseL
  rw [List.map_map]
  rfl
/-! ### likes -/
def R_likes (ds : List D) (d : D) : Prop := ∃ as rs ss i r, ds = [.mkt as rs ss, .int i, .int r] ∧ Ix as i ∧ Ix rs r ∧ d = .bl (likesB as rs i r)
abbrev N_likes : List Str := ["self", "asker", "room"]
theorem sc_likes : FnScope N_likes N_likes (defScope s_M_likes) := ⟨rfl, rfl, rfl, by decide +kernel, rfl, by decide +kernel, by decide +kernel⟩
theorem ok_likes (T : Tx Θ) (W : WiM Θ) (F : Fun Θ.K "likes" "Market.likes" s_M_likes f fd) : FnOk Θ.P Θ.w Θ.K Θ.mg Θ.base (L2.CX Θ.P Θ.w) 2 f fd N_likes (PSp Θ 3 R_likes NoX) := by
  refine fn_ok F sc_likes rfl (fun cdv A outer s H E ds d hr hl hR => ?_) (fun _ _ _ _ _ _ _ _ _ _ h => h.elim)
  obtain ⟨as, rs, ss, i, r, rfl, hi, hr2, rfl⟩ := hR
  have xo := xo_cx (Θ := Θ) (qual := "Market.likes") (f := f) (cd := cdv) (A := A) (outer := outer) (s := s) (H := H) (E := E) sc_likes
  refine sv_ret (ev_and (k := decide (r ∈ nth as i)) (m := decide (i ∈ nth rs r)) (ev_meth xo W.has hr (by decide) (ixW (ev_askers xo T (v 0)) (v 1) hi) noFld_wish (ea_c (v 2) ea_nil) ⟨_, r, rfl, rfl⟩)
    fun _ => ev_one (ev_meth xo W.has hr (by decide) (ixW (ev_rooms xo T (v 0)) (v 2) hr2) noFld_wish (ea_c (v 1) ea_nil) ⟨_, i, rfl, rfl⟩)) fun d e => e
end
end PM

/-! Lists that change. -/
namespace PM
open PySem PySem.Spec PyProof.Rows L2
section
variable {Θ : Th} {X : Cx} {tg iter elt : Expr} {ifs : List Expr} {scope : Scope} {δ : List SD} {g : TG} {n : Nat} {bd : Nat → List (Nat × D)} {own : List (Str × Nat)} {kp : Nat → Bool} {P : Nat → D → Prop} {pos : Pos}
theorem lcDm {wi : TI} {vs : List Nat} (hi : ∀ (M : Option Addr) (G0 H0 G H : Hp) (σ : L2.St) (R : It → Hp → Prop), StOk Θ M G0 H0 G H σ δ → (∀ J G' H', StOk Θ M G0 H0 G' H' σ δ → Gr G G' → ItD Θ J g n bd G' → R J H') → wi σ H R) (hn : n ≤ 1000)
    (hw : ∀ i, i < n → ∀ (σ : L2.St) bv G, Bnd Θ G bv (bd i) → wipe (setV (wipe σ vs) bv) vs = wipe σ vs)
    (ht : ∀ i, i < n → ∀ s H C cl fp, ETs Θ (bk X scope s H C cl fp) ifs (setD (wipeD δ vs) (bd i)) (kp i))
    (he : ∀ i, i < n → kp i = true → ∀ s H C cl fp, EV Θ (bk X scope s H C cl fp) elt (setD (wipeD δ vs) (bd i)) (P i))
    {M : Option Addr} {G0 H0 G H : Hp} {σ : L2.St} {Q : VK} (S : StOk Θ M G0 H0 G H σ δ) (q : ∀ (L : Addr) (vs' : List V) (l : List D) G' H', StOk Θ M G0 H0 G' H' σ δ → Gr G G' → H' L = some (.lst vs') → RepA Θ G' vs' l → G' L = none → M ≠ some L → H0 L = none → (∀ (j : Nat) (ds : List D), δ[j]? = some (SD.mu ds) → σ[j]? ≠ some (some (V.ref L))) → AccR kp P n l → Q (.ref L) H') :
    tLc wi g (tTb X scope ifs) (tEb X scope elt) vs σ H Q := by
  refine hi M G0 H0 G H σ _ S fun J G1 H1 S1 g1 it => fun L hD => ?_
  have hgD : G1 L = none := S1.hs.sub.free hD
  -- at turn i: acc is made
  let Pv : Nat → Hp → Prop := fun i Hi => ∃ (Gi : Hp) (acc : List V) (l : List D), StOk Θ M G1 H1 Gi Hi (wipe σ vs) (wipeD δ vs) ∧ Gr G1 Gi ∧ Gi L = none ∧ Hi L = some (.lst acc) ∧ RepA Θ Gi acc l ∧ AccR kp P i l
  have hMD : M ≠ some L := fun e => by
    have := (S1.dice L e).1
    exact this (S1.stp.some L |> fun f => by
      cases z : H0 L with
      | none => rfl
      | some o => exact absurd hD (f (by rw [z]; simp)))
  have up : ∀ {Gi Hi : Hp} {σ' : L2.St} {δ' : List SD} {o : HO} {xs : List V}, StOk Θ M G1 H1 Gi Hi σ' δ' → Gi L = none → Hi L = some (.lst xs) → (∀ j ds, δ'[j]? = some (SD.mu ds) → σ'[j]? ≠ some (some (V.ref L))) → StOk Θ M G1 H1 Gi (upd Hi L o) σ' δ' := fun {Gi Hi σ' δ' o xs} Si hg hl hm =>
    ⟨Si.stp.mut hD, Si.hs.write hl hg, fun d e => by
      obtain ⟨z1, z2, a, b, c, z3⟩ := Si.dice d e
      exact ⟨z1, z2, a, b, c, by rw [upd_ne fun z => hMD (by rw [e, z])]; exact z3⟩, Si.len, Si.im, fun j ds h => by
      obtain ⟨l, vs', e1, e2, e3, e4, e5⟩ := Si.mu j ds h
      exact ⟨l, vs', e1, by rw [upd_ne fun z => hm j ds h (by rw [← z]; exact e1)]; exact e2, e3, e4, e5⟩, Si.dc, Si.dist⟩
  have noMu : ∀ (j : Nat) (ds : List D), (wipeD δ vs)[j]? = some (SD.mu ds) → (wipe σ vs)[j]? ≠ some (some (V.ref L)) := fun j ds h1 h2 => by
    obtain ⟨l, vs', e1, e2, _⟩ := (S1.wipe vs).mu j ds h1
    rw [e1] at h2
    cases h2
    rw [hD] at e2
    cases e2
  refine ⟨fun i m Hi => m = n - i ∧ i ≤ n ∧ Pv i Hi, ⟨n, by simp, Nat.zero_le _, G1, [], [], ?_, .refl _, hgD, upd_same, .nil, .zero⟩, ?_⟩
  · have S2 := (S1.wipe vs).anew
    refine ⟨S2.stp.mut hD, S2.hs.made hD, fun d e => ?_, S2.len, S2.im, fun j ds h => ?_, S2.dc, S2.dist⟩
    · obtain ⟨z1, z2, a, b, c, z3⟩ := S2.dice d e
      exact ⟨z1, z2, a, b, c, by rw [upd_ne (ne_of_none z3 hD)]; exact z3⟩
    · obtain ⟨l, vs', e1, e2, e3, e4, e5⟩ := S2.mu j ds h
      exact ⟨l, vs', e1, by rw [upd_ne (ne_of_none e2 hD)]; exact e2, e3, e4, e5⟩
  rintro i m Hi ⟨rfl, hle, Gi, acc, l, Si, gi, hgi, hDi, ri, ai⟩
  by_cases hlt : i < n
  · refine .inr ⟨it.go gi Si.hs i hlt, Pv (i + 1), fun H' p' => ⟨n - (i + 1), by omega, rfl, hlt, p'⟩, fun x H2 y => ?_⟩
    refine it.yld gi Si.hs i hlt x H2 y _ _ fun bv G2 s2 h2 hb => ?_
    have S3 := ((Si.anew.pure s2 h2).setB hb)
    refine ⟨hw i hlt σ bv G2 hb, fun s H0' C cl fp => ht i hlt s H0' C cl fp M Gi Hi G2 H2 _ _ S3 fun G3 H3 S4 g3 => ?_⟩
    have d3 : ∀ {G' H' : Hp} {σ' : L2.St} {δ' : List SD}, StOk Θ M Gi Hi G' H' σ' δ' → G' L = none ∧ H' L = some (.lst acc) := fun {G' H' σ' δ'} Z =>
      ⟨by rw [(Z.stp.new L (by rw [hDi]; trivial)).1]; exact hgi, Z.stp.h L _ hDi (fun _ z => by cases z) hMD⟩
    -- the block's slots again
    have reset : ∀ {G' H' : Hp}, StOk Θ M Gi Hi G' H' (setV (wipe σ vs) bv) (setD (wipeD δ vs) (bd i)) → StOk Θ M G1 H1 G' H' (wipe σ vs) (wipeD δ vs) := fun {G' H'} Z =>
      Si.back (Si.anew.step Z.stp Z.hs fun d e => (Z.dice d e).2)
    cases hk : kp i with
    | false =>
      rw [if_neg Bool.false_ne_true]
      exact ⟨G3, acc, l, reset S4, (gi.trans s2.g).trans g3, (d3 S4).1, (d3 S4).2, (ri.gr s2.g).gr g3, .skip hk ai⟩
    | true =>
      rw [if_pos rfl]
      refine fun s H0' C cl fp => he i hlt hk s H0' C cl fp M Gi Hi G3 H3 _ _ S4 fun v d G4 H4 S5 g4 r4 p4 => ?_
      refine ⟨acc, (d3 S5).2, sz_lt (by rw [ri.length]; exact Nat.le_trans ai.le (by omega)), G4, acc ++ [v], l ++ [d], ?_, ((gi.trans s2.g).trans g3).trans g4, (d3 S5).1, upd_same, (((ri.gr s2.g).gr g3).gr g4).append (.cons r4 .nil), .take hk p4 ai⟩
      exact up (reset S5) (d3 S5).1 (d3 S5).2 noMu
  · have e : i = n := by omega
    subst e
    refine .inl ⟨it.stop gi Si.hs, ?_⟩
    have S6 : StOk Θ M G0 H0 Gi Hi σ δ := S1.step Si.stp Si.hs fun d e => (Si.dice d e).2
    refine q L acc l Gi Hi S6 (g1.trans Si.stp.g) hDi ri hgi hMD ?_ (fun j ds h1 h2 => ?_) ai
    · cases z : H0 L with
      | none => rfl
      | some o => exact absurd hD (S1.stp.some L (by rw [z]; simp))
    · obtain ⟨l', vs', e1, e2, _⟩ := S1.mu j ds h1
      rw [e1] at h2
      cases h2
      rw [hD] at e2
      cases e2
end
section
variable {Θ : Th} {X : Cx} {a b c e o tg iter elt : Expr} {es ifs : List Expr} {rest body : List Stmt} {δ : List SD} {pos p p1 p2 px apos : Pos} {N N1 : List SD → Prop} {P PE : D → Prop} {Ξ : Addr → Prop} {i j n : Nat} {x y : Str} {d : D} {k : Bool} {g : TG} {bd : Nat → List (Nat × D)} {l : List D}
/-- a name is given a list of the def's own -/
theorem give_mu {M : Option Addr} {G0 H0 G H : Hp} {σ : L2.St} {L : Addr} {vs : List V} (S : StOk Θ M G0 H0 G H σ δ) (O : Own H0 σ δ) (hL : H L = some (.lst vs)) (r : RepA Θ G vs l) (hg : G L = none) (hM : M ≠ some L) (h0 : H0 L = none)
    (fr : ∀ (j : Nat) (ds : List D), δ[j]? = some (SD.mu ds) → σ[j]? ≠ some (some (V.ref L))) : StOk Θ M G0 H0 G H (σ.set i (some (.ref L))) (δ.set i (.mu l)) ∧ Own H0 (σ.set i (some (.ref L))) (δ.set i (.mu l)) := by
  refine ⟨S.setMu hL r hg hM fun j ds _ h => fr j ds h, fun j ds l' h1 h2 => ?_⟩
  by_cases hj : i = j
  · subst hj
    have hlt := lt_of_set h1
    rw [List.getElem?_set_self (by rw [S.len]; exact hlt)] at h2
    cases h2
    exact h0
  · rw [List.getElem?_set_ne hj] at h1 h2
    exact O j ds l' h1 h2
/-- x = [..] on one line, a list that changes later -/
theorem sv_setLcM {scope : Scope} {own : List (Str × Nat)} {kp : Nat → Bool} {PL : Nat → D → Prop} {spos : Pos} (xo : XOk Θ X) (hy : X.N[i]? = some x) (hyl : X.env.scope.names.lookup x = some .local)
    (hsw : swapsWith (.ListComp elt [⟨tg, iter, ifs, 0⟩] scope pos) (some (.Name x p1)) spos.line X.env = pure true) (hi : EI Θ X tg iter δ g n bd) (ok : BlkOk X.N X.env.scope scope own) (hn : n ≤ 1000)
    (hw : ∀ i, i < n → ∀ (σ : L2.St) bv G, Bnd Θ G bv (bd i) → wipe (setV (wipe σ (own.map (·.2))) bv) (own.map (·.2)) = wipe σ (own.map (·.2)))
    (hg : ∀ s H C cl fp, PG (bk X scope s H C cl fp) tg g)
    (ht : ∀ i, i < n → ∀ s H C cl fp, ETs Θ (bk X scope s H C cl fp) ifs (setD (wipeD δ (own.map (·.2))) (bd i)) (kp i))
    (he : ∀ i, i < n → kp i = true → ∀ s H C cl fp, EV Θ (bk X scope s H C cl fp) elt (setD (wipeD δ (own.map (·.2))) (bd i)) (PL i))
    (hr : ∀ l, AccR kp PL n l → SV Θ X rest (δ.set i (.mu l)) N P Ξ) (hs : ∀ x, foldedSetIterable iter X.env x = pure x := by intro _; rfl) :
    SV Θ X (.Assign [.Name x p1] (.ListComp elt [⟨tg, iter, ifs, 0⟩] scope pos) spos :: rest) δ N P Ξ := fun M G0 H0 G H σ Dn E tk S O q r ex => by
  obtain ⟨wi, hpi, hi⟩ := hi
  refine .of (pss_cons (ps_setLc (tt := tTb X scope ifs) (te := tEb X scope elt) xo.calm xo.nd hy hyl hsw hpi ok hg (fun s H C cl fp => ⟨fun pins s' σ' H' Q' I h => h s H C cl fp pins s' I⟩) (fun s H C cl fp => ⟨fun pins s' σ' H' Q' I h => h s H C cl fp pins s' I⟩) hs) pss_can) ?_
  show tLc wi g (tTb X scope ifs) (tEb X scope elt) (own.map (·.2)) σ H fun x H1 => gName i x σ H1 (tSs X rest Dn)
  refine lcDm hi hn hw ht he S fun L vs l G1 H1 S1 g1 hL rL hgL hM h0 fr al => ?_
  obtain ⟨S2, O2⟩ := give_mu (i := i) S1 O hL rL hgL hM h0 fr
  exact hr l al M G0 H0 G1 H1 _ Dn E tk S2 O2 (fun σ' δ' G' H' S' O' g n => q σ' δ' G' H' S' O' (g1.trans g) n) r ex
/-- x = [] -/
theorem sv_nilM {p3 : Pos} (xo : XOk Θ X) (hr : SV Θ X rest (δ.set i (.mu [])) N P Ξ) (hi : X.N[i]? = some x := by rfl) (hx : Loc X.env.scope x := by first | exact .inl rfl | exact .inr rfl) (hs : swapsWith (.List [] p3) (some (.Name x p1)) pos.line X.env = pure false := by rfl)
    (hf : X.fn x = true ∨ X.env.scope.names.lookup x = some .local := by first | exact .inl rfl | exact .inr rfl | assumption) : SV Θ X (.Assign [.Name x p1] (.List [] p3) pos :: rest) δ N P Ξ :=
  sv_new xo hi hx (pe_lst pa_nil) (fun M G0 H0 G H σ Q S q => ⟨by show 0 ≤ sizeLine; decide, fun p hp => q G H p [] S (.refl G) hp .nil⟩) hr hs hf
/-- x = list(e), e a list or a tuple -/
theorem sv_listM {e : Expr} {p3 p4 : Pos} (T : Tx Θ) (xo : XOk Θ X) (he : EV Θ X e δ (fun d => d = .lst l ∨ d = .tup l)) (hr : SV Θ X rest (δ.set i (.mu l)) N P Ξ) (hg : Gl X "list" := by rfl) (hi : X.N[i]? = some x := by rfl) (hx : Loc X.env.scope x := by first | exact .inl rfl | exact .inr rfl) (hs : swapsWith (.Call (.Name "list" p4) [e] [] p3) (some (.Name x p1)) pos.line X.env = pure false := by rfl)
    (hf : X.fn x = true ∨ X.env.scope.names.lookup x = some .local := by first | exact .inl rfl | exact .inr rfl | assumption) (hst : starEach [e] X.env = (false, eval e X.env) :: starEach [] X.env := by rfl) (hpl : (backTo p3 (starEach [] X.env)).any (·.1) = false := by rfl) :
    SV Θ X (.Assign [.Name x p1] (.Call (.Name "list" p4) [e] [] p3) pos :: rest) δ N P Ξ :=
  sv_new xo hi hx (pe_callTy call_list_of hg (xo.mg ▸ T.list) boot_list (pa_cons pe_can pa_nil hst) (by decide) (by decide) hst hpl) (fun M G0 H0 G H σ Q S q => by
    refine he M G0 H0 G H σ _ S fun v d G1 H1 S1 g1 r1 p1 => ?_
    rcases p1 with rfl | rfl
    · obtain ⟨a, xs, rfl, e1, q1⟩ := r1.lst_inv
      exact ⟨a, xs, rfl, .inl (.of (S1.hs.sub _ _ e1)), fun p hp => q G1 H1 p xs S1 g1 hp q1⟩
    · obtain ⟨a, xs, rfl, e1, q1⟩ := r1.tup_inv
      exact ⟨a, xs, rfl, .inr (.inl (e1.gr S1.hs.sub)), fun p hp => q G1 H1 p xs S1 g1 hp q1⟩) hr hs hf
/-! ### read -/
theorem ev_lenM (T : Tx Θ) (xo : XOk Θ X) (hδ : δ[i]? = some (.mu l)) (hN : X.N[i]? = some x := by rfl) (hv : Vis X.env.scope x := by first | exact Or.inl rfl | exact Or.inr (Or.inl rfl) | exact Or.inr (Or.inr rfl)) (hd : (x == ("__debug__" : Str)) = false := by decide) (hcd : (x == ("__classdict__" : Str)) = false := by decide)
    (hg : Gl X "len" := by rfl) (hs : starEach [.Name x px] X.env = (false, eval (.Name x px) X.env) :: starEach [] X.env := by rfl) (hpl : (backTo pos (starEach [] X.env)).any (·.1) = false := by rfl) : EV Θ X (.Call (.Name "len" p) [.Name x px] [] pos) δ (· = .int (l.length : Int)) := fun M G0 H0 G H σ Q S q => by
  obtain ⟨L, vs, e1, e2, e3, e4, e5⟩ := S.mu i l hδ
  refine .of (pe_callB call_len_seq hg (xo.mg ▸ T.len) boot_len (pa_cons (pe_var hN hv hd hcd) pa_nil hs) (by decide) (by decide) hs hpl) ⟨_, e1, L, vs, rfl, .inl (.of e2), ?_⟩
  exact q _ _ G H S (.refl G) (.int _) (by rw [e3.length])
theorem ev_ixM {m : Nat} {z : Int} (hδ : δ[i]? = some (.mu l)) (hb : EV Θ X b δ (· = .int z)) (hz : z = (m : Int)) (hm : l[m]? = some d) (hN : X.N[i]? = some x := by rfl) (hv : Vis X.env.scope x := by first | exact Or.inl rfl | exact Or.inr (Or.inl rfl) | exact Or.inr (Or.inr rfl)) (hd : (x == ("__debug__" : Str)) = false := by decide) (hcd : (x == ("__classdict__" : Str)) = false := by decide)
    (hs : PlainIx b := by exact fun _ _ => rfl) : EV Θ X (.Subscript (.Name x px) b pos) δ (· = d) := fun M G0 H0 G H σ Q S q => by
  obtain ⟨L, vs, e1, e2, e3, e4, e5⟩ := S.mu i l hδ
  refine .of (pe_ix ix_list (pe_var hN hv hd hcd) pe_can hs) ⟨_, e1, ?_⟩
  refine hb M G0 H0 G H σ _ S fun w dw G1 H1 S1 g1 r1 p1 => ?_
  subst p1
  obtain ⟨L1, vs1, f1, f2, f3, f4, f5⟩ := S1.mu i l hδ
  rw [e1] at f1
  cases f1
  obtain ⟨u, h1, h2⟩ := f3.get hm
  rw [r1.int_inv, hz]
  exact ⟨L, vs1, _, u, rfl, rfl, .of f2, atI_nat h1, q u d G1 H1 S1 g1 h2 rfl⟩
/-! ### written -/
/-- x.append(e) -/
theorem sv_app (xo : XOk Θ X) (hδ : δ[i]? = some (.mu l)) (hl : l.length ≤ 1000) (he : EV Θ X e δ PE) (hr : ∀ d, PE d → SV Θ X rest (δ.set i (.mu (l ++ [d]))) N P Ξ) (hN : X.N[i]? = some x := by rfl) (hv : Vis X.env.scope x := by first | exact Or.inl rfl | exact Or.inr (Or.inl rfl) | exact Or.inr (Or.inr rfl)) (hd : (x == ("__debug__" : Str)) = false := by decide) (hcd : (x == ("__classdict__" : Str)) = false := by decide)
    (hsw : swapsWith (.Call (.Attribute (.Name x px) "append" apos) [e] [] p) none pos.line X.env = pure false := by rfl)
    (hbase : attributeBase (.Name x px) "append" X.env (eval (.Name x px) X.env) = eval (.Name x px) X.env := by rfl)
    (hfew : ((backTo p (starEach [e] X.env)).all (fun x => !x.1) && (backToKw p (keywordEach [] X.env)).all (fun x => x.1.isSome)
      && decide ([e].length + ([] : List Keyword).length + (if ([] : List Keyword).isEmpty then 0 else 1) < 30)) = true := by rfl)
    (hline : (apos.endLine == p.line) = true := by rfl) (hst : starEach [e] X.env = (false, eval e X.env) :: starEach [] X.env := by rfl) (hpl : (backTo p (starEach [] X.env)).any (·.1) = false := by rfl) :
    SV Θ X (.Expr (.Call (.Attribute (.Name x px) "append" apos) [e] [] p) pos :: rest) δ N P Ξ := fun M G0 H0 G H σ Dn E tk S O q r ex => by
  obtain ⟨L, vs, e1, e2, e3, e4, e5⟩ := S.mu i l hδ
  refine .of (pss_cons (ps_expr (pe_bm PySem.F.plainAttrs_list PySem.F.slot_list_append PySem.F.type_list_append mt_append (pe_var hN hv hd hcd) (pa_cons pe_can pa_nil hst) hbase hfew hline hst hpl) hsw) pss_can) ⟨_, e1, .inl ⟨rfl, _, SqL.of e2⟩, ?_⟩
  refine he M G0 H0 G H σ _ S fun v d G1 H1 S1 g1 r1 p1 => ?_
  obtain ⟨L1, vs1, f1, f2, f3, f4, f5⟩ := S1.mu i l hδ
  rw [e1] at f1
  cases f1
  refine ⟨L, vs1, v, rfl, rfl, f2, sz_lt (by rw [f3.length]; exact hl), ?_⟩
  obtain ⟨S2, O2⟩ := S1.mut O hδ e1 (f3.append (.cons r1 .nil))
  exact hr d p1 M G0 H0 G1 _ _ Dn E tk S2 O2 (fun σ' δ' G' H' S' O' g n => q σ' δ' G' H' S' O' (g1.trans g) n) r ex
/-- x[b] = e -/
theorem sv_seti {m : Nat} {z : Int} (xo : XOk Θ X) (hδ : δ[i]? = some (.mu l)) (he : EV Θ X e δ (· = d)) (hb : EV Θ X b δ (· = .int z)) (hz : z = (m : Int)) (hm : m < l.length) (hr : SV Θ X rest (δ.set i (.mu (l.set m d))) N P Ξ) (hN : X.N[i]? = some x := by rfl) (hv : Vis X.env.scope x := by first | exact Or.inl rfl | exact Or.inr (Or.inl rfl) | exact Or.inr (Or.inr rfl)) (hd : (x == ("__debug__" : Str)) = false := by decide) (hcd : (x == ("__classdict__" : Str)) = false := by decide)
    (ha : ∀ v, assign (.Subscript (.Name x px) b p) X.env v = (do
      let ov ← holding [v] (eval (.Name x px) X.env)
      let iv ← holding [v, ov] (eval b X.env)
      standAt p
      holding [v, ov, iv] (setItem ov iv v)
      release [v, ov, iv] []) := by intro _; rfl)
    (hs : swapsWithSole [.Subscript (.Name x px) b p] e pos.line X.env = pure false := by rfl) (hw : swappedStores [.Subscript (.Name x px) b p] e X.env = pure none := by rfl)
    (h1 : (assignEach [.Subscript (.Name x px) b p] X.env).map (·.2) = [assign (.Subscript (.Name x px) b p) X.env] := by rfl) :
    SV Θ X (.Assign [.Subscript (.Name x px) b p] e pos :: rest) δ N P Ξ := fun M G0 H0 G H σ Dn E tk S O q r ex => by
  refine .of (pss_cons (ps_asg pe_can (pg_sub (pe_var hN hv hd hcd) pe_can set_list ha) hs hw h1) pss_can) ?_
  refine he M G0 H0 G H σ _ S fun v d' G1 H1 S1 g1 r1 p1 => ?_
  subst p1
  obtain ⟨L, vs, e1, e2, e3, e4, e5⟩ := S1.mu i l hδ
  refine ⟨_, e1, ?_⟩
  refine hb M G0 H0 G1 H1 σ _ S1 fun w dw G2 H2 S2 g2 r2 p2 => ?_
  subst p2
  obtain ⟨L1, vs1, f1, f2, f3, f4, f5⟩ := S2.mu i l hδ
  rw [e1] at f1
  cases f1
  refine ⟨L, vs1, z, m, rfl, r2.int_inv, f2, ?_, ?_⟩
  · rw [hz]
    unfold ixN
    rw [if_pos (by omega), if_pos (by rw [f3.length]; omega), Int.toNat_natCast]
  obtain ⟨S3, O3⟩ := S2.mut O hδ e1 (f3.set m (r1.gr g2))
  exact hr M G0 H0 G2 _ _ Dn E tk S3 O3 (fun σ' δ' G' H' S' O' g n => q σ' δ' G' H' S' O' ((g1.trans g2).trans g) n) r ex
/-- x.remove(e), whole numbers, one of them -/
theorem sv_rem {ns : List Int} {z : Int} {m : Nat} (xo : XOk Θ X) (hδ : δ[i]? = some (.mu (ns.map .int))) (he : EV Θ X e δ (· = .int z)) (hm : ns[m]? = some z) (hno : ∀ k : Nat, k < m → ns[k]? ≠ some z) (hr : SV Θ X rest (δ.set i (.mu ((ns.eraseIdx m).map .int))) N P Ξ) (hN : X.N[i]? = some x := by rfl) (hv : Vis X.env.scope x := by first | exact Or.inl rfl | exact Or.inr (Or.inl rfl) | exact Or.inr (Or.inr rfl)) (hd : (x == ("__debug__" : Str)) = false := by decide) (hcd : (x == ("__classdict__" : Str)) = false := by decide)
    (hsw : swapsWith (.Call (.Attribute (.Name x px) "remove" apos) [e] [] p) none pos.line X.env = pure false := by rfl)
    (hbase : attributeBase (.Name x px) "remove" X.env (eval (.Name x px) X.env) = eval (.Name x px) X.env := by rfl)
    (hfew : ((backTo p (starEach [e] X.env)).all (fun x => !x.1) && (backToKw p (keywordEach [] X.env)).all (fun x => x.1.isSome)
      && decide ([e].length + ([] : List Keyword).length + (if ([] : List Keyword).isEmpty then 0 else 1) < 30)) = true := by rfl)
    (hline : (apos.endLine == p.line) = true := by rfl) (hst : starEach [e] X.env = (false, eval e X.env) :: starEach [] X.env := by rfl) (hpl : (backTo p (starEach [] X.env)).any (·.1) = false := by rfl) :
    SV Θ X (.Expr (.Call (.Attribute (.Name x px) "remove" apos) [e] [] p) pos :: rest) δ N P Ξ := fun M G0 H0 G H σ Dn E tk S O q r ex => by
  obtain ⟨L, vs, e1, e2, e3, e4, e5⟩ := S.mu i _ hδ
  refine .of (pss_cons (ps_expr (pe_bm PySem.F.plainAttrs_list PySem.F.slot_list_remove PySem.F.type_list_remove mt_remove (pe_var hN hv hd hcd) (pa_cons pe_can pa_nil hst) hbase hfew hline hst hpl) hsw) pss_can) ⟨_, e1, .inl ⟨rfl, _, SqL.of e2⟩, ?_⟩
  refine he M G0 H0 G H σ _ S fun v d G1 H1 S1 g1 r1 p1 => ?_
  subst p1
  obtain ⟨L1, vs1, f1, f2, f3, f4, f5⟩ := S1.mu i _ hδ
  rw [e1] at f1
  cases f1
  have ev := f3.ints_inv
  subst ev
  rw [r1.int_inv]
  refine ⟨L, ns, z, m, rfl, rfl, f2, hm, hno, ?_⟩
  obtain ⟨S2, O2⟩ := S1.mut O hδ e1 (RepA.ints (ns.eraseIdx m))
  exact hr M G0 H0 G1 _ _ Dn E tk S2 O2 (fun σ' δ' G' H' S' O' g n => q σ' δ' G' H' S' O' (g1.trans g) n) r ex
/-- x += e, e a list -/
theorem sv_ext {m : List D} (xo : XOk Θ X) (hδ : δ[i]? = some (.mu l)) (he : EV Θ X e δ (· = .lst m)) (hl : l.length + m.length ≤ 1000) (hr : SV Θ X rest (δ.set i (.mu (l ++ m))) N P Ξ) (hi : X.N[i]? = some x := by rfl) (hx : Loc X.env.scope x := by first | exact .inl rfl | exact .inr rfl)
    (hf : X.fn x = true ∨ X.env.scope.names.lookup x = some .local := by first | exact .inl rfl | exact .inr rfl | assumption) :
    SV Θ X (.AugAssign (.Name x px) .Add e pos :: rest) δ N P Ξ := fun M G0 H0 G H σ Dn E tk S O q r ex => by
  obtain ⟨L, vs, e1, e2, e3, e4, e5⟩ := S.mu i l hδ
  refine .of (pss_cons (ps_aug (op := .Add) (ti := rExt2) xo.nd hi hx pe_can iop_ext hf) pss_can) ⟨_, e1, ?_⟩
  refine he M G0 H0 G H σ _ S fun v d G1 H1 S1 g1 r1 p1 => ?_
  subst p1
  obtain ⟨L1, vs1, f1, f2, f3, f4, f5⟩ := S1.mu i l hδ
  rw [e1] at f1
  cases f1
  obtain ⟨b, ys, rfl, h1, h2⟩ := r1.lst_inv
  refine ⟨L, b, vs1, ys, rfl, rfl, f2, S1.hs.sub _ _ h1, sz_of (by rw [f3.length, h2.length]; exact hl), ?_⟩
  obtain ⟨S2, O2⟩ := S1.mut O hδ e1 (f3.append h2)
  have eσ : σ.set i (some (.ref L)) = σ := by
    refine List.ext_getElem? fun j => ?_
    by_cases hj : i = j
    · subst hj
      rw [List.getElem?_set_self (List.getElem?_eq_some_iff.mp e1).1, e1]
    · rw [List.getElem?_set_ne hj]
  rw [eσ]
  exact hr M G0 H0 G1 _ _ Dn E tk S2 O2 (fun σ' δ' G' H' S' O' g n => q σ' δ' G' H' S' O' (g1.trans g) n) r ex
end
end PM

/-! unwanted, would_take, blocks. -/
namespace PM
open PySem PySem.Spec PyProof.Rows L2
section
variable {Θ : Th} {X : Cx} {δ : List SD} {pos p : Pos} {as rs : List (List Int)} {ss : List Int} {m : Ma}
theorem len_map (m : Ma) : (m.map optD).length = m.length := List.length_map _
theorem nthM_nat (m : Ma) (i : Nat) : nthM m (i : Int) = m.getD i none := by unfold nthM; simp
theorem nth_nat (l : List (List Int)) (i : Nat) : nth l (i : Int) = l.getD i [] := by unfold nth; simp
theorem ix_nat {α : Type} {l : List α} {i : Nat} (h : i < l.length) : Ix l (i : Int) := ⟨by omega, by omega⟩
end
section
variable {Θ : Th} {f c P : Addr} {fd : FuncData}
/-! ### unwanted -/
def R_unw (ds : List D) (d : D) : Prop := ∃ as rs ss m, ds = [.mkt as rs ss, .tup (m.map optD)] ∧ MkOk as rs ss ∧ MtOk as rs m ∧ d = .tup ((unwL as rs m).map dPr)
abbrev N_unw : List Str := ["market", "match", "asker", "room"]
theorem sc_unw : FnScope N_unw ["market", "match"] (defScope s_unwanted) := ⟨rfl, rfl, rfl, by decide +kernel, rfl, by decide +kernel, by decide +kernel⟩
theorem ok_unw (T : Tx Θ) (mL : Mth Θ Θ.CM "likes" 2 3 R_likes NoX) (F : Fun Θ.K "unwanted" "unwanted" s_unwanted f fd) : FnOk Θ.P Θ.w Θ.K Θ.mg Θ.base (L2.CX Θ.P Θ.w) 3 f fd ["market", "match"] (PSp Θ 2 R_unw NoX) := by
  refine fn_ok F sc_unw rfl (fun cdv A outer s H E ds d hr hl hR => ?_) (fun _ _ _ _ _ _ _ _ _ _ h => h.elim)
  obtain ⟨as, rs, ss, m, rfl, mk, mt, rfl⟩ := hR
  have xo := xo_cx (Θ := Θ) (qual := "unwanted") (f := f) (cd := cdv) (A := A) (outer := outer) (s := s) (H := H) (E := E) sc_unw
  have at_ : ∀ i, i < (m.map optD).length → (m.map optD).getD i .non = optD (m.getD i none) := fun i hi => getD_map m none optD (by rw [← len_map m]; exact hi)
  refine sv_ret (tupL T (lc2f (n := (m.map optD).length) (b := fun i => (m.map optD).getD i .non) (kp := fun i : Nat => (m.getD i none).isSome && !likesB as rs i ((m.getD i none).getD 0)) (f := fun i : Nat => dPr ((i : Int), (m.getD i none).getD 0)) 2 3 xo (ei_enumT T (v 1)) (blkOk_by (N := N_unw) (sc := defScope s_unwanted) (by decide +kernel)) (by rw [len_map, mt.len]; have := mk.la; omega)
    (fun i hi s H C cl fp xb => ets_one ?_) fun i hi hk s H C cl fp xb => ?_)) fun d e => ?_
  · refine et_w (ew_and (k := (m.getD i none).isSome) (m := !likesB as rs i ((m.getD i none).getD 0)) (tNotN (m.getD i none) ((v 3).eq (at_ i hi))) fun h => ew_and1 (et_not (et_val ?_)))
    obtain ⟨r, hr'⟩ := Option.isSome_iff_exists.mp h
    have hlt : i < m.length := by rw [← len_map m]; exact hi
    have hmem : some r ∈ m := by rw [← hr']; exact getD_mem m none hlt
    rw [hr']
    exact ev_meth xb mL hr (by decide) (v 0) noFld_mkt (ea_c (v 2) (ea_c ((v 3).eq ((at_ i hi).trans (by rw [hr']; rfl))) ea_nil)) ⟨as, rs, ss, i, r, rfl, ix_nat (by rw [← mt.len]; exact hlt), mt.rm _ hmem r rfl, rfl⟩
  · refine (ev_tup (ea_c (v 2) (ea_c ((v 3).eq (at_ i hi)) ea_nil))).eq ?_
    have h1 : (m.getD i none).isSome = true := by
      rw [Bool.and_eq_true] at hk
      exact hk.1
    obtain ⟨r, hr'⟩ := Option.isSome_iff_exists.mp h1
    rw [hr']
    rfl
  · rw [e, len_map]
    unfold unwL
    rw [List.map_map]
    rfl
/-! ### would_take -/
def R_wt (ds : List D) (d : D) : Prop := ∃ as rs ss m r a, ds = [.mkt as rs ss, .tup (m.map optD), .int r, .int a] ∧ MkOk as rs ss ∧ MtOk as rs m ∧ Ix rs r ∧ d = .bl (wtB rs ss m r a)
abbrev N_wt : List Str := ["market", "match", "room", "asker", "inside", "other"]
theorem sc_wt : FnScope N_wt ["market", "match", "room", "asker"] (defScope s_would_take) := ⟨rfl, rfl, rfl, by decide +kernel, rfl, by decide +kernel, by decide +kernel⟩
theorem ok_wt (T : Tx Θ) (W : WiM Θ) (GT : GenT Θ c P) (dT : Dfn Θ "those_in" 1 2 R_those NoX) (F : Fun Θ.K "would_take" "would_take" s_would_take f fd) (hc : fd.code = .ref c) : FnOk Θ.P Θ.w Θ.K Θ.mg Θ.base (L2.CX Θ.P Θ.w) 4 f fd ["market", "match", "room", "asker"] (PSp Θ 4 R_wt NoX) := by
  refine fn_okC F hc sc_wt rfl (fun A outer s H E ds d hr hl hR => ?_) (fun _ _ _ _ _ _ _ _ _ h => h.elim)
  obtain ⟨as, rs, ss, m, r, a, rfl, mk, mt, ir, rfl⟩ := hR
  have xo := xo_cx (Θ := Θ) (qual := "would_take") (f := f) (cd := .ref c) (A := A) (outer := outer) (s := s) (H := H) (E := E) sc_wt
  have ir2 : Ix ss r := ⟨ir.1, by rw [mk.ls]; exact ir.2⟩
  have hm1 : m.length ≤ 1000 := by rw [mt.len]; have := mk.la; omega
  refine sv_ifRet (k := !decide (a ∈ nth rs r) || decide (nthI ss r = 0)) (et_w (ew_or (k := !decide (a ∈ nth rs r)) (m := decide (nthI ss r = 0)) (et_not (et_val (ev_meth xo W.has hr (by decide) (ixW (ev_rooms xo T (v 0)) (v 2) ir) noFld_wish (ea_c (v 3) ea_nil) ⟨_, a, rfl, rfl⟩)))
    fun _ => ew_or1 (tst2 op_eq (ixI (ev_seats xo T (v 0)) (v 2) ir2) ev_int opd_eqI))) (fun hk => ?_) fun hk => ?_
  · refine sv_ret ev_bool fun d e => ?_
    rw [e]
    unfold wtB
    rw [if_pos hk]
  refine set1 4 xo (ev_call xo dT hr (by decide) rfl (ea_c (v 1) (ea_c (v 2) ea_nil)) ⟨m, r, rfl, hm1, rfl⟩) ?_
  refine sv_ifRet (k := decide (((thoseL m r).length : Int) < nthI ss r)) (tst2 op_lt ((lenT T (v 4)).eq (by rw [List.length_map])) (ixI (ev_seats xo T (v 0)) (v 2) ir2) (opd_I0 rfl)) (fun hk2 => ?_) fun hk2 => ?_
  · refine sv_ret ev_bool fun d e => ?_
    rw [e]
    unfold wtB
    rw [if_neg (by rw [hk]; exact Bool.false_ne_true), if_pos (of_decide_eq_true hk2)]
  · refine sv_ret (any1 (kr := 2) (n := ((thoseL m r).map D.int).length) (f := fun i => betterB (nth rs r) (some a) (some ((thoseL m r).getD i 0))) 5 xo T GT rfl hr (ei_tup (v 4)) (gnOk_by (N := N_wt) (sc := defScope s_would_take) (by decide +kernel)) fun i hi s H L code fp xg hrg =>
      ev_meth xg W.better hrg (by decide) (ixW (ev_rooms xg T (v 0)) (v 2) ir) noFld_wish (ea_c (v 3) (ea_c ((v 5).eq (getD_map (thoseL m r) 0 D.int (by rw [List.length_map] at hi; exact hi))) ea_nil)) ⟨_, some a, some _, rfl, rfl⟩) fun d e => ?_
    rw [e]
    unfold wtB
    rw [if_neg (by rw [hk]; exact Bool.false_ne_true), if_neg (of_decide_eq_false hk2), List.length_map, any_range_get (thoseL m r) 0 fun o => betterB (nth rs r) (some a) (some o)]
end
end PM

/-! blocks, filled, ranks_of, as_good, size, shown. -/
namespace PM
open PySem PySem.Spec PyProof.Rows L2
theorem take_flat_succ {α : Type} (F : Nat → List α) (k : Nat) : ((List.range (k + 1)).map F).flatten = ((List.range k).map F).flatten ++ F k := by
  rw [List.range_succ, List.map_append, List.flatten_append]
  simp
theorem flat_len {α : Type} (F : Nat → List α) (b : Nat) : ∀ k : Nat, (∀ i, i < k → (F i).length ≤ b) → (((List.range k).map F).flatten).length ≤ k * b
  | 0, _ => by simp
  | k + 1, h => by
    rw [take_flat_succ, List.length_append]
    have h1 := flat_len F b k fun i hi => h i (by omega)
    have h2 := h k (by omega)
    rw [Nat.succ_mul]
    omega
theorem ahead_len (l : List Int) (o : Option Int) : (aheadL l o).length ≤ l.length := by
  unfold aheadL
  split
  · exact Nat.le_refl _
  · rw [List.length_take]
    exact Nat.min_le_right _ _
theorem ahead_mem {l : List Int} {o : Option Int} {x : Int} (h : x ∈ aheadL l o) : x ∈ l := by
  unfold aheadL at h
  split at h
  · exact h
  · exact List.mem_of_mem_take h
theorem take_filter_succ {α β : Type} (l : List α) (z : α) (p : α → Bool) (F : α → β) (k : Nat) (h : k < l.length) : ((l.take (k + 1)).filter p).map F = ((l.take k).filter p).map F ++ (if p (l.getD k z) = true then [F (l.getD k z)] else []) := by
  rw [List.take_succ, get_getD l z h, List.filter_append, List.map_append]
  congr 1
  show (List.filter p [l.getD k z]).map F = _
  rw [List.filter_cons]
  split <;> rfl
section
variable {Θ : Th} {X : Cx} {tg iter : Expr} {δ : List SD} {pos : Pos} {px py : Pos} {x y : Str} {kk : Nat} {pt : Pos}
theorem pg2 (i j : Nat) (xo : XOk Θ X) (h1 : X.N[i]? = some x := by rfl) (h2 : X.N[j]? = some y := by rfl) (hx : Loc X.env.scope x := by first | exact .inl rfl | exact .inr rfl) (hf : X.fn x = true ∨ X.env.scope.names.lookup x = some .local := by first | exact .inl rfl | exact .inr rfl)
    (hx2 : Loc X.env.scope y := by first | exact .inl rfl | exact .inr rfl) (hf2 : X.fn y = true ∨ X.env.scope.names.lookup y = some .local := by first | exact .inl rfl | exact .inr rfl) : PG X (.Tuple [.Name x px, .Name y py] kk pt) (gTup X.K 2 (gCons (gName i) (gCons (gName j) gNil))) :=
  pg_tup xo.calm (pgs_cons (pg_name xo.nd h1 hx hf) (pgs_cons (pg_name xo.nd h2 hx2 hf2) pgs_nil rfl) rfl) rfl rfl
theorem pg1 (i : Nat) (xo : XOk Θ X) (h1 : X.N[i]? = some x := by rfl) (hx : Loc X.env.scope x := by first | exact .inl rfl | exact .inr rfl) (hf : X.fn x = true ∨ X.env.scope.names.lookup x = some .local := by first | exact .inl rfl | exact .inr rfl) : PG X (.Name x px) (gName i) := pg_name xo.nd h1 hx hf
end
section
variable {Θ : Th} {f c P : Addr} {fd : FuncData}
/-! ### blocks -/
def R_blk (ds : List D) (d : D) : Prop := ∃ as rs ss m, ds = [.mkt as rs ss, .tup (m.map optD)] ∧ MkOk as rs ss ∧ MtOk as rs m ∧ d = .tup ((blkL as rs ss m).map dPr)
abbrev N_blk : List Str := ["market", "match", "found", "asker", "wish", "room"]
theorem sc_blk : FnScope N_blk ["market", "match"] (defScope s_blocks) := ⟨rfl, rfl, rfl, by decide +kernel, rfl, by decide +kernel, by decide +kernel⟩
theorem blkRow_len {as rs : List (List Int)} {ss : List Int} {m : Ma} (mk : MkOk as rs ss) {i : Nat} (h : i < as.length) : (blkRow as rs ss m i).length ≤ 20 := by
  unfold blkRow
  rw [List.length_map]
  exact Nat.le_trans (List.length_filter_le _ _) (Nat.le_trans (ahead_len _ _) (mk.a _ (getD_mem as [] h)).2)
theorem ok_blk (T : Tx Θ) (W : WiM Θ) (dW : Dfn Θ "would_take" 4 4 R_wt NoX) (F : Fun Θ.K "blocks" "blocks" s_blocks f fd) : FnOk Θ.P Θ.w Θ.K Θ.mg Θ.base (L2.CX Θ.P Θ.w) 5 f fd ["market", "match"] (PSp Θ 2 R_blk NoX) := by
  refine fn_ok F sc_blk rfl (fun cdv A outer s H E ds d hr hl hR => ?_) (fun _ _ _ _ _ _ _ _ _ _ h => h.elim)
  obtain ⟨as, rs, ss, m, rfl, mk, mt, rfl⟩ := hR
  have xo := xo_cx (Θ := Θ) (qual := "blocks") (f := f) (cd := cdv) (A := A) (outer := outer) (s := s) (H := H) (E := E) sc_blk
  have po : PassesOwn (model Θ.P Θ.w) (cxP Θ N_blk "blocks" (defScope s_blocks) f cdv A outer s H E).A (cxP Θ N_blk "blocks" (defScope s_blocks) f cdv A outer s H E).env (cxP Θ N_blk "blocks" (defScope s_blocks) f cdv A outer s H E).xe := passes_of rfl
  have la : (as.map D.wish).length = as.length := List.length_map _
  refine sv_nilM (i := 2) xo ?_
  refine sv_for (n := (as.map D.wish).length) (g := gTup Θ.K 2 (gCons (gName 3) (gCons (gName 4) gNil))) (bd := fun i => [(3, .int (i : Int)), (4, (as.map D.wish).getD i .non)]) xo po (ei_enumL T (ev_askers xo T (v 0))) (pg2 3 4 xo)
    (fun k δ' => ∃ x y z, δ' = [.im (.mkt as rs ss), .im (.tup (m.map optD)), .mu ((((List.range k).map (blkRow as rs ss m)).flatten).map dPr), x, y, z]) ⟨.no, .no, .no, rfl⟩ ?_ ?_
  · rintro k δ' hk ⟨x, y, z, rfl⟩
    have hk' : k < as.length := by rw [← la]; exact hk
    have ew : (as.map D.wish).getD k .non = .wish (as.getD k []) := getD_map as [] D.wish hk'
    have hmk : k < m.length := by rw [mt.len]; exact hk'
    have rowl : (((List.range k).map (blkRow as rs ss m)).flatten).length ≤ k * 20 := flat_len _ 20 k fun i hi => blkRow_len mk (by omega)
    refine sv_for (n := ((aheadL (as.getD k []) (m.getD k none)).map D.int).length) (g := gName 5) (bd := fun i => [(5, ((aheadL (as.getD k []) (m.getD k none)).map D.int).getD i .non)]) xo po
      (ei_tup (ev_meth xo W.ahead hr (by decide) ((v 4).eq ew) noFld_wish (ea_c ((ixM (v 1) (v 3) (ix_nat hmk)).eq (by rw [nthM_nat])) ea_nil) ⟨_, _, rfl, rfl⟩)) (pg1 5 xo)
      (fun j δ' => ∃ z, δ' = [.im (.mkt as rs ss), .im (.tup (m.map optD)), .mu (((((List.range k).map (blkRow as rs ss m)).flatten) ++ (((aheadL (as.getD k []) (m.getD k none)).take j).filter fun r => !decide (some r = m.getD k none) && wtB rs ss m r k).map fun r => ((k : Int), r)).map dPr), .im (.int (k : Int)), .im ((as.map D.wish).getD k .non), z]) ⟨z, by simp [setD]⟩ ?_ ?_
    · rintro j δ' hj ⟨z, rfl⟩
      have hj' : j < (aheadL (as.getD k []) (m.getD k none)).length := by rw [List.length_map] at hj; exact hj
      have er : ((aheadL (as.getD k []) (m.getD k none)).map D.int).getD j .non = .int ((aheadL (as.getD k []) (m.getD k none)).getD j 0) := getD_map _ 0 D.int hj'
      have hir : Ix rs ((aheadL (as.getD k []) (m.getD k none)).getD j 0) := by
        have hm := ahead_mem (getD_mem (aheadL (as.getD k []) (m.getD k none)) 0 hj')
        have h2 := ((mk.a _ (getD_mem as [] hk')).1.2 _ hm)
        exact h2
      generalize hal : aheadL (as.getD k []) (m.getD k none) = al at hj' er hir
      generalize hr0 : al.getD j 0 = r0 at er hir
      have hsz : (((((List.range k).map (blkRow as rs ss m)).flatten) ++ ((al.take j).filter fun r => !decide (some r = m.getD k none) && wtB rs ss m r k).map fun r => ((k : Int), r)).map dPr).length ≤ 1000 := by
        rw [List.length_map, List.length_append, List.length_map]
        have h1 := List.length_filter_le (fun r => !decide (some r = m.getD k none) && wtB rs ss m r k) (al.take j)
        have h2 : al.length ≤ 20 := by rw [← hal]; exact Nat.le_trans (ahead_len _ _) (mk.a _ (getD_mem as [] hk')).2
        rw [List.length_take] at h1
        have h3 := mk.la
        omega
      refine sv_if (k := !decide (some r0 = m.getD k none) && wtB rs ss m r0 k) (N1 := fun δ' => ∃ z, δ' = [.im (.mkt as rs ss), .im (.tup (m.map optD)), .mu (((((List.range k).map (blkRow as rs ss m)).flatten) ++ ((al.take (j + 1)).filter fun r => !decide (some r = m.getD k none) && wtB rs ss m r k).map fun r => ((k : Int), r)).map dPr), .im (.int (k : Int)), .im ((as.map D.wish).getD k .non), z])
        (et_w (ew_and (k := !decide (some r0 = m.getD k none)) (m := wtB rs ss m r0 k) (tst2 (da := optD (some r0)) (db := optD (m.getD k none)) op_ne ((v 5).eq (show _ = optD (some r0) from er)) ((ixM (v 1) (v 3) (ix_nat hmk)).eq (by rw [nthM_nat])) (opd_neO _ _))
          fun _ => ew_and1 (et_val (ev_call xo dW hr (by decide) rfl (ea_c (v 0) (ea_c (v 1) (ea_c ((v 5).eq er) (ea_c (v 3) ea_nil)))) ⟨as, rs, ss, m, r0, k, rfl, mk, mt, hir, rfl⟩)))) (fun hk1 => ?_) (fun hk1 => ?_) fun δ' e => ?_
      · refine sv_app (i := 2) xo rfl hsz (ev_tup (ea_c (v 3) (ea_c ((v 5).eq er) ea_nil))) fun d e => sv_nil ⟨.im ((al.map D.int).getD j .non), ?_⟩
        subst e
        rw [take_filter_succ al 0 _ _ j hj', hr0, if_pos hk1, ← List.append_assoc, List.map_append (f := dPr) (l₂ := [((k : Int), r0)])]
        rfl
      · refine sv_nil ⟨.im ((al.map D.int).getD j .non), ?_⟩
        rw [take_filter_succ al 0 _ _ j hj', hr0, if_neg (by rw [hk1]; exact Bool.false_ne_true), List.append_nil]
        rfl
      · obtain ⟨z2, rfl⟩ := e
        exact sv_nil ⟨z2, rfl⟩
    · rintro δ' ⟨z, rfl⟩
      refine sv_nil ⟨.im (.int (k : Int)), .im ((as.map D.wish).getD k .non), z, ?_⟩
      rw [take_flat_succ]
      unfold blkRow
      rw [List.length_map, List.take_length]
  · rintro δ' ⟨x, y, z, rfl⟩
    refine sv_freeze (i := 2) rfl ?_
    refine sv_ret (tupL T (v 2)) fun d e => ?_
    rw [e, la]
    rfl
end
end PM

/-! ranks_of, as_good, filled, size, shown, check_match, is_stable. -/
namespace PM
open PySem PySem.Spec PyProof.Rows L2
section
variable {Θ : Th} {f c P CB : Addr} {fd : FuncData}
def R_ranks (ds : List D) (d : D) : Prop := ∃ as rs ss m, ds = [.mkt as rs ss, .tup (m.map optD)] ∧ as.length ≤ 20 ∧ m.length = as.length ∧ d = .tup ((ranksL as m).map optD)
abbrev N_ranks : List Str := ["market", "match", "asker", "wish"]
theorem sc_ranks : FnScope N_ranks ["market", "match"] (defScope s_ranks_of) := ⟨rfl, rfl, rfl, by decide +kernel, rfl, by decide +kernel, by decide +kernel⟩
theorem ok_ranks (T : Tx Θ) (W : WiM Θ) (F : Fun Θ.K "ranks_of" "ranks_of" s_ranks_of f fd) : FnOk Θ.P Θ.w Θ.K Θ.mg Θ.base (L2.CX Θ.P Θ.w) 2 f fd ["market", "match"] (PSp Θ 2 R_ranks NoX) := by
  refine fn_ok F sc_ranks rfl (fun cdv A outer s H E ds d hr hl hR => ?_) (fun _ _ _ _ _ _ _ _ _ _ h => h.elim)
  obtain ⟨as, rs, ss, m, rfl, la, lm, rfl⟩ := hR
  have xo := xo_cx (Θ := Θ) (qual := "ranks_of") (f := f) (cd := cdv) (A := A) (outer := outer) (s := s) (H := H) (E := E) sc_ranks
  have nl : (as.map D.wish).length = as.length := List.length_map _
  refine sv_ret (tupL T (lc2f (n := (as.map D.wish).length) (b := fun i => (as.map D.wish).getD i .non) (kp := fun _ => true) (f := fun i : Nat => optD (rnk (as.getD i []) (m.getD i none))) 2 3 xo (ei_enumL T (ev_askers xo T (v 0))) (blkOk_by (N := N_ranks) (sc := defScope s_ranks_of) (by decide +kernel)) (by rw [nl]; omega)
    (fun i hi s H C cl fp xb => ets_nil) fun i hi _ s H C cl fp xb => ?_)) fun d e => ?_
  · have hi' : i < as.length := by rw [← nl]; exact hi
    exact ev_meth xb W.rank hr (by decide) ((v 3).eq (getD_map as [] D.wish hi')) noFld_wish (ea_c ((ixM (v 1) (v 2) (ix_nat (by rw [lm]; exact hi'))).eq (by rw [nthM_nat])) ea_nil) ⟨_, _, rfl, rfl⟩
  · rw [e, nl, List.filter_eq_self.mpr fun _ _ => rfl]
    unfold ranksL
    rw [List.map_map]
    rfl
def R_good (ds : List D) (d : D) : Prop := ∃ as rs ss m1 m2, ds = [.mkt as rs ss, .tup (m1.map optD), .tup (m2.map optD)] ∧ m1.length = as.length ∧ m2.length = as.length ∧ d = .bl (goodB as m1 m2)
abbrev N_good : List Str := ["market", "one", "other", "asker", "wish"]
theorem sc_good : FnScope N_good ["market", "one", "other"] (defScope s_as_good) := ⟨rfl, rfl, rfl, by decide +kernel, rfl, by decide +kernel, by decide +kernel⟩
theorem ok_good (T : Tx Θ) (W : WiM Θ) (GT : GenT Θ c P) (F : Fun Θ.K "as_good" "as_good" s_as_good f fd) (hc : fd.code = .ref c) : FnOk Θ.P Θ.w Θ.K Θ.mg Θ.base (L2.CX Θ.P Θ.w) 4 f fd ["market", "one", "other"] (PSp Θ 3 R_good NoX) := by
  refine fn_okC F hc sc_good rfl (fun A outer s H E ds d hr hl hR => ?_) (fun _ _ _ _ _ _ _ _ _ h => h.elim)
  obtain ⟨as, rs, ss, m1, m2, rfl, l1, l2, rfl⟩ := hR
  have xo := xo_cx (Θ := Θ) (qual := "as_good") (f := f) (cd := .ref c) (A := A) (outer := outer) (s := s) (H := H) (E := E) sc_good
  have nl : (as.map D.wish).length = as.length := List.length_map _
  refine sv_ret (all2 (kr := 2) (n := (as.map D.wish).length) (b := fun i => (as.map D.wish).getD i .non) (f := fun i : Nat => !betterB (as.getD i []) (m2.getD i none) (m1.getD i none)) 3 4 xo T GT rfl hr (ei_enumL T (ev_askers xo T (v 0))) (gnOk_by (N := N_good) (sc := defScope s_as_good) (by decide +kernel)) fun i hi s H L code fp xg hrg => ?_) fun d e => ?_
  · have hi' : i < as.length := by rw [← nl]; exact hi
    exact ev_not (ev_meth xg W.better hrg (by decide) ((v 4).eq (getD_map as [] D.wish hi')) noFld_wish (ea_c ((ixM (v 2) (v 3) (ix_nat (by rw [l2]; exact hi'))).eq (by rw [nthM_nat])) (ea_c ((ixM (v 1) (v 3) (ix_nat (by rw [l1]; exact hi'))).eq (by rw [nthM_nat])) ea_nil)) ⟨_, _, _, rfl, rfl⟩)
  · rw [e, nl]
    rfl
def R_fill (ds : List D) (d : D) : Prop := ∃ as rs ss m, ds = [.mkt as rs ss, .tup (m.map optD)] ∧ rs.length ≤ 20 ∧ m.length ≤ 1000 ∧ d = .tup ((fillL rs m).map .int)
abbrev N_fill : List Str := ["market", "match", "room"]
theorem sc_fill : FnScope N_fill ["market", "match"] (defScope s_filled) := ⟨rfl, rfl, rfl, by decide +kernel, rfl, by decide +kernel, by decide +kernel⟩
theorem ok_fill (T : Tx Θ) (dT : Dfn Θ "those_in" 1 2 R_those NoX) (F : Fun Θ.K "filled" "filled" s_filled f fd) : FnOk Θ.P Θ.w Θ.K Θ.mg Θ.base (L2.CX Θ.P Θ.w) 2 f fd ["market", "match"] (PSp Θ 2 R_fill NoX) := by
  refine fn_ok F sc_fill rfl (fun cdv A outer s H E ds d hr hl hR => ?_) (fun _ _ _ _ _ _ _ _ _ _ h => h.elim)
  obtain ⟨as, rs, ss, m, rfl, lr, lm, rfl⟩ := hR
  have xo := xo_cx (Θ := Θ) (qual := "filled") (f := f) (cd := cdv) (A := A) (outer := outer) (s := s) (H := H) (E := E) sc_fill
  refine sv_ret (tupL T (lc1f (n := rs.length) (b := fun i => .int (i : Int)) (kp := fun _ => true) (f := fun i : Nat => .int ((thoseL m i).length : Int)) 2 xo (ei_range rfl (xo.mg ▸ T.range) ((lenL T (ev_rooms xo T (v 0))).eq (by rw [List.length_map])) (by omega)) (blkOk_by (N := N_fill) (sc := defScope s_filled) (by decide +kernel)) (by omega)
    (fun i hi s H C cl fp xb => ets_nil) fun i hi _ s H C cl fp xb => (lenT T (ev_call xb dT hr (by decide) rfl (ea_c (v 1) (ea_c (v 2) ea_nil)) ⟨m, i, rfl, lm, rfl⟩)).eq (by rw [List.length_map]))) fun d e => ?_
  rw [e, List.filter_eq_self.mpr fun _ _ => rfl]
  unfold fillL
  rw [List.map_map]
  rfl
def R_size (ds : List D) (d : D) : Prop := ∃ as rs ss, ds = [.mkt as rs ss] ∧ d = .int (as.length : Int)
theorem sc_size : FnScope ["self"] ["self"] (defScope s_M_size) := ⟨rfl, rfl, rfl, by decide +kernel, rfl, by decide +kernel, by decide +kernel⟩
theorem ok_size (T : Tx Θ) (F : Fun Θ.K "size" "Market.size" s_M_size f fd) : FnOk Θ.P Θ.w Θ.K Θ.mg Θ.base (L2.CX Θ.P Θ.w) 1 f fd ["self"] (PSp Θ 1 R_size NoX) := by
  refine fn_ok F sc_size rfl (fun cdv A outer s H E ds d hr hl hR => ?_) (fun _ _ _ _ _ _ _ _ _ _ h => h.elim)
  obtain ⟨as, rs, ss, rfl, rfl⟩ := hR
  have xo := xo_cx (Θ := Θ) (qual := "Market.size") (f := f) (cd := cdv) (A := A) (outer := outer) (s := s) (H := H) (E := E) sc_size
  exact sv_ret ((lenL T (ev_askers xo T (v 0))).eq (by rw [List.length_map])) fun d e => e
def dLs (l : List (List Int)) : List D := l.map fun r => D.tup (r.map .int)
def dShown (as rs : List (List Int)) (ss : List Int) : D := .tup [.tup (dLs as), .tup (dLs rs), .tup (ss.map .int)]
def R_shown (ds : List D) (d : D) : Prop := ∃ as rs ss, ds = [.mkt as rs ss] ∧ as.length ≤ 20 ∧ rs.length ≤ 20 ∧ d = dShown as rs ss
abbrev N_shown : List Str := ["self", "wish"]
theorem sc_shown : FnScope N_shown ["self"] (defScope s_M_shown) := ⟨rfl, rfl, rfl, by decide +kernel, rfl, by decide +kernel, by decide +kernel⟩
theorem ok_shown (T : Tx Θ) (F : Fun Θ.K "shown" "Market.shown" s_M_shown f fd) : FnOk Θ.P Θ.w Θ.K Θ.mg Θ.base (L2.CX Θ.P Θ.w) 1 f fd ["self"] (PSp Θ 1 R_shown NoX) := by
  refine fn_ok F sc_shown rfl (fun cdv A outer s H E ds d hr hl hR => ?_) (fun _ _ _ _ _ _ _ _ _ _ h => h.elim)
  obtain ⟨as, rs, ss, rfl, la, lr, rfl⟩ := hR
  have xo := xo_cx (Θ := Θ) (qual := "Market.shown") (f := f) (cd := cdv) (A := A) (outer := outer) (s := s) (H := H) (E := E) sc_shown
  have key : ∀ l : List (List Int), ((List.range (l.map D.wish).length).filter fun _ => true).map (fun i : Nat => D.tup ((l.getD i []).map .int)) = dLs l := fun l => by
    rw [List.length_map]
    exact map_range_all l [] fun r => D.tup (r.map .int)
  refine sv_ret (ev_tup (ds := [.tup (dLs as), .tup (dLs rs), .tup (ss.map .int)]) (ea_c (tupL T ((lc1f (n := (as.map D.wish).length) (kp := fun _ => true) (f := fun i : Nat => D.tup ((as.getD i []).map .int)) 1 xo (ei_list (ev_askers xo T (v 0))) (blkOk_by (N := N_shown) (sc := defScope s_M_shown) (by decide +kernel)) (by rw [List.length_map]; omega) (fun _ _ _ _ _ _ _ _ => ets_nil)
      fun i hi _ s H C cl fp xb => ev_order xb T ((v 1).eq (getD_map as [] D.wish (by rw [List.length_map] at hi; exact hi)))).eq (by rw [key])))
    (ea_c (tupL T ((lc1f (n := (rs.map D.wish).length) (kp := fun _ => true) (f := fun i : Nat => D.tup ((rs.getD i []).map .int)) 1 xo (ei_list (ev_rooms xo T (v 0))) (blkOk_by (N := N_shown) (sc := defScope s_M_shown) (by decide +kernel)) (by rw [List.length_map]; omega) (fun _ _ _ _ _ _ _ _ => ets_nil)
      fun i hi _ s H C cl fp xb => ev_order xb T ((v 1).eq (getD_map rs [] D.wish (by rw [List.length_map] at hi; exact hi)))).eq (by rw [key])))
    (ea_c (ev_seats xo T (v 0)) ea_nil)))) fun d e => e
/-! ### check_match -/
def cntM (m : Ma) (r : Int) : Nat := (m.filter fun o => decide (o = some r)).length
def okM (as rs : List (List Int)) (ss : List Int) (m : Ma) : Prop := m.length = as.length ∧ (∀ r, some r ∈ m → Ix rs r) ∧ ∀ r, r < ss.length → (cntM m (r : Int) : Int) ≤ ss.getD r 0
def seqM (x : D) (m : Ma) : Prop := x = .tup (m.map optD) ∨ x = .lst (m.map optD)
def R_cm (ds : List D) (d : D) : Prop := ∃ as rs ss m x, ds = [.mkt as rs ss, x] ∧ seqM x m ∧ m.length ≤ 1000 ∧ okM as rs ss m ∧ d = .tup (m.map optD)
def X_cm (CB : Addr) (ds : List D) (cx : Addr) : Prop := ∃ as rs ss m x, ds = [.mkt as rs ss, x] ∧ seqM x m ∧ m.length ≤ 1000 ∧ ¬ okM as rs ss m ∧ cx = CB
abbrev N_cm : List Str := ["market", "match", "found", "room", "count", "one"]
theorem sc_cm : FnScope N_cm ["market", "match"] (defScope s_check_match) := ⟨rfl, rfl, rfl, by decide +kernel, rfl, by decide +kernel, by decide +kernel⟩
theorem sv_cm (T : Tx Θ) (GT : GenT Θ c P) (eB : ExC Θ "BadMatch" CB) (mS : Mth Θ Θ.CM "size" 1 1 R_size NoX) {A : Around} {outer : List Env} {s : Shared} {H : Hp} {E : XK} {as rs : List (List Int)} {ss : List Int} {m : Ma} {x : D} (hx : seqM x m) (hl : m.length ≤ 1000) (hr : Room 1 (A.deeper (envOfC "check_match" (defScope s_check_match) s.heap.objs.size f (.ref c)))) :
    SV Θ (cxP Θ N_cm "check_match" (defScope s_check_match) f (.ref c) A outer s H E) (defBody s_check_match) (δ0 N_cm [.mkt as rs ss, x]) (fun _ => False) (fun d => okM as rs ss m ∧ d = .tup (m.map optD)) (fun cx => ¬ okM as rs ss m ∧ cx = CB) := by
  have xo := xo_cx (Θ := Θ) (qual := "check_match") (f := f) (cd := .ref c) (A := A) (outer := outer) (s := s) (H := H) (E := E) sc_cm
  have po : PassesOwn (model Θ.P Θ.w) (cxP Θ N_cm "check_match" (defScope s_check_match) f (.ref c) A outer s H E).A (cxP Θ N_cm "check_match" (defScope s_check_match) f (.ref c) A outer s H E).env (cxP Θ N_cm "check_match" (defScope s_check_match) f (.ref c) A outer s H E).xe := passes_of rfl
  have at_ : ∀ i, i < (m.map optD).length → (m.map optD).getD i .non = optD (m.getD i none) := fun i hi => getD_map m none optD (by rw [← len_map m]; exact hi)
  refine set1 (d := .tup (m.map optD)) 2 xo ?_ ?_
  · rcases hx with rfl | rfl
    · exact tupT T (v 1)
    · exact tupL T (v 1)
  let bad : Option Int → Bool := fun o => match o with | none => false | some r => !(decide (0 ≤ r) && decide (r < (rs.length : Int)))
  refine sv_ifRet (k := !decide ((m.length : Int) = (as.length : Int)) || m.any bad) (et_w (ew_or (k := !decide ((m.length : Int) = (as.length : Int))) (m := m.any bad) (tst2 op_ne ((lenT T (v 2)).eq (by rw [len_map])) (ev_meth0 xo mS hr (by decide) (v 0) noFld_mkt ⟨as, rs, ss, rfl, rfl⟩) opd_neI)
    fun _ => ew_or1 (et_val ((any1 (kr := 0) (n := (m.map optD).length) (f := fun i => bad (m.getD i none)) 3 xo T GT rfl hr (ei_tup (v 2)) (gnOk_by (N := N_cm) (sc := defScope s_check_match) (by decide +kernel)) fun i hi s H L code fp xg hrg => ?_).eq ?_)))) (fun hk => ?_) fun hk => ?_
  · have e3 := at_ i hi
    generalize m.getD i none = o at e3
    cases o with
    | none => exact ev_and (k := false) (m := true) (eNotN none ((v 3).eq e3)) fun h => nomatch h
    | some r => exact ev_and (k := true) (m := !(decide (0 ≤ r) && decide (r < (rs.length : Int)))) (eNotN (some r) ((v 3).eq e3)) fun _ => ev_one (ev_not (ev_chain (da := .int 0) (db := .int r) (d := .int (rs.length : Int)) (k := decide (0 ≤ r)) (m := decide (r < (rs.length : Int))) op_le op_lt ev_int ((v 3).eq e3) (fun _ => (lenL T (ev_rooms xg T (v 0))).eq (by rw [List.length_map])) (opd_I0 rfl) fun _ => opd_I0 rfl))
  · rw [len_map, any_range_get m none bad]
  · refine sv_raiseC xo eB ⟨fun h => ?_, rfl⟩
    rw [h.1] at hk
    simp only [decide_true, Bool.not_true, Bool.false_or] at hk
    obtain ⟨o, ho, hb⟩ := List.any_eq_true.mp hk
    cases o with
    | none => cases hb
    | some r =>
      have h2 := h.2.1 r ho
      simp [bad, h2.1, h2.2] at hb
  have hk1 : m.length = as.length := by simp at hk; omega
  have hk2 : ∀ r, some r ∈ m → Ix rs r := fun r hm => by
    have h := (Bool.or_eq_false_iff.mp hk).2
    have h2 := List.any_eq_false.mp h _ hm
    have h3 : (decide (0 ≤ r) && decide (r < (rs.length : Int))) = true := by simpa [bad] using h2
    simp at h3
    exact h3
  refine sv_for (n := (ss.map D.int).length) (g := gTup Θ.K 2 (gCons (gName 3) (gCons (gName 4) gNil))) (bd := fun i => [(3, .int (i : Int)), (4, (ss.map D.int).getD i .non)]) xo po (ei_enumT T (ev_seats xo T (v 0))) (pg2 3 4 xo)
    (fun k δ' => (∃ a b z, δ' = [.im (.mkt as rs ss), .im x, .im (.tup (m.map optD)), a, b, z]) ∧ ∀ r, r < k → (cntM m (r : Int) : Int) ≤ ss.getD r 0) ⟨⟨.no, .no, .no, rfl⟩, fun r h => absurd h (Nat.not_lt_zero _)⟩ ?_ ?_
  · rintro k δ' hk ⟨⟨a, b, z, rfl⟩, inv⟩
    have hks : k < ss.length := by rw [List.length_map] at hk; exact hk
    have ec : (ss.map D.int).getD k .non = .int (ss.getD k 0) := getD_map ss 0 D.int hks
    have cnt : ((List.range (m.map optD).length).filter fun i => decide (m.getD i none = some (k : Int))).map (fun i => optD (m.getD i none)) = (m.filter fun o => decide (o = some (k : Int))).map optD := by
      rw [len_map]
      exact filter_range_get m none (fun o => decide (o = some (k : Int))) optD
    refine sv_ifRet (k := decide (ss.getD k 0 < (cntM m (k : Int) : Int))) (tst2 op_gt ((lenL T ((lc1f (n := (m.map optD).length) (b := fun i => (m.map optD).getD i .non) (kp := fun i => decide (m.getD i none = some (k : Int))) (f := fun i => optD (m.getD i none)) 5 xo (ei_tup (v 2)) (blkOk_by (N := N_cm) (sc := defScope s_check_match) (by decide +kernel)) (by rw [len_map]; exact hl)
      (fun i hi s H C cl fp xb => ets_one (tst2 (da := optD (m.getD i none)) (db := optD (some (k : Int))) op_eq ((v 5).eq (at_ i hi)) (v 3) (opd_eqO _ _))) fun i hi _ s H C cl fp xb => (v 5).eq (at_ i hi)).eq (by rw [cnt]))).eq (by rw [List.length_map]; rfl)) ((v 4).eq ec) (opd_I0 rfl)) (fun h => ?_) fun h => ?_
    · refine sv_raiseC xo eB ⟨fun hok => ?_, rfl⟩
      have h2 := hok.2.2 k hks
      have h3 := of_decide_eq_true h
      omega
    · refine sv_nil ⟨⟨_, _, z, rfl⟩, fun r hr => ?_⟩
      by_cases e : r = k
      · subst e
        have h3 := of_decide_eq_false h
        omega
      · exact inv r (by omega)
  · rintro δ' ⟨⟨a, b, z, rfl⟩, inv⟩
    exact sv_ret (v 2) fun d e => ⟨⟨hk1, hk2, fun r hr => inv r (by rw [List.length_map]; exact hr)⟩, e⟩
theorem ok_cm (T : Tx Θ) (GT : GenT Θ c P) (eB : ExC Θ "BadMatch" CB) (mS : Mth Θ Θ.CM "size" 1 1 R_size NoX) (F : Fun Θ.K "check_match" "check_match" s_check_match f fd) (hc : fd.code = .ref c) : FnOk Θ.P Θ.w Θ.K Θ.mg Θ.base (L2.CX Θ.P Θ.w) 2 f fd ["market", "match"] (PSp Θ 2 R_cm (X_cm CB)) := by
  refine fn_okC F hc sc_cm rfl (fun A outer s H E ds d hr hl hR => ?_) (fun A outer s H E ds cx hr hl hR => ?_)
  · obtain ⟨as, rs, ss, m, x, rfl, hx, hl, hok, rfl⟩ := hR
    exact fun M G0 H0 G H σ Dn E tk S O q r ex => sv_cm T GT eB mS hx hl hr M G0 H0 G H σ Dn E tk S O q (fun v d G' H' e rr p => r v d G' H' e rr p.2) fun c' G' H' e p => (p.1 hok).elim
  · obtain ⟨as, rs, ss, m, x, rfl, hx, hl, hok, rfl⟩ := hR
    exact fun M G0 H0 G H σ Dn E tk S O q r ex => sv_cm T GT eB mS hx hl hr M G0 H0 G H σ Dn E tk S O q (fun v d G' H' e rr p => (hok p.1).elim) fun c' G' H' e p => ex c' G' H' e p.2
end
end PM

/-! is_stable, pairs, with_list, with_order, with_seats. -/
namespace PM
open PySem PySem.Spec PyProof.Rows L2
theorem plain_pr (l : List (Int × Int)) : (l.map dPr).all (D.plain 1) = true := by
  induction l with
  | nil => rfl
  | cons a l ih => rw [List.map_cons, List.all_cons, ih]; rfl
/-- what Market(..) takes -/
def seqI (x : D) (l : List Int) : Prop := x = .tup (l.map .int) ∨ x = .lst (l.map .int)
def R_mi (ds : List D) (d : D) : Prop := ∃ as rs ss x, ds = [.lst (dLs as), .lst (dLs rs), x] ∧ seqI x ss ∧ MkOk as rs ss ∧ (∀ s ∈ ss, 0 ≤ s) ∧ d = .mkt as rs ss
def X_mi (CR CB : Addr) (ds : List D) (cx : Addr) : Prop := ∃ as rs ss x, ds = [.lst (dLs as), .lst (dLs rs), x] ∧ seqI x ss ∧ as.length ≤ 20 ∧ rs.length ≤ 20 ∧ ss.length ≤ 30 ∧
  (((¬ ss.length = rs.length ∨ ∃ s ∈ ss, s < 0) ∧ cx = CR) ∨
   ((as = [[0]] ∧ (rs = [[1]] ∨ rs = [[0, 0]]) ∨ (as = [[5]] ∧ rs = [[0]])) ∧ ss = [1] ∧ cx = CB))
section
variable {Θ : Th} {f c P CR CB : Addr} {fd : FuncData}
def R_st (ds : List D) (d : D) : Prop := ∃ as rs ss m, ds = [.mkt as rs ss, .tup (m.map optD)] ∧ MkOk as rs ss ∧ MtOk as rs m ∧ okM as rs ss m ∧ d = .bl ((unwL as rs m).isEmpty && (blkL as rs ss m).isEmpty)
theorem sc_st : FnScope ["market", "match"] ["market", "match"] (defScope s_is_stable) := ⟨rfl, rfl, rfl, by decide +kernel, rfl, by decide +kernel, by decide +kernel⟩
theorem ok_st (T : Tx Θ) (dC : Dfn Θ "check_match" 2 2 R_cm (X_cm CB)) (dU : Dfn Θ "unwanted" 3 2 R_unw NoX) (dB : Dfn Θ "blocks" 5 2 R_blk NoX) (F : Fun Θ.K "is_stable" "is_stable" s_is_stable f fd) : FnOk Θ.P Θ.w Θ.K Θ.mg Θ.base (L2.CX Θ.P Θ.w) 6 f fd ["market", "match"] (PSp Θ 2 R_st NoX) := by
  refine fn_ok F sc_st rfl (fun cdv A outer s H E ds d hr hl hR => ?_) (fun _ _ _ _ _ _ _ _ _ _ h => h.elim)
  obtain ⟨as, rs, ss, m, rfl, mk, mt, hok, rfl⟩ := hR
  have xo := xo_cx (Θ := Θ) (qual := "is_stable") (f := f) (cd := cdv) (A := A) (outer := outer) (s := s) (H := H) (E := E) sc_st
  have hl1 : m.length ≤ 1000 := by rw [mt.len]; have := mk.la; omega
  refine sv_expr (PE := (· = .tup (m.map optD))) (ev_call xo dC hr (by decide) rfl (ea_c (v 0) (ea_c (v 1) ea_nil)) ⟨as, rs, ss, m, _, rfl, .inl rfl, hl1, hok, rfl⟩) ?_
  exact sv_ret (ev_and (k := (unwL as rs m).isEmpty) (m := (blkL as rs ss m).isEmpty) ((cmp2 (db := .tup []) (op_eqD (by have := hr.units; exact this)) (ev_call xo dU hr (by decide) rfl (ea_c (v 0) (ea_c (v 1) ea_nil)) ⟨as, rs, ss, m, rfl, mk, mt, rfl⟩) (ev_tup ea_nil) (opd_eqT (plain_pr _))).eq (by rw [List.isEmpty_map]))
    fun _ => ev_one ((cmp2 (db := .tup []) (op_eqD (by have := hr.units; exact this)) (ev_call xo dB hr (by decide) rfl (ea_c (v 0) (ea_c (v 1) ea_nil)) ⟨as, rs, ss, m, rfl, mk, mt, rfl⟩) (ev_tup ea_nil) (opd_eqT (plain_pr _))).eq (by rw [List.isEmpty_map]))) fun d e => e
/-! ### pairs -/
def R_prs (ds : List D) (d : D) : Prop := ∃ as rs ss, ds = [.mkt as rs ss] ∧ MkOk as rs ss ∧ d = .tup ((pairsL as rs).map dPr)
abbrev N_prs : List Str := ["self", "found", "asker", "wish", "room"]
theorem sc_prs : FnScope N_prs ["self"] (defScope s_M_pairs) := ⟨rfl, rfl, rfl, by decide +kernel, rfl, by decide +kernel, by decide +kernel⟩
def prsRow (as rs : List (List Int)) (i : Nat) : List (Int × Int) := ((as.getD i []).filter fun r => decide ((i : Int) ∈ nth rs r)).map fun r => ((i : Int), r)
theorem prsRow_len {as rs : List (List Int)} {ss : List Int} (mk : MkOk as rs ss) {i : Nat} (h : i < as.length) : (prsRow as rs i).length ≤ 20 := by
  unfold prsRow
  rw [List.length_map]
  exact Nat.le_trans (List.length_filter_le _ _) (mk.a _ (getD_mem as [] h)).2
theorem ok_prs (T : Tx Θ) (W : WiM Θ) (F : Fun Θ.K "pairs" "Market.pairs" s_M_pairs f fd) : FnOk Θ.P Θ.w Θ.K Θ.mg Θ.base (L2.CX Θ.P Θ.w) 2 f fd ["self"] (PSp Θ 1 R_prs NoX) := by
  refine fn_ok F sc_prs rfl (fun cdv A outer s H E ds d hr hl hR => ?_) (fun _ _ _ _ _ _ _ _ _ _ h => h.elim)
  obtain ⟨as, rs, ss, rfl, mk, rfl⟩ := hR
  have xo := xo_cx (Θ := Θ) (qual := "Market.pairs") (f := f) (cd := cdv) (A := A) (outer := outer) (s := s) (H := H) (E := E) sc_prs
  have po : PassesOwn (model Θ.P Θ.w) (cxP Θ N_prs "Market.pairs" (defScope s_M_pairs) f cdv A outer s H E).A (cxP Θ N_prs "Market.pairs" (defScope s_M_pairs) f cdv A outer s H E).env (cxP Θ N_prs "Market.pairs" (defScope s_M_pairs) f cdv A outer s H E).xe := passes_of rfl
  refine sv_nilM (i := 1) xo ?_
  refine sv_for (n := (as.map D.wish).length) (g := gTup Θ.K 2 (gCons (gName 2) (gCons (gName 3) gNil))) (bd := fun i => [(2, .int (i : Int)), (3, (as.map D.wish).getD i .non)]) xo po (ei_enumL T (ev_askers xo T (v 0))) (pg2 2 3 xo)
    (fun k δ' => ∃ x y z, δ' = [.im (.mkt as rs ss), .mu ((((List.range k).map (prsRow as rs)).flatten).map dPr), x, y, z]) ⟨.no, .no, .no, rfl⟩ ?_ ?_
  · rintro k δ' hk ⟨x, y, z, rfl⟩
    have hk' : k < as.length := by rw [List.length_map] at hk; exact hk
    have ew : (as.map D.wish).getD k .non = .wish (as.getD k []) := getD_map as [] D.wish hk'
    have rowl : (((List.range k).map (prsRow as rs)).flatten).length ≤ k * 20 := flat_len _ 20 k fun i hi => prsRow_len mk (by omega)
    have inr : ∀ i, i < (as.getD k []).length → Ix rs ((as.getD k []).getD i 0) := fun i hi => (mk.a _ (getD_mem as [] hk')).1.2 _ (getD_mem _ 0 hi)
    have la := mk.la
    have lk := (mk.a _ (getD_mem as [] hk')).2
    have at_ : ∀ i, i < ((as.getD k []).map D.int).length → ((as.getD k []).map D.int).getD i .non = .int ((as.getD k []).getD i 0) := fun i hi => getD_map _ 0 D.int (by rw [List.length_map] at hi; exact hi)
    have fin : ((List.range ((as.getD k []).map D.int).length).filter fun i => decide ((k : Int) ∈ nth rs ((as.getD k []).getD i 0))).map (fun i => dPr ((k : Int), (as.getD k []).getD i 0)) = (prsRow as rs k).map dPr := by
      rw [List.length_map, filter_range_get (as.getD k []) 0 (fun r => decide ((k : Int) ∈ nth rs r)) fun r => dPr ((k : Int), r)]
      unfold prsRow
      rw [List.map_map]
      rfl
    refine sv_ext (i := 1) (m := (prsRow as rs k).map dPr) xo rfl ((lc1f (n := ((as.getD k []).map D.int).length) (b := fun i => ((as.getD k []).map D.int).getD i .non) (kp := fun i => decide ((k : Int) ∈ nth rs ((as.getD k []).getD i 0))) (f := fun i => dPr ((k : Int), (as.getD k []).getD i 0)) 4 xo (ei_tup (ev_order xo T ((v 3).eq ew))) (blkOk_by (N := N_prs) (sc := defScope s_M_pairs) (by decide +kernel)) (by rw [List.length_map]; omega)
      (fun i hi s H C cl fp xb => ets_one (et_val (ev_meth xb W.has hr (by decide) (ixW (ev_rooms xb T (v 0)) ((v 4).eq (at_ i hi)) (inr i (by rw [List.length_map] at hi; exact hi))) noFld_wish (ea_c (v 2) ea_nil) ⟨_, (k : Int), rfl, rfl⟩)))
      fun i hi _ s H C cl fp xb => ev_tup (ea_c (v 2) (ea_c ((v 4).eq (at_ i hi)) ea_nil))).eq (by rw [fin])) ?_ ?_
    · rw [List.length_map, List.length_map]
      have := prsRow_len (rs := rs) mk hk'
      omega
    · refine sv_nil ⟨.im (.int (k : Int)), .im ((as.map D.wish).getD k .non), z, ?_⟩
      rw [take_flat_succ, List.map_append]
      rfl
  · rintro δ' ⟨x, y, z, rfl⟩
    refine sv_freeze (i := 1) rfl ?_
    refine sv_ret (tupL T (v 1)) fun d e => ?_
    rw [e, List.length_map]
    rfl
end
end PM

/-! with_list, with_order, with_seats. -/
namespace PM
open PySem PySem.Spec PyProof.Rows L2
theorem MkOk.setA {as rs : List (List Int)} {ss l : List Int} {i : Nat} (mk : MkOk as rs ss) (h : okL l rs.length) (hl : l.length ≤ 20) : MkOk (as.set i l) rs ss := by
  refine ⟨by rw [List.length_set]; exact mk.la, mk.lr, mk.ls, fun x hx => ?_, fun x hx => by rw [List.length_set]; exact mk.r x hx⟩
  rcases List.mem_or_eq_of_mem_set hx with h1 | h1
  · exact mk.a x h1
  · rw [h1]; exact ⟨h, hl⟩
theorem MkOk.setR {as rs : List (List Int)} {ss l : List Int} {i : Nat} (mk : MkOk as rs ss) (h : okL l as.length) (hl : l.length ≤ 20) : MkOk as (rs.set i l) ss := by
  refine ⟨mk.la, by rw [List.length_set]; exact mk.lr, by rw [List.length_set]; exact mk.ls, fun x hx => by rw [List.length_set]; exact mk.a x hx, fun x hx => ?_⟩
  rcases List.mem_or_eq_of_mem_set hx with h1 | h1
  · exact mk.r x h1
  · rw [h1]; exact ⟨h, hl⟩
theorem MkOk.setS {as rs : List (List Int)} {ss : List Int} {i : Nat} {z : Int} (mk : MkOk as rs ss) : MkOk as rs (ss.set i z) := ⟨mk.la, mk.lr, by rw [List.length_set]; exact mk.ls, mk.a, mk.r⟩
theorem dLs_set (as : List (List Int)) (i : Nat) (l : List Int) : (dLs as).set i (.tup (l.map .int)) = dLs (as.set i l) := by
  unfold dLs
  rw [List.map_set]
theorem dLs_len (as : List (List Int)) : (dLs as).length = as.length := List.length_map _
theorem rangeW (l : List (List Int)) : ((List.range (l.map D.wish).length).filter fun _ => true).map (fun i : Nat => D.tup ((l.getD i []).map .int)) = dLs l := by
  rw [List.length_map]
  exact map_range_all l [] fun r => D.tup (r.map .int)
section
variable {Θ : Th} {X : Cx} {iter : Expr} {δ : List SD} {pos px p4 apos : Pos} {x : Str} {scope : Scope}
/-- [wish.order for wish in ..] -/
theorem lcOrd {l : List (List Int)} (j : Nat) (xo : XOk Θ X) (T : Tx Θ) (h : EV Θ X iter δ (· = .lst (l.map .wish))) (ok : BlkOk X.N X.env.scope scope [(x, j)]) (hl : l.length ≤ 20) (hlt : j < δ.length := by exact Nat.le_of_ble_eq_true rfl)
    (hj : X.N[j]? = some x := by rfl) (hx : ∀ s H C cl fp, Loc (bk X scope s H C cl fp).env.scope x := by first | (intros; exact .inl rfl) | (intros; exact .inr rfl)) (hf : ∀ s H C cl fp, (bk X scope s H C cl fp).fn x = true ∨ (bk X scope s H C cl fp).env.scope.names.lookup x = some .local := by first | (intros; exact .inl rfl) | (intros; exact .inr rfl))
    (hs : ∀ x, foldedSetIterable iter X.env x = pure x := by intro _; rfl) (hd : (x == ("__debug__" : Str)) = false := by decide) (hcd : (x == ("__classdict__" : Str)) = false := by decide)
    (hb : ∀ s H C cl fp, attributeBase (.Name x p4) "order" (bk X scope s H C cl fp).env (eval (.Name x p4) (bk X scope s H C cl fp).env) = eval (.Name x p4) (bk X scope s H C cl fp).env := by intros; rfl) :
    EV Θ X (.ListComp (.Attribute (.Name x p4) "order" apos) [⟨.Name x px, iter, [], 0⟩] scope pos) δ (· = .lst (dLs l)) :=
  (lc1f (n := (l.map D.wish).length) (kp := fun _ => true) (f := fun i : Nat => D.tup ((l.getD i []).map .int)) j xo (ei_list h) ok (by rw [List.length_map]; omega) (fun _ _ _ _ _ _ _ _ => ets_nil)
    (fun i hi _ s H C cl fp xb => ev_order xb T ((ev_var (X := bk X scope s H C cl fp) (i := j) (List.getElem?_set_self (by rw [List.length_set]; exact hlt)) hj ((hx s H C cl fp).elim (fun h => Or.inl h) fun h => Or.inr (Or.inl h)) hd hcd).eq (getD_map l [] D.wish (by rw [List.length_map] at hi; exact hi))) (hb s H C cl fp)) hj hx hf hs).eq (by rw [rangeW])
end
section
variable {Θ : Th} {f c P CR CB : Addr} {fd : FuncData} {kM : Nat}
def R_wl (ds : List D) (d : D) : Prop := ∃ as rs ss i l, ds = [.mkt as rs ss, .int i, .tup (l.map .int)] ∧ Ix as i ∧ MkOk as rs ss ∧ (∀ s ∈ ss, 0 ≤ s) ∧ okL l rs.length ∧ l.length ≤ 20 ∧ d = .mkt (as.set i.toNat l) rs ss
abbrev N_wl : List Str := ["self", "asker", "order", "lists", "wish"]
theorem sc_wl : FnScope N_wl ["self", "asker", "order"] (defScope s_M_with_list) := ⟨rfl, rfl, rfl, by decide +kernel, rfl, by decide +kernel, by decide +kernel⟩
theorem ok_wl (T : Tx Θ) (mM : Mkr Θ "Market" Θ.CM kM 3 R_mi (X_mi CR CB)) (F : Fun Θ.K "with_list" "Market.with_list" s_M_with_list f fd) : FnOk Θ.P Θ.w Θ.K Θ.mg Θ.base (L2.CX Θ.P Θ.w) (kM + 2) f fd ["self", "asker", "order"] (PSp Θ 3 R_wl NoX) := by
  refine fn_ok F sc_wl rfl (fun cdv A outer s H E ds d hr hl hR => ?_) (fun _ _ _ _ _ _ _ _ _ _ h => h.elim)
  obtain ⟨as, rs, ss, i, l, rfl, hi, mk, hs0, hok, hl20, rfl⟩ := hR
  have xo := xo_cx (Θ := Θ) (qual := "Market.with_list") (f := f) (cd := cdv) (A := A) (outer := outer) (s := s) (H := H) (E := E) sc_wl
  have hin : i = (i.toNat : Int) := by have := hi.1; omega
  have hilt : i.toNat < as.length := by have := hi.1; have := hi.2; omega
  refine sv_setLcM (i := 3) (n := (as.map D.wish).length) (g := gName 4) (bd := fun i => [(4, (as.map D.wish).getD i .non)]) (own := [("wish", 4)]) (kp := fun _ => true) (PL := fun i d => d = D.tup ((as.getD i []).map .int)) xo rfl rfl (sw_true rfl rfl rfl (by decide +kernel)) (ei_list (ev_askers xo T (v 0))) (blkOk_by (N := N_wl) (sc := defScope s_M_with_list) (by decide +kernel)) (by rw [List.length_map]; have := mk.la; omega)
    (fun i hi σ bv G h => hw1 σ bv h) (fun s H C cl fp => pg_name xo.nd rfl (.inl rfl)) (fun i hi s H C cl fp => ets_nil) (fun i hi _ s H C cl fp => ev_order (bk_ok xo) T ((v 4).eq (getD_map as [] D.wish (by rw [List.length_map] at hi; exact hi)))) fun l1 al => ?_
  have e1 := al.det
  rw [rangeW] at e1
  subst e1
  refine sv_seti (i := 3) (m := i.toNat) (z := i) (d := .tup (l.map .int)) xo rfl (tupT T (v 2)) (v 1) hin (by rw [dLs_len]; exact hilt) ?_
  refine sv_freeze (i := 3) rfl ?_
  refine sv_ret (ev_make xo mM hr (Nat.le_refl _) rfl (ea_c ((v 3).eq (by rw [dLs_set])) (ea_c (lcOrd (l := rs) 4 xo T (ev_rooms xo T (v 0)) (blkOk_by (N := N_wl) (sc := defScope s_M_with_list) (by decide +kernel)) mk.lr) (ea_c (ev_seats xo T (v 0)) ea_nil))) ⟨_, _, ss, _, rfl, .inl rfl, mk.setA hok hl20, hs0, rfl⟩) fun d e => e
def R_wo (ds : List D) (d : D) : Prop := ∃ as rs ss i l, ds = [.mkt as rs ss, .int i, .tup (l.map .int)] ∧ Ix rs i ∧ MkOk as rs ss ∧ (∀ s ∈ ss, 0 ≤ s) ∧ okL l as.length ∧ l.length ≤ 20 ∧ d = .mkt as (rs.set i.toNat l) ss
abbrev N_wo : List Str := ["self", "room", "order", "orders", "wish"]
theorem sc_wo : FnScope N_wo ["self", "room", "order"] (defScope s_M_with_order) := ⟨rfl, rfl, rfl, by decide +kernel, rfl, by decide +kernel, by decide +kernel⟩
theorem ok_wo (T : Tx Θ) (mM : Mkr Θ "Market" Θ.CM kM 3 R_mi (X_mi CR CB)) (F : Fun Θ.K "with_order" "Market.with_order" s_M_with_order f fd) : FnOk Θ.P Θ.w Θ.K Θ.mg Θ.base (L2.CX Θ.P Θ.w) (kM + 2) f fd ["self", "room", "order"] (PSp Θ 3 R_wo NoX) := by
  refine fn_ok F sc_wo rfl (fun cdv A outer s H E ds d hr hl hR => ?_) (fun _ _ _ _ _ _ _ _ _ _ h => h.elim)
  obtain ⟨as, rs, ss, i, l, rfl, hi, mk, hs0, hok, hl20, rfl⟩ := hR
  have xo := xo_cx (Θ := Θ) (qual := "Market.with_order") (f := f) (cd := cdv) (A := A) (outer := outer) (s := s) (H := H) (E := E) sc_wo
  have hin : i = (i.toNat : Int) := by have := hi.1; omega
  have hilt : i.toNat < rs.length := by have := hi.1; have := hi.2; omega
  refine sv_setLcM (i := 3) (n := (rs.map D.wish).length) (g := gName 4) (bd := fun i => [(4, (rs.map D.wish).getD i .non)]) (own := [("wish", 4)]) (kp := fun _ => true) (PL := fun i d => d = D.tup ((rs.getD i []).map .int)) xo rfl rfl (sw_true rfl rfl rfl (by decide +kernel)) (ei_list (ev_rooms xo T (v 0))) (blkOk_by (N := N_wo) (sc := defScope s_M_with_order) (by decide +kernel)) (by rw [List.length_map]; have := mk.lr; omega)
    (fun i hi σ bv G h => hw1 σ bv h) (fun s H C cl fp => pg_name xo.nd rfl (.inl rfl)) (fun i hi s H C cl fp => ets_nil) (fun i hi _ s H C cl fp => ev_order (bk_ok xo) T ((v 4).eq (getD_map rs [] D.wish (by rw [List.length_map] at hi; exact hi)))) fun l1 al => ?_
  have e1 := al.det
  rw [rangeW] at e1
  subst e1
  refine sv_seti (i := 3) (m := i.toNat) (z := i) (d := .tup (l.map .int)) xo rfl (tupT T (v 2)) (v 1) hin (by rw [dLs_len]; exact hilt) ?_
  refine sv_freeze (i := 3) rfl ?_
  refine sv_ret (ev_make xo mM hr (Nat.le_refl _) rfl (ea_c (lcOrd (l := as) 4 xo T (ev_askers xo T (v 0)) (blkOk_by (N := N_wo) (sc := defScope s_M_with_order) (by decide +kernel)) mk.la) (ea_c ((v 3).eq (by rw [dLs_set])) (ea_c (ev_seats xo T (v 0)) ea_nil))) ⟨_, _, ss, _, rfl, .inl rfl, mk.setR hok hl20, hs0, rfl⟩) fun d e => e
def R_ws (ds : List D) (d : D) : Prop := ∃ as rs ss i z, ds = [.mkt as rs ss, .int i, .int z] ∧ Ix ss i ∧ MkOk as rs ss ∧ (∀ s ∈ ss, 0 ≤ s) ∧ 0 ≤ z ∧ d = .mkt as rs (ss.set i.toNat z)
def X_ws (CR : Addr) (ds : List D) (cx : Addr) : Prop := ∃ as rs ss i z, ds = [.mkt as rs ss, .int i, .int z] ∧ Ix ss i ∧ MkOk as rs ss ∧ z < 0 ∧ cx = CR
abbrev N_ws : List Str := ["self", "room", "count", "seats", "wish"]
theorem sc_ws : FnScope N_ws ["self", "room", "count"] (defScope s_M_with_seats) := ⟨rfl, rfl, rfl, by decide +kernel, rfl, by decide +kernel, by decide +kernel⟩
theorem ints_set (ss : List Int) (i : Nat) (z : Int) : (ss.map D.int).set i (.int z) = (ss.set i z).map D.int := by rw [List.map_set]
theorem ok_ws (T : Tx Θ) (mM : Mkr Θ "Market" Θ.CM kM 3 R_mi (X_mi CR CB)) (F : Fun Θ.K "with_seats" "Market.with_seats" s_M_with_seats f fd) : FnOk Θ.P Θ.w Θ.K Θ.mg Θ.base (L2.CX Θ.P Θ.w) (kM + 2) f fd ["self", "room", "count"] (PSp Θ 3 R_ws (X_ws CR)) := by
  refine fn_ok F sc_ws rfl (fun cdv A outer s H E ds d hr hl hR => ?_) (fun cdv A outer s H E ds cx hr hl hR => ?_)
  · obtain ⟨as, rs, ss, i, z, rfl, hi, mk, hs0, hz, rfl⟩ := hR
    have xo := xo_cx (Θ := Θ) (qual := "Market.with_seats") (f := f) (cd := cdv) (A := A) (outer := outer) (s := s) (H := H) (E := E) sc_ws
    have hin : i = (i.toNat : Int) := by have := hi.1; omega
    have hilt : i.toNat < ss.length := by have := hi.1; have := hi.2; omega
    refine sv_listM (i := 3) (l := ss.map .int) T xo ((ev_seats xo T (v 0)).imp fun _ e => .inr e) ?_
    refine sv_seti (i := 3) (m := i.toNat) (z := i) (d := .int z) xo rfl (v 2) (v 1) hin (by rw [List.length_map]; exact hilt) ?_
    refine sv_freeze (i := 3) rfl ?_
    refine sv_ret (ev_make xo mM hr (Nat.le_refl _) rfl (ea_c (lcOrd (l := as) 4 xo T (ev_askers xo T (v 0)) (blkOk_by (N := N_ws) (sc := defScope s_M_with_seats) (by decide +kernel)) mk.la) (ea_c (lcOrd (l := rs) 4 xo T (ev_rooms xo T (v 0)) (blkOk_by (N := N_ws) (sc := defScope s_M_with_seats) (by decide +kernel)) mk.lr) (ea_c ((v 3).eq (by rw [ints_set])) ea_nil))) ⟨_, _, _, _, rfl, .inr rfl, mk.setS, fun s hs => ?_, rfl⟩) fun d e => e
    rcases List.mem_or_eq_of_mem_set hs with h1 | h1
    · exact hs0 s h1
    · rw [h1]; exact hz
  · obtain ⟨as, rs, ss, i, z, rfl, hi, mk, hz, rfl⟩ := hR
    have xo := xo_cx (Θ := Θ) (qual := "Market.with_seats") (f := f) (cd := cdv) (A := A) (outer := outer) (s := s) (H := H) (E := E) sc_ws
    have hin : i = (i.toNat : Int) := by have := hi.1; omega
    have hilt : i.toNat < ss.length := by have := hi.1; have := hi.2; omega
    refine sv_listM (i := 3) (l := ss.map .int) T xo ((ev_seats xo T (v 0)).imp fun _ e => .inr e) ?_
    refine sv_seti (i := 3) (m := i.toNat) (z := i) (d := .int z) xo rfl (v 2) (v 1) hin (by rw [List.length_map]; exact hilt) ?_
    refine sv_freeze (i := 3) rfl ?_
    have hm : z ∈ ss.set i.toNat z := List.mem_set hilt z
    refine sv_retX (ex_make xo mM hr (Nat.le_refl _) rfl (ea_c (lcOrd (l := as) 4 xo T (ev_askers xo T (v 0)) (blkOk_by (N := N_ws) (sc := defScope s_M_with_seats) (by decide +kernel)) mk.la) (ea_c (lcOrd (l := rs) 4 xo T (ev_rooms xo T (v 0)) (blkOk_by (N := N_ws) (sc := defScope s_M_with_seats) (by decide +kernel)) mk.lr) (ea_c ((v 3).eq (by rw [ints_set])) ea_nil))) ⟨_, _, _, _, rfl, .inr rfl, mk.la, mk.lr, by rw [List.length_set, mk.ls]; have := mk.lr; omega, .inl ⟨.inr ⟨z, hm, hz⟩, rfl⟩⟩) rfl
end
end PM

/-! __init__: an instance whose fields are being set. -/
namespace PM
open PySem PySem.Spec PyProof.Rows L2
/-- the fields that are set, the last one first -/
inductive FR (Θ : Th) (G : Hp) : List (Str × V) → List (Str × D) → Prop
  | nil : FR Θ G [] []
  | put {fs : List (Str × V)} {fd : List (Str × D)} {f : Str} {v : V} {d : D} : FR Θ G fs fd → Rep Θ G v d → FR Θ G (putF f v fs) ((f, d) :: fd)
theorem FR.gr {Θ : Th} {G G' : Hp} (g : Gr G G') {fs : List (Str × V)} {fd : List (Str × D)} (h : FR Θ G fs fd) : FR Θ G' fs fd := by
  induction h with
  | nil => exact .nil
  | put _ r ih => exact .put ih (r.gr g)
theorem FR.len {Θ : Th} {G : Hp} {fs : List (Str × V)} {fd : List (Str × D)} (h : FR Θ G fs fd) : fs.length ≤ fd.length := by
  induction h with
  | nil => exact Nat.le_refl _
  | put _ _ ih => exact Nat.le_trans (length_putF _ _ _) (Nat.succ_le_succ ih)
/-- statements of an __init__: to fields fe, or an exception of Ξ -/
def SI (Θ : Th) (X : Cx) (C : Addr) (st : List Stmt) (δ : List SD) (fd fe : List (Str × D)) (Ξ : Addr → Prop) : Prop :=
  ∀ (G0 H0 G H : Hp) (σ : L2.St) (x dx : Addr) (fs : List (Str × V)) (Dn : Ends) (E : XK), Takes X (fun cls d _ H => E cls d H) → StOk Θ none G0 H0 G H σ δ → H0 x = none → σ[0]? = some (some (.ref x)) → H x = some (.ins C dx fs) → G x = none → FR Θ G fs fd →
    (∀ σ' G' H' fs', Stp none G0 H0 G' H' → Hs Θ G' H' → H' x = some (.ins C dx fs') → G' x = none → FR Θ G' fs' fe → Dn.nx σ' H') →
    (∀ c G' H', Stp none G0 H0 G' H' → Hs Θ G' H' → Ξ c → E (.ref c) none H') → tSs X st Dn σ H
section
variable {Θ : Th} {X : Cx} {C : Addr} {rest s1 : List Stmt} {δ : List SD} {fd fe : List (Str × D)} {Ξ : Addr → Prop} {e c : Expr} {d : D} {f : Str} {pos p1 p2 pa : Pos} {k : Bool} {P : D → Prop}
theorem si_nil : SI Θ X C [] δ fd fd Ξ := fun G0 H0 G H σ x dx fs Dn E tk S h0 hσ hx hg r q ex => .of pss_nil (q σ G H fs S.stp S.hs hx hg r)
/-- what an expression leaves of the instance -/
theorem ins_kept {G0 H0 G H G' H' : Hp} {σ : L2.St} {x dx : Addr} {fs : List (Str × V)} (S : StOk Θ none G H G' H' σ δ) (hx : H x = some (.ins C dx fs)) (hg : G x = none) : H' x = some (.ins C dx fs) ∧ G' x = none :=
  ⟨S.stp.h x _ hx (fun _ z => nomatch z) (by simp), by rw [(S.stp.new x (by rw [hx]; trivial)).1]; exact hg⟩
/-- the instance is written -/
theorem ins_write {G0 H0 G H : Hp} {σ : L2.St} {x dx : Addr} {fs fs' : List (Str × V)} (S : StOk Θ none G0 H0 G H σ δ) (h0 : H0 x = none) (hx : H x = some (.ins C dx fs)) (hg : G x = none) : StOk Θ none G0 H0 G (upd H x (.ins C dx fs')) σ δ := by
  have np : ∀ a o, H a = some o → (∀ C dx fs, o ≠ .ins C dx fs) → a ≠ x := fun a o e n z => by
    rw [z, hx] at e
    exact n _ _ _ (Option.some.inj e).symm
  refine ⟨S.stp.mut h0, ⟨fun a o e => by rw [upd_ne (ne_of_none e hg)]; exact S.hs.sub a o e, S.hs.nt, fun p hp => ?_, fun p hp => ?_⟩, fun d e => (by cases e), S.len, S.im, fun i ds e => ?_, S.dc, S.dist⟩
  · obtain ⟨ps, e1, e2, e3⟩ := S.hs.tabs p hp
    refine ⟨ps, by rw [upd_ne (np _ _ e1 fun _ _ _ z => nomatch z)]; exact e1, e2, fun pos cv hc => ?_⟩
    obtain ⟨c, e4, e5⟩ := e3 pos cv hc
    exact ⟨c, e4, by rw [upd_ne (np _ _ e5 fun _ _ _ z => by unfold LamX.CodeO at z; cases z)]; exact e5⟩
  · obtain ⟨ps, e1, e2⟩ := S.hs.tabg p hp
    exact ⟨ps, by rw [upd_ne (np _ _ e1 fun _ _ _ z => nomatch z)]; exact e1, e2⟩
  · obtain ⟨l, vs, h1, h2, h3, h4, h5⟩ := S.mu i ds e
    exact ⟨l, vs, h1, by rw [upd_ne (np _ _ h2 fun _ _ _ z => nomatch z)]; exact h2, h3, h4, h5⟩
/-- self.f = e; e is told at the state -/
theorem si_fldAt (xo : XOk Θ X) (hC : Cls Θ.K C) (hn : NoAttr Θ.K C f) (hf : fd.length ≤ 100) (hN : X.N[0]? = some ("self" : Str)) (hv : Vis X.env.scope ("self" : Str))
    (he : ∀ (G0 H0 G H : Hp) (σ : L2.St) (x dx : Addr) (fs : List (Str × V)) (Q : VK), StOk Θ none G0 H0 G H σ δ → σ[0]? = some (some (.ref x)) → H x = some (.ins C dx fs) → G x = none → FR Θ G fs fd →
      (∀ v d' G' H', StOk Θ none G0 H0 G' H' σ δ → H' x = some (.ins C dx fs) → G' x = none → Gr G G' → Rep Θ G' v d' → d' = d → Q v H') → tE X e σ H Q)
    (hr : SI Θ X C rest δ ((f, d) :: fd) fe Ξ) (hs : swapsWith e (some (.Attribute (.Name "self" p1) f pa)) pos.line X.env = pure false := by rfl) :
    SI Θ X C (.Assign [.Attribute (.Name "self" p1) f pa] e pos :: rest) δ fd fe Ξ := fun G0 H0 G H σ x dx fs Dn E tk S h0 hσ hx hg r q ex => by
  rw [xo.K] at hC hn
  refine .of (pss_cons (ps_fld (pe_var hN hv) pe_can hs) pss_can) ?_
  refine he G0 H0 G H σ x dx fs _ S hσ hx hg r fun v d' G1 H1 S1 hx1 hg1 g1 r1 e1 => ?_
  subst e1
  refine ⟨.ref x, hσ, x, C, dx, fs, rfl, hx1, hC, hn, Nat.lt_of_le_of_lt (Nat.le_trans r.len hf) (by decide), ?_⟩
  exact hr G0 H0 G1 _ σ x dx _ Dn E tk (ins_write S1 h0 hx1 hg1) h0 hσ upd_same hg1 (.put (r.gr g1) r1) q ex
/-- self.f = e -/
theorem si_fld (xo : XOk Θ X) (hC : Cls Θ.K C) (hn : NoAttr Θ.K C f) (hf : fd.length ≤ 100) (he : EV Θ X e δ (· = d)) (hr : SI Θ X C rest δ ((f, d) :: fd) fe Ξ) (hN : X.N[0]? = some ("self" : Str) := by rfl) (hv : Vis X.env.scope ("self" : Str) := by first | exact Or.inl rfl | exact Or.inr (Or.inl rfl))
    (hs : swapsWith e (some (.Attribute (.Name "self" p1) f pa)) pos.line X.env = pure false := by rfl) :
    SI Θ X C (.Assign [.Attribute (.Name "self" p1) f pa] e pos :: rest) δ fd fe Ξ :=
  si_fldAt xo hC hn hf hN hv (fun G0 H0 G H σ x dx fs Q S hσ hx hg r k => he none G H G H σ Q S.anew fun v d' G' H' S' g r p => by
    obtain ⟨h1, h2⟩ := ins_kept (G0 := G0) (H0 := H0) S' hx hg
    exact k v d' G' H' (S.back S') h1 h2 g r p) hr hs
/-- self.f = e, e raises -/
theorem si_fldX {cx : Addr} (he : EX Θ X e δ cx) (hc : Ξ cx) (hN : X.N[0]? = some ("self" : Str) := by rfl) (hv : Vis X.env.scope ("self" : Str) := by first | exact Or.inl rfl | exact Or.inr (Or.inl rfl))
    (hs : swapsWith e (some (.Attribute (.Name "self" p1) f pa)) pos.line X.env = pure false := by rfl) : SI Θ X C (.Assign [.Attribute (.Name "self" p1) f pa] e pos :: rest) δ fd fe Ξ := fun G0 H0 G H σ x dx fs Dn E tk S h0 hσ hx hg r q ex =>
  .of (pss_cons (ps_fld (pe_var hN hv) pe_can hs) pss_can) (he none G0 H0 G H σ _ E tk S fun G1 H1 S1 => ex cx G1 H1 S1.stp S1.hs hc)
/-- if c: raise X('m') -/
theorem si_ifX {xn m : Str} {j : Nat} {CE : Addr} {p3 p4 p5 : Pos} (xo : XOk Θ X) (hc : ET Θ X c δ k) (eC : ExC Θ xn CE) (h1 : k = true → Ξ CE) (h2 : k = false → SI Θ X C rest δ fd fe Ξ) (hg : Gl X xn := by rfl) (hdb : (xn == ("__debug__" : Str)) = false := by decide) :
    SI Θ X C (.If c [.Raise (some (.Call (.Name xn p3) [.Constant (.str m) j p4] [] p5)) none p2] [] pos :: rest) δ fd fe Ξ := fun G0 H0 G H σ x dx fs Dn E tk S h0 hσ hx hgx r q ex => by
  obtain ⟨eq, eg, ek, es, et⟩ := eC
  rw [xo.K] at eq ek es et
  rw [xo.mg] at eg
  refine .of (pss_cons (ps_if pt_can (pss_one (ps_raise xo.calm tk (pmk_own PySem.F.excBase_ValueError eq eg ek (raises_own es et) hg hdb))) pss_nil) pss_can) ?_
  refine hc none G H G H σ _ S.anew fun G1 H1 S1 g1 => ?_
  obtain ⟨hx1, hg1⟩ := ins_kept (G0 := G0) (H0 := H0) S1 hx hgx
  have S2 := S.back S1
  cases k with
  | true => exact ex CE G1 H1 S2.stp S2.hs (h1 rfl)
  | false => exact h2 rfl G0 H0 G1 H1 σ x dx fs Dn E tk S2 h0 hσ hx1 hg1 (r.gr g1) q ex
end
theorem Hs.frozenI {Θ : Th} {G H : Hp} {p C dx : Addr} {fs : List (Str × V)} (x : Hs Θ G H) (hp : H p = some (.ins C dx fs)) : Hs Θ (upd G p (.ins C dx fs)) H :=
  ⟨fun a u e => by
    by_cases z : a = p
    · subst z; rw [upd_same] at e; rw [hp]; exact e
    · rw [upd_ne z] at e; exact x.sub a u e,
   fun a ps e => by
    by_cases z : a = p
    · subst z; rw [upd_same] at e; cases e
    · rw [upd_ne z] at e; exact x.nt a ps e, x.tabs, x.tabg⟩
section
variable {Θ : Th} {x qual : Str} {st : Stmt} {f C : Addr} {fd : FuncData} {N ps : List Str} {k n : Nat} {R : List D → D → Prop} {RX : List D → Addr → Prop}
/-- an __init__ by its body -/
theorem fn_init (F : Fun Θ.K x qual st f fd) (S : FnScope N ps (defScope st)) (hn : ps.length = n + 1) (hN : 0 < N.length)
    (h1 : ∀ (cdv : Value) (A : Around) (outer : List Env) (s : Shared) (H : Hp) (E : XK) (ds : List D) (d : D), fd.code = cdv → Room k (A.deeper (envOfC qual (defScope st) s.heap.objs.size f cdv)) → ds.length = n → R ds d →
      ∃ fe, SI Θ (cxP Θ N qual (defScope st) f cdv A outer s H E) C (defBody st) ((δ0 N (.non :: ds)).set 0 .no) [] fe (fun _ => False) ∧ ∀ (G : Hp) (x dx : Addr) (fs : List (Str × V)), FR Θ G fs fe → G x = none → Rep Θ (upd G x (.ins C dx fs)) (.ref x) d)
    (h2 : ∀ (cdv : Value) (A : Around) (outer : List Env) (s : Shared) (H : Hp) (E : XK) (ds : List D) (cx : Addr), fd.code = cdv → Room k (A.deeper (envOfC qual (defScope st) s.heap.objs.size f cdv)) → ds.length = n → RX ds cx →
      ∃ fe, SI Θ (cxP Θ N qual (defScope st) f cdv A outer s H E) C (defBody st) ((δ0 N (.non :: ds)).set 0 .no) [] fe (· = cx) ∧ ∀ (G : Hp) (fs : List (Str × V)), ¬ FR Θ G fs fe) :
    FnOk Θ.P Θ.w Θ.K Θ.mg Θ.base (L2.CX Θ.P Θ.w) (k + 1) f fd ps (ISp Θ C n R RX) := by
  obtain ⟨oc, od, kV, doc, pm, an, cdv, ct, osl, rfl, lk, hcd⟩ := F.ex
  refine fn_of lk hcd S (fun vs H Q E h => by rw [hn]; exact h.1) fun A outer s H vs Q E hr h => ?_
  obtain ⟨hl, x, dx, H0, G, us, ds, rfl, hx0, hdx0, hne, rfl, hs, r, h⟩ := h
  have hl2 : ds.length = n := by rw [← r.length]; simpa using hl
  obtain ⟨S0, _⟩ := stOk_start (N := N) hs (RepA.cons (Rep.non (Θ := Θ) (G := G)) r)
  have hHx : upd H0 dx (.own x) x = none := by rw [upd_ne (Ne.symm hne)]; exact hx0
  have S1 : StOk Θ none G H0 G (upd (upd H0 dx (.own x)) x (.ins C dx [])) (L2.start N (.non :: us)) (δ0 N (.non :: ds)) :=
    S0.step ((Stp.made (M := none) (G := G) hdx0).trans (Stp.made hHx)) ((hs.made hdx0).made hHx) fun d e => (by cases e)
  have S2 := S1.drop (i := 0) (o := some (.ref x))
  have eσ : (L2.start N (.non :: us)).set 0 (some (.ref x)) = L2.start N (.ref x :: us) := rfl
  rw [eσ] at S2
  have hσ : (L2.start N (.ref x :: us))[0]? = some (some (V.ref x)) := rfl
  have hgx : G x = none := hs.sub.free hx0
  have tk : Takes (cxP Θ N qual (defScope st) f cdv A outer s (upd (upd H0 dx (.own x)) x (.ins C dx [])) E) (fun cls d _ H => E cls d H) := takes_of rfl rfl rfl rfl
  rcases h with ⟨d, hR, q⟩ | ⟨c, hR, q⟩
  · obtain ⟨fe, hsi, hfin⟩ := h1 cdv A outer s _ E ds d rfl hr hl2 hR
    refine ⟨_, pss_can, hsi G H0 G _ _ x dx [] _ E tk S2 hx0 hσ upd_same hgx .nil (fun σ' G' H' fs' st' hs' e1 e2 fr => ?_) fun _ _ _ _ _ z => z.elim⟩
    exact q (upd G' x (.ins C dx fs')) H' (st'.froze hx0 hgx) (hs'.frozenI e1) (hfin G' x dx fs' fr e2)
  · obtain ⟨fe, hsi, hfin⟩ := h2 cdv A outer s _ E ds c rfl hr hl2 hR
    refine ⟨_, pss_can, hsi G H0 G _ _ x dx [] _ E tk S2 hx0 hσ upd_same hgx .nil (fun σ' G' H' fs' st' hs' e1 e2 fr => (hfin G' fs' fr).elim) fun c' G' H' st' hs' e => by rw [e]; exact q G' H' st' hs'⟩
end
end PM

/-! Wish.__init__. -/
namespace PM
open PySem PySem.Spec PyProof.Rows L2
theorem itd_enumT {Θ : Th} {G : Hp} {K : PySem.W.Frag} {p : Addr} {xs : List V} {l : List D} {j j2 : Nat} (hG : TupAt G p xs) (r : RepA Θ G xs l) :
    ItD Θ (IteT K p) (gTup K 2 (gCons (gName j) (gCons (gName j2) gNil))) l.length (fun i => [(j, .int (i : Int)), (j2, l.getD i .non)]) G := by
  have at_ : ∀ {G' H' : Hp}, Gr G G' → Hs Θ G' H' → SqT K H' p xs := fun g hs => .inl ((hG.gr g).gr hs.sub)
  refine ⟨fun {G' H'} g hs i hi => ?_, fun {G' H'} g hs => ⟨xs, at_ g hs, Nat.le_of_eq r.length⟩, fun {G' H'} g hs i hi x H2 y σ' Q' k => ?_⟩
  · obtain ⟨v, h1, _⟩ := r.get (getI l i hi)
    exact ⟨xs, v, at_ g hs, h1⟩
  · obtain ⟨T, z, rfl, hT, rfl, y⟩ := y
    obtain ⟨v, h1, h2⟩ := r.get (getI l i hi)
    have e := y xs (at_ g hs)
    rw [h1] at e
    have e2 := Option.some.inj e
    subst e2
    refine ⟨T, _, rfl, .of upd_same, rfl, _, _, rfl, _, _, rfl, rfl, ?_⟩
    exact k [(j, .int (i : Int)), (j2, v)] _ (.laid hT (hs.sub.free hT)) (hs.laid hT fun _ z => by cases z) (.cons (.int _) (.cons ((h2.gr g).gr (.new (hs.sub.free hT))) .nil))
/-- dict([.. for .. in enumerate(self.order)]), within __init__ -/
theorem self_dict {Θ : Th} {X : Cx} {δ : List SD} {G0 H0 G H : Hp} {σ : L2.St} {x dx p : Addr} {fs : List (Str × V)} {xs : List V} {l : List D} {ps : List (Int × Int)} {elt : Expr} {elts : List Expr} {kk : Nat} {pt pd pe p1 pa pc pl pos : Pos} {scope : Scope} {own : List (Str × Nat)} {Q : VK} {i j : Nat} {f : Nat → D}
    (xo : XOk Θ X) (T : Tx Θ) (S : StOk Θ none G0 H0 G H σ δ) (hN : X.N[0]? = some ("self" : Str)) (hv : Vis X.env.scope ("self" : Str)) (hσ : σ[0]? = some (some (.ref x))) (hx : H x = some (.ins Θ.CW dx fs)) (hg : G x = none) (hl : fs.lookup ("order" : Str) = some (.ref p)) (ep : TupAt G p xs) (qp : RepA Θ G xs l) (hn : l.length ≤ 1000)
    (ok : BlkOk X.N X.env.scope scope own) (hw : ∀ m, m < l.length → ∀ (σ : L2.St) bv G, Bnd Θ G bv [(i, .int (m : Int)), (j, l.getD m .non)] → wipe (setV (wipe σ (own.map (·.2))) bv) (own.map (·.2)) = wipe σ (own.map (·.2)))
    (hgt : ∀ s H C cl fp, PG (bk X scope s H C cl fp) (.Tuple elts kk pt) (gTup X.K 2 (gCons (gName i) (gCons (gName j) gNil))))
    (he : ∀ m, m < l.length → ∀ s H C cl fp, EV Θ (bk X scope s H C cl fp) elt (setD (wipeD δ (own.map (·.2))) [(i, .int (m : Int)), (j, l.getD m .non)]) (· = f m))
    (hf : ((List.range l.length).filter fun _ => true).map f = ps.map fun p => D.tup [.int p.1, .int p.2])
    (k : ∀ v d' G' H', StOk Θ none G0 H0 G' H' σ δ → H' x = some (.ins Θ.CW dx fs) → G' x = none → Gr G G' → Rep Θ G' v d' → d' = .dic (mergeL ps) → Q v H')
    (g1 : Gl X "dict" := by rfl) (g2 : Gl X "enumerate" := by rfl) (hs1 : starEach [.ListComp elt [⟨.Tuple elts kk pt, .Call (.Name "enumerate" pe) [.Attribute (.Name "self" p1) "order" pa] [] pc, [], 0⟩] scope pl] X.env = (false, eval (.ListComp elt [⟨.Tuple elts kk pt, .Call (.Name "enumerate" pe) [.Attribute (.Name "self" p1) "order" pa] [] pc, [], 0⟩] scope pl) X.env) :: starEach [] X.env := by rfl)
    (hs2 : starEach [.Attribute (.Name "self" p1) "order" pa] X.env = [(false, eval (.Attribute (.Name "self" p1) "order" pa) X.env)] := by rfl) (hs3 : starEach [.Attribute (.Name "self" p1) "order" pa] X.env = (false, eval (.Attribute (.Name "self" p1) "order" pa) X.env) :: starEach [] X.env := by rfl)
    (hpl : (backTo pos (starEach [] X.env)).any (·.1) = false := by rfl) (hb : attributeBase (.Name "self" p1) "order" X.env (eval (.Name "self" p1) X.env) = eval (.Name "self" p1) X.env := by rfl)
    (hfs : ∀ x, foldedSetIterable (.Call (.Name "enumerate" pe) [.Attribute (.Name "self" p1) "order" pa] [] pc) X.env x = pure x := by intro _; rfl) :
    tE X (.Call (.Name "dict" pd) [.ListComp elt [⟨.Tuple elts kk pt, .Call (.Name "enumerate" pe) [.Attribute (.Name "self" p1) "order" pa] [] pc, [], 0⟩] scope pl] [] pos) σ H Q := by
  refine .of (pe_callTy (call_dictP xo.calm) g1 (xo.mg ▸ T.dict) PyProof.Rows.boot_dict (pa_cons (pe_lc (own := own) (tt := tTb X scope []) (te := tEb X scope elt) xo.calm xo.nd (pi_enumT g2 (xo.mg ▸ T.enumerate) (pa_cons (pe_fld (pe_var (i := 0) hN hv) hb) pa_nil hs3) hs2) ok
    hgt (fun s H C cl fp => ⟨fun pins s' σ' H' Q' I h => h s H C cl fp pins s' I⟩) (fun s H C cl fp => ⟨fun pins s' σ' H' Q' I h => h s H C cl fp pins s' I⟩) hfs) pa_nil hs1) (by decide) (by decide) hs1 hpl) ?_
  unfold tCB
  show tCons _ _ σ H _
  unfold tCons
  refine (?_ : tLc _ _ _ _ _ σ H _)
  refine lcD1 (n := l.length) (bd := fun m => [(i, .int (m : Int)), (j, l.getD m .non)]) (kp := fun _ => true) (P := fun m d => d = f m) hn
    hw (fun m hm s H C cl fp => ets_nil) (fun m hm _ s H C cl fp => he m hm s H C cl fp) (fun R k2 => ?_) S.anew fun v d G' H' S' g' rv ⟨l2, el, al⟩ => ?_
  · refine ⟨.ref x, hσ, x, _, dx, _, .ref p, rfl, hx, xo.K ▸ T.clW, xo.K ▸ T.nOrder, hl, p, xs, rfl, .inl (ep.gr S.hs.sub), ?_⟩
    exact k2 _ G H S.anew (.refl G) (itd_enumT ep qp)
  · have e1 := al.det
    rw [hf] at e1
    subst el e1
    rw [← xo.K]
    refine (cad_dict (Θ := Θ) (ps := ps)) S'.hs (.cons rv .nil) fun v2 d2 G2 H2 s2 hs2 r2 e2 => ?_
    have S2 := S'.pure s2 hs2
    obtain ⟨h1, h2⟩ := ins_kept (G0 := G0) (H0 := H0) S2 hx hg
    exact k v2 d2 G2 H2 (S.back S2) h1 h2 (g'.trans s2.g) r2 e2
section
variable {Θ : Th} {f c P CR CB : Addr} {fd : FuncData}
def R_wi (ds : List D) (d : D) : Prop := ∃ l : List Int, ds = [.tup (l.map .int)] ∧ l.Nodup ∧ l.length ≤ 1000 ∧ d = .wish l
abbrev N_wi : List Str := ["self", "order", "one", "place"]
theorem sc_wi : FnScope N_wi ["self", "order"] (defScope s_W_init) := ⟨rfl, rfl, rfl, by decide +kernel, rfl, by decide +kernel, by decide +kernel⟩
theorem rkL_range (l : List Int) : ((List.range (l.map D.int).length).filter fun _ => true).map (fun i : Nat => D.tup [.int (l.getD i 0), .int (i : Int)]) = (rkL l).map fun p => D.tup [.int p.1, .int p.2] := by
  rw [List.filter_eq_self.mpr fun _ _ => rfl, List.length_map]
  unfold rkL
  rw [List.map_map]
  refine List.ext_getElem (by simp) fun i h1 h2 => ?_
  have h : i < l.length := by simpa using h1
  simp [List.getD_eq_getElem?_getD, List.getElem?_eq_getElem h]
theorem ok_wi (T : Tx Θ) (F : Fun Θ.K "__init__" "Wish.__init__" s_W_init f fd) : FnOk Θ.P Θ.w Θ.K Θ.mg Θ.base (L2.CX Θ.P Θ.w) 1 f fd ["self", "order"] (ISp Θ Θ.CW 1 R_wi NoX) := by
  refine fn_init F sc_wi rfl (by decide) (fun cdv A outer s H E ds d _ hr hl hR => ?_) (fun _ _ _ _ _ _ _ _ _ _ _ h => h.elim)
  obtain ⟨l, rfl, nd, hl1, rfl⟩ := hR
  have xo := xo_cx (Θ := Θ) (qual := "Wish.__init__") (f := f) (cd := cdv) (A := A) (outer := outer) (s := s) (H := H) (E := E) sc_wi
  refine ⟨[("ranks", .dic (rkL l)), ("order", .tup (l.map .int))], ?_, fun G x dx fs fr hg => ?_⟩
  · refine si_fld (d := .tup (l.map .int)) xo T.clW T.nOrder (by decide) (tupT T (v 1)) ?_
    refine si_fldAt (d := .dic (rkL l)) xo T.clW T.nRanks (by exact Nat.le_of_ble_eq_true rfl) rfl (by first | exact Or.inl rfl | exact Or.inr (Or.inl rfl)) (fun G0 H0 G H σ x dx fs Q S hσ hx hg fr k => ?_) si_nil
    -- the order that self holds
    cases fr with
    | put fr0 r0 =>
      cases fr0
      rename_i vo
      obtain ⟨p, xs, rfl, ep, qp⟩ := r0.tup_inv
      have nl : (l.map D.int).length = l.length := List.length_map _
      have at_ : ∀ i, i < (l.map D.int).length → (l.map D.int).getD i .non = .int (l.getD i 0) := fun i hi => getD_map l 0 D.int (by rw [← nl]; exact hi)
      refine self_dict (own := [("place", 3), ("one", 2)]) (i := 3) (j := 2) (l := l.map .int) (ps := rkL l) (f := fun m => D.tup [.int (l.getD m 0), .int (m : Int)]) xo T S rfl (by first | exact Or.inl rfl | exact Or.inr (Or.inl rfl)) hσ hx hg (by rw [lookup_putF, if_pos rfl]) ep qp (by rw [nl]; exact hl1)
        (blkOk_by (N := N_wi) (sc := defScope s_W_init) (by decide +kernel)) (fun i hi σ bv G h => hw2 (by decide) σ bv h) (fun s H C cl fp => pg2 3 2 (bk_ok xo)) (fun i hi s H C cl fp => ev_tup (ea_c ((v 2).eq (at_ i hi)) (ea_c (v 3) ea_nil))) (rkL_range l) fun v d' G' H' S' h1 h2 g' r' e' => k v d' G' H' S' h1 h2 g' r' ?_
      rw [e', mergeL_id (by rw [rkL_keys]; exact nd)]
  · cases fr with
    | put fr0 r0 =>
      cases fr0 with
      | put fr1 r1 =>
        cases fr1
        obtain ⟨q, rfl, eq⟩ := r0.dic_inv
        obtain ⟨p, xs, rfl, ep, qp⟩ := r1.tup_inv
        have ex := qp.ints_inv
        subst ex
        refine .wish (dx := dx) (p := p) (q := q) upd_same ?_ ?_ nd hl1
        · exact ep.gr (.new hg)
        · rw [upd_ne (ne_of_none eq hg)]; exact eq
end
end PM

/-! A comprehension whose first item raises. -/
namespace PM
open PySem PySem.Spec PyProof.Rows L2
/-- the block's context where a call may raise: what it leaves -/
def bkC (X : Cx) (s : Shared) (H : Hp) (scope : Scope) (cenv : Env) (fp : List Addr) (E : XK) : Cx :=
  (X.blk s H scope cenv fp).wish fun u s' => ∃ pins' σ' H' s1, Inv (X.blk s H scope cenv fp) pins' σ' H' s1 ∧ L2.CX X.prog X.w X.stack H' s1 E u s'
section
variable {X : Cx} {pins : List (Addr × Obj)} {σ : L2.St} {H : Hp} {s : Shared} {E : XK} {W : WX} {scope : Scope} {cenv : Env} {fp : List Addr}
theorem bkC_passes : Passes (L2.CX X.prog X.w) (bkC X s H scope cenv fp E) E := fun pins' σ' H' s1 e s' I c => ⟨pins', σ', H', s1, I.unwish, c⟩
theorem ns_up {h h' : Heap} {L : Addr} {m : Str → Option Value} (hn : h.Ns L m) (up : h.UpToSlots h') : h'.Ns L m := by
  obtain ⟨oL, es, ep, hoL, hdL, r⟩ := hn
  obtain ⟨sl, e⟩ := up L oL hoL fun vs q => by rw [hdL] at q; cases q
  exact ⟨_, es, ep, e, hdL, r⟩
/-- the exception leaves the comprehension -/
theorem comp_flight (I : Inv X pins σ H s) (hfp : ∀ b ∈ fp, FpOk X pins H b ∧ b < s.heap.objs.size) (tk : Takes X W) (hW : ∀ cls d H', E cls d H' → W cls d σ H') (hst : X.stack = X.env :: X.outer) (hfr : X.env.frame = some X.env.locals) (hcf : cenv.frame = X.env.frame) (hC : s.heap.objs.size ≤ cenv.locals) {u : Value} {s' : Shared}
    (h : (bkC X s H scope cenv fp E).xe u s') : notedBy (model X.prog X.w) X.A cenv (fun e s2 => CompFails (model X.prog X.w) X.A X.xe cenv e s2) u s' := by
  obtain ⟨pins', σ', H', s1, J, a, B, H2, cls, d, rfl, fl, hok, ub, na, os, ag, hE⟩ := h
  have hfrA : X.A.frames = some (X.env :: X.outer) := by rw [I.ok.frames, hst]
  have nst : ∀ b ∈ frs X.stack, b < s.heap.objs.size := fun b hb => by
    rcases List.mem_cons.mp (I.stkSub b hb) with e | e
    · rw [e]; exact I.lt
    · exact Nat.lt_of_not_le fun z => I.nofs z e
  have nC : cenv.locals ∉ frs X.stack := fun z => Nat.lt_irrefl _ (Nat.lt_of_lt_of_le (nst _ z) hC)
  have JC : H' cenv.locals = none := J.free
  have HC2 : H2 cenv.locals = none := by
    obtain ⟨m, ⟨o, _, _, ho, _⟩, _⟩ := J.loc
    exact ub.free _ o ho JC
  show wpAny _ _ (noteFrame (.ref a) cenv) _ _ s'
  rw [noteFrame_env _ hcf]
  have fl1 := fl
  rw [hst] at fl1
  refine HandSPX.looks_onZ Zc.steady hfrA hfr fl1 fun h2 held up2 => ?_
  -- the block's names stand
  obtain ⟨m, hn1, _⟩ := J.loc
  have hn1 : s1.heap.Ns cenv.locals m := hn1
  have hns' : s'.heap.Ns cenv.locals m := by
    obtain ⟨o, es, ep, ho, r⟩ := hn1
    exact ⟨o, es, ep, fl.1 _ _ (ub.keep _ o ho JC nC), r⟩
  refine ⟨m, ns_up hns' up2, fun h3 m3 hn3 sb => ?_⟩
  -- the ground without the block
  obtain ⟨B', b1, b2⟩ := restrict B fun b => decide (b ≠ cenv.locals)
  have bC : B'.get? cenv.locals = none := b2 _ (by simp)
  have bB : ∀ b, b ≠ cenv.locals → B'.get? b = B.get? b := fun b hb => b1 b (by simpa using hb)
  have bsub : ∀ b o, B'.get? b = some o → B.get? b = some o ∧ b ≠ cenv.locals := fun b o e => by
    by_cases hb : b = cenv.locals
    · rw [hb, bC] at e; cases e
    · rw [bB b hb] at e; exact ⟨e, hb⟩
  obtain ⟨k1, k2, k3, oe, vs, T, oT, ts, he, hz, hd, h1, hnT, hTe, hT, hdT, h3'⟩ := held
  have neC : ∀ b o vs, h2.get? b = some o → o.data = .fields vs → b ≠ cenv.locals := fun b o vs e q z => by
    obtain ⟨o', es, ep, e', q', _⟩ := ns_up hns' up2
    rw [z, e'] at e
    cases e
    rw [q'] at q
    cases q
  have held3 : HandSPX.HeldZ B' X.stack a (Zc cls d) X.env.locals h3 := by
    rw [hst]
    refine ⟨fun b o e => (sb.2 b (bsub b o e).2).trans (k1 b o (bsub b o e).1), ?_, funFrames_none (Heap.FunFrames.sameBut sb hn3 k3) fun L hL => ?_, oe, vs, T, oT, ts, (sb.2 a (neC a _ _ he hd)).trans he, hz, hd, h1, ?_, hTe, (sb.2 T (neC T _ _ hT hdT)).trans hT, hdT, h3'⟩
    · cases q : B'.get? a with
      | none => rfl
      | some o => have z := (bsub a o q).1; rw [k2] at z; cases z
    · cases q : B'.get? L with
      | none => rfl
      | some o =>
        have z := (bsub L o q).1
        have q2 := (k3.mem hL).1
        rw [q2] at z
        cases z
    · cases q : B'.get? T with
      | none => rfl
      | some o => have z := (bsub T o q).1; rw [hnT] at z; cases z
  have he3 : h3.get? a = some oe := (sb.2 a (neC a _ _ he hd)).trans he
  unfold PySem.passOn
  refine wpAny_bind (wpAny_field he3 hd h1 ?_)
  rw [if_neg (show ¬ ((Value.ref T == Value.none) = true) from by simp)]
  rw [hcf, hfr]
  refine wpAny_bind (HandSPX.setFlight_onZ (s := { s' with heap := h3 }) held3 fun h4 held4 up4 => wpAny_throw (tk _ _ ?_))
  -- back in the def
  obtain ⟨G, g1, g2⟩ := restrict s'.heap fun b => (B'.get? b).isSome || decide (b ∈ frs X.stack)
  have gB : ∀ b o, B'.get? b = some o → G.get? b = some o := fun b o e => by
    rw [g1 b (by simp [e])]
    exact fl.1 b o (bsub b o e).1
  have gF : ∀ b, b ∈ frs X.stack → G.get? b = s'.heap.get? b := fun b hb => g1 b (by simp [hb])
  have og : ∀ b o, G.get? b = some o → s'.heap.get? b = some o ∧ ((B'.get? b).isSome = true ∨ b ∈ frs X.stack) := fun b o e => by
    cases q : ((B'.get? b).isSome || decide (b ∈ frs X.stack)) with
    | false => rw [g2 b q] at e; cases e
    | true =>
      rw [g1 b q] at e
      exact ⟨e, by simpa [Bool.or_eq_true] using q⟩
  have GC : G.get? cenv.locals = none := by
    cases q : G.get? cenv.locals with
    | none => rfl
    | some o =>
      rcases (og _ o q).2 with z | z
      · rw [bC] at z; cases z
      · exact absurd z nC
  have oldC : ∀ b o, s.heap.get? b = some o → b ≠ cenv.locals := fun b o e z => by
    rw [z] at e
    exact Nat.lt_irrefl _ (Nat.lt_of_lt_of_le (Heap.lt_size e) hC)
  have U : Un (frs X.stack) fp H H' s.heap s1.heap := J.base
  have II : Inv X pins σ H2 { s' with heap := G } := by
    refine I.call' (ch := fp) (os.trans J.os) ⟨fun b o e n hb hx => ?_, fun b o e n hb hx => ?_, fun b o e n hx => ?_, fun b o e hx => ?_, fun b xs e => ub.tups b xs (U.tups b xs e), fun b o xs e => ub.frzs b o xs (U.frzs b o xs e), fun b ps e => ?_⟩ (fun b o e => ?_) ag
      fun b hb => ⟨(hfp b hb).1.2.2.2.1, (hfp b hb).1.2.1, (hfp b hb).1.2.2.2.2.1, (hfp b hb).1.2.2.2.2.2⟩
    · refine gB b o ?_
      rw [bB b (oldC b o e)]
      exact ub.keep b o (U.keep b o e n hb hx) (U.free b o e n hx) hb
    · obtain ⟨sl, e1⟩ := U.slot b o e n hb hx
      obtain ⟨sl2, e2⟩ := ub.slot b _ e1 hb
      exact ⟨sl2, by rw [gF b hb]; exact e2⟩
    · obtain ⟨o', e1⟩ := U.there b o e hx
      exact ub.free b o' e1 (U.free b o e n hx)
    · obtain ⟨o', e1⟩ := U.there b o e hx
      by_cases hb : b ∈ frs X.stack
      · obtain ⟨sl, e2⟩ := ub.slot b o' e1 hb
        exact ⟨_, by rw [gF b hb]; exact e2⟩
      · obtain ⟨o2, e2⟩ := ub.there b o' e1 hb
        exact ⟨o2, gB b o2 (by rw [bB b (oldC b o e)]; exact e2)⟩
    · obtain ⟨m1, e1⟩ := U.tbls b ps e
      obtain ⟨m2, e2⟩ := ub.tbls b _ e1
      exact ⟨m1 ++ m2, by rw [e2, Array.append_assoc]⟩
    · refine (hok b o e).stay (fun c v hc q => gB c v ?_) (fun _ q => q) fun _ _ q => q
      rw [bB c fun z => ?_]
      · exact q
      · rcases hc with hc | hc
        · rw [← hc, z, HC2] at e; cases e
        · rw [z, HC2] at hc; cases hc
  refine ⟨a, B', { s' with heap := G }, pins, σ, H2, cls, d, rfl, II, fun b o e hb => ?_, fun b o e hnf => ?_, .inr (.inr held4), na, rfl, ag, hW _ _ _ hE⟩
  · obtain ⟨e', h⟩ := og b o e
    rcases h with h | h
    · obtain ⟨o', q⟩ := Option.isSome_iff_exists.mp h
      have z := fl.1 b o' (bsub b o' q).1
      rw [e'] at z
      cases z
      exact q
    · exact absurd h hb
  · have hbC : b ≠ cenv.locals := fun z => by rw [z, GC] at e; cases e
    obtain ⟨sl, e2⟩ := up2 b o (og b o e).1 hnf
    have e3 : h3.get? b = some { o with slots := sl } := (sb.2 b hbC).trans e2
    obtain ⟨sl2, e4⟩ := up4 b _ e3 hnf
    exact ⟨sl2, e4⟩
end
section
variable {X : Cx} {pins : List (Addr × Obj)} {σ : L2.St} {H : Hp} {s : Shared} {E : XK} {W : WX} {scope : Scope} {own : List (Str × Nat)} {elt tg iter : Expr} {pos pos' : Pos} {wi : TI} {g : TG} {te : XK → TE} {Qf : Value → Shared → Prop}
/-- its first turn raises -/
def tLcX (wi : TI) (g : TG) (te : TE) (vs : List Nat) : L2.St → Hp → Prop := fun σ H => wi σ H fun J H1 => ∀ D, H1 D = none → J.go 0 (upd H1 D (.lst [])) ∧ ∀ x H', J.yld 0 (upd H1 D (.lst [])) x H' → g x (wipe σ vs) H' fun σ2 H2 => te σ2 H2 fun _ _ => False
theorem lcX_core (hc : X.calm = true) (hN : X.N.Nodup) (tk : Takes X W) (hW : ∀ cls d H', E cls d H' → W cls d σ H') (hst : X.stack = X.env :: X.outer) (hfr : X.env.frame = some X.env.locals) (I : Inv X pins σ H s) (hi : PI X tg iter wi) (ok : BlkOk X.N X.env.scope scope own)
    (hg : ∀ s H C cl fp, PG (bkC X s H scope (compEnvC scope cl C X.env) fp E) tg g) (he : ∀ s H C cl fp, PE (bkC X s H scope (compEnvC scope cl C X.env) fp E) elt (te E)) (hs : ∀ x, foldedSetIterable iter X.env x = pure x)
    (h : tLcX wi g (te E) (own.map (·.2)) σ H) :
    wpAny (model X.prog X.w) X.A (comprehension (.ListComp elt [⟨tg, iter, [], 0⟩] scope pos) scope X.env pos' (newList []) false (eval iter X.env) none) Qf X.xe s := by
  have hfree : ∀ y ∈ scope.names, y.2 = .free → ∃ c, X.env.cells.lookup y.1 = some c := fun y hy e => by
    rcases ok.free y hy e with k | k
    · exact I.ok.has _ (.inl k)
    · exact I.ok.has _ (.inr k)
  refine comprehension_at (use := none) rfl hs (closure_ok hfree) ok.kind (fun y hy e => by rw [ok.uniq y hy, e])
    (thn (hi.run pins s σ H _ I h) fun xv s1 hx => thn hx fun itv s2 h2 => ?_)
  obtain ⟨it, fp, tn, J, H2, e, I2, T, st2, f2, q⟩ := h2
  subst e
  refine wpAny_newObj_type (newEnv_comp ?_) (by show 0 ≤ sizeLine; decide)
  generalize hD : s2.heap.objs.size = D
  have hDn : H2 D = none := I2.hok.fresh (Nat.le_of_eq hD)
  obtain ⟨go, turn⟩ := q D hDn
  generalize hs3 : ({ s2 with heap := s2.heap.push { cls := .type "list", data := .seq ([] : List Value).toArray } } : Shared) = s3
  have I3 : Inv X pins σ (upd H2 D (.lst [])) s3 := by
    rw [← hs3]
    refine I2.laid (t' := s2.toks) (fun b o e => Heap.get?_push_of_some _ e) (Nat.le_of_eq hD) ⟨Nat.zero_le _, [], 0, .nil, ?_⟩
    rw [← hD]
    exact Heap.get?_push_size _ rfl
  have h3 : s3.heap = s2.heap.push { cls := .type "list", data := .seq ([] : List Value).toArray } := by rw [← hs3]
  have f3 : ∀ b ∈ fp, FpOk X pins (upd H2 D (.lst [])) b ∧ b < s3.heap.objs.size := fun b hb => by
    obtain ⟨o, e, _⟩ := T.obj _ _ st2 b hb
    have hlt := Heap.lt_size e
    refine ⟨⟨?_, (f2 b hb).2⟩, by rw [h3, Heap.size_push]; exact Nat.lt_succ_of_lt hlt⟩
    rw [upd_ne (by rw [← hD]; exact Nat.ne_of_lt hlt)]
    exact (f2 b hb).1
  have st3 : tn 0 s3.heap := T.keep _ _ _ st2 fun b _ o e => by rw [h3]; exact Heap.get?_push_of_some _ e
  have I4 := block_start I3 ok hN f3
  have pg := hg s3 (upd H2 D (.lst [])) s3.heap.objs.size (cellsFrom (s3.heap.objs.size + 1) scope.names (cloFrom X.env.cells scope.names [])) fp
  have pe := he s3 (upd H2 D (.lst [])) s3.heap.objs.size (cellsFrom (s3.heap.objs.size + 1) scope.names (cloFrom X.env.cells scope.names [])) fp
  show codeAny _ _ (.compStart (.ListComp elt [⟨tg, iter, [], 0⟩] scope pos) 0 (.ref it) (.ref D) (compEnvC scope (cellsFrom (s3.heap.objs.size + 1) scope.names (cloFrom X.env.cells scope.names [])) s3.heap.objs.size X.env)) (compEnds (model X.prog X.w) X.A X.xe none Qf (.ref D) (compEnvC scope (cellsFrom (s3.heap.objs.size + 1) scope.names (cloFrom X.env.cells scope.names [])) s3.heap.objs.size X.env)) { s3 with heap := pushCells (s3.heap.push { cls := .type "dict", data := .dict #[] }) scope.names }
  generalize hce : compEnvC scope (cellsFrom (s3.heap.objs.size + 1) scope.names (cloFrom X.env.cells scope.names [])) s3.heap.objs.size X.env = ce at I4 pg pe ⊢
  have cL : ce.locals = s3.heap.objs.size := by subst hce; rfl
  have cF : ce.frame = X.env.frame := by subst hce; rfl
  generalize hH3 : upd H2 D (.lst []) = H3 at I3 I4 pg pe go turn f3
  generalize hs4 : ({ s3 with heap := pushCells (s3.heap.push { cls := .type "dict", data := .dict #[] }) scope.names } : Shared) = s4 at I4 ⊢
  have st4 : tn 0 s4.heap := T.keep _ _ _ st3 fun b _ o e => by rw [← hs4]; exact pushCells_keeps _ _ _ _ (Heap.get?_push_of_some _ e)
  have nfp : ∀ b ∈ fp, H3 b = none := fun b hb => (f3 b hb).1.1
  have stat : ∀ {σ' : L2.St} {H' : Hp} {s' : Shared}, Inv (X.blk s3 H3 scope ce fp) [] σ' H' s' → (∀ b ∈ fp, H' b = none) → ∀ b ∈ fp, FpOk (X.blk s3 H3 scope ce fp) [] H' b := fun {σ' H' s'} I' hn b hb =>
    ⟨hn b hb, (I'.ok.exf b hb).1, I'.ok.exfs b hb, .inl hb, fun x c e => (I'.ok.exf b hb).2 x c e, fun p hp => absurd (show p ∈ ([] : List (Addr × Obj)) ++ [] from hp) (by simp)⟩
  have loop : codeAny (model X.prog X.w) X.A (.compLoop (.ListComp elt [⟨tg, iter, [], 0⟩] scope pos) 0 (.ref it) (.ref D) ce) (compEnds (model X.prog X.w) X.A X.xe none Qf (.ref D) ce) s4 := by
    refine compLoop_any (fun _ s' => s' = s4) ?_ 0 rfl
    rintro n s5 rfl
    have ti := T.item (X.blk s3 H3 scope ce fp) rfl rfl rfl hc 0 [] s5 _ H3 (fun _ _ => False) I4 (stat I4 nfp) st4 go
    refine thnF ti fun r s6 ⟨u, hr, h6⟩ => ?_
    subst hr
    refine thnF h6 fun _ s7 ⟨x, H7, I7, r7, y7, st7, n7⟩ => ?_
    have I7' := I7.wish (bkC X s3 H3 scope ce fp E).xe
    have fl : ∀ u s', (bkC X s3 H3 scope ce fp E).xe u s' → notedBy (model X.prog X.w) X.A ce (fun e s' => compEnds (model X.prog X.w) X.A X.xe none Qf (.ref D) ce (.error e) s') u s' := fun u s' z =>
      comp_flight I3 f3 tk hW hst hfr cF (Nat.le_of_eq cL.symm) z
    refine wpAny_mono (pg.run _ s7 _ H7 x u _ I7' r7 (turn x H7 y7)) (fun _ s8 ⟨σ8, H8, I8, q8⟩ => ?_) fl
    refine wpAny_tests_nil ?_
    rw [if_pos rfl]
    exact wpAny_mono (pe.run _ s8 σ8 H8 _ I8 q8) (fun z s10 ⟨yv, H10, I10, r10, f⟩ => f.elim) fl
  exact codeAny_compStart_list loop (T.self X.A 0 _ _ _ st4 loop)
end
end PM

/-! Market.__init__. -/
namespace PM
open PySem PySem.Spec PyProof.Rows L2
/-- e raises the class c, out of a call -/
def EXp (Θ : Th) (X : Cx) (e : Expr) (δ : List SD) (c : Addr) : Prop :=
  ∀ (M : Option Addr) (G0 H0 G H : Hp) (σ : L2.St) (Q : VK) (E : XK), Passes (L2.CX X.prog X.w) X E → StOk Θ M G0 H0 G H σ δ → (∀ G' H', StOk Θ M G0 H0 G' H' σ δ → E (.ref c) none H') → tE X e σ H Q
section
variable {Θ : Th} {X : Cx} {e tg iter elt : Expr} {es : List Expr} {δ : List SD} {pos p : Pos} {i k j n : Nat} {x : Str} {R : List D → D → Prop} {RX : List D → Addr → Prop} {ds : List D} {C cx : Addr} {g : TG} {bd : Nat → List (Nat × D)} {own : List (Str × Nat)} {scope : Scope}
theorem exp_call (xo : XOk Θ X) (F : Dfn Θ x k n R RX) (hr : Room j X.A) (hk : k ≤ j) (hg : Gl X x) (ha : EA Θ X (e :: es) δ (· = ds)) (hR : RX ds cx) (hn : ds.length = n := by rfl)
    (hdb : (x == ("__debug__" : Str)) = false := by decide) (he : starEach (e :: es) X.env = (false, eval e X.env) :: starEach es X.env := by rfl) (hpl : (backTo pos (starEach es X.env)).any (·.1) = false := by rfl) :
    EXp Θ X (.Call (.Name x p) (e :: es) [] pos) δ cx := fun M G0 H0 G H σ Q E ps S q => by
  obtain ⟨f, fd, ns, F, hm, kp, b⟩ := F.ex
  rw [xo.P, xo.w, xo.K, xo.mg, xo.base] at F
  rw [xo.mg] at hm
  rw [xo.K] at kp b
  refine .of (pe_call F (hr.mono hk) hg hm kp b .nil ps pa_can hdb he hpl) (ha M G0 H0 G H σ _ S fun vs ds' G1 H1 S1 g1 r1 p1 => ?_)
  subst p1
  rw [List.append_nil]
  exact ⟨by rw [r1.length]; exact hn, G1, ds', S1.hs, r1, .inr ⟨cx, hR, fun G' H' s h => q G' H' (S1.pure s h)⟩⟩
/-- C(e): e raises -/
theorem exp_makeA (xo : XOk Θ X) (F : Mkr Θ x C k n R RX) (hr : Room j X.A) (hk : k + 1 ≤ j) (hg : Gl X x) (ha : EXp Θ X e δ cx)
    (hdb : (x == ("__debug__" : Str)) = false := by decide) (he : starEach [e] X.env = (false, eval e X.env) :: starEach [] X.env := by rfl) (hpl : (backTo pos (starEach [] X.env)).any (·.1) = false := by rfl) :
    EXp Θ X (.Call (.Name x p) [e] [] pos) δ cx := fun M G0 H0 G H σ Q E ps S q => by
  obtain ⟨f, fd, ns, mk, F, hm, b⟩ := F.ex
  rw [xo.P, xo.w, xo.K, xo.mg, xo.base] at F
  rw [xo.mg] at hm
  rw [xo.K] at mk b
  exact .of (pe_make mk F (hr.mono hk) hg hm b .nil passE0 (pa_cons pe_can pa_nil he) hdb he hpl) (ha M G0 H0 G H σ _ E ps S q)
/-- [elt for ..]: the first item raises -/
theorem ex_lc (xo : XOk Θ X) (hst : X.stack = X.env :: X.outer) (hfr : X.env.frame = some X.env.locals) (hi : EI Θ X tg iter δ g n bd) (hn : 0 < n) (ok : BlkOk X.N X.env.scope scope own)
    (hg : ∀ s H C cl fp E, PG (bkC X s H scope (compEnvC scope cl C X.env) fp E) tg g)
    (he : ∀ s H C cl fp E, XOk Θ (bkC X s H scope (compEnvC scope cl C X.env) fp E) → EXp Θ (bkC X s H scope (compEnvC scope cl C X.env) fp E) elt (setD (wipeD δ (own.map (·.2))) (bd 0)) cx) (hs : ∀ x, foldedSetIterable iter X.env x = pure x := by intro _; rfl) :
    EX Θ X (.ListComp elt [⟨tg, iter, [], 0⟩] scope pos) δ cx := fun M G0 H0 G H σ Q E tk S q => by
  obtain ⟨wi, hpi, hi⟩ := hi
  intro pins s I
  rw [arm_eval_ListComp]
  refine lcX_core (E := E) (te := fun E' σ' H' Q' => ∀ s0 H0' C cl fp, tE (bkC X s0 H0' scope (compEnvC scope cl C X.env) fp E') elt σ' H' Q') xo.calm xo.nd tk (fun _ _ _ h => h) hst hfr I hpi ok (fun s H C cl fp => hg s H C cl fp E) (fun s H C cl fp => ⟨fun pins' s' σ' H' Q' I' h => h s H C cl fp pins' s' I'⟩) hs ?_
  refine hi M G0 H0 G H σ _ S fun J G1 H1 S1 g1 it => fun L hD => ?_
  have S2 : StOk Θ M G0 H0 G1 (upd H1 L (.lst [])) σ δ := S1.step (.made hD) (S1.hs.made hD) fun d e => by
    obtain ⟨_, z2, a, b, c, z3⟩ := S1.dice d e
    exact ⟨z2, a, b, c, by rw [upd_ne (ne_of_none z3 hD)]; exact z3⟩
  refine ⟨it.go (.refl _) S2.hs 0 hn, fun v H2 y => ?_⟩
  refine it.yld (.refl _) S2.hs 0 hn v H2 y _ _ fun bv G2 s2 h2 hb => ?_
  have S3 := (((S2.wipe (own.map (·.2))).anew.pure s2 h2).setB hb)
  intro s0 H0' C cl fp
  exact he s0 H0' C cl fp E ⟨xo.P, xo.w, xo.K, xo.mg, xo.base, xo.calm, xo.nd⟩ M _ _ G2 H2 _ _ E bkC_passes S3 fun G' H' S' => q G' H' (S2.step S'.stp S'.hs fun d e => (S'.dice d e).2)
end
section
variable {Θ : Th} {f c P CR CB : Addr} {fd : FuncData}
abbrev N_mi : List Str := ["self", "lists", "orders", "seats", "count", "order"]
theorem sc_mi : FnScope N_mi ["self", "lists", "orders", "seats"] (defScope s_M_init) := ⟨rfl, rfl, rfl, by decide +kernel, rfl, by decide +kernel, by decide +kernel⟩
theorem range_wish (l : List (List Int)) : ((List.range (dLs l).length).filter fun _ => true).map (fun i : Nat => D.wish (l.getD i [])) = l.map D.wish := by
  rw [dLs_len]
  exact map_range_all l [] D.wish
theorem dLs_get (l : List (List Int)) {i : Nat} (h : i < (dLs l).length) : (dLs l).getD i .non = .tup ((l.getD i []).map .int) := getD_map l [] (fun r => D.tup (r.map .int)) (by rw [dLs_len] at h; exact h)
abbrev cxMi (Θ : Th) (f : Addr) (c : Addr) (A : Around) (outer : List Env) (s : Shared) (H : Hp) (E : XK) : Cx := cxP Θ N_mi "Market.__init__" (defScope s_M_init) f (.ref c) A outer s H E
theorem et_mi (T : Tx Θ) (GT : GenT Θ c P) {A : Around} {outer : List Env} {s : Shared} {H : Hp} {E : XK} {as rs : List (List Int)} {ss : List Int} {x : D} {pc p1 p2 p3 : Pos} (hx : seqI x ss) (hl : ss.length ≤ 30) (hr : Room 1 (A.deeper (envOfC "Market.__init__" (defScope s_M_init) s.heap.objs.size f (.ref c))))
    {a b : Expr} {es : List Expr} (h1 : ET Θ (cxMi Θ f c A outer s H E) a ((δ0 N_mi [.non, .lst (dLs as), .lst (dLs rs), x]).set 0 .no) (!decide ((rs.length : Int) = (ss.length : Int))))
    (h2 : EV Θ (cxMi Θ f c A outer s H E) b ((δ0 N_mi [.non, .lst (dLs as), .lst (dLs rs), x]).set 0 .no) (· = .bl (ss.any fun s => decide (s < 0)))) (hb : ∀ whole, isTrue b (cxMi Θ f c A outer s H E).env whole = (do let v ← whole; standAt b.pos; holding [v] (truthy v))) :
    ET Θ (cxMi Θ f c A outer s H E) (.BoolOp .Or [a, b] pc) ((δ0 N_mi [.non, .lst (dLs as), .lst (dLs rs), x]).set 0 .no) (!decide ((rs.length : Int) = (ss.length : Int)) || ss.any fun s => decide (s < 0)) :=
  et_w (ew_or h1 fun _ => ew_or1 (et_val h2 hb))
theorem si_mi (T : Tx Θ) (GT : GenT Θ c P) (eR : ExC Θ "BadRoom" CR) {A : Around} {outer : List Env} {s : Shared} {H : Hp} {E : XK} {as rs : List (List Int)} {ss : List Int} {x : D} {fe : List (Str × D)} {Ξ : Addr → Prop} (hx : seqI x ss) (hl : ss.length ≤ 30) (hr : Room 4 (A.deeper (envOfC "Market.__init__" (defScope s_M_init) s.heap.objs.size f (.ref c))))
    (h1 : (!decide ((rs.length : Int) = (ss.length : Int)) || ss.any fun s => decide (s < 0)) = true → Ξ CR)
    (h2 : (!decide ((rs.length : Int) = (ss.length : Int)) || ss.any fun s => decide (s < 0)) = false → SI Θ (cxMi Θ f c A outer s H E) Θ.CM ((defBody s_M_init).drop 1) ((δ0 N_mi [.non, .lst (dLs as), .lst (dLs rs), x]).set 0 .no) [] fe Ξ) :
    SI Θ (cxMi Θ f c A outer s H E) Θ.CM (defBody s_M_init) ((δ0 N_mi [.non, .lst (dLs as), .lst (dLs rs), x]).set 0 .no) [] fe Ξ := by
  have xo := xo_cx (Θ := Θ) (qual := "Market.__init__") (f := f) (cd := .ref c) (A := A) (outer := outer) (s := s) (H := H) (E := E) sc_mi
  have nl : (ss.map D.int).length = ss.length := List.length_map _
  have at_ : ∀ i, i < (ss.map D.int).length → (ss.map D.int).getD i .non = .int (ss.getD i 0) := fun i hi => getD_map ss 0 D.int (by rw [← nl]; exact hi)
  have fin : (List.range (ss.map D.int).length).any (fun i => decide (ss.getD i 0 < 0)) = ss.any fun s => decide (s < 0) := by rw [nl, any_range_get ss 0 fun s => decide (s < 0)]
  refine si_ifX xo (et_w (ew_or (k := !decide ((rs.length : Int) = (ss.length : Int))) (m := ss.any fun s => decide (s < 0)) (tst2 op_ne ((lenL T (v 2)).eq (by rw [dLs_len])) ?_ opd_neI) fun _ => ew_or1 (et_val ?_))) eR h1 h2
  · rcases hx with rfl | rfl
    · exact (lenT T (v 3)).eq (by rw [nl])
    · exact (lenL T (v 3)).eq (by rw [nl])
  · rcases hx with rfl | rfl
    · exact (any1 (kr := 3) (n := (ss.map D.int).length) (f := fun i => decide (ss.getD i 0 < 0)) 4 xo T GT rfl hr (ei_tup (v 3)) (gnOk_by (N := N_mi) (sc := defScope s_M_init) (by decide +kernel)) fun i hi s H L code fp xg hrg => cmp2 op_lt ((v 4).eq (at_ i hi)) ev_int (opd_I0 rfl)).eq (by rw [fin])
    · exact (any1 (kr := 3) (n := (ss.map D.int).length) (f := fun i => decide (ss.getD i 0 < 0)) 4 xo T GT rfl hr (ei_list (v 3)) (gnOk_by (N := N_mi) (sc := defScope s_M_init) (by decide +kernel)) fun i hi s H L code fp xg hrg => cmp2 op_lt ((v 4).eq (at_ i hi)) ev_int (opd_I0 rfl)).eq (by rw [fin])
theorem okL_nodup {l : List Int} {n : Int} (h : okL l n) : l.Nodup := h.1
theorem ok_mi (T : Tx Θ) (GT : GenT Θ c P) (eR : ExC Θ "BadRoom" CR) (dC : Dfn Θ "check_list" 2 2 R_clist (X_clist CB)) (mW : Mkr Θ "Wish" Θ.CW 1 1 R_wi NoX) (F : Fun Θ.K "__init__" "Market.__init__" s_M_init f fd) (hc : fd.code = .ref c) :
    FnOk Θ.P Θ.w Θ.K Θ.mg Θ.base (L2.CX Θ.P Θ.w) 5 f fd ["self", "lists", "orders", "seats"] (ISp Θ Θ.CM 3 R_mi (X_mi CR CB)) := by
  refine fn_init F sc_mi rfl (by decide) (fun cdv A outer s H E ds d hcd hr hl hR => ?_) (fun cdv A outer s H E ds cx hcd hr hl hR => ?_)
  · rw [hc] at hcd
    subst hcd
    obtain ⟨as, rs, ss, x, rfl, hx, mk, hs0, rfl⟩ := hR
    have xo := xo_cx (Θ := Θ) (qual := "Market.__init__") (f := f) (cd := .ref c) (A := A) (outer := outer) (s := s) (H := H) (E := E) sc_mi
    refine ⟨[("seats", .tup (ss.map .int)), ("rooms", .lst (rs.map .wish)), ("askers", .lst (as.map .wish))], si_mi T GT eR hx (by rw [mk.ls]; have := mk.lr; omega) hr (fun h => ?_) (fun _ => ?_), fun G x dx fs fr hg => ?_⟩
    · rw [Bool.or_eq_true] at h
      rcases h with h | h
      · rw [mk.ls] at h; simp at h
      · obtain ⟨z, hz, h⟩ := List.any_eq_true.mp h
        have := hs0 z hz
        have := of_decide_eq_true h
        omega
    · refine si_fld (d := .lst (as.map .wish)) xo T.clM T.nAskers (by decide) ((lc1f (n := (dLs as).length) (kp := fun _ => true) (f := fun i : Nat => D.wish (as.getD i [])) 5 xo (ei_list (v 1)) (blkOk_by (N := N_mi) (sc := defScope s_M_init) (by decide +kernel)) (by rw [dLs_len]; have := mk.la; omega) (fun _ _ _ _ _ _ _ _ => ets_nil) fun i hi _ s H C cl fp xb => ?_).eq (by rw [range_wish])) ?_
      · have hm := getD_mem as [] (show i < as.length by rw [← dLs_len]; exact hi)
        have h2 := mk.a _ hm
        exact ev_make xb mW hr (by decide) rfl (ea_c (ev_call xb dC hr (by decide) rfl (ea_c ((v 5).eq (dLs_get as hi)) (ea_c ((lenL T (v 2)).eq (by rw [dLs_len])) ea_nil)) ⟨as.getD i [], rs.length, rfl, by omega, h2.1, rfl⟩) ea_nil) ⟨_, rfl, h2.1.1, by omega, rfl⟩
      refine si_fld (d := .lst (rs.map .wish)) xo T.clM T.nRooms (by exact Nat.le_of_ble_eq_true rfl) ((lc1f (n := (dLs rs).length) (kp := fun _ => true) (f := fun i : Nat => D.wish (rs.getD i [])) 5 xo (ei_list (v 2)) (blkOk_by (N := N_mi) (sc := defScope s_M_init) (by decide +kernel)) (by rw [dLs_len]; have := mk.lr; omega) (fun _ _ _ _ _ _ _ _ => ets_nil) fun i hi _ s H C cl fp xb => ?_).eq (by rw [range_wish])) ?_
      · have hm := getD_mem rs [] (show i < rs.length by rw [← dLs_len]; exact hi)
        have h2 := mk.r _ hm
        exact ev_make xb mW hr (by decide) rfl (ea_c (ev_call xb dC hr (by decide) rfl (ea_c ((v 5).eq (dLs_get rs hi)) (ea_c ((lenL T (v 1)).eq (by rw [dLs_len])) ea_nil)) ⟨rs.getD i [], as.length, rfl, by omega, h2.1, rfl⟩) ea_nil) ⟨_, rfl, h2.1.1, by omega, rfl⟩
      refine si_fld (d := .tup (ss.map .int)) xo T.clM T.nSeats (by exact Nat.le_of_ble_eq_true rfl) ?_ si_nil
      rcases hx with rfl | rfl
      · exact tupT T (v 3)
      · exact tupL T (v 3)
    · cases fr with
      | put fr0 r0 =>
        cases fr0 with
        | put fr1 r1 =>
          cases fr1 with
          | put fr2 r2 =>
            cases fr2
            obtain ⟨r, xs, rfl, er, qr⟩ := r0.tup_inv
            obtain ⟨q, vs, rfl, eq, qq⟩ := r1.lst_inv
            obtain ⟨p, ws, rfl, ep, qp⟩ := r2.lst_inv
            have ex := qr.ints_inv
            subst ex
            have gg : Gr G (upd G x (.ins Θ.CM dx (mf p q r))) := .new hg
            exact .mkt (dx := dx) upd_same (gg _ _ ep) (qp.gr gg) (gg _ _ eq) (qq.gr gg) (er.gr gg)
  · rw [hc] at hcd
    subst hcd
    obtain ⟨as, rs, ss, x, rfl, hx, la, lr, ls, hR⟩ := hR
    have xo := xo_cx (Θ := Θ) (qual := "Market.__init__") (f := f) (cd := .ref c) (A := A) (outer := outer) (s := s) (H := H) (E := E) sc_mi
    refine ⟨[("", .wish [0, 0])], si_mi T GT eR hx ls hr (fun h => ?_) (fun h => ?_), fun G fs fr => ?_⟩
    · rcases hR with ⟨_, e⟩ | ⟨h1, h2, _⟩
      · exact e.symm
      · exfalso
        rcases h1 with ⟨rfl, rfl | rfl⟩ | ⟨rfl, rfl⟩ <;> (subst h2; revert h; decide)
    · rcases hR with ⟨hb, _⟩ | ⟨h1, h2, e⟩
      · exfalso
        rw [Bool.or_eq_false_iff] at h
        obtain ⟨g1, g2⟩ := h
        rcases hb with hb | ⟨z, hz, hn⟩
        · simp at g1
          omega
        · have := List.any_eq_false.mp g2 z hz
          simp at this
          omega
      · subst h2 e
        rcases h1 with ⟨ha, hb⟩ | ⟨ha, hb⟩
        · have hrs : rs.length = 1 ∧ ¬ okL (rs.getD 0 []) 1 ∧ (rs.getD 0 []).length ≤ 1000 := by rcases hb with rfl | rfl <;> decide
          have has : as.length = 1 ∧ okL (as.getD 0 []) 1 ∧ (as.getD 0 []).length ≤ 1000 := by subst ha; decide
          refine si_fld (d := .lst (as.map .wish)) xo T.clM T.nAskers (by decide) ((lc1f (n := (dLs as).length) (kp := fun _ => true) (f := fun i : Nat => D.wish (as.getD i [])) 5 xo (ei_list (v 1)) (blkOk_by (N := N_mi) (sc := defScope s_M_init) (by decide +kernel)) (by rw [dLs_len]; omega) (fun _ _ _ _ _ _ _ _ => ets_nil) fun i hi _ s H C cl fp xb => ?_).eq (by rw [range_wish])) ?_
          · have e0 : i = 0 := by rw [dLs_len, has.1] at hi; omega
            subst e0
            exact ev_make xb mW hr (by decide) rfl (ea_c (ev_call xb dC hr (by decide) rfl (ea_c ((v 5).eq (dLs_get as hi)) (ea_c ((lenL T (v 2)).eq (by rw [dLs_len, hrs.1]; rfl)) ea_nil)) ⟨as.getD 0 [], 1, rfl, has.2.2, has.2.1, rfl⟩) ea_nil) ⟨_, rfl, has.2.1.1, has.2.2, rfl⟩
          · refine si_fldX (ex_lc (own := [("order", 5)]) (n := (dLs rs).length) (g := gName 5) (bd := fun i => [(5, (dLs rs).getD i .non)]) xo rfl rfl (ei_list (v 2)) (by rw [dLs_len]; omega) (blkOk_by (N := N_mi) (sc := defScope s_M_init) (by decide +kernel))
              (fun s H C cl fp E => pg_name xo.nd rfl (.inl rfl)) (fun s H C cl fp E xb => exp_makeA xb mW hr (by decide) rfl (exp_call xb dC hr (by decide) rfl (ea_c ((v 5).eq (dLs_get rs (by rw [dLs_len]; omega))) (ea_c ((lenL T (v 1)).eq (by rw [dLs_len, has.1]; rfl)) ea_nil)) ⟨rs.getD 0 [], 1, rfl, hrs.2.2, hrs.2.1, rfl⟩))) rfl
        · have has : as.length = 1 ∧ ¬ okL (as.getD 0 []) 1 ∧ (as.getD 0 []).length ≤ 1000 := by subst ha; decide
          have hrs : rs.length = 1 := by subst hb; rfl
          refine si_fldX (ex_lc (own := [("order", 5)]) (n := (dLs as).length) (g := gName 5) (bd := fun i => [(5, (dLs as).getD i .non)]) xo rfl rfl (ei_list (v 1)) (by rw [dLs_len]; omega) (blkOk_by (N := N_mi) (sc := defScope s_M_init) (by decide +kernel))
              (fun s H C cl fp E => pg_name xo.nd rfl (.inl rfl)) (fun s H C cl fp E xb => exp_makeA xb mW hr (by decide) rfl (exp_call xb dC hr (by decide) rfl (ea_c ((v 5).eq (dLs_get as (by rw [dLs_len]; omega))) (ea_c ((lenL T (v 2)).eq (by rw [dLs_len, hrs]; rfl)) ea_nil)) ⟨as.getD 0 [], 1, rfl, has.2.2, has.2.1, rfl⟩))) rfl
    · cases fr with
      | put fr0 r0 =>
        obtain ⟨_, _, _, _, _, _, _, _, nd, _⟩ := r0.wish_inv
        simp at nd
end
end PM

/-! Lambdas. -/
namespace PM
open PySem PySem.Spec PyProof.Rows L2
/-- a function object -/
def FnO (f : Addr) (ob : Obj) : HO := .ext fun h => h.get? f = some ob
abbrev lamO (X : Cx) (params : Arguments) (body : Expr) (scope : Scope) (pm : Value) (c' : Addr) (ctv : Value) : Obj :=
  PySem.W.kla_obj "<lambda>" (X.env.qual ++ "<lambda>") params body scope (cloFrom X.env.cells scope.names []) pm c' ctv
section
variable {X : Cx} {pins : List (Addr × Obj)} {σ : L2.St} {H : Hp} {s : Shared}
theorem fnO_get {f : Addr} {ob : Obj} (I : Inv X pins σ H s) (h : H f = some (FnO f ob)) : s.heap.get? f = some ob := (I.hok f _ h).1
theorem Inv.laidFn {f : Addr} {ob : Obj} {h' : Heap} {t' : Nat} (I : Inv X pins σ H { s with heap := h', toks := t' }) (hf : f = h'.objs.size) (ho : ob.isFreed = false) : Inv X pins σ (upd H f (FnO f ob)) { s with heap := h'.push ob, toks := t' } := by
  subst hf
  exact I.laid (t' := t') (fun b o e => Heap.get?_push_of_some _ e) (Nat.le_refl _) ⟨Heap.get?_push_size _ ho, ⟨_, Heap.get?_push_size _ ho⟩, fun h1 h2 a st => st _ a⟩
/-- the lambda is made, its function object is tracked -/
theorem lam_make3 {T : List (Addr × Str)} {c P : Addr} {params : Arguments} {body : Expr} {scope : Scope} {pos : Pos} {E : Value → Shared → Prop} {Q : Value → Shared → Prop} (I : Inv X pins σ H s) (TB : LamX.TabB X.base X.mg c P) (hcode : X.env.code = .ref c)
    (hm : (P, X.env.qual ++ "<lambda>") ∈ T) (hu : ∀ p ∈ T, p.1 = P → p.2 = X.env.qual ++ "<lambda>") (hT : LamX.Tabs T H) (hdef : defaultsOf params X.env = ([], [])) (hfree : ∀ y ∈ scope.names, y.2 = .free → ∃ c, X.env.cells.lookup y.1 = some c)
    (h : ∀ (f c' : Addr) (pm ctv : Value) (H1 : Hp) (s' : Shared), Inv X pins σ (upd H1 f (FnO f (lamO X params body scope pm c' ctv))) s' → H1 f = none → H f = none →
      ((H1 = H ∧ H c' = some (LamX.CodeO c' (X.env.qual ++ "<lambda>"))) ∨ (∃ ps more, H P = some (.tbl ps) ∧ H c' = none ∧ H1 = upd (upd H P (.tbl (ps ++ more))) c' (LamX.CodeO c' (X.env.qual ++ "<lambda>")))) → LamX.Tabs T H1 → Q (.ref f) s') :
    wpAny (model X.prog X.w) X.A (eval (.Lambda params body scope pos) X.env) Q E s := by
  obtain ⟨ps, hP, ht, ha⟩ := hT _ hm
  refine PySem.W.kla_eval hdef ?_
  have bP : s.heap.BuiltinsAt X.mg P := TB.bm.keeps I.bk
  have hP' : s.heap.get? P = some { cls := .none, data := .fields ps } := I.hok P _ hP
  cases hc : codeAmong pos ps.toList with
  | none =>
    refine PySem.W.kla_makeFunction (mg := X.mg) (c := c) (P := P) (ps := ps) (closure_ok hfree) I.ok.glob (I.mod.glob.keeps I.bk) hcode (TB.code.keeps I.bk) hP' ht hc TB.gP bP fun c' ctv h' tk hx hge hlt hrec htb => ?_
    obtain ⟨c2, oc, vs, t, e2, hoc, hd, hv⟩ := hrec
    cases e2
    have hsz : s.heap.objs.size ≤ h'.objs.size := Nat.le_trans hge (Nat.le_of_lt hlt)
    have nC : H c' = none := I.hok.fresh hge
    have I1 := LamX.inv_table (t' := tk) (more := #[rawInt pos.line, rawInt pos.col, .ref c']) (h' := h') I hP hx htb hge ⟨oc, vs, t, hoc, hd, hv⟩
    have n1 : h'.objs.size ≠ c' := Nat.ne_of_gt hlt
    have n2 : h'.objs.size ≠ P := Nat.ne_of_gt (Nat.lt_of_lt_of_le (Heap.lt_size hP') hsz)
    have nF : upd (upd H P (.tbl (ps ++ #[rawInt pos.line, rawInt pos.col, .ref c']))) c' (LamX.CodeO c' (X.env.qual ++ "<lambda>")) h'.objs.size = none := by
      rw [upd_ne n1, upd_ne n2]
      exact I.hok.fresh hsz
    have eL : (ps ++ #[rawInt pos.line, rawInt pos.col, Value.ref c']).toList = ps.toList ++ [rawInt pos.line, rawInt pos.col, .ref c'] := by simp
    have hE : ∀ b o, H b = some o → (∀ ps, o ≠ .tbl ps) → upd (upd H P (.tbl (ps ++ #[rawInt pos.line, rawInt pos.col, .ref c']))) c' (LamX.CodeO c' (X.env.qual ++ "<lambda>")) b = some o := fun b o e n => by
      rw [upd_ne (ne_of_none e nC), upd_ne (fun z => n ps (Option.some.inj (e.symm.trans (by rw [z]; exact hP))))]
      exact e
    refine h h'.objs.size c' ((X.mg "__name__").getD .none) ctv _ _ (Inv.laidFn I1 rfl rfl) nF (I.hok.fresh hsz) (.inr ⟨ps, _, hP, nC, rfl⟩) fun p hp => ?_
    by_cases hb : p.1 = P
    · rw [hu p hp hb, hb]
      refine ⟨_, by rw [upd_ne (ne_of_none hP nC), upd_same], by rw [eL]; exact PySem.TriplesOk_snoc _ _ _ _ ht, fun p' cv hcv => ?_⟩
      rw [eL] at hcv
      rcases LamX.among_app _ ht hcv with z | z
      · obtain ⟨c0, e1, e2⟩ := ha p' cv z
        exact ⟨c0, e1, hE _ _ e2 LamX.codeO_ne⟩
      · exact ⟨c', z, upd_same⟩
    · obtain ⟨ps', a1, a2, a3⟩ := hT p hp
      refine ⟨ps', by rw [upd_ne (ne_of_none a1 nC), upd_ne hb]; exact a1, a2, fun p' cv hcv => ?_⟩
      obtain ⟨c0, e1, e2⟩ := a3 p' cv hcv
      exact ⟨c0, e1, hE _ _ e2 LamX.codeO_ne⟩
  | some cv =>
    obtain ⟨c', e, hco⟩ := ha pos cv hc
    subst e
    refine PySem.W.kla_makeFunctionHit (mg := X.mg) (c := c) (P := P) (ps := ps) (closure_ok hfree) I.ok.glob (I.mod.glob.keeps I.bk) hcode (TB.code.keeps I.bk) hP' ht hc bP fun ctv h' tk hx hsz => ?_
    have I1 : Inv X pins σ H { s with heap := h', toks := tk } := I.kept hx
    exact h h'.objs.size c' ((X.mg "__name__").getD .none) ctv H _ (Inv.laidFn I1 rfl rfl) (I.hok.fresh hsz) (I.hok.fresh hsz) (.inl ⟨rfl, hco⟩) hT
end
/-- a def that makes lambdas -/
structure LamT (Θ : Th) (c P : Addr) (q : Str) : Prop where
  mem : (P, q) ∈ Θ.T
  un : ∀ p ∈ Θ.T, p.1 = P → p.2 = q
  ng : P ∉ Θ.TG
  tb : LamX.TabB Θ.base Θ.mg c P
theorem codeO_inj {c : Addr} {q : Str} : ∀ C dx fs, LamX.CodeO c q ≠ .ins C dx fs := fun C dx fs z => by unfold LamX.CodeO at z; cases z
section
variable {Θ : Th} {X : Cx} {δ : List SD} {params : Arguments} {body : Expr} {scope : Scope} {pos : Pos} {c P : Addr}
/-- lambda: its function object and its code object never change -/
theorem ev_lam (xo : XOk Θ X) (L : LamT Θ c P (X.env.qual ++ "<lambda>")) (hcode : X.env.code = .ref c) (hdef : defaultsOf params X.env = ([], [])) (hfree : ∀ y ∈ scope.names, y.2 = .free → X.env.scope.names.lookup y.1 = some .cell ∨ X.env.scope.names.lookup y.1 = some .free) :
    EV Θ X (.Lambda params body scope pos) δ (fun d => ∃ f c' pm ctv, d = .obj f (FnO f (lamO X params body scope pm c' ctv)) c' (LamX.CodeO c' (X.env.qual ++ "<lambda>"))) := fun M G0 H0 G H σ Q S q => by
  intro pins s I
  have TB := L.tb
  rw [xo.base, xo.mg] at TB
  have hfr : ∀ y ∈ scope.names, y.2 = .free → ∃ c, X.env.cells.lookup y.1 = some c := fun y hy e => by
    rcases hfree y hy e with k | k
    · exact I.ok.has _ (.inl k)
    · exact I.ok.has _ (.inr k)
  refine lam_make3 I TB hcode L.mem L.un S.hs.tabs hdef hfr fun f c' pm ctv H1 s' J n1 n0 hk hT => ⟨.ref f, _, J, rfl, ?_⟩
  -- the heaps: the code object is taken up, then the function object
  have key : ∃ G1, Stp M G H G1 H1 ∧ Hs Θ G1 H1 ∧ G1 c' = some (LamX.CodeO c' (X.env.qual ++ "<lambda>")) ∧ (∀ d, M = some d → DiceAt G1 H1 d) := by
    rcases hk with ⟨rfl, hc⟩ | ⟨ps, more, hP, nC, rfl⟩
    · cases hg : G c' with
      | some o =>
        have z := S.hs.sub _ _ hg
        rw [hc] at z
        cases z
        exact ⟨G, .refl _ _ _, S.hs, hg, fun d e => (S.dice d e).2⟩
      | none =>
        have ne : ∀ a, Kp (H1 a) → a ≠ c' := fun a e z => by
          rw [z, hc] at e
          unfold LamX.CodeO at e
          exact e
        refine ⟨upd G c' (LamX.CodeO c' (X.env.qual ++ "<lambda>")), ⟨.new hg, fun a e => ⟨upd_ne (ne a e), e⟩, fun a o e _ _ => e, fun a e => e⟩, ⟨fun a u e => ?_, fun a ps e => ?_, S.hs.tabs, S.hs.tabg⟩, upd_same, fun d e => ?_⟩
        · by_cases z : a = c'
          · subst z; rw [upd_same] at e; rw [hc]; exact e
          · rw [upd_ne z] at e; exact S.hs.sub a u e
        · by_cases z : a = c'
          · subst z; rw [upd_same] at e; unfold LamX.CodeO at e; cases e
          · rw [upd_ne z] at e; exact S.hs.nt a ps e
        · obtain ⟨_, z2, a, b, c, z3⟩ := S.dice d e
          exact ⟨by rw [upd_ne (ne d (by rw [z3]; trivial))]; exact z2, a, b, c, z3⟩
    · have hPG : P ∉ Θ.TG := L.ng
      have nPc : P ≠ c' := ne_of_none hP nC
      have gc : G c' = none := S.hs.sub.free nC
      have at_ : ∀ a o, H a = some o → (∀ q, o ≠ .tbl q) → upd (upd H P (.tbl (ps ++ more))) c' (LamX.CodeO c' (X.env.qual ++ "<lambda>")) a = some o := fun a o e n => by
        rw [upd_ne (ne_of_none e nC), upd_ne (fun z => n ps (Option.some.inj (e.symm.trans (by rw [z]; exact hP))))]
        exact e
      have nk : ∀ a, Kp (H a) → a ≠ c' ∧ a ≠ P := fun a e => ⟨kp_ne e nC, fun z => by rw [z, hP] at e; exact e⟩
      refine ⟨upd G c' (LamX.CodeO c' (X.env.qual ++ "<lambda>")), ⟨.new gc, fun a e => ⟨upd_ne (nk a e).1, by rw [upd_ne (nk a e).1, upd_ne (nk a e).2]; exact e⟩, fun a o e n _ => at_ a o e n, fun a e => ?_⟩, ⟨fun a u e => ?_, fun a qs e => ?_, hT, fun p hp => ?_⟩, upd_same, fun d e => ?_⟩
      · by_cases z : a = c'
        · rw [z, upd_same]; simp
        · rw [upd_ne z]
          by_cases z2 : a = P
          · rw [z2, upd_same]; simp
          · rw [upd_ne z2]; exact e
      · by_cases z : a = c'
        · subst z; rw [upd_same] at e ⊢; exact e
        · rw [upd_ne z] at e
          exact at_ a u (S.hs.sub a u e) fun q hq => S.hs.nt a q (by rw [e, hq])
      · by_cases z : a = c'
        · subst z; rw [upd_same] at e; unfold LamX.CodeO at e; cases e
        · rw [upd_ne z] at e; exact S.hs.nt a qs e
      · obtain ⟨qs, e1, e2⟩ := S.hs.tabg p hp
        have np : p ≠ P := fun z => hPG (by rw [← z]; exact hp)
        exact ⟨qs, by rw [upd_ne (ne_of_none e1 nC), upd_ne np]; exact e1, e2⟩
      · obtain ⟨_, z2, a, b, c, z3⟩ := S.dice d e
        have nd := nk d (by rw [z3]; trivial)
        exact ⟨by rw [upd_ne nd.1]; exact z2, a, b, c, at_ d _ z3 fun _ z => nomatch z⟩
  obtain ⟨G1, st1, hs1, hc1, hd1⟩ := key
  have gf : G1 f = none := hs1.sub.free n1
  have st2 : Stp M G1 H1 (upd G1 f (FnO f (lamO X params body scope pm c' ctv))) (upd H1 f (FnO f (lamO X params body scope pm c' ctv))) := .laid n1 gf
  have hs2 := hs1.laid (o := FnO f (lamO X params body scope pm c' ctv)) n1 fun _ z => by unfold FnO at z; cases z
  refine q (.ref f) _ _ _ (S.step (st1.trans st2) hs2 fun d e => ?_) (st1.g.trans st2.g) (.obj upd_same (by rw [upd_ne (ne_of_none hc1 gf)]; exact hc1)) ⟨f, c', pm, ctv, rfl⟩
  obtain ⟨z2, a, b, c, z3⟩ := hd1 d e
  have nd : d ≠ f := ne_of_none z3 n1
  exact ⟨by rw [upd_ne nd]; exact z2, a, b, c, by rw [upd_ne nd]; exact z3⟩
end
end PM

/-! A lambda called; max by a key. -/
namespace PM
open PySem PySem.Spec PyProof.Rows L2
/-- a lambda's names: its parameters ys, captured ones, globals -/
structure LamP (sc scope : Scope) (ys : List Str) : Prop where
  kind : scope.kind = .function
  co : scope.isCoroutine = false
  gen : scope.isGenerator = false
  cell : ∀ y ∈ scope.names, y.2 ≠ .cell
  par : ∀ y ∈ ys, scope.names.lookup y = some .local
  loc : ∀ y ∈ scope.names, y.2 = .local → y.1 ∈ ys
  free : ∀ y ∈ scope.names, y.2 = .free → sc.names.lookup y.1 = some .cell ∨ sc.names.lookup y.1 = some .free
def lamPB (sc scope : Scope) (ys : List Str) : Bool :=
  decide (scope.kind = .function) && !scope.isCoroutine && !scope.isGenerator && (scope.names.all fun y => !decide (y.2 = .cell)) && (ys.all fun y => decide (scope.names.lookup y = some .local)) && (scope.names.all fun y => !decide (y.2 = .local) || decide (y.1 ∈ ys)) && scope.names.all fun y => (!decide (y.2 = .free) || decide (sc.names.lookup y.1 = some .cell) || decide (sc.names.lookup y.1 = some .free))
theorem lamP_by {sc scope : Scope} {ys : List Str} (h : lamPB sc scope ys = true) : LamP sc scope ys := by
  unfold lamPB at h
  simp only [Bool.and_eq_true, Bool.or_eq_true, Bool.not_eq_true', decide_eq_true_eq, decide_eq_false_iff_not, List.all_eq_true] at h
  obtain ⟨⟨⟨⟨⟨⟨h1, h2⟩, h3⟩, h4⟩, h5⟩, h7⟩, h6⟩ := h
  refine ⟨h1, h2, h3, h4, h5, fun y hy e => (h7 y hy).elim (fun z => absurd e z) fun z => z, fun y hy e => ?_⟩
  rcases h6 y hy with (z | z) | z
  · exact absurd e z
  · exact .inl z
  · exact .inr z
section
variable {X : Cx} {pins : List (Addr × Obj)} {σ σ' : L2.St} {H HZ : Hp} {s s1 : Shared}
/-- a lambda's body begins: the maker's state was s, now it is s1 -/
theorem lamP_start {A : Around} {outer : List Env} {E : XK} {scope : Scope} {f c' : Addr} {h₁ : Heap} {tk : Nat} {ys : List Str} {fsU ex : List Addr} {m : Str → Option Value} (I : Inv X pins σ H s) (L : LamP X.env.scope scope ys) (e0 : Env0 X.prog X.w X.K X.mg X.base A outer s1 HZ) (hd : A.handled = none)
    (un : Un fsU ex H HZ s.heap s1.heap) (hex : ∀ y c, X.env.cells.lookup y = some c → c ∉ ex) (hns : h₁.Ns s1.heap.objs.size m) (kp : ∀ b o, s1.heap.get? b = some o → h₁.get? b = some o) (hl : σ'.length = σ.length)
    (hloc : ∀ (i : Nat) y v, X.N[i]? = some y → σ'[i]? = some (some v) → (scope.names.lookup y = some .local → ∃ u, RelV v u ∧ m y = some u) ∧ (scope.names.lookup y ≠ some .local → σ[i]? = some (some v))) :
    Inv (LamX.lamCx X A outer s1 HZ E scope f c') [] σ' HZ { s1 with heap := h₁, toks := tk } := by
  have hfree : ∀ y ∈ scope.names, y.2 = .free → ∃ c, X.env.cells.lookup y.1 = some c := fun y hy e => by
    rcases L.free y hy e with k | k
    · exact I.ok.has _ (.inl k)
    · exact I.ok.has _ (.inr k)
  have cm : ∀ {y c}, (cloFrom X.env.cells scope.names []).lookup y = some c → X.env.cells.lookup y = some c := fun {y c} e => by
    rcases cloFrom_mem (PySem.mem_of_lookup e) with hm | ⟨h1, h2⟩
    · cases hm
    · obtain ⟨c1, hc⟩ := hfree _ h1 rfl
      have hc : X.env.cells.lookup y = some c1 := hc
      have e2 : c = c1 := by rw [h2, hc] <;> rfl
      rw [e2]; exact hc
  have look : ∀ {y}, scope.names.lookup y = some .free → ∃ c, (cloFrom X.env.cells scope.names []).lookup y = some c := fun {y} hl =>
    mem_lookup (cloFrom_has (cells := X.env.cells) (acc := []) (PySem.mem_of_lookup hl))
  have noCell : ∀ {y}, scope.names.lookup y ≠ some .cell := fun {y} e => L.cell _ (PySem.mem_of_lookup e) rfl
  have cellK : ∀ {y : Str} {c : Addr} {v : Option Value}, X.env.cells.lookup y = some c → s.heap.IsCell c v → h₁.IsCell c v := fun {y c v} e ⟨o, ho, hd⟩ => by
    obtain ⟨sl, q⟩ := un.any ho (I.freeC y c e) (hex y c e)
    exact ⟨_, kp _ _ q, hd⟩
  have noA : ∀ b : Addr, b ∉ (LamX.lamCx X A outer s1 HZ E scope f c').ex := fun b z => absurd (show b ∈ ([] : List Addr) from z) (by simp)
  refine ⟨⟨e0.mod, L.kind, rfl, rfl, Nat.le_refl _, fun y z c e1 e2 => I.ok.inj y z c (cm e1) (cm e2), fun y hy => ?_, fun y c z _ => ?_, fun _ => hd, Around.frames_deeper e0.frames, .inr ⟨rfl, rfl⟩, fun b z => absurd z (noA b), e0.bs, e0.bsz, fun b _ _ => noA b,
      fun b z => absurd z (noA b), e0.funs, e0.frf⟩,
    rfl, e0.bare, Un.kept kp, ⟨_, hns, fun i y v e1 e2 e3 => ?_⟩, fun y c e => ?_, e0.hok.fresh (Nat.le_refl _), fun y c e => ?_, fun q hq => absurd (show q ∈ ([] : List (Addr × Obj)) ++ [] from hq) (by simp), e0.hok.kept kp, hl.trans I.len⟩
  · have hy : scope.names.lookup y = some .cell ∨ scope.names.lookup y = some .free := hy
    rcases hy with hy | hy
    · exact absurd hy noCell
    · exact look hy
  · have z : false = true := z
    cases z
  · have e3 : Vis scope y := e3
    obtain ⟨q1, q2⟩ := hloc i y v e1 e2
    rcases e3 with k | k | k
    · obtain ⟨u, r, hm⟩ := q1 k
      exact ⟨u, r, .inl ⟨k, hm⟩⟩
    · exact absurd k noCell
    · obtain ⟨m0, hn, hl0⟩ := I.loc
      have hvis : Vis X.env.scope y := (L.free _ (PySem.mem_of_lookup k) rfl).elim (fun k => .inr (.inl k)) (fun k => .inr (.inr k))
      obtain ⟨w', r, q⟩ := hl0 i y v e1 (q2 (by rw [k]; simp)) hvis
      obtain ⟨c2, h2⟩ := look k
      refine ⟨w', r, .inr ⟨.inr k, c2, h2, ?_⟩⟩
      have c1 := cm h2
      rcases q with ⟨k', _⟩ | ⟨_, c3, e', z⟩
      · have k' : X.env.scope.names.lookup y = some .local := k'
        rcases L.free _ (PySem.mem_of_lookup k) rfl with k2 | k2 <;> rw [show X.env.scope.names.lookup y = _ from k2] at k' <;> cases k'
      · rw [c1] at e'
        cases e'
        exact cellK c1 z
  · obtain ⟨w', z⟩ := I.cell y c (cm e)
    exact ⟨w', cellK (cm e) z⟩
  · obtain ⟨v, o, ho, hd⟩ := I.cell y c (cm e)
    exact un.free c o ho (I.freeC y c (cm e)) (hex y c (cm e))
/-- f(u), f a lambda of one parameter that the running code made -/
theorem lam_call1 {E0' : Value → Shared → Prop} {params : Arguments} {body : Expr} {scope : Scope} {pm ctv : Value} {f c' : Addr} {y : Str} {j : Nat} {x : V} {u : Value} {Q : VK} (hh : X.A.handled = none) (hdep : X.A.depth < recursionLimit) (I : Inv X pins σ H s) (L : LamP X.env.scope scope [y]) (hN : X.N.Nodup) (hj : X.N[j]? = some y)
    (hf : H f = some (FnO f (lamO X params body scope pm c' ctv))) (hc : H c' = some (LamX.CodeO c' (X.env.qual ++ "<lambda>"))) (r : RelV x u)
    (hbind : bindArgs (PySem.W.kla_fn "<lambda>" (X.env.qual ++ "<lambda>") params body scope (cloFrom X.env.cells scope.names []) pm (.ref c') ctv) ⟨[u], []⟩ = pure [(y, u)])
    (hbody : tE (LamX.lamCx X X.A.in1 X.stack s H L2.E0 scope f c') body ((σ.set j none).set j (some x)) H Q) : wpAny (model X.prog X.w) X.A.in1 (call (.ref f) [u]) (EP X pins σ Q) E0' s := by
  have of1 := fnO_get I hf
  obtain ⟨⟨oc, vs, t, hoc, hdc, hvc⟩, _, _⟩ := I.hok c' _ hc
  have rc : codeAny (model X.prog X.w) X.A.in1 (.call (.ref f) ⟨[u], []⟩) (CR (L2.CX X.prog X.w) X.stack X.prog X.w H s Q L2.E0) s := by
    refine PySem.W.kla_callFunE hdep of1 rfl L.co L.gen rfl ⟨c', oc, vs, t, rfl, hoc, hdc, hvc⟩ ?_
    rw [hbind]
    refine wpAny_pure (wpAny_newFunctionEnv L.cell (fun z hz => by rw [List.mem_singleton.mp hz]; exact L.par y (by simp)) (fun h₁ hns hsb => ⟨I.nolimit.fresh _ hsb, ?_⟩) L.kind)
    show codeAny _ _ (.expr body (LamX.lamEnv X scope s.heap.objs.size f c')) _ _
    have kp : ∀ b o, s.heap.get? b = some o → h₁.get? b = some o := fun b o e => hsb.extBut b o (Nat.ne_of_lt (Heap.lt_size e)) (Heap.get?_push_of_some _ e)
    have J : Inv (LamX.lamCx X X.A.in1 X.stack s H L2.E0 scope f c') [] ((σ.set j none).set j (some x)) H { s with heap := h₁, toks := s.toks + ([(y, u)] : List (Str × Value)).length } := by
      refine lamP_start I L I.env0.in1 hh (Un.refl (fs := []) (ex := [])) (fun _ _ _ => by simp) hns kp (by rw [List.length_set, List.length_set]) fun i z v e1 e2 => ?_
      by_cases hi : j = i
      · subst hi
        rw [hj] at e1
        cases e1
        have hlt : j < (σ.set j none).length := by
          rw [List.length_set, I.len]
          exact (List.getElem?_eq_some_iff.mp hj).1
        rw [List.getElem?_set_self hlt] at e2
        cases e2
        exact ⟨fun _ => ⟨u, r, by simp⟩, fun h => absurd (L.par y (by simp)) h⟩
      · rw [List.getElem?_set_ne hi, List.getElem?_set_ne hi] at e2
        refine ⟨fun h => ?_, fun _ => e2⟩
        have hz := L.loc _ (PySem.mem_of_lookup h) rfl
        have hz : z = y := by simpa using hz
        rw [hz] at e1
        exact absurd (nodup_ix hN hj e1) hi
    refine PySem.W.kla_codeExpr (wpAny_mono (hbody [] _ J) (fun v s' hq => ?_) fun e s' hq => hq)
    obtain ⟨w', H', J', rv, q⟩ := hq
    exact ⟨w', H', J'.os, J'.bare, J'.base, J'.hok, rv, q⟩
  refine wpAny_call (codeAny_mono rc fun r s' hq => ?_)
  cases r with
  | error e =>
    obtain ⟨_, _, _, _, _, _, _, _, _, _, _, _, z⟩ := hq
    exact z.elim
  | ok fl =>
    cases fl with
    | ret u => exact I.after hq
    | next => exact False.elim hq
    | brk => exact False.elim hq
    | cont => exact False.elim hq
end
/-! ### max(xs, key=f) -/
section
variable {X : Cx} {pins : List (Addr × Obj)} {σ : L2.St} {R : Result → Shared → Prop} {a f it S : Addr} {xs : List V} {kf : Nat → Int} {Pv : Hp → Prop}
theorem Inv.unpin1 {p : Addr × Obj} {H : Hp} {s : Shared} (I : Inv X (p :: pins) σ H s) : Inv X pins σ H s := I.pins_of fun q hq => I.pin q (List.mem_append_right _ (List.mem_cons_of_mem _ hq))
/-- a record of ours is written, and pinned again -/
theorem Inv.repin {ob ob' : Obj} {H : Hp} {s : Shared} {h' : Heap} {tk : Nat} (I : Inv X ((S, ob) :: pins) σ H s) (hfp : FpOk X pins H S) (k : ∀ b o, b ≠ S → s.heap.get? b = some o → h'.get? b = some o) (e : h'.get? S = some ob') (hd : ∀ v, ob'.data ≠ .cell v) : Inv X ((S, ob') :: pins) σ H { s with heap := h', toks := tk } := by
  obtain ⟨f0, f1, f2, f3, f4, f5⟩ := hfp
  have J : Inv X pins σ H { s with heap := h', toks := tk } := (Inv.unpin1 I).turned k f0 f1 f3 f4 f5
  refine J.pins_of fun p hp => ?_
  rcases List.mem_cons.mp hp with z | z
  · rw [z]
    exact ⟨e, f0, f1, f2, hd⟩
  · exact J.pin p (List.mem_append_right _ z)
/-- f's key is told at every state of Pv -/
def KeyAt (X : Cx) (σ : L2.St) (f : Addr) (xs : List V) (kf : Nat → Int) (Pv : Hp → Prop) : Prop :=
  ∀ (i : Nat) (x : V) (u : Value) (pins : List (Addr × Obj)) (H : Hp) (s : Shared) (E : Value → Shared → Prop), xs[i]? = some x → RelV x u → Inv X pins σ H s → Pv H →
    wpAny (model X.prog X.w) X.A.in1 (call (.ref f) [u]) (EP X pins σ fun v H' => v = .int (kf i) ∧ Pv H') E s
theorem maxk_loop (hh : X.A.handled = none) (hP : ∀ H, Pv H → H a = some (.lst xs)) (key : KeyAt X σ f xs kf Pv) (hSi : S ≠ it)
    (hR : ∀ i x u s' H', xs[i]? = some x → RelV x u → (∀ k, k < xs.length → kf k ≤ kf i ∧ (k < i → kf k < kf i)) → Inv X pins σ H' s' → Pv H' → R (.ok (.ret u)) s') :
    ∀ (r j i : Nat) (s : Shared) (H : Hp) (x : V) (vb : Value) (tb : Tok) (c : Nat), xs.length - (j + 1) = r → j + 1 ≤ xs.length → Inv X ((S, seqObj "list" #[vb, .int (kf i) tb] c) :: pins) σ H s → FpOk X pins H S → FpOk X pins H it → Pv H → s.heap.IsListIter it a (j + 1) →
      xs[i]? = some x → RelV x vb → i ≤ j → (∀ k, k ≤ j → kf k ≤ kf i ∧ (k < i → kf k < kf i)) → codeAny (model X.prog X.w) X.A (.builtin "max.loop" ⟨[.ref it, .ref f, .ref S], []⟩) R s := by
  have hname : (toString "max" ++ toString ".loop" : String) = "max.loop" := by decide
  intro r
  induction r with
  | zero =>
    intro j i s H x vb tb c hr hj I fS fI pv hit hx rx hij hbest
    have hS := (I.pin (S, seqObj "list" #[vb, .int (kf i) tb] c) (List.mem_append_right _ List.mem_cons_self)).1
    obtain ⟨its, n, rv, ho, hz⟩ := I.lst (hP H pv)
    have hl := rv.length
    refine codeAny_builtin PySem.F.entry_max_loop ?_
    rw [Around.under_plainId PySem.F.plain_max_loop _]
    show wpAny _ X.A.in1 (seqItems? (.ref S) >>= _) _ _ _
    refine wpAny_bind (wpAny_seqItems hS rfl ?_)
    show wpAny _ X.A.in1 (tryCatch (pyNext (.ref it)) _ >>= _) _ _ _
    refine wpAny_bind (wpAny_tryCatch (wpAny_pyNext_list_end (A := X.A.in1) hh hit ⟨_, ho, rfl, n, rfl⟩ (by simp; omega) fun h' eb => ?_))
    have fI' : FpOk X ((S, seqObj "list" #[vb, .int (kf i) tb] c) :: pins) H it := ⟨fI.1, fI.2.1, fI.2.2.1, fI.2.2.2.1, fI.2.2.2.2.1, fun p hp => by
      rcases List.mem_append.mp hp with hp | hp
      · exact fI.2.2.2.2.2 p (List.mem_append_left _ hp)
      · rcases List.mem_cons.mp hp with z | z
        · rw [z]; exact hSi
        · exact fI.2.2.2.2.2 p (List.mem_append_right _ z)⟩
    have I1 : Inv X ((S, seqObj "list" #[vb, .int (kf i) tb] c) :: pins) σ H { s with heap := h' } := I.turned (t' := s.toks) (fun b o hb e => eb b o hb e) fI'.1 fI'.2.1 fI'.2.2.2.1 fI'.2.2.2.2.1 fI'.2.2.2.2.2
    have hS' := (I1.pin (S, seqObj "list" #[vb, .int (kf i) tb] c) (List.mem_append_right _ List.mem_cons_self)).1
    show wpAny _ X.A.in1 (updateSeq S (fun _ => #[]) >>= _) _ _ _
    refine wpAny_bind ?_
    refine wpAny_updateSeq hS' rfl (wpAny_bind (wpAny_letGo (wpAny_pure ?_)))
    have e2 := Heap.get?_update_self (Obj.mapSeq fun _ => (#[] : Array Value)) hS' rfl
    have I2 := Inv.unpin1 (Inv.repin (tk := s.toks) I1 fS (fun b o hb e => (Heap.get?_update_other _ _ (Ne.symm hb)).trans e) e2 (fun v z => nomatch z))
    exact hR i x vb _ H hx rx (fun k hk => hbest k (by omega)) I2 pv
  | succ r ih =>
    intro j i s H x vb tb c hr hj I fS fI pv hit hx rx hij hbest
    have hlt : j + 1 < xs.length := by omega
    have hS := (I.pin (S, seqObj "list" #[vb, .int (kf i) tb] c) (List.mem_append_right _ List.mem_cons_self)).1
    obtain ⟨its, n, rv, ho, hz⟩ := I.lst (hP H pv)
    obtain ⟨y, hy⟩ : ∃ y, xs[j + 1]? = some y := ⟨_, List.getElem?_eq_getElem hlt⟩
    obtain ⟨u, hu, ru⟩ := rv.get hy
    have fI' : FpOk X ((S, seqObj "list" #[vb, .int (kf i) tb] c) :: pins) H it := ⟨fI.1, fI.2.1, fI.2.2.1, fI.2.2.2.1, fI.2.2.2.2.1, fun p hp => by
      rcases List.mem_append.mp hp with hp | hp
      · exact fI.2.2.2.2.2 p (List.mem_append_left _ hp)
      · rcases List.mem_cons.mp hp with z | z
        · rw [z]; exact hSi
        · exact fI.2.2.2.2.2 p (List.mem_append_right _ z)⟩
    refine codeAny_builtin PySem.F.entry_max_loop ?_
    rw [Around.under_plainId PySem.F.plain_max_loop _]
    show wpAny _ X.A.in1 (seqItems? (.ref S) >>= _) _ _ _
    refine wpAny_bind (wpAny_seqItems hS rfl ?_)
    show wpAny _ X.A.in1 (tryCatch (pyNext (.ref it)) _ >>= _) _ _ _
    refine wpAny_bind (wpAny_tryCatch (wpAny_pyNext_list_item (A := X.A.in1) hit ⟨_, ho, rfl, n, rfl⟩ (x := u) (by simpa using hu) fun h' hit' sb => ?_))
    have I1 : Inv X ((S, seqObj "list" #[vb, .int (kf i) tb] c) :: pins) σ H { s with heap := h' } := I.turned (t' := s.toks) (fun b o hb e => (sb.2 b hb).trans e) fI'.1 fI'.2.1 fI'.2.2.2.1 fI'.2.2.2.2.1 fI'.2.2.2.2.2
    obtain ⟨oI, hoI, hoc, hod⟩ := id hit'
    have I1' := I1.pinned (fp := [it]) (fun b hb => by rw [List.mem_singleton.mp hb]; exact fI') (fun b hb => by rw [List.mem_singleton.mp hb]; exact ⟨oI, hoI, fun v z => by rw [hod] at z; cases z⟩)
    show wpAny _ X.A.in1 (tryCatch (holding [u] (call (.ref f) [u])) _ >>= _) _ _ _
    refine wpAny_bind (wpAny_tryCatch (wpAny_holding (wpAny_mono (key (j + 1) y u _ H _ (fun _ _ => False) hy ru I1' pv) (fun v s2 he => ?_) fun _ _ hF => hF.elim)))
    obtain ⟨w0, H2, I2, rw0, ew, pv2⟩ := he
    subst ew
    obtain ⟨t2, rfl⟩ := rw0
    have pS := I2.pin (S, seqObj "list" #[vb, .int (kf i) tb] c) (List.mem_append_right _ (List.mem_append_left _ List.mem_cons_self))
    have pI := I2.pin (it, oI) (List.mem_append_right _ (List.mem_append_right _ (mem_pinsAt (by simp) hoI)))
    have hit2 : s2.heap.IsListIter it a (j + 1 + 1) := ⟨oI, pI.1, hoc, hod⟩
    have I3 : Inv X ((S, seqObj "list" #[vb, .int (kf i) tb] c) :: pins) σ H2 s2 := I2.unpinned
    have fS2 : FpOk X pins H2 S := ⟨pS.2.1, fS.2⟩
    have fI2 : FpOk X pins H2 it := ⟨pI.2.1, fI.2⟩
    show wpAny _ X.A.in1 (tryCatch (holding [u, .int (kf (j + 1)) t2] (richCompare .Gt (.int (kf (j + 1)) t2) (.int (kf i) tb) >>= _)) _ >>= _) _ _ _
    refine wpAny_bind (wpAny_tryCatch (wpAny_holding (wpAny_bind (CmpOf.ints_gt (prog := X.prog) (w := X.w) (A := X.A.in1) (P := fun i v => ∃ t, v = .int (kf i) t) kf (fun i v h => h) (j + 1) i _ _ _ _ _ ⟨t2, rfl⟩ ⟨tb, rfl⟩ ?_))))
    refine wpAny_bind (wpAny_holding (wpAny_truthy_bool ?_))
    refine wpAny_bind (wpAny_letGo (wpAny_pure ?_))
    by_cases hb' : kf (j + 1) > kf i
    · obtain ⟨c2, hc2⟩ : ∃ c2, (s2.heap.update S (Obj.mapSeq fun _ => #[u, .int (kf (j + 1)) t2])).get? S = some (seqObj "list" #[u, .int (kf (j + 1)) t2] c2) := ⟨_, get?_update_seq pS.1 fun _ => #[u, .int (kf (j + 1)) t2]⟩
      simp only [hb', decide_true, if_true]
      refine wpAny_bind ?_
      refine wpAny_updateSeq pS.1 rfl (wpAny_bind (wpAny_letGo ?_))
      rw [hname]
      have I4 := Inv.repin (tk := s2.toks) I3 fS2 (fun b o hb e => (Heap.get?_update_other _ _ (Ne.symm hb)).trans e) hc2 (fun v z => nomatch z)
      refine wpAny_pure ⟨plainId_quiet PySem.F.plain_max_loop _, ih (j + 1) (j + 1) _ H2 y u t2 c2 (by omega) hlt I4 fS2 fI2 pv2 ⟨oI, (Heap.get?_update_other _ _ hSi).trans pI.1, hoc, hod⟩ hy ru (Nat.le_refl _) fun k hk => ?_⟩
      by_cases e : k = j + 1
      · subst e
        exact ⟨by omega, fun _ => by omega⟩
      · have hb1 := (hbest k (by omega)).1
        exact ⟨by omega, fun _ => by omega⟩
    · simp only [hb', decide_false, Bool.false_eq_true, if_false]
      refine wpAny_bind (wpAny_letGo ?_)
      rw [hname]
      refine wpAny_pure ⟨plainId_quiet PySem.F.plain_max_loop _, ih (j + 1) i _ H2 x vb tb c (by omega) hlt I3 fS2 fI2 pv2 hit2 hx rx (by omega) fun k hk => ?_⟩
      by_cases e : k = j + 1
      · subst e
        exact ⟨by omega, fun _ => by omega⟩
      · exact hbest k (by omega)
end
end PM

/-! max by a key, called; Wish.worst. -/
namespace PM
open PySem PySem.Spec PyProof.Rows L2
section
variable {X : Cx} {pins : List (Addr × Obj)} {σ : L2.St} {a f : Addr} {xs : List V} {kf : Nat → Int} {Pv : Hp → Prop} {H : Hp} {s : Shared} {Q : VK} {E : Value → Shared → Prop}
theorem max_call (hh : X.A.handled = none) (hP : ∀ H, Pv H → H a = some (.lst xs)) (key : KeyAt X σ f xs kf Pv) (I : Inv X pins σ H s) (pv : Pv H) (hne : 0 < xs.length)
    (hQ : ∀ i x H', xs[i]? = some x → (∀ k, k < xs.length → kf k ≤ kf i ∧ (k < i → kf k < kf i)) → Pv H' → Q x H') :
    wpAny (model X.prog X.w) X.A (call (.builtin "max") [.ref a] [(Str.ofString "key", .ref f)]) (EP X pins σ Q) E s := by
  have hname : (toString "max" ++ toString ".loop" : String) = "max.loop" := by decide
  obtain ⟨its0, n0, rv0, ho0, hz0⟩ := I.lst (hP H pv)
  have hal : a < s.heap.objs.size := Heap.lt_size ho0
  refine kmk_tree PySem.F.kind_max PySem.F.plain_max PySem.F.entry_max (kmk_max_key _ _) ?_
  show wpAny _ X.A.in1 (Builtin.Builtins.bindParams "max" ["key", "default"] 0 ⟨[], [(Str.ofString "key", .ref f)]⟩ >>= _) _ _ s
  refine wpAny_bind (wpAny_of_eq (show Builtin.Builtins.bindParams "max" ["key", "default"] 0 ⟨[], [(Str.ofString "key", .ref f)]⟩ = pure [some (.ref f), none] from rfl) ?_)
  refine wpAny_bind (wpAny_pure ?_)
  refine wpAny_bind (wpAny_pyIter_list ⟨_, ho0, rfl, n0, rfl⟩ ?_)
  refine wpAny_bind (wpAny_newList ?_ (Nat.zero_le _))
  rw [hname]
  refine wpAny_pure ⟨plainId_quiet PySem.F.plain_max_loop _, ?_⟩
  generalize hit : s.heap.objs.size = it
  have hsz1 : (s.heap.push { cls := .type "list_iterator", data := .fields #[.ref a, .int 0 0] }).objs.size = it + 1 := by rw [Heap.size_push, hit]
  generalize hS : (s.heap.push { cls := .type "list_iterator", data := .fields #[.ref a, .int 0 0] }).objs.size = S
  have hSe : S = it + 1 := by rw [← hS, hsz1]
  have hSi : S ≠ it := by rw [hSe]; exact Nat.succ_ne_self _
  generalize hs2 : ({ s with heap := (s.heap.push { cls := .type "list_iterator", data := .fields #[.ref a, .int 0 0] }).push (seqObj "list" #[] 0) } : Shared) = s2
  have k2 : ∀ b o, s.heap.get? b = some o → s2.heap.get? b = some o := fun b o e => by
    rw [← hs2]
    exact Heap.get?_push_of_some _ (Heap.get?_push_of_some _ e)
  have gI : s2.heap.get? it = some { cls := .type "list_iterator", data := .fields #[.ref a, .int 0 0] } := by
    rw [← hs2, ← hit]
    exact Heap.get?_push_of_some _ (Heap.get?_push_size _ rfl)
  have gS : s2.heap.get? S = some (seqObj "list" #[] 0) := by
    rw [← hs2, ← hS]
    exact Heap.get?_push_size _ rfl
  have I2 : Inv X pins σ H s2 := by
    rw [← hs2]
    exact I.kept (t' := s.toks) fun b o e => Heap.get?_push_of_some _ (Heap.get?_push_of_some _ e)
  have fI : FpOk X pins H it := I.fpOk (Nat.le_of_eq hit) (I.hok.fresh (Nat.le_of_eq hit))
  have hge : s.heap.objs.size ≤ S := by rw [hSe, hit]; exact Nat.le_succ _
  have fS : FpOk X pins H S := I.fpOk hge (I.hok.fresh hge)
  have I3 : Inv X ((S, seqObj "list" #[] 0) :: pins) σ H s2 := I2.pins_of fun p hp => by
    rcases List.mem_cons.mp hp with z | z
    · rw [z]
      exact ⟨gS, fS.1, fS.2.1, fS.2.2.1, fun v z => nomatch z⟩
    · exact I2.pin p (List.mem_append_right _ z)
  have fI' : FpOk X ((S, seqObj "list" #[] 0) :: pins) H it := ⟨fI.1, fI.2.1, fI.2.2.1, fI.2.2.2.1, fI.2.2.2.2.1, fun p hp => by
    rcases List.mem_append.mp hp with hp | hp
    · exact fI.2.2.2.2.2 p (List.mem_append_left _ hp)
    · rcases List.mem_cons.mp hp with z | z
      · rw [z]; exact hSi
      · exact fI.2.2.2.2.2 p (List.mem_append_right _ z)⟩
  obtain ⟨its, n, rv, ho, hz⟩ := I3.lst (hP H pv)
  obtain ⟨y, hy⟩ : ∃ y, xs[0]? = some y := ⟨_, List.getElem?_eq_getElem hne⟩
  obtain ⟨u, hu, ru⟩ := rv.get hy
  show codeAny _ X.A (.builtin "max.loop" ⟨[.ref it, .ref f, .ref S], []⟩) _ s2
  refine codeAny_builtin PySem.F.entry_max_loop ?_
  rw [Around.under_plainId PySem.F.plain_max_loop _]
  show wpAny _ X.A.in1 (seqItems? (.ref S) >>= _) _ _ _
  refine wpAny_bind (wpAny_seqItems gS rfl ?_)
  show wpAny _ X.A.in1 (tryCatch (pyNext (.ref it)) _ >>= _) _ _ _
  refine wpAny_bind (wpAny_tryCatch (wpAny_pyNext_list_item (A := X.A.in1) (i := 0) ⟨_, gI, rfl, rfl⟩ ⟨_, ho, rfl, n, rfl⟩ (x := u) (by simpa using hu) fun h' hit' sb => ?_))
  have I4 : Inv X ((S, seqObj "list" #[] 0) :: pins) σ H { s2 with heap := h' } := I3.turned (t' := s2.toks) (fun b o hb e => (sb.2 b hb).trans e) fI'.1 fI'.2.1 fI'.2.2.2.1 fI'.2.2.2.2.1 fI'.2.2.2.2.2
  obtain ⟨oI, hoI, hoc, hod⟩ := id hit'
  have I4' := I4.pinned (fp := [it]) (fun b hb => by rw [List.mem_singleton.mp hb]; exact fI') (fun b hb => by rw [List.mem_singleton.mp hb]; exact ⟨oI, hoI, fun v z => by rw [hod] at z; cases z⟩)
  show wpAny _ X.A.in1 (tryCatch (holding [u] (call (.ref f) [u])) _ >>= _) _ _ _
  refine wpAny_bind (wpAny_tryCatch (wpAny_holding (wpAny_mono (key 0 y u _ H _ (fun _ _ => False) hy ru I4' pv) (fun v s5 he => ?_) fun _ _ hF => hF.elim)))
  obtain ⟨w0, H2, I5, rw0, ew, pv2⟩ := he
  subst ew
  obtain ⟨t2, rfl⟩ := rw0
  have pS := I5.pin (S, seqObj "list" #[] 0) (List.mem_append_right _ (List.mem_append_left _ List.mem_cons_self))
  have pI := I5.pin (it, oI) (List.mem_append_right _ (List.mem_append_right _ (mem_pinsAt (by simp) hoI)))
  have I6 : Inv X ((S, seqObj "list" #[] 0) :: pins) σ H2 s5 := I5.unpinned
  obtain ⟨c2, hc2⟩ : ∃ c2, (s5.heap.update S (Obj.mapSeq fun _ => #[u, .int (kf 0) t2])).get? S = some (seqObj "list" #[u, .int (kf 0) t2] c2) := ⟨_, get?_update_seq pS.1 fun _ => #[u, .int (kf 0) t2]⟩
  show wpAny _ X.A.in1 (updateSeq S (fun _ => #[u, .int (kf 0) t2]) >>= _) _ _ _
  refine wpAny_bind ?_
  refine wpAny_updateSeq pS.1 rfl ?_
  rw [hname]
  have fS2 : FpOk X pins H2 S := ⟨pS.2.1, fS.2⟩
  have I7 := Inv.repin (tk := s5.toks) I6 fS2 (fun b o hb e => (Heap.get?_update_other _ _ (Ne.symm hb)).trans e) hc2 (fun v z => nomatch z)
  refine wpAny_pure ⟨plainId_quiet PySem.F.plain_max_loop _, maxk_loop hh hP key hSi (fun i x u' s' H' hx rx hb J pv' => ⟨x, H', J, rx, hQ i x H' hx hb pv'⟩) _ 0 0 _ H2 y u t2 c2 rfl hne I7 fS2 ⟨pI.2.1, fI.2⟩ pv2 ⟨oI, (Heap.get?_update_other _ _ hSi).trans pI.1, hoc, hod⟩ hy ru (Nat.le_refl _) fun k hk => ?_⟩
  have e : k = 0 := by omega
  subst e
  exact ⟨Int.le_refl _, fun h => absurd h (Nat.lt_irrefl _)⟩
end
/-- the first of l whose key is greatest -/
def worstI (key : Int → Int) (l : List Int) : Int := (l.find? fun x => l.all fun y => decide (key y ≤ key x)).getD 0
theorem worst_at (key : Int → Int) (l : List Int) (i : Nat) (hi : i < l.length) (h : ∀ k, k < l.length → key (l.getD k 0) ≤ key (l.getD i 0) ∧ (k < i → key (l.getD k 0) < key (l.getD i 0))) : worstI key l = l.getD i 0 := by
  have hall : (l.all fun y => decide (key y ≤ key (l.getD i 0))) = true := by
    rw [List.all_eq_true]
    intro y hy
    obtain ⟨k, hk, rfl⟩ := List.getElem_of_mem hy
    have := (h k hk).1
    rw [show l.getD k 0 = l[k] by simp [List.getD_eq_getElem?_getD, hk]] at this
    exact decide_eq_true this
  have e : l.find? (fun x => l.all fun y => decide (key y ≤ key x)) = some (l.getD i 0) := by
    rw [List.find?_eq_some_iff_getElem]
    refine ⟨hall, i, hi, by simp [List.getD_eq_getElem?_getD, hi], fun j hj => ?_⟩
    have hjl : j < l.length := by omega
    have h2 := (h j hjl).2 hj
    rw [show l.getD j 0 = l[j] by simp [List.getD_eq_getElem?_getD, hjl]] at h2
    have hm : l.getD i 0 ∈ l := getD_mem l 0 hi
    simp only [Bool.not_eq_true', List.all_eq_false]
    exact ⟨_, hm, by rw [decide_eq_true_eq]; exact Int.not_le.mpr h2⟩
  unfold worstI
  rw [e]
  rfl
section
variable {Θ : Th} {X : Cx} {e body : Expr} {δ : List SD} {params : Arguments} {scope : Scope} {pos p lpos kpos : Pos} {c P : Addr} {y : Str} {l : List Int} {key : Int → Int} {k : Nat}
theorem lx_ok (xo : XOk Θ X) {A : Around} {s : Shared} {H : Hp} {E : XK} {f c' : Addr} : XOk Θ (LamX.lamCx X A X.stack s H E scope f c') := ⟨xo.P, xo.w, xo.K, xo.mg, xo.base, rfl, xo.nd⟩
theorem ev_maxLam (j : Nat) (xo : XOk Θ X) (T : Tx Θ) (LT : LamT Θ c P (X.env.qual ++ "<lambda>")) (hcode : X.env.code = .ref c) (hr : Room (k + 1) X.A) (he : EV Θ X e δ (· = .lst (l.map .int))) (hl : 0 < l.length) (L : LamP X.env.scope scope [y]) (hj : X.N[j]? = some y)
    (hb : ∀ x ∈ l, ∀ s H f c', XOk Θ (LamX.lamCx X X.A.in1 X.stack s H L2.E0 scope f c') → Room k (LamX.lamCx X X.A.in1 X.stack s H L2.E0 scope f c').A → EV Θ (LamX.lamCx X X.A.in1 X.stack s H L2.E0 scope f c') body ((δ.set j .no).set j (.im (.int x))) (· = .int (key x)))
    (hdef : defaultsOf params X.env = ([], []) := by rfl) (hbind : ∀ (u pm : Value) (c' : Addr) (ctv : Value), bindArgs (PySem.W.kla_fn "<lambda>" (X.env.qual ++ "<lambda>") params body scope (cloFrom X.env.cells scope.names []) pm (.ref c') ctv) ⟨[u], []⟩ = pure [(y, u)] := by intros; rfl)
    (hg : Gl X "max" := by rfl) (hst : starEach [e] X.env = (false, eval e X.env) :: starEach [] X.env := by rfl)
    (h1 : backTo pos (starEach [e] X.env) = (false, eval e X.env) :: backTo pos (starEach [] X.env) := by rfl) (h2 : (backTo pos (starEach [e] X.env)).any (·.1) = false := by rfl)
    (h3 : (backToKw pos (keywordEach [⟨some "key", .Lambda params body scope lpos, kpos⟩] X.env)).all (·.1.isSome) = true := by rfl) (h4 : (backToKw pos (keywordEach [⟨some "key", .Lambda params body scope lpos, kpos⟩] X.env)).any (·.1.isNone) = false := by rfl) (h5 : (backToKw pos (keywordEach [⟨some "key", .Lambda params body scope lpos, kpos⟩] X.env)).filterMap (·.1) = [("key" : Str)] := by rfl) :
    EV Θ X (.Call (.Name "max" p) [e] [⟨some "key", .Lambda params body scope lpos, kpos⟩] pos) δ (· = .int (worstI key l)) := fun M G0 H0 G H σ Q S q => by
  intro pins s I
  refine wpAny_Call_Name_kw (ld_blt I hg (xo.mg ▸ T.max) PyProof.Rows.boot_max ?_)
  have hlam := ev_lam (δ := δ) (params := params) (body := body) (scope := scope) (pos := lpos) xo LT hcode hdef fun y hy h => L.free y hy h
  refine PyProof.Rows.callWith_kw (thn ((pa_cons pe_can pa_nil hst).run pos pins s σ H (fun vs H1 => tCons (tE X (.Lambda params body scope lpos)) tNil σ H1 fun zs H2 => ∃ (a f c' : Addr) (pm ctv : Value) (G2 : Hp), vs = [.ref a] ∧ zs = [.ref f] ∧ StOk Θ M G0 H0 G2 H2 σ δ ∧ Gr G G2 ∧ G2 a = some (.lst (l.map .int)) ∧
      G2 f = some (FnO f (lamO X params body scope pm c' ctv)) ∧ G2 c' = some (LamX.CodeO c' (X.env.qual ++ "<lambda>"))) I ?_) fun us s1 ⟨vs, H1, I1, r1, q1⟩ => thn ((pk_cons pe_can pk_nil).run pos pins s1 σ H1 _ I1 q1) fun ws s2 ⟨zs, H2, I2, r2, q2⟩ => ?_) h1 h2 h3 h4
  · refine he M G0 H0 G H σ _ S fun v d G1 H1 S1 g1 r1 p1 => ?_
    subst p1
    obtain ⟨a, xs, rfl, ea, qa⟩ := r1.lst_inv
    have ex := qa.ints_inv
    subst ex
    refine hlam M G0 H0 G1 H1 σ _ S1 fun v2 d2 G2 H2 S2 g2 r2 ⟨f, c', pm, ctv, e2⟩ => ?_
    subst e2
    obtain ⟨rfl, hf, hc⟩ := r2.obj_inv
    exact ⟨a, f, c', pm, ctv, G2, rfl, rfl, S2, g1.trans g2, g2 _ _ ea, hf, hc⟩
  · obtain ⟨a, f, c', pm, ctv, G2, rfl, rfl, S2, g2, ea, hf, hc⟩ := q2
    obtain ⟨u1, rfl, e1⟩ := vals1 r1
    obtain ⟨u2, rfl, e2⟩ := vals1 r2
    obtain rfl : u1 = Value.ref a := e1
    obtain rfl : u2 = Value.ref f := e2
    rw [h5]
    have lm : (l.map V.int).length = l.length := List.length_map _
    refine max_call (xs := l.map .int) (kf := fun i => key (l.getD i 0)) (Pv := fun H' => ∃ G', StOk Θ M G0 H0 G' H' σ δ ∧ Gr G2 G') hr.hd (fun H' ⟨G', S', g'⟩ => S'.hs.sub _ _ (g' _ _ ea)) (fun i x u pins' H' s' E' hx rx I' ⟨G', S', g'⟩ => ?_) I2 ⟨G2, S2, .refl _⟩ (by rw [lm]; exact hl) fun i x H' hx hb ⟨G', S', g'⟩ => ?_
    · have hi : i < l.length := by rw [← lm]; exact (List.getElem?_eq_some_iff.mp hx).1
      rw [List.getElem?_map, get_getD l 0 hi] at hx
      have ex : V.int (l.getD i 0) = x := Option.some.inj hx
      subst ex
      refine lam_call1 hr.hd hr.depth I' L xo.nd hj (S'.hs.sub _ _ (g' _ _ hf)) (S'.hs.sub _ _ (g' _ _ hc)) rx (hbind u pm c' ctv) ?_
      have S3 := (S'.anew.drop (i := j) (o := none)).set (i := j) (Rep.int (Θ := Θ) (G := G') (l.getD i 0))
      refine hb (l.getD i 0) (getD_mem l 0 hi) s' H' f c' (lx_ok xo) ⟨hr.hd, by have := hr.dp; show X.A.depth + 1 + 3 * k + 5 < _; omega, by have := hr.un; show X.A.units + 1 + 3 + 16 * k + 200 < _; omega⟩ M G' H' G' H' _ _ S3 fun v d G3 H3 S4 g4 r4 e4 => ?_
      subst e4
      exact ⟨r4.int_inv, G3, S'.step S4.stp S4.hs fun d e => (S4.dice d e).2, g'.trans g4⟩
    · have hi : i < l.length := by rw [← lm]; exact (List.getElem?_eq_some_iff.mp hx).1
      rw [List.getElem?_map, get_getD l 0 hi] at hx
      have ex : V.int (l.getD i 0) = x := Option.some.inj hx
      subst ex
      exact q _ _ G' H' S' (g2.trans g') (.int _) (by rw [worst_at key l i hi fun k hk => hb k (by rw [lm]; exact hk)])
end
end PM

/-! Wish.worst; settled. -/
namespace PM
open PySem PySem.Spec PyProof.Rows L2
/-- how late a list names one -/
def late (l : List Int) (x : Int) : Int := (lookI (rkL l) x).getD 0
def listedL (l ins : List Int) : List Int := ins.filter fun x => decide (x ∈ l)
def worstO (l ins : List Int) : Option Int := if (listedL l ins).isEmpty then none else some (worstI (late l) (listedL l ins))
def R_worst (ds : List D) (d : D) : Prop := ∃ l ins, ds = [.wish l, .tup (ins.map .int)] ∧ ins.length ≤ 1000 ∧ d = optD (worstO l ins)
abbrev N_worst : List Str := ["self", "ones", "listed", "one"]
theorem sc_worst : FnScope N_worst ["self", "ones"] (defScope s_W_worst) := ⟨rfl, rfl, rfl, by decide +kernel, rfl, by decide +kernel, by decide +kernel⟩
section
variable {Θ : Th} {X : Cx} {iter elt : Expr} {ifs : List Expr} {rest : List Stmt} {δ : List SD} {pos p1 px py spos : Pos} {N : List SD → Prop} {P : D → Prop} {Ξ : Addr → Prop} {n : Nat} {x y z : Str} {scope : Scope} {kp : Nat → Bool}
/-- x = [elt for y in iter if ..], each item told -/
theorem setC1 {b f : Nat → D} (i j : Nat) (xo : XOk Θ X) (hi : EI Θ X (.Name y px) iter δ (gName j) n (fun i => [(j, b i)])) (ok : BlkOk X.N X.env.scope scope [(y, j)]) (hn : n ≤ 1000)
    (ht : ∀ i, i < n → ∀ s H C cl fp, XOk Θ (bk X scope s H C cl fp) → ETs Θ (bk X scope s H C cl fp) ifs ((δ.set j .no).set j (.im (b i))) (kp i))
    (he : ∀ i, i < n → kp i = true → ∀ s H C cl fp, XOk Θ (bk X scope s H C cl fp) → EV Θ (bk X scope s H C cl fp) elt ((δ.set j .no).set j (.im (b i))) (· = f i))
    (hr : SV Θ X rest (δ.set i (.im (.lst (((List.range n).filter kp).map f)))) N P Ξ)
    (hsw : swapsWith (.ListComp elt [⟨.Name y px, iter, ifs, 0⟩] scope pos) (some (.Name x p1)) spos.line X.env = pure true) (hxl : X.env.scope.names.lookup x = some .local := by rfl)
    (hxi : X.N[i]? = some x := by rfl) (hj : X.N[j]? = some y := by rfl) (hx : ∀ s H C cl fp, Loc (bk X scope s H C cl fp).env.scope y := by first | (intros; exact .inl rfl) | (intros; exact .inr rfl)) (hf : ∀ s H C cl fp, (bk X scope s H C cl fp).fn y = true ∨ (bk X scope s H C cl fp).env.scope.names.lookup y = some .local := by first | (intros; exact .inl rfl) | (intros; exact .inr rfl))
    (hs : ∀ x, foldedSetIterable iter X.env x = pure x := by intro _; rfl) :
    SV Θ X (.Assign [.Name x p1] (.ListComp elt [⟨.Name y px, iter, ifs, 0⟩] scope pos) spos :: rest) δ N P Ξ :=
  sv_setLc (own := [(y, j)]) (PL := fun i d => d = f i) xo hxi hxl hsw hi ok hn (fun i hi σ bv G h => hw1 σ bv h) (fun s H C cl fp => pg_name xo.nd hj (hx s H C cl fp) (hf s H C cl fp)) (fun i hi s H C cl fp => ht i hi s H C cl fp (bk_ok xo)) (fun i hi hk s H C cl fp => he i hi hk s H C cl fp (bk_ok xo)) (fun l al => by rw [al.det]; exact hr) hs
end
theorem opd_to {Θ : Th} {r : R2} {da db : D} {k m : Bool} (h : OpD Θ r da db (· = .bl k)) (e : k = m) : OpD Θ r da db (· = .bl m) := by
  subst e
  exact h
theorem opd_nilL {Θ : Th} (l : List Int) : OpD Θ (rEqD Θ.K) (.lst (l.map .int)) (.lst []) (· = .bl l.isEmpty) := opd_to (opd_eqL (n := 1) (plain_ints 1 l)) List.isEmpty_map
section
variable {Θ : Th} {f c P : Addr} {fd : FuncData}
theorem ok_worst (T : Tx Θ) (LT : LamT Θ c P "Wish.worst.<locals>.<lambda>") (F : Fun Θ.K "worst" "Wish.worst" s_W_worst f fd) (hc : fd.code = .ref c) : FnOk Θ.P Θ.w Θ.K Θ.mg Θ.base (L2.CX Θ.P Θ.w) 3 f fd ["self", "ones"] (PSp Θ 2 R_worst NoX) := by
  refine fn_okC F hc sc_worst rfl (fun A outer s H E ds d hr hl hR => ?_) (fun _ _ _ _ _ _ _ _ _ h => h.elim)
  obtain ⟨l, ins, rfl, hn, rfl⟩ := hR
  have xo := xo_cx (Θ := Θ) (qual := "Wish.worst") (f := f) (cd := .ref c) (A := A) (outer := outer) (s := s) (H := H) (E := E) sc_worst
  have nl : (ins.map D.int).length = ins.length := List.length_map _
  have at_ : ∀ i, i < (ins.map D.int).length → (ins.map D.int).getD i .non = .int (ins.getD i 0) := fun i hi => getD_map ins 0 D.int (by rw [← nl]; exact hi)
  refine setC1 (n := (ins.map D.int).length) (b := fun i => (ins.map D.int).getD i .non) (kp := fun i => decide (ins.getD i 0 ∈ l)) (f := fun i => .int (ins.getD i 0)) 2 3 xo (ei_tup (v 1)) (blkOk_by (N := N_worst) (sc := defScope s_W_worst) (by decide +kernel)) (by rw [nl]; exact hn)
    (fun i hi s H C cl fp xb => ets_one ((et_inD (hu_of hr) ((v 3).eq (at_ i hi)) (ev_ranks xb T (v 0))).eq (has_look _ _))) (fun i hi _ s H C cl fp xb => (v 3).eq (at_ i hi)) ?_ (sw_true rfl rfl rfl (by decide +kernel))
  rw [nl, filter_range_get ins 0 (fun x => decide (x ∈ l)) fun x => D.int x]
  show SV Θ _ _ [.im (.wish l), .im (.tup (ins.map .int)), .im (.lst ((listedL l ins).map .int)), .no] _ _ _
  · have hu := hu_of hr
    refine sv_ret (ev_if (k := (listedL l ins).isEmpty) (tst2 (op_eqD (by have := hr.units; exact this)) (v 2) (ev_lst ea_nil) (opd_nilL _)) (fun h => ev_non.eq (by unfold worstO; rw [if_pos h]; rfl)) fun h => (ev_maxLam (key := late l) (l := listedL l ins) (y := "one") 3 xo T LT rfl hr (v 2) (by
        cases e : listedL l ins with
        | nil => rw [e] at h; cases h
        | cons a t => exact Nat.succ_pos _) (lamP_by (sc := defScope s_W_worst) (by decide +kernel)) rfl fun x hx s H f c' xl hrl => ?_).eq ?_) fun d e => e
    · have hxl : x ∈ l := of_decide_eq_true (List.mem_filter.mp hx).2
      refine ev_ixD (hu_of hrl) (ev_ranks xl T (v 0)) (v 3) ?_
      have := (has_look l x).trans (decide_eq_true hxl)
      obtain ⟨y, hy⟩ := Option.isSome_iff_exists.mp this
      unfold late
      rw [hy]
      rfl
    · unfold worstO
      rw [if_neg (by rw [h]; decide)]
      rfl
end
end PM

/-! settled. -/
namespace PM
open PySem PySem.Spec PyProof.Rows L2
def badL (rs : List (List Int)) (m : Ma) (r : Int) : List Int := (thoseL m r).filter fun x => !decide (x ∈ nth rs r)
def goneI (rs : List (List Int)) (m : Ma) (r : Int) : Int := if (badL rs m r).isEmpty then worstI (late (nth rs r)) (listedL (nth rs r) (thoseL m r)) else (badL rs m r).getD 0 0
def settM (rs : List (List Int)) (ss : List Int) (m : Ma) (r : Int) : Ma := if nthI ss r ≤ ((thoseL m r).length : Int) then m.set (goneI rs m r).toNat none else m
def settL (rs : List (List Int)) (ss : List Int) (m : Ma) (a r : Int) : Ma := (settM rs ss m r).set a.toNat (some r)
theorem those_ix {m : Ma} {r x : Int} (h : x ∈ thoseL m r) : Ix m x ∧ nthM m x = some r := by
  unfold thoseL at h
  obtain ⟨i, hi, rfl⟩ := List.mem_map.mp h
  have h1 := List.mem_filter.mp hi
  refine ⟨ix_nat (List.mem_range.mp h1.1), ?_⟩
  rw [nthM_nat]
  exact of_decide_eq_true h1.2
theorem find_ne {l : List Int} {p : Int → Bool} (h : ∃ x ∈ l, p x = true) : (l.find? p).getD 0 ∈ l := by
  obtain ⟨x, hx, hp⟩ := h
  cases e : l.find? p with
  | none => exact absurd hp (List.find?_eq_none.mp e x hx)
  | some y => exact List.mem_of_find?_eq_some e
theorem max_ex (key : Int → Int) : ∀ (l : List Int), l ≠ [] → ∃ x ∈ l, (l.all fun y => decide (key y ≤ key x)) = true := by
  intro l
  induction l with
  | nil => intro h; exact absurd rfl h
  | cons a t ih =>
    intro _
    cases t with
    | nil => exact ⟨a, List.mem_cons_self, by simp⟩
    | cons b u =>
      obtain ⟨x, hx, hp⟩ := ih (by simp)
      by_cases hk : key a ≤ key x
      · exact ⟨x, List.mem_cons_of_mem _ hx, by rw [List.all_cons, hp, decide_eq_true hk]; rfl⟩
      · refine ⟨a, List.mem_cons_self, ?_⟩
        rw [List.all_cons, decide_eq_true (Int.le_refl _), Bool.true_and, List.all_eq_true]
        intro y hy
        have := of_decide_eq_true (List.all_eq_true.mp hp y hy)
        exact decide_eq_true (by omega)
theorem worstI_mem (key : Int → Int) {l : List Int} (h : l ≠ []) : worstI key l ∈ l := find_ne (max_ex key l h)
theorem gone_mem {rs : List (List Int)} {m : Ma} {r : Int} (h : thoseL m r ≠ []) : goneI rs m r ∈ thoseL m r := by
  unfold goneI
  by_cases hb : (badL rs m r).isEmpty = true
  · rw [if_pos hb]
    have he : listedL (nth rs r) (thoseL m r) = thoseL m r := by
      unfold listedL
      rw [List.filter_eq_self]
      intro x hx
      cases hd : decide (x ∈ nth rs r) with
      | true => rfl
      | false =>
        have : x ∈ badL rs m r := List.mem_filter.mpr ⟨hx, by rw [hd]; rfl⟩
        rw [List.isEmpty_iff.mp hb] at this
        cases this
    rw [he]
    exact worstI_mem _ h
  · rw [if_neg hb]
    have : 0 < (badL rs m r).length := by
      cases e : badL rs m r with
      | nil => rw [e] at hb; exact absurd rfl hb
      | cons a t => exact Nat.succ_pos _
    exact (List.mem_filter.mp (getD_mem (badL rs m r) 0 this)).1
def R_sett (ds : List D) (d : D) : Prop := ∃ as rs ss m a r, ds = [.mkt as rs ss, .tup (m.map optD), .tup [.int a, .int r]] ∧ MkOk as rs ss ∧ MtOk as rs m ∧ Ix m a ∧ Ix rs r ∧ 0 < nthI ss r ∧ d = .tup ((settL rs ss m a r).map optD)
abbrev N_sett : List Str := ["market", "match", "pair", "asker", "room", "found", "inside", "wish", "bad", "gone", "other"]
theorem sc_sett : FnScope N_sett ["market", "match", "pair"] (defScope s_settled) := ⟨rfl, rfl, rfl, by decide +kernel, rfl, by decide +kernel, by decide +kernel⟩
theorem opd_neNil {Θ : Th} (l : List Int) : OpD Θ (rNeD Θ.K) (.lst (l.map .int)) (.lst []) (· = .bl (!l.isEmpty)) := opd_to (opd_neL (n := 1) (plain_ints 1 l)) (by rw [List.isEmpty_map])
section
variable {Θ : Th} {f c P : Addr} {fd : FuncData}
theorem ok_sett (T : Tx Θ) (W : WiM Θ) (mW : Mth Θ Θ.CW "worst" 3 2 R_worst NoX) (dT : Dfn Θ "those_in" 1 2 R_those NoX) (F : Fun Θ.K "settled" "settled" s_settled f fd) : FnOk Θ.P Θ.w Θ.K Θ.mg Θ.base (L2.CX Θ.P Θ.w) 4 f fd ["market", "match", "pair"] (PSp Θ 3 R_sett NoX) := by
  refine fn_ok F sc_sett rfl (fun cdv A outer s H E ds d hr hl hR => ?_) (fun _ _ _ _ _ _ _ _ _ _ h => h.elim)
  obtain ⟨as, rs, ss, m, a, r, rfl, mk, mt, ia, ir, hs, rfl⟩ := hR
  have xo := xo_cx (Θ := Θ) (qual := "settled") (f := f) (cd := cdv) (A := A) (outer := outer) (s := s) (H := H) (E := E) sc_sett
  have ir2 : Ix ss r := ⟨ir.1, by rw [mk.ls]; exact ir.2⟩
  have hm1 : m.length ≤ 1000 := by rw [mt.len]; have := mk.la; omega
  have hi1 : (thoseL m r).length ≤ 1000 := by
    unfold thoseL
    rw [List.length_map]
    exact Nat.le_trans (List.length_filter_le _ _) (by rw [List.length_range]; exact hm1)
  refine sv_unpack (i := 3) (j := 4) (v 2) (pg2 3 4 xo) ?_
  refine sv_listM (i := 5) (l := m.map optD) T xo ((v 1).imp fun d e => .inr e) ?_
  refine set1 (d := .tup ((thoseL m r).map .int)) 6 xo (ev_call xo dT hr (by decide) rfl (ea_c (v 1) (ea_c (v 4) ea_nil)) ⟨m, r, rfl, hm1, rfl⟩) ?_
  refine sv_if (k := decide (nthI ss r ≤ ((thoseL m r).length : Int))) (N1 := fun δ' => ∃ x y z w, δ' = [.im (.mkt as rs ss), .im (.tup (m.map optD)), .im (.tup [.int a, .int r]), .im (.int a), .im (.int r), .mu ((settM rs ss m r).map optD), .im (.tup ((thoseL m r).map .int)), x, y, z, w])
    (tst2 op_ge ((lenT T (v 6)).eq (by rw [List.length_map])) (ixI (ev_seats xo T (v 0)) (v 4) ir2) (opd_I0 rfl)) (fun hk => ?_) (fun hk => ?_) fun δ' ⟨x, y, z, w, e⟩ => ?_
  · have hk := of_decide_eq_true hk
    have ne : thoseL m r ≠ [] := fun e => by rw [e] at hk; simp at hk; omega
    have gm := gone_mem (rs := rs) ne
    have gi := (those_ix gm).1
    have nl : ((thoseL m r).map D.int).length = (thoseL m r).length := List.length_map _
    have at_ : ∀ i, i < ((thoseL m r).map D.int).length → ((thoseL m r).map D.int).getD i .non = .int ((thoseL m r).getD i 0) := fun i hi => getD_map _ 0 D.int (by rw [← nl]; exact hi)
    refine set1 (d := .wish (nth rs r)) 7 xo (ixW (ev_rooms xo T (v 0)) (v 4) ir) ?_
    refine setC1 (n := ((thoseL m r).map D.int).length) (b := fun i => ((thoseL m r).map D.int).getD i .non) (kp := fun i => !decide ((thoseL m r).getD i 0 ∈ nth rs r)) (f := fun i => .int ((thoseL m r).getD i 0)) 8 10 xo (ei_tup (v 6)) (blkOk_by (N := N_sett) (sc := defScope s_settled) (by decide +kernel)) (by rw [nl]; exact hi1)
      (fun i hi s H C cl fp xb => ets_one (et_not (et_val (ev_meth xb W.has hr (by decide) (v 7) noFld_wish (ea_c ((v 10).eq (at_ i hi)) ea_nil) ⟨_, _, rfl, rfl⟩)))) (fun i hi _ s H C cl fp xb => (v 10).eq (at_ i hi)) ?_ (sw_true rfl rfl rfl (by decide +kernel))
    rw [nl, filter_range_get (thoseL m r) 0 (fun x => !decide (x ∈ nth rs r)) fun x => D.int x]
    show SV Θ _ _ [.im (.mkt as rs ss), .im (.tup (m.map optD)), .im (.tup [.int a, .int r]), .im (.int a), .im (.int r), .mu (m.map optD), .im (.tup ((thoseL m r).map .int)), .im (.wish (nth rs r)), .im (.lst ((badL rs m r).map .int)), .no, .no] _ _ _
    refine set1 (d := .int (goneI rs m r)) 9 xo (ev_if (k := !(badL rs m r).isEmpty) (tst2 (op_neD (by have := hr.units; exact this)) (v 8) (ev_lst ea_nil) (opd_neNil _)) (fun h => ?_) fun h => ?_) ?_
    · have h' : (badL rs m r).isEmpty = false := by cases e : (badL rs m r).isEmpty <;> rw [e] at h <;> simp_all
      have hp : 0 < (badL rs m r).length := by
        cases e : badL rs m r with
        | nil => rw [e] at h'; cases h'
        | cons a t => exact Nat.succ_pos _
      exact (ixL (j := 0) (l := (badL rs m r).map .int) (d := .int ((badL rs m r).getD 0 0)) (v 8) ev_int rfl (by rw [List.getElem?_map, get_getD _ 0 hp]; rfl)).eq (by unfold goneI; rw [if_neg (by rw [h']; decide)])
    · have h' : (badL rs m r).isEmpty = true := by cases e : (badL rs m r).isEmpty <;> rw [e] at h <;> simp_all
      refine (ev_meth xo mW hr (by decide) (v 7) noFld_wish (ea_c (v 6) ea_nil) ⟨_, _, rfl, hi1, rfl⟩).eq ?_
      unfold worstO
      have he : listedL (nth rs r) (thoseL m r) = thoseL m r := by
        unfold listedL
        rw [List.filter_eq_self]
        intro x hx
        cases hd : decide (x ∈ nth rs r) with
        | true => rfl
        | false =>
          have : x ∈ badL rs m r := List.mem_filter.mpr ⟨hx, by rw [hd]; rfl⟩
          rw [List.isEmpty_iff.mp h'] at this
          cases this
      unfold goneI
      rw [h', he]
      cases e : thoseL m r with
      | nil => exact absurd e ne
      | cons _ _ => rfl
    · refine sv_seti (i := 5) (m := (goneI rs m r).toNat) (z := goneI rs m r) (d := .non) xo rfl ev_non (v 9) (by have := gi.1; omega) (by rw [List.length_map]; have := gi.1; have := gi.2; omega) ?_
      refine sv_nil ⟨.im (.wish (nth rs r)), .im (.lst ((badL rs m r).map .int)), .im (.int (goneI rs m r)), .no, ?_⟩
      unfold settM
      rw [if_pos hk, List.map_set]
      rfl
  · have hk := of_decide_eq_false hk
    refine sv_nil ⟨.no, .no, .no, .no, ?_⟩
    unfold settM
    rw [if_neg hk]
    rfl
  · subst e
    have hlen : (settM rs ss m r).length = m.length := by
      unfold settM
      split
      · exact List.length_set
      · rfl
    refine sv_seti (i := 5) (m := a.toNat) (z := a) (d := .int r) xo rfl (v 4) (v 3) (by have := ia.1; omega) (by rw [List.length_map, hlen]; have := ia.1; have := ia.2; omega) ?_
    refine sv_freeze (i := 5) rfl ?_
    refine sv_ret (tupL T (v 5)) fun d e => ?_
    rw [e]
    unfold settL
    rw [List.map_set]
    rfl
end
end PM

/-! The dice: rules of the slot dc; _law_dice, _law_roll, _law_rounds. -/
namespace PM
open PySem PySem.Spec PyProof.Rows L2
def isI (d : D) : Prop := ∃ z : Int, d = .int z
/-- a test whose end is not told -/
def ETn (Θ : Th) (X : Cx) (e : Expr) (δ : List SD) : Prop :=
  ∀ (M : Option Addr) (G0 H0 G H : Hp) (σ : L2.St) (Q : Bool → Hp → Prop), StOk Θ M G0 H0 G H σ δ → (∀ b G' H', StOk Θ M G0 H0 G' H' σ δ → Gr G G' → Q b H') → tT X e σ H Q
def EWn (Θ : Th) (X : Cx) (e : Expr) (δ : List SD) : Prop :=
  ∀ (M : Option Addr) (G0 H0 G H : Hp) (σ : L2.St) (Q : Bool → Hp → Prop), StOk Θ M G0 H0 G H σ δ → (∀ b G' H', StOk Θ M G0 H0 G' H' σ δ → Gr G G' → Q b H') → tW X e σ H Q
section
variable {Θ : Th} {X : Cx} {a b c e : Expr} {es : List Expr} {s1 s2 rest : List Stmt} {δ : List SD} {pos p px : Pos} {N : List SD → Prop} {P PA PB PE : D → Prop} {Ξ : Addr → Prop} {i : Nat} {x : Str} {da db d : D} {k m : Bool}
theorem etn_cmp {op : CmpOp} {r : R2} (ho : OpR X (compareOp op) r) (ha : EV Θ X a δ PA) (hb : EV Θ X b δ PB) (hk : ∀ dx dy, PA dx → PB dy → ∃ k, OpD Θ r dx dy (· = .bl k)) (hm : behindInMarks op b = false := by first | exact nomark _ | rfl) : ETn Θ X (.Compare a [op] [b] pos) δ := fun M G0 H0 G H σ Q S q =>
  .of (pt_cmpR ho pe_can pe_can hm) (ha M G0 H0 G H σ _ S fun x dx G1 H1 S1 g1 r1 p1 => hb M G0 H0 G1 H1 σ _ S1 fun y dy G2 H2 S2 g2 r2 p2 => by
    obtain ⟨k, h⟩ := hk dx dy p1 p2
    exact h S2.hs (r1.gr g2) r2 (S2.kd fun v d G' H' S' g rv e => by
      subst e
      exact ⟨k, rv.bl_inv, q k G' H' S' ((g1.trans g2).trans g)⟩))
theorem ewn_and (h : ETn Θ X a δ) (h2 : EWn Θ X (.BoolOp .And (b :: es) pos) δ) : EWn Θ X (.BoolOp .And (a :: b :: es) pos) δ := fun M G0 H0 G H σ Q S q =>
  .of (pw_and pt_can pw_can) (h M G0 H0 G H σ _ S fun k G' H' S' g => by
    cases k with
    | false => exact q _ G' H' S' g
    | true => exact h2 M G0 H0 G' H' σ Q S' fun b G2 H2 S2 g2 => q b G2 H2 S2 (g.trans g2))
theorem ewn_and1 (h : ETn Θ X a δ) : EWn Θ X (.BoolOp .And [a] pos) δ := fun M G0 H0 G H σ Q S q =>
  .of (pw_and1 pt_can) (h M G0 H0 G H σ Q S q)
theorem ewn_or (h : ETn Θ X a δ) (h2 : EWn Θ X (.BoolOp .Or (b :: es) pos) δ) : EWn Θ X (.BoolOp .Or (a :: b :: es) pos) δ := fun M G0 H0 G H σ Q S q =>
  .of (pw_or pt_can pw_can) (h M G0 H0 G H σ _ S fun k G' H' S' g => by
    cases k with
    | true => exact q _ G' H' S' g
    | false => exact h2 M G0 H0 G' H' σ Q S' fun b G2 H2 S2 g2 => q b G2 H2 S2 (g.trans g2))
theorem ewn_or1 (h : ETn Θ X a δ) : EWn Θ X (.BoolOp .Or [a] pos) δ := fun M G0 H0 G H σ Q S q =>
  .of (pw_or1 pt_can) (h M G0 H0 G H σ Q S q)
theorem etn_w (h : EWn Θ X e δ) : ETn Θ X e δ := fun M G0 H0 G H σ Q S q => .of pw_can.pt (h M G0 H0 G H σ Q S q)
theorem sv_ifN (hc : ETn Θ X c δ) (h1 : SV Θ X s1 δ (fun _ => False) P Ξ) (h3 : SV Θ X rest δ N P Ξ) : SV Θ X (.If c s1 [] pos :: rest) δ N P Ξ := fun M G0 H0 G H σ Dn E tk S O q r ex =>
  .of (pss_cons (ps_if pt_can pss_can pss_can) pss_can) (hc M G0 H0 G H σ _ S fun k G1 H1 S1 g1 => by
    cases k with
    | true => exact h1 M G0 H0 G1 H1 _ _ E tk S1 O (fun σ' δ' G' H' S' O' g n => n.elim) r ex
    | false => exact (sv_nil (N := fun δ' => δ' = δ) (P := P) (Ξ := Ξ) rfl) M G0 H0 G1 H1 _ _ E tk S1 O (fun σ' δ' G' H' S' O' g n => by
        subst n
        exact h3 M G0 H0 G' H' _ _ E tk S' O' (fun σ2 δ2 G2 H2 S2 O2 g2 n2 => q σ2 δ2 G2 H2 S2 O2 ((g1.trans g).trans g2) n2) r ex) r ex)
theorem et_chain {op op' : CmpOp} {r r' : R2} (ho : OpR X (compareOp op) r) (ho' : OpR X (compareOp op') r') (ha : EV Θ X a δ (· = da)) (hb : EV Θ X b δ (· = db)) (hc : k = true → EV Θ X c δ (· = d))
    (h1 : OpD Θ r da db (· = .bl k)) (h2 : k = true → OpD Θ r' db d (· = .bl m)) (hm : lastMarks [op, op'] [b, c] = false := by with_unfolding_all rfl) :
    ET Θ X (.Compare a [op, op'] [b, c] pos) δ (k && m) := fun M G0 H0 G H σ Q S q =>
  .of (pt_chain ho ho' pe_can pe_can pe_can hm) (ha M G0 H0 G H σ _ S fun x dx G1 H1 S1 g1 r1 p1 => hb M G0 H0 G1 H1 σ _ S1 fun y dy G2 H2 S2 g2 r2 p2 => by
    subst p1 p2
    refine h1 S2.hs (r1.gr g2) r2 (S2.kd fun v d3 G3 H3 S3 g3 r3 p3 => ?_)
    subst p3
    refine ⟨k, r3.bl_inv, ?_⟩
    cases k with
    | false => exact ⟨_, rfl, q G3 H3 S3 ((g1.trans g2).trans g3)⟩
    | true =>
      refine hc rfl M G0 H0 G3 H3 σ _ S3 fun z dz G4 H4 S4 g4 r4 p4 => ?_
      subst p4
      exact h2 rfl S4.hs ((r2.gr g3).gr g4) r4 (S4.kd fun v d5 G5 H5 S5 g5 r5 p5 => by
        subst p5
        exact ⟨m, r5.bl_inv, q G5 H5 S5 ((((g1.trans g2).trans g3).trans g4).trans g5)⟩))
/-! ### int, abs -/
theorem ev_intI {z : Int} {pp : Pos} (T : Tx Θ) (xo : XOk Θ X) (h : EV Θ X a δ (· = .int z)) (hg : Gl X "int" := by rfl) (hs : starEach [a] X.env = (false, eval a X.env) :: starEach [] X.env := by rfl) (hpl : (backTo pos (starEach [] X.env)).any (·.1) = false := by rfl) :
    EV Θ X (.Call (.Name "int" pp) [a] [] pos) δ (· = .int z) :=
  ev_callTy call_int1 hg (xo.mg ▸ T.int) PySem.Pv.boot_int (ea_c h ea_nil hs) (fun {G H xs Q} hs r k => by
    cases r with
    | cons r t =>
      cases t
      exact .inl ⟨z, by rw [r.int_inv], k.same hs (.int _) rfl⟩) (by decide) (by decide) hs hpl
theorem ev_intN {pp : Pos} (T : Tx Θ) (xo : XOk Θ X) (h : EV Θ X a δ isI) (hg : Gl X "int" := by rfl) (hs : starEach [a] X.env = (false, eval a X.env) :: starEach [] X.env := by rfl) (hpl : (backTo pos (starEach [] X.env)).any (·.1) = false := by rfl) :
    EV Θ X (.Call (.Name "int" pp) [a] [] pos) δ isI := fun M G0 H0 G H σ Q S q =>
  .of (pe_callTy call_int1 hg (xo.mg ▸ T.int) PySem.Pv.boot_int (pa_cons pe_can pa_nil hs) (by decide) (by decide) hs hpl) (h M G0 H0 G H σ _ S fun v d G1 H1 S1 g1 r1 p1 => by
    obtain ⟨z, rfl⟩ := p1
    exact .inl ⟨z, by rw [r1.int_inv], q _ _ G1 H1 S1 g1 (.int z) ⟨z, rfl⟩⟩)
theorem ev_intB {k : Bool} {pp : Pos} (T : Tx Θ) (xo : XOk Θ X) (h : EV Θ X a δ (· = .bl k)) (hg : Gl X "int" := by rfl) (hs : starEach [a] X.env = (false, eval a X.env) :: starEach [] X.env := by rfl) (hpl : (backTo pos (starEach [] X.env)).any (·.1) = false := by rfl) :
    EV Θ X (.Call (.Name "int" pp) [a] [] pos) δ (· = .int (if k then 1 else 0)) :=
  ev_callTy call_int1 hg (xo.mg ▸ T.int) PySem.Pv.boot_int (ea_c h ea_nil hs) (fun {G H xs Q} hs r k => by
    cases r with
    | cons r t =>
      cases t
      exact .inr ⟨_, by rw [r.bl_inv], k.same hs (.int _) rfl⟩) (by decide) (by decide) hs hpl
theorem ev_absI {z : Int} {pp : Pos} (T : Tx Θ) (xo : XOk Θ X) (h : EV Θ X a δ (· = .int z)) (hg : Gl X "abs" := by rfl) (hs : starEach [a] X.env = (false, eval a X.env) :: starEach [] X.env := by rfl) (hpl : (backTo pos (starEach [] X.env)).any (·.1) = false := by rfl) :
    EV Θ X (.Call (.Name "abs" pp) [a] [] pos) δ (· = .int (if z < 0 then -z else z)) :=
  ev_callB call_abs hg (xo.mg ▸ T.abs) PyProof.Rows.boot_abs (ea_c h ea_nil hs) (fun {G H xs Q} hs r k => by
    cases r with
    | cons r t =>
      cases t
      exact ⟨z, by rw [r.int_inv], k.same hs (.int _) rfl⟩) (by decide) (by decide) hs hpl
/-! ### the slot dc -/
/-- x[b], the dice -/
theorem ev_ixDc {z : Int} (hδ : δ[i]? = some .dc) (hb : EV Θ X b δ (· = .int z)) (hz : z = 0 ∨ z = 1 ∨ z = 2) (hN : X.N[i]? = some x := by rfl) (hv : Vis X.env.scope x := by first | exact Or.inl rfl | exact Or.inr (Or.inl rfl) | exact Or.inr (Or.inr rfl)) (hd : (x == ("__debug__" : Str)) = false := by decide) (hcd : (x == ("__classdict__" : Str)) = false := by decide)
    (hs : PlainIx b := by exact fun _ _ => rfl) : EV Θ X (.Subscript (.Name x px) b pos) δ isI := fun M G0 H0 G H σ Q S q => by
  obtain ⟨d, e1, rfl⟩ := S.dc i hδ
  refine .of (pe_ix ix_list (pe_var hN hv hd hcd) pe_can hs) ⟨_, e1, ?_⟩
  refine hb _ G0 H0 G H σ _ S fun w dw G1 H1 S1 g1 r1 p1 => ?_
  subst p1
  obtain ⟨_, _, a, b, c, f2⟩ := S1.dice d rfl
  rw [r1.int_inv]
  rcases hz with rfl | rfl | rfl
  · exact ⟨d, _, _, .int a, rfl, rfl, .of f2, atI_nat (j := 0) rfl, q _ _ G1 H1 S1 g1 (.int a) ⟨a, rfl⟩⟩
  · exact ⟨d, _, _, .int b, rfl, rfl, .of f2, atI_nat (j := 1) rfl, q _ _ G1 H1 S1 g1 (.int b) ⟨b, rfl⟩⟩
  · exact ⟨d, _, _, .int c, rfl, rfl, .of f2, atI_nat (j := 2) rfl, q _ _ G1 H1 S1 g1 (.int c) ⟨c, rfl⟩⟩
theorem StOk.setDice {M : Option Addr} {G0 H0 G H : Hp} {σ : L2.St} {d : Addr} {a b c : Int} (S : StOk Θ M G0 H0 G H σ δ) (hM : M = some d) : StOk Θ M G0 H0 G (upd H d (.lst [.int a, .int b, .int c])) σ δ := by
  obtain ⟨z0, zG, a0, b0, c0, zH⟩ := S.dice d hM
  refine S.step ⟨.refl G, fun a' e => ⟨rfl, ?_⟩, fun a' o e n m => ?_, fun a' e => ?_⟩ (S.hs.write zH zG) fun d' e => ?_
  · by_cases z : a' = d
    · rw [z, upd_same]; trivial
    · rw [upd_ne z]; exact e
  · rw [upd_ne fun z => m (by rw [hM, z])]
    exact e
  · by_cases z : a' = d
    · rw [z, upd_same]; simp
    · rw [upd_ne z]; exact e
  · rw [hM] at e
    cases e
    exact ⟨zG, a, b, c, upd_same⟩
/-- x[b] = e, the dice -/
theorem sv_setDc {m : Nat} {z : Int} (xo : XOk Θ X) (hδ : δ[i]? = some .dc) (he : EV Θ X e δ isI) (hb : EV Θ X b δ (· = .int z)) (hz : z = (m : Int)) (hm : m < 3) (hr : SV Θ X rest δ N P Ξ) (hN : X.N[i]? = some x := by rfl) (hv : Vis X.env.scope x := by first | exact Or.inl rfl | exact Or.inr (Or.inl rfl) | exact Or.inr (Or.inr rfl)) (hd : (x == ("__debug__" : Str)) = false := by decide) (hcd : (x == ("__classdict__" : Str)) = false := by decide)
    (ha : ∀ v, assign (.Subscript (.Name x px) b p) X.env v = (do
      let ov ← holding [v] (eval (.Name x px) X.env)
      let iv ← holding [v, ov] (eval b X.env)
      standAt p
      holding [v, ov, iv] (setItem ov iv v)
      release [v, ov, iv] []) := by intro _; rfl)
    (hs : swapsWithSole [.Subscript (.Name x px) b p] e pos.line X.env = pure false := by rfl) (hw : swappedStores [.Subscript (.Name x px) b p] e X.env = pure none := by rfl)
    (h1 : (assignEach [.Subscript (.Name x px) b p] X.env).map (·.2) = [assign (.Subscript (.Name x px) b p) X.env] := by rfl) :
    SV Θ X (.Assign [.Subscript (.Name x px) b p] e pos :: rest) δ N P Ξ := fun M G0 H0 G H σ Dn E tk S O q r ex => by
  refine .of (pss_cons (ps_asg pe_can (pg_sub (pe_var hN hv hd hcd) pe_can set_list ha) hs hw h1) pss_can) ?_
  refine he M G0 H0 G H σ _ S fun v d' G1 H1 S1 g1 r1 p1 => ?_
  obtain ⟨y, rfl⟩ := p1
  obtain ⟨d, e1, rfl⟩ := S.dc i hδ
  refine ⟨_, e1, ?_⟩
  refine hb _ G0 H0 G1 H1 σ _ S1 fun w dw G2 H2 S2 g2 r2 p2 => ?_
  subst p2
  obtain ⟨_, _, a, b, c, f2⟩ := S2.dice d rfl
  refine ⟨d, _, z, m, rfl, r2.int_inv, f2, ?_, ?_⟩
  · rw [hz]
    unfold ixN
    rw [if_pos (by omega), if_pos (by simp; omega), Int.toNat_natCast]
  rw [r1.int_inv]
  have key : ∃ a' b' c' : Int, ([V.int a, V.int b, V.int c].set m (V.int y)) = [V.int a', V.int b', V.int c'] := by
    match m, hm with
    | 0, _ => exact ⟨y, b, c, rfl⟩
    | 1, _ => exact ⟨a, y, c, rfl⟩
    | 2, _ => exact ⟨a, b, y, rfl⟩
  obtain ⟨a', b', c', ek⟩ := key
  rw [ek]
  exact hr _ G0 H0 G2 _ _ Dn E tk (S2.setDice (a := a') (b := b') (c := c') rfl) O (fun σ' δ' G' H' S' O' g n => q σ' δ' G' H' S' O' ((g1.trans g2).trans g) n) r ex
end
/-! ### a def that throws the dice -/
section
variable {Θ : Th} {x qual : Str} {st : Stmt} {f : Addr} {fd : FuncData} {N ps : List Str} {k n : Nat} {R : List D → (D → Prop) → Prop}
def δD (N : List Str) (ds : List D) : List SD := .dc :: (ds.map .im ++ List.replicate (N.length - ds.length - 1) .no)
theorem stOk_startD {G H : Hp} {d : Addr} {vs : List V} {ds : List D} (hs : Hs Θ G H) (z : DiceAt G H d) (r : RepA Θ G vs ds) : StOk Θ (some d) G H G H (L2.start N (.ref d :: vs)) (δD N ds) ∧ Own H (L2.start N (.ref d :: vs)) (δD N ds) := by
  have hl := r.length
  have hst : L2.start N (.ref d :: vs) = some (.ref d) :: (vs.map some ++ List.replicate (N.length - vs.length - 1) none) := by
    unfold L2.start
    rw [List.length_cons, List.map_cons, List.cons_append, Nat.sub_sub]
  have get : ∀ (i : Nat) (s : SD), (δD N ds)[i]? = some s → (i = 0 ∧ s = .dc) ∨ (∃ d j, i = j + 1 ∧ s = .im d ∧ ds[j]? = some d) ∨ s = .no := fun i s h => by
    unfold δD at h
    cases i with
    | zero => cases h; exact .inl ⟨rfl, rfl⟩
    | succ i =>
      rw [List.getElem?_cons_succ] at h
      by_cases hi : i < ds.length
      · rw [List.getElem?_append_left (by simpa using hi), List.getElem?_map] at h
        cases e : ds[i]? with
        | none => rw [e] at h; cases h
        | some d => rw [e] at h; cases h; exact .inr (.inl ⟨d, i, rfl, rfl, e⟩)
      · rw [List.getElem?_append_right (by simpa using hi), List.getElem?_replicate] at h
        split at h
        · cases h; exact .inr (.inr rfl)
        · cases h
  refine ⟨⟨.refl _ _ _, hs, fun d' e => ?_, ?_, fun i d' h => ?_, fun i l h => ?_, fun i h => ?_, fun i j l k v _ h => ?_⟩, fun i l a h => ?_⟩
  · cases e
    obtain ⟨_, a, b, c, zH⟩ := id z
    exact ⟨by rw [zH]; simp, z⟩
  · rw [hst]
    unfold δD
    rw [List.length_cons, List.length_cons, List.length_append, List.length_append, List.length_map, List.length_map, List.length_replicate, List.length_replicate, hl]
  · rcases get i _ h with ⟨_, e⟩ | ⟨d2, j, rfl, e, h2⟩ | e
    · cases e
    · cases e
      obtain ⟨v, h3, h4⟩ := r.get h2
      refine ⟨v, ?_, h4⟩
      have hi : j < vs.length := (List.getElem?_eq_some_iff.mp h3).1
      rw [hst, List.getElem?_cons_succ, List.getElem?_append_left (by simpa using hi), List.getElem?_map, h3]
      rfl
    · cases e
  · rcases get i _ h with ⟨_, e⟩ | ⟨d2, j, rfl, e, h2⟩ | e <;> cases e
  · rcases get i _ h with ⟨rfl, e⟩ | ⟨d2, j, rfl, e, h2⟩ | e
    · exact ⟨d, by rw [hst]; rfl, rfl⟩
    · cases e
    · cases e
  · rcases get i _ h with ⟨_, e⟩ | ⟨d2, j, rfl, e, h2⟩ | e <;> cases e
  · rcases get i _ h with ⟨_, e⟩ | ⟨d2, j, rfl, e, h2⟩ | e <;> cases e
theorem fn_okD (F : Fun Θ.K x qual st f fd) (S : FnScope N ps (defScope st)) (hn : ps.length = n + 1)
    (h1 : ∀ (cdv : Value) (A : Around) (outer : List Env) (s : Shared) (H : Hp) (E : XK) (ds : List D) (P : D → Prop), Room k (A.deeper (envOfC qual (defScope st) s.heap.objs.size f cdv)) → ds.length = n → R ds P →
      SV Θ (cxP Θ N qual (defScope st) f cdv A outer s H E) (defBody st) (δD N ds) (fun _ => False) P (fun _ => False)) :
    FnOk Θ.P Θ.w Θ.K Θ.mg Θ.base (L2.CX Θ.P Θ.w) (k + 1) f fd ps (DSp Θ n R) := by
  refine F.okX S (fun vs H Q E h => by rw [hn]; exact h.1) fun cdv A outer s H vs Q E hr h => ?_
  obtain ⟨hl, G, d, us, ds, P, rfl, hs, z, r, hR, q⟩ := h
  have hl2 : ds.length = n := by
    rw [← r.length]
    simpa using hl
  obtain ⟨S0, O0⟩ := stOk_startD (N := N) hs z r
  have tk : Takes (cxP Θ N qual (defScope st) f cdv A outer s H E) (fun cls d _ H => E cls d H) := takes_of rfl rfl rfl rfl
  exact ⟨_, pss_can, h1 cdv A outer s H E ds P hr hl2 hR (some d) G H G H _ _ E tk S0 O0 (fun _ _ _ _ _ _ _ z => z.elim) (fun v d' G' H' e r p => q v d' G' H' e.stp e.hs (e.dice d rfl) r p) (fun _ _ _ _ z => z.elim)⟩
end
/-! ### _law_dice, _law_roll, _law_rounds -/
def diceL (c : Int) : List Int := if -10 < c ∧ c < 10 then [if c < 0 then -c else c, 0, 2] else [c, 1 + c % 1009, if (10 : Int) ^ 18 ≤ c then 1 else 0]
def R_dice (ds : List D) (d : D) : Prop := ∃ c, ds = [.int c] ∧ d = .lst ((diceL c).map .int)
def roundsL (s : List Int) : List (List Int) := [diceL (s.getD 0 0)]
def dLL (l : List (List Int)) : D := .lst (l.map fun r => D.lst (r.map .int))
def R_rounds (ds : List D) (d : D) : Prop := ∃ s : List Int, ds = [.scr s, .int 1] ∧ d = dLL (roundsL s)
/-- a throw: 0 .. many - 1 -/
def isThrow (many : Int) (d : D) : Prop := ∃ z : Int, d = .int z ∧ 0 ≤ z ∧ z < many
def R_roll (ds : List D) (P : D → Prop) : Prop := ∃ many, ds = [.int many] ∧ 0 < many ∧ many ≤ 1000 ∧ P = isThrow many
section
variable {Θ : Th} {f c P : Addr} {fd : FuncData}
theorem isI_bin {X : Cx} {a b : Expr} {op : Operator} {pos : Pos} {δ : List SD} {C : Int → Int → Prop} {g : Int → Int → Int} {j : Int} (ho : OpR X (binaryOp op) (rI C fun i j => .int (g i j))) (ha : EV Θ X a δ isI) (hb : EV Θ X b δ (· = .int j)) (hc : ∀ i, C i j) : EV Θ X (.BinOp a op b pos) δ isI :=
  ev_bin ho ha hb fun dx dy p q => by
    obtain ⟨i, rfl⟩ := p
    subst q
    exact fun {G H x y Q} hs rx ry k => ⟨i, j, rx.int_inv, ry.int_inv, hc i, k.same hs (.int (g i j)) ⟨_, rfl⟩⟩
theorem isI_add {X : Cx} {a b : Expr} {pos : Pos} {δ : List SD} (ha : EV Θ X a δ isI) (hb : EV Θ X b δ isI) : EV Θ X (.BinOp a .Add b pos) δ isI :=
  ev_bin op_add ha hb fun dx dy p q => by
    obtain ⟨i, rfl⟩ := p
    obtain ⟨j, rfl⟩ := q
    exact fun {G H x y Q} hs rx ry k => ⟨i, j, rx.int_inv, ry.int_inv, k.same hs (.int (i + j)) ⟨_, rfl⟩⟩
theorem isThrow_mod {X : Cx} {a b : Expr} {pos : Pos} {δ : List SD} {j : Int} (hj : 0 < j) (ha : EV Θ X a δ isI) (hb : EV Θ X b δ (· = .int j)) : EV Θ X (.BinOp a .Mod b pos) δ (isThrow j) :=
  ev_bin op_mod ha hb fun dx dy p q => by
    obtain ⟨i, rfl⟩ := p
    subst q
    exact fun {G H x y Q} hs rx ry k => ⟨i, j, rx.int_inv, ry.int_inv, hj, k.same hs (.int (i % j)) ⟨_, rfl, Int.emod_nonneg _ (by omega), Int.emod_lt_of_pos _ hj⟩⟩
theorem isThrow.isI {j : Int} {d : D} (h : isThrow j d) : isI d := by
  obtain ⟨z, e, _⟩ := h
  exact ⟨z, e⟩
theorem evI {X : Cx} {a : Expr} {δ : List SD} {z : Int} (h : EV Θ X a δ (· = .int z)) : EV Θ X a δ isI := h.imp fun d e => ⟨z, e⟩
abbrev N_dice : List Str := ["_law_cell"]
theorem sc_dice : FnScope N_dice N_dice (defScope s_L_dice) := ⟨rfl, rfl, rfl, by decide +kernel, rfl, by decide +kernel, by decide +kernel⟩
theorem ok_dice (T : Tx Θ) (F : Fun Θ.K "_law_dice" "_law_dice" s_L_dice f fd) : FnOk Θ.P Θ.w Θ.K Θ.mg Θ.base (L2.CX Θ.P Θ.w) 1 f fd N_dice (PSp Θ 1 R_dice NoX) := by
  refine fn_ok F sc_dice rfl (fun cdv A outer s H E ds d hr hl hR => ?_) (fun _ _ _ _ _ _ _ _ _ _ h => h.elim)
  obtain ⟨c, rfl, rfl⟩ := hR
  have xo := xo_cx (Θ := Θ) (qual := "_law_dice") (f := f) (cd := cdv) (A := A) (outer := outer) (s := s) (H := H) (E := E) sc_dice
  refine sv_ifRet (k := decide (-10 < c) && decide (c < 10)) (et_chain (da := .int (-10)) (db := .int c) (d := .int 10) (k := decide (-10 < c)) (m := decide (c < 10)) op_lt op_lt (bin2 op_sub ev_int ev_int (opd_I0 rfl)) (v 0) (fun _ => ev_int) (opd_I0 rfl) (fun _ => opd_I0 rfl)) (fun hk => ?_) fun hk => ?_
  · rw [Bool.and_eq_true, decide_eq_true_eq, decide_eq_true_eq] at hk
    refine sv_ret (ev_lst (ea_c (ev_absI T xo (v 0)) (ea_c ev_int (ea_c ev_int ea_nil)))) fun d e => ?_
    rw [e]
    unfold diceL
    rw [if_pos hk]
    rfl
  · rw [Bool.and_eq_false_iff, decide_eq_false_iff_not, decide_eq_false_iff_not] at hk
    refine sv_ret (ev_lst (ea_c (v 0) (ea_c (bin2 (da := .int 1) (db := .int (c % 1009)) op_add ev_int (bin2 (da := .int c) (db := .int 1009) op_mod (ev_intI T xo (v 0)) ev_int (opd_I (by decide) rfl)) (opd_I0 (o := .int (1 + c % 1009)) rfl)) (ea_c (ev_intB (k := decide ((10 : Int) ^ 18 ≤ c)) T xo (cmp2 (da := .int c) (db := .int ((10 : Int) ^ 18)) op_ge (v 0) (bin2 (da := .int 10) (db := .int 18) op_pow ev_int ev_int (opd_I ⟨by decide, by decide, by decide⟩ rfl)) (opd_I0 rfl))) ea_nil)))) fun d e => ?_
    rw [e]
    unfold diceL
    rw [if_neg (show ¬(-10 < c ∧ c < 10) by omega)]
    by_cases h18 : (10 : Int) ^ 18 ≤ c
    · rw [decide_eq_true h18, if_pos h18]; rfl
    · rw [decide_eq_false h18, if_neg h18]; rfl
abbrev N_roll : List Str := ["_law_dice_here", "_law_many", "_law_found"]
theorem sc_roll : FnScope N_roll ["_law_dice_here", "_law_many"] (defScope s_L_roll) := ⟨rfl, rfl, rfl, by decide +kernel, rfl, by decide +kernel, by decide +kernel⟩
theorem ok_roll (T : Tx Θ) (F : Fun Θ.K "_law_roll" "_law_roll" s_L_roll f fd) : FnOk Θ.P Θ.w Θ.K Θ.mg Θ.base (L2.CX Θ.P Θ.w) 1 f fd ["_law_dice_here", "_law_many"] (DSp Θ 1 R_roll) := by
  refine fn_okD F sc_roll rfl fun cdv A outer s H E ds P hr hl hR => ?_
  obtain ⟨many, rfl, h0, h1, rfl⟩ := hR
  have xo := xo_cx (Θ := Θ) (qual := "_law_roll") (f := f) (cd := cdv) (A := A) (outer := outer) (s := s) (H := H) (E := E) sc_roll
  have eqI : ∀ (j : Int) (dx dy : D), isI dx → dy = .int j → ∃ k, OpD Θ rEq dx dy (· = .bl k) := fun j dx dy p q => by
    obtain ⟨i, rfl⟩ := p
    subst q
    exact ⟨_, opd_eqI⟩
  refine sv_ifN (etn_w (ewn_or (etn_cmp op_eq (ev_ixDc (i := 0) (z := 2) rfl ev_int (by simp)) ev_int (eqI 2)) (ewn_or1 (etn_w (ewn_and (etn_cmp op_eq (ev_ixDc (i := 0) (z := 2) rfl ev_int (by simp)) ev_int (eqI 1)) (ewn_and1 (etn_cmp op_gt (ev_ixDc (i := 0) (z := 0) rfl ev_int (by simp)) ev_int fun dx dy p q => by
    obtain ⟨i, rfl⟩ := p
    subst q
    exact ⟨_, opd_I0 rfl⟩))))))) ?_ ?_
  · refine sv_set (i := 2) xo rfl (.inl rfl) (isThrow_mod h0 (ev_intN T xo (ev_ixDc (i := 0) (z := 0) rfl ev_int (by simp))) (v 1)) fun d e => ?_
    refine sv_setDc (i := 0) (m := 0) (z := 0) xo rfl (isI_bin op_fdiv (ev_ixDc (i := 0) (z := 0) rfl ev_int (by simp)) (v 1) fun i => ⟨h0, by omega⟩) ev_int rfl (by decide) ?_
    exact sv_ret (v 2) fun d' e' => by rw [e']; exact e
  · refine sv_setDc (i := 0) (m := 2) (z := 2) xo rfl (evI ev_int) ev_int rfl (by decide) ?_
    refine sv_setDc (i := 0) (m := 0) (z := 0) xo rfl ((isThrow_mod (j := 2147483647) (by decide) (ev_intN T xo (isI_add (isI_add (isI_bin op_mul (ev_ixDc (i := 0) (z := 0) rfl ev_int (by simp)) ev_int fun i => .inr ⟨by decide, by decide⟩) (isI_bin op_mul (ev_ixDc (i := 0) (z := 1) rfl ev_int (by simp)) ev_int fun i => .inr ⟨by decide, by decide⟩)) (evI ev_int))) ev_int).imp fun d h => h.isI) ev_int rfl (by decide) ?_
    refine sv_setDc (i := 0) (m := 1) (z := 1) xo rfl (isI_add (ev_ixDc (i := 0) (z := 1) rfl ev_int (by simp)) (evI ev_int)) ev_int rfl (by decide) ?_
    exact sv_ret (isThrow_mod h0 (ev_intN T xo (isI_add (isI_bin op_fdiv (ev_ixDc (i := 0) (z := 0) rfl ev_int (by simp)) ev_int fun i => ⟨by decide, by decide⟩) (ev_ixDc (i := 0) (z := 0) rfl ev_int (by simp)))) (v 1)) fun d e => e
theorem sld_toS {l : List Int} {n : Nat} : SlD Θ (rSlL Θ.K) (.scr l) none (some (n : Int)) (· = .lst ((l.take n).map .int)) := fun {G H x Q} hs rx k => by
  obtain ⟨a, rfl, e1⟩ := rx.scr_inv
  refine ⟨a, _, rfl, sqL_gr e1 hs.sub, fun p hp => ?_⟩
  rw [show cutV (l.map V.int) none (some (n : Int)) = (l.map V.int).take n from cut_to _ n, ← List.map_take]
  exact k.newL hs hp (RepA.ints _)
abbrev N_rounds : List Str := ["_law_script", "_law_most_now", "_law_cells", "_law_cell"]
theorem sc_rounds : FnScope N_rounds ["_law_script", "_law_most_now"] (defScope s_L_rounds) := ⟨rfl, rfl, rfl, by decide +kernel, rfl, by decide +kernel, by decide +kernel⟩
theorem ok_rounds (T : Tx Θ) (dD : Dfn Θ "_law_dice" 1 1 R_dice NoX) (F : Fun Θ.K "_law_rounds" "_law_rounds" s_L_rounds f fd) : FnOk Θ.P Θ.w Θ.K Θ.mg Θ.base (L2.CX Θ.P Θ.w) 2 f fd ["_law_script", "_law_most_now"] (PSp Θ 2 R_rounds NoX) := by
  refine fn_ok F sc_rounds rfl (fun cdv A outer s H E ds d hr hl hR => ?_) (fun _ _ _ _ _ _ _ _ _ _ h => h.elim)
  obtain ⟨scr, rfl, rfl⟩ := hR
  have xo := xo_cx (Θ := Θ) (qual := "_law_rounds") (f := f) (cd := cdv) (A := A) (outer := outer) (s := s) (H := H) (E := E) sc_rounds
  refine set1 (d := .lst ((scr.take 1).map .int)) 2 xo ((ev_to (n := ((1 : Nat) : Int)) sl_list (v 0) (v 1) sld_toS)) ?_
  refine sv_if (k := (scr.take 1).isEmpty) (N1 := fun δ' => δ' = [.im (.scr scr), .im (.int 1), .im (.lst ([scr.getD 0 0].map .int)), .no]) ?_ (fun hk => ?_) (fun hk => ?_) fun δ' e => ?_
  · exact tst2 (op_eqD (by have := hr.units; exact this)) (v 2) (ev_lst ea_nil) (opd_nilL _)
  · refine set1 (d := .lst [.int 0]) 2 xo (ev_lst (ea_c ev_int ea_nil)) (sv_nil ?_)
    cases scr with
    | nil => rfl
    | cons a t => cases hk
  · refine sv_nil ?_
    cases scr with
    | nil => cases hk
    | cons a t => rfl
  · subst e
    refine sv_ret (lc1f (n := ([scr.getD 0 0].map D.int).length) (b := fun i => ([scr.getD 0 0].map D.int).getD i .non) (kp := fun _ => true) (f := fun _ => .lst ((diceL (scr.getD 0 0)).map .int)) 3 xo (ei_list (v 2)) (blkOk_by (N := N_rounds) (sc := defScope s_L_rounds) (by decide +kernel)) (by exact Nat.le_of_ble_eq_true rfl)
      (fun i hi s H C cl fp xb => ets_nil) fun i hi _ s H C cl fp xb => ev_call xb dD hr (by decide) rfl (ea_c ((v 3).eq (d' := .int (scr.getD 0 0)) (by
        have : i = 0 := by simpa using hi
        subst this
        rfl)) ea_nil) ⟨_, rfl, rfl⟩) fun d e => e
end
end PM

/-! index, count of a tuple; _law_flat, _law_place. -/
namespace PM
open PySem PySem.Spec PyProof.Rows L2
section
variable {X : Cx}
def rTIdx (K : PySem.W.Frag) : V → List V → Hp → VK → Prop := fun x xs H Q => ∃ (p : Addr) (ns : List Int) (k : Int), x = .ref p ∧ xs = [.int k] ∧ SqT K H p (ns.map V.int) ∧ k ∈ ns ∧ Q (.int (ns.idxOf k : Nat)) H
theorem mt_tidx : MtR X "tuple.index" (rTIdx X.K) := by
  intro pins s σ H x xs v us Q I rx rxs h
  obtain ⟨p, ns, k, rfl, rfl, hs, hk, q⟩ := h
  cases rx
  obtain ⟨u, rfl, ru⟩ := rxs.one
  obtain ⟨t, rfl⟩ := ru
  obtain ⟨its, rv, pl, hz⟩ := I.tuple hs
  exact PySem.SeqAt.tuple_index_ints pl (ints_of_vals rv) hk ⟨.int (ns.idxOf k : Nat), H, I.tok _, ⟨_, rfl⟩, q⟩
def rTCnt (K : PySem.W.Frag) : V → List V → Hp → VK → Prop := fun x xs H Q => ∃ (p : Addr) (ys : List V) (k : Int), x = .ref p ∧ xs = [.int k] ∧ SqT K H p ys ∧ ys.all flatV = true ∧ Q (.int ((ys.countP fun y => eqV y (.int k) : Nat) : Int)) H
theorem count_eqU {x : V} : ∀ {xs : List V} {us : List Value}, Vals xs us → xs.all flatV = true → us.countP (eqU x) = xs.countP fun y => eqV y x
  | _, _, .nil, _ => rfl
  | y :: xs, u :: us, .cons r t, f => by
    rw [List.all_cons, Bool.and_eq_true] at f
    rw [List.countP_cons, List.countP_cons, eqU_of r f.1, count_eqU t f.2]
theorem mt_tcnt : MtR X "tuple.count" (rTCnt X.K) := by
  intro pins s σ H x xs v us Q I rx rxs h
  obtain ⟨p, ys, k, rfl, rfl, hs, fl, q⟩ := h
  cases rx
  obtain ⟨u, rfl, ru⟩ := rxs.one
  obtain ⟨t, rfl⟩ := ru
  obtain ⟨its, rv, pl, hz⟩ := I.tuple hs
  obtain ⟨⟨cls, dd, data, sl⟩, ho, hc, n, hd⟩ := pl
  simp only at hc hd
  subst hc hd
  refine call_meets PySem.F.slot_tuple_count ⟨_, ho, rfl⟩ PySem.F.entry_tuple_count (PySem.F.args_tuple_count_2 _ _)
    (SeqAt.tuple_countAt p its.toArray n dd sl (.int k t) (eqU (.int k))) ⟨ho, fun w hw => mem_eqAt (x := .int k) ⟨t, rfl⟩ rfl rv fl w (by simpa using hw), ?_⟩
  refine ⟨.int ((ys.countP fun y => eqV y (.int k) : Nat) : Int), H, I.tok _, ⟨s.toks, ?_⟩, q⟩
  show Value.int ((its.toArray.toList.countP (eqU (.int k)) : Nat) : Int) s.toks = _
  rw [show its.toArray.toList = its by simp, count_eqU rv fl]
end
/-- tuple(a list): its object is known -/
theorem call_tupleF {X : Cx} : CallR X (.type "tuple") (fun xs H Q => ∃ p ys, xs = [.ref p] ∧ SqL X.K H p ys ∧ ∀ (o : Obj) l, o.dict = none → H l = none → Q (.ref l) (upd H l (.frz o (.tup ys)))) := by
  intro pins s σ H xs us Q I r h
  obtain ⟨p, ys, rfl, hq, q⟩ := h
  obtain ⟨u, rfl, rx⟩ := vals1 r
  cases rx
  obtain ⟨its, r', pl, hz⟩ := I.list hq
  have hlen := r'.length
  refine call_tuple_list pl.isList (fun h' kp => ?_) (by simp only [List.size_toArray] <;> omega)
  have I1 : Inv X pins σ H { s with heap := h' } := I.kept (t' := s.toks) kp
  have g : (h'.push { cls := .type "tuple", data := .seq its.toArray }).get? h'.objs.size = some { cls := .type "tuple", data := .seq its.toArray } := Heap.get?_push_size _ rfl
  have I2 : Inv X pins σ (upd H h'.objs.size (.frz { cls := .type "tuple", data := .seq its.toArray } (.tup ys))) { s with heap := h'.push { cls := .type "tuple", data := .seq its.toArray } } :=
    I1.laid (t' := s.toks) (fun b o e => Heap.get?_push_of_some _ e) (Nat.le_refl _) ⟨g, hz, its, r', IsTup.new _ _⟩
  exact ⟨.ref h'.objs.size, _, I2, rfl, q _ _ rfl (I1.hok.fresh (Nat.le_refl _))⟩
section
variable {X : Cx} {o e : Expr} {es : List Expr} {to : TE} {t : TA} {name : Str} {apos cpos : Pos} {id : String} {r : V → List V → Hp → VK → Prop}
theorem pe_bmF (pa : PlainAttrs "tuple") (slot : Slot "tuple" name id) (hty : typeOf (.builtin id) = pure (.type "method_descriptor")) (hm : MtR X id r) (ho : PE X o to) (ha : PA X (e :: es) t)
    (hbase : attributeBase o name X.env (eval o X.env) = eval o X.env := by rfl)
    (hfew : ((backTo cpos (starEach (e :: es) X.env)).all (fun x => !x.1) && (backToKw cpos (keywordEach [] X.env)).all (fun x => x.1.isSome)
      && decide ((e :: es).length + ([] : List Keyword).length + (if ([] : List Keyword).isEmpty then 0 else 1) < 30)) = true := by rfl)
    (hline : (apos.endLine == cpos.line) = true := by rfl) (hs : starEach (e :: es) X.env = (false, eval e X.env) :: starEach es X.env := by rfl) (hplain : (backTo cpos (starEach es X.env)).any (·.1) = false := by rfl) :
    PE X (.Call (.Attribute o name apos) (e :: es) [] cpos) (fun σ H Q => to σ H fun x H1 => (∃ a xs, x = .ref a ∧ FrzT H1 a xs) ∧ t σ H1 fun xs H2 => r x xs H2 Q) := by
  refine ⟨fun pins s σ H Q I h => ?_⟩
  refine wpAny_Call_method_late hbase hfew hline rfl (thn (ho.run pins s σ H _ I h) fun v s1 ⟨x, H1, I1, rr, ty, q1⟩ => ?_)
  obtain ⟨a, xs, rfl, ob, hd, hf⟩ := ty
  obtain rfl : v = Value.ref a := rr
  obtain ⟨g, _, its, _, ob2, g2, hc, _⟩ := I1.hok a _ hf
  rw [g] at g2
  cases g2
  refine ⟨"tuple", id, pa, slot, hty, ⟨ob, g, hc⟩, fun b e => ?_, ?_⟩
  · cases e
    exact ⟨ob, g, hd⟩
  have hA := ha.run cpos pins s1 σ H1 _ I1 q1
  rw [hs] at hA ⊢
  refine Calls.callWith_builtin (by show (false || (backTo cpos (starEach es X.env)).any (·.1)) = false; rw [hplain] <;> rfl) (Calls.evalArgs_plain ?_)
  exact thn hA fun us s2 ⟨vs, H2, I2, r2, q2⟩ => hm pins s2 σ H2 (.ref a) vs (.ref a) us Q I2 rfl r2 q2
end
section
variable {Θ : Th} {X : Cx} {o a : Expr} {δ : List SD} {apos pos p : Pos} {ns : List Int} {m : Ma} {k : Int} {l : List D} {d : D}
theorem EV.thaw (h : EV Θ X a δ (· = .ftu l)) : EV Θ X a δ (· = .tup l) := fun M G0 H0 G H σ Q S q => h M G0 H0 G H σ Q S fun v d G1 H1 S1 g1 r1 p1 => by
  subst p1
  exact q v _ G1 H1 S1 g1 r1.thaw rfl
theorem tupF (xo : XOk Θ X) (T : Tx Θ) (h : EV Θ X a δ (· = .lst l)) (hg : Gl X "tuple" := by rfl) (hs : starEach [a] X.env = (false, eval a X.env) :: starEach [] X.env := by rfl) (hpl : (backTo pos (starEach [] X.env)).any (·.1) = false := by rfl) :
    EV Θ X (.Call (.Name "tuple" p) [a] [] pos) δ (· = .ftu l) :=
  ev_callTy call_tupleF hg (xo.mg ▸ T.tuple) boot_tuple (ea_c h ea_nil hs) (fun {G H xs Q} hs r k => by
    cases r with
    | cons r t =>
      cases t
      obtain ⟨a, xs, rfl, e1, q1⟩ := r.lst_inv
      exact ⟨a, xs, rfl, .of (hs.sub _ _ e1), fun o p hd hp => k _ _ _ _ (.laid hp (hs.sub.free hp)) (hs.laid hp fun _ z => by cases z) (.ftu ⟨o, hd, upd_same⟩ (q1.gr (.new (hs.sub.free hp)))) rfl⟩) (by decide) (by decide) hs hpl
theorem ev_tidx (xo : XOk Θ X) (ho : EV Θ X o δ (· = .ftu (ns.map .int))) (ha : EV Θ X a δ (· = .int k)) (hk : k ∈ ns)
    (hbase : attributeBase o "index" X.env (eval o X.env) = eval o X.env := by rfl)
    (hfew : ((backTo pos (starEach [a] X.env)).all (fun x => !x.1) && (backToKw pos (keywordEach [] X.env)).all (fun x => x.1.isSome)
      && decide ([a].length + ([] : List Keyword).length + (if ([] : List Keyword).isEmpty then 0 else 1) < 30)) = true := by rfl)
    (hline : (apos.endLine == pos.line) = true := by rfl) (hst : starEach [a] X.env = (false, eval a X.env) :: starEach [] X.env := by rfl) (hpl : (backTo pos (starEach [] X.env)).any (·.1) = false := by rfl) :
    EV Θ X (.Call (.Attribute o "index" apos) [a] [] pos) δ (· = .int (ns.idxOf k : Nat)) := fun M G0 H0 G H σ Q S q =>
  .of (pe_bmF PySem.F.plainAttrs_tuple PySem.F.slot_tuple_index PySem.F.type_tuple_index mt_tidx pe_can (pa_cons pe_can pa_nil hst) hbase hfew hline hst hpl) (ho M G0 H0 G H σ _ S fun x dx G1 H1 S1 g1 r1 p1 => by
    subst p1
    obtain ⟨p, xs, rfl, e1, qa⟩ := r1.ftu_inv
    have ex := qa.ints_inv
    subst ex
    refine ⟨⟨p, _, rfl, e1.gr S1.hs.sub⟩, ha M G0 H0 G1 H1 σ _ S1 fun y dy G2 H2 S2 g2 r2 p2 => ?_⟩
    subst p2
    rw [r2.int_inv]
    exact ⟨p, ns, k, rfl, rfl, .inl ((e1.gr g2).gr S2.hs.sub).at, hk, q _ _ G2 H2 S2 (g1.trans g2) (.int _) rfl⟩)
def vO : Option Int → V
  | none => .non
  | some i => .int i
theorem optV {G : Hp} {v : V} {o : Option Int} (h : Rep Θ G v (optD o)) : v = vO o := by
  cases o with
  | none => exact h.non_inv
  | some i => exact h.int_inv
theorem optVs {G : Hp} : ∀ {m : Ma} {xs : List V}, RepA Θ G xs (m.map optD) → xs = m.map vO
  | [], _, .nil => rfl
  | o :: m, _, .cons r t => by
    rw [optV r, optVs t]
    rfl
theorem ev_tcnt (xo : XOk Θ X) (ho : EV Θ X o δ (· = .ftu (m.map optD))) (ha : EV Θ X a δ (· = .int k))
    (hbase : attributeBase o "count" X.env (eval o X.env) = eval o X.env := by rfl)
    (hfew : ((backTo pos (starEach [a] X.env)).all (fun x => !x.1) && (backToKw pos (keywordEach [] X.env)).all (fun x => x.1.isSome)
      && decide ([a].length + ([] : List Keyword).length + (if ([] : List Keyword).isEmpty then 0 else 1) < 30)) = true := by rfl)
    (hline : (apos.endLine == pos.line) = true := by rfl) (hst : starEach [a] X.env = (false, eval a X.env) :: starEach [] X.env := by rfl) (hpl : (backTo pos (starEach [] X.env)).any (·.1) = false := by rfl) :
    EV Θ X (.Call (.Attribute o "count" apos) [a] [] pos) δ (· = .int (m.countP fun o => decide (o = some k) : Nat)) := fun M G0 H0 G H σ Q S q =>
  .of (pe_bmF PySem.F.plainAttrs_tuple PySem.F.slot_tuple_count PySem.F.type_tuple_count mt_tcnt pe_can (pa_cons pe_can pa_nil hst) hbase hfew hline hst hpl) (ho M G0 H0 G H σ _ S fun x dx G1 H1 S1 g1 r1 p1 => by
    subst p1
    obtain ⟨p, xs, rfl, e1, qa⟩ := r1.ftu_inv
    have ex := optVs qa
    subst ex
    refine ⟨⟨p, _, rfl, e1.gr S1.hs.sub⟩, ha M G0 H0 G1 H1 σ _ S1 fun y dy G2 H2 S2 g2 r2 p2 => ?_⟩
    subst p2
    rw [r2.int_inv]
    refine ⟨p, _, k, rfl, rfl, .inl ((e1.gr g2).gr S2.hs.sub).at, ?_, q _ _ G2 H2 S2 (g1.trans g2) (.int _) ?_⟩
    · rw [List.all_map, List.all_eq_true]
      intro o _
      cases o <;> rfl
    · rw [List.countP_map]
      congr 2
      refine List.countP_congr fun o _ => ?_
      cases o with
      | none => simp [eqV, vO]
      | some i => simp [eqV, vO])
/-- o in l, o not in l, o a number or None -/
def memO (o : Option Int) (l : List Int) : Bool := match o with
  | none => false
  | some i => decide (i ∈ l)
theorem opd_inO {o : Option Int} {l : List Int} {neg : Bool} : OpD Θ (rIn Θ.K neg) (optD o) (.tup (l.map D.int)) (· = .bl (if neg then !memO o l else memO o l)) := by
  cases o with
  | none => exact opd_to opd_inN (by cases neg <;> rfl)
  | some i => exact opd_in
end
end PM

/-! a, b = new lists. -/
namespace PM
open PySem PySem.Spec PyProof.Rows L2
/-- e gives a new list that holds l -/
def EN (Θ : Th) (X : Cx) (e : Expr) (δ : List SD) (l : List D) : Prop :=
  ∀ (M : Option Addr) (G0 H0 G H : Hp) (σ : L2.St) (Q : VK), StOk Θ M G0 H0 G H σ δ → (∀ (G' H' : Hp) (p : Addr) (vs : List V), StOk Θ M G0 H0 G' H' σ δ → Gr G G' → H' p = some (.lst vs) → RepA Θ G' vs l → G' p = none → M ≠ some p → H0 p = none →
    (∀ (j : Nat) (ds : List D), δ[j]? = some (SD.mu ds) → σ[j]? ≠ some (some (V.ref p))) → H p = none → Q (.ref p) H') → tE X e σ H Q
section
variable {Θ : Th} {X : Cx} {a b c e : Expr} {rest : List Stmt} {δ : List SD} {pos p px py pz pt : Pos} {N : List SD → Prop} {P P1 P2 : D → Prop} {Ξ : Addr → Prop} {i j k : Nat} {x y z : Str} {l la lb lc : List D} {kt : Nat} {k2 : Nat} {pt2 : Pos}
theorem en_of {t : TE} (hp : L2.PE X e t)
    (he : ∀ (M : Option Addr) (G0 H0 G H : Hp) (σ : L2.St) (Q : VK), StOk Θ M G0 H0 G H σ δ → (∀ (G' H' : Hp) (p : Addr) (vs : List V), StOk Θ M G0 H0 G' H' σ δ → Gr G G' → H' p = none → RepA Θ G' vs l → Q (.ref p) (upd H' p (.lst vs))) → t σ H Q) : EN Θ X e δ l := fun M G0 H0 G H σ Q S q => by
  refine .of hp (he M G H G H σ _ S.anew fun G1 H1 p vs S1' g1 hp r1 => ?_)
  have S1 := S.back S1'
  have h0 : H0 p = none := by
    cases z : H0 p with
    | none => rfl
    | some o => exact absurd hp (S1.stp.some p (by rw [z]; simp))
  have hh : H p = none := by
    cases z : H p with
    | none => rfl
    | some o => exact absurd hp (S1'.stp.some p (by rw [z]; simp))
  have S2 : StOk Θ M G0 H0 G1 (upd H1 p (.lst vs)) σ δ := S1.step (.made hp) (S1.hs.made hp) fun d e => by
    obtain ⟨_, z2, a, b, c, z3⟩ := S1.dice d e
    exact ⟨z2, a, b, c, by rw [upd_ne (ne_of_none z3 hp)]; exact z3⟩
  refine q G1 _ p vs S2 g1 upd_same r1 (S1.hs.sub.free hp) (fun e => (S1.dice p e).1 h0) h0 (fun j ds h1 h2 => ?_) hh
  obtain ⟨l', vs', e1, e2, _⟩ := S1.mu j ds h1
  rw [e1] at h2
  cases h2
  rw [hp] at e2
  cases e2
theorem en_nil : EN Θ X (.List [] pos) δ [] := en_of (pe_lst pa_nil) fun M G0 H0 G H σ Q S q => ⟨Nat.le_of_ble_eq_true rfl, fun p hp => q G H p [] S (.refl G) hp .nil⟩
theorem en_listRg {n : Nat} {pr : Pos} (T : Tx Θ) (xo : XOk Θ X) (h : EV Θ X a δ (· = .int (n : Int))) (hn : n ≤ 1000) (hg : Gl X "list" := by rfl) (hg2 : Gl X "range" := by rfl) (hs : starEach [a] X.env = (false, eval a X.env) :: starEach [] X.env := by rfl)
    (hs2 : starEach [.Call (.Name "range" p) [a] [] pr] X.env = (false, eval (.Call (.Name "range" p) [a] [] pr) X.env) :: starEach [] X.env := by rfl) :
    EN Θ X (.Call (.Name "list" px) [.Call (.Name "range" p) [a] [] pr] [] pos) δ ((List.range n).map fun i : Nat => .int (i : Int)) := en_of (pe_listRg xo.calm hg (xo.mg ▸ T.list) (prg_1 hg2 (xo.mg ▸ T.range) pe_can hs) hs2) fun M G0 H0 G H σ Q S q => by
  refine h M G0 H0 G H σ _ S fun v d G1 H1 S1 g1 r1 p1 => ?_
  subst p1
  refine ⟨(n : Int), r1.int_inv, .of_le (by decide) (by omega) (by decide) (by omega), fun p hp => q G1 H1 p _ S1 g1 hp ?_⟩
  have e : rgV 0 (n : Int) = ((List.range n).map fun i : Nat => (i : Int)).map V.int := by
    unfold rgV
    rw [List.map_map, show ((n : Int) - 0).toNat = n by omega]
    refine List.map_congr_left fun i _ => ?_
    show V.int (0 + (i : Int)) = V.int (i : Int)
    rw [Int.zero_add]
  have e2 : ((List.range n).map fun i : Nat => D.int (i : Int)) = ((List.range n).map fun i : Nat => (i : Int)).map D.int := by rw [List.map_map]; rfl
  rw [e, e2]
  exact RepA.ints _
theorem en_list (T : Tx Θ) (xo : XOk Θ X) (he : EV Θ X e δ (fun d => d = .lst l ∨ d = .tup l)) (hg : Gl X "list" := by rfl) (hst : starEach [e] X.env = (false, eval e X.env) :: starEach [] X.env := by rfl) (hpl : (backTo pos (starEach [] X.env)).any (·.1) = false := by rfl) :
    EN Θ X (.Call (.Name "list" px) [e] [] pos) δ l := en_of (pe_callTy call_list_of hg (xo.mg ▸ T.list) boot_list (pa_cons pe_can pa_nil hst) (by decide) (by decide) hst hpl) fun M G0 H0 G H σ Q S q => by
  refine he M G0 H0 G H σ _ S fun v d G1 H1 S1 g1 r1 p1 => ?_
  rcases p1 with rfl | rfl
  · obtain ⟨a, xs, rfl, e1, q1⟩ := r1.lst_inv
    exact ⟨a, xs, rfl, .inl (.of (S1.hs.sub _ _ e1)), fun p hp => q G1 H1 p xs S1 g1 hp q1⟩
  · obtain ⟨a, xs, rfl, e1, q1⟩ := r1.tup_inv
    exact ⟨a, xs, rfl, .inr (.inl (e1.gr S1.hs.sub)), fun p hp => q G1 H1 p xs S1 g1 hp q1⟩
/-- a new list stays as it is -/
theorem keepL {M : Option Addr} {G1 H1 G2 H2 : Hp} {q : Addr} {vs : List V} (st : Stp M G1 H1 G2 H2) (h : H1 q = some (.lst vs)) (g : G1 q = none) (m : M ≠ some q) : H2 q = some (.lst vs) ∧ G2 q = none :=
  ⟨st.h q _ h (fun _ z => nomatch z) m, (st.new q (by rw [h]; trivial)).1.trans g⟩
/-- x, y = two new lists -/
theorem sv_parMM (xo : XOk Θ X) (ha : EN Θ X a δ la) (hb : EN Θ X b δ lb) (hw : swappedStores [.Tuple [.Name x px, .Name y py] kt pt] (.Tuple [a, b] k2 pt2) X.env = pure (some [x, y]))
    (hr : SV Θ X rest ((δ.set i (.mu la)).set j (.mu lb)) N P Ξ) (hij : i ≠ j := by decide) (hi : X.N[i]? = some x := by rfl) (hj : X.N[j]? = some y := by rfl) (hx : X.env.scope.names.lookup x = some .local := by rfl) (hy : X.env.scope.names.lookup y = some .local := by rfl)
    (hs : swapsWithSole [.Tuple [.Name x px, .Name y py] kt pt] (.Tuple [a, b] k2 pt2) pos.line X.env = pure false := by rfl) (h1 : starEach [a, b] X.env = (false, eval a X.env) :: starEach [b] X.env := by rfl) (h2 : starEach [b] X.env = (false, eval b X.env) :: starEach [] X.env := by rfl) :
    SV Θ X (.Assign [.Tuple [.Name x px, .Name y py] kt pt] (.Tuple [a, b] k2 pt2) pos :: rest) δ N P Ξ := fun M G0 H0 G H σ Dn E tk S O q r ex =>
  .of (pss_cons (ps_par xo.calm xo.nd hi hj hij hx hy (pa_cons pe_can (pa_cons pe_can pa_nil h2) h1) hw hs) pss_can) (ha M G0 H0 G H σ _ S fun G1 H1 p1 vs1 S1 g1 hL1 r1 n1 m1 z1 f1 _ => hb M G1 H1 G1 H1 σ _ S1.anew fun G2 H2 p2 vs2 S2' g2 hL2 r2 n2 m2 z2 f2 _ => by
    have S2 := S1.back S2'
    obtain ⟨hL1', n1'⟩ := keepL S2'.stp hL1 n1 m1
    have ne : p1 ≠ p2 := ne_of_none hL1 z2
    have z02 : H0 p2 = none := by
      cases z : H0 p2 with
      | none => rfl
      | some o => exact absurd z2 (S1.stp.some p2 (by rw [z]; simp))
    obtain ⟨S3, O3⟩ := give_mu (i := i) S2 O hL1' (r1.gr g2) n1' m1 z1 f1
    obtain ⟨S4, O4⟩ := give_mu (i := j) S3 O3 hL2 r2 n2 m2 z02 fun k ds h1 h2 => by
      by_cases hk : i = k
      · subst hk
        have hlt := lt_of_set h1
        rw [List.getElem?_set_self (by rw [S2.len]; exact hlt)] at h2
        exact ne (by cases h2; rfl)
      · rw [List.getElem?_set_ne hk] at h1 h2
        exact f2 k ds h1 h2
    exact ⟨_, _, rfl, hr M G0 H0 G2 H2 _ Dn E tk S4 O4 (fun σ' δ' G' H' S' O' g n => q σ' δ' G' H' S' O' ((g1.trans g2).trans g) n) r ex⟩)
/-- x, y = a new list, something -/
theorem sv_parMI (xo : XOk Θ X) (ha : EN Θ X a δ la) (hb : EV Θ X b δ P2) (hw : swappedStores [.Tuple [.Name x px, .Name y py] kt pt] (.Tuple [a, b] k2 pt2) X.env = pure (some [x, y]))
    (hr : ∀ d2, P2 d2 → SV Θ X rest ((δ.set i (.mu la)).set j (.im d2)) N P Ξ) (hij : i ≠ j := by decide) (hi : X.N[i]? = some x := by rfl) (hj : X.N[j]? = some y := by rfl) (hx : X.env.scope.names.lookup x = some .local := by rfl) (hy : X.env.scope.names.lookup y = some .local := by rfl)
    (hs : swapsWithSole [.Tuple [.Name x px, .Name y py] kt pt] (.Tuple [a, b] k2 pt2) pos.line X.env = pure false := by rfl) (h1 : starEach [a, b] X.env = (false, eval a X.env) :: starEach [b] X.env := by rfl) (h2 : starEach [b] X.env = (false, eval b X.env) :: starEach [] X.env := by rfl) :
    SV Θ X (.Assign [.Tuple [.Name x px, .Name y py] kt pt] (.Tuple [a, b] k2 pt2) pos :: rest) δ N P Ξ := fun M G0 H0 G H σ Dn E tk S O q r ex =>
  .of (pss_cons (ps_par xo.calm xo.nd hi hj hij hx hy (pa_cons pe_can (pa_cons pe_can pa_nil h2) h1) hw hs) pss_can) (ha M G0 H0 G H σ _ S fun G1 H1 p1 vs1 S1 g1 hL1 r1 n1 m1 z1 f1 _ => hb M G1 H1 G1 H1 σ _ S1.anew fun v2 d2 G2 H2 S2' g2 r2 q2 => by
    have S2 := S1.back S2'
    obtain ⟨hL1', n1'⟩ := keepL S2'.stp hL1 n1 m1
    obtain ⟨S3, O3⟩ := give_mu (i := i) S2 O hL1' (r1.gr g2) n1' m1 z1 f1
    exact ⟨_, _, rfl, hr d2 q2 M G0 H0 G2 H2 _ Dn E tk (S3.set r2) O3.set (fun σ' δ' G' H' S' O' g n => q σ' δ' G' H' S' O' ((g1.trans g2).trans g) n) r ex⟩)
/-- x, y, z = something, something, a new list -/
theorem sv_parIIM (xo : XOk Θ X) (ha : EV Θ X a δ P1) (hb : EV Θ X b δ P2) (hc : EN Θ X c δ lc) (hw : swappedStores [.Tuple [.Name x px, .Name y py, .Name z pz] kt pt] (.Tuple [a, b, c] k2 pt2) X.env = pure (some [x, y, z]))
    (hr : ∀ d1 d2, P1 d1 → P2 d2 → SV Θ X rest (((δ.set k (.mu lc)).set i (.im d1)).set j (.im d2)) N P Ξ) (hij : i ≠ j := by decide) (hik : i ≠ k := by decide) (hjk : j ≠ k := by decide) (hi : X.N[i]? = some x := by rfl) (hj : X.N[j]? = some y := by rfl) (hk : X.N[k]? = some z := by rfl) (hx : X.env.scope.names.lookup x = some .local := by rfl) (hy : X.env.scope.names.lookup y = some .local := by rfl) (hz : X.env.scope.names.lookup z = some .local := by rfl)
    (hs : swapsWithSole [.Tuple [.Name x px, .Name y py, .Name z pz] kt pt] (.Tuple [a, b, c] k2 pt2) pos.line X.env = pure false := by rfl) (h1 : starEach [a, b, c] X.env = (false, eval a X.env) :: starEach [b, c] X.env := by rfl) (h2 : starEach [b, c] X.env = (false, eval b X.env) :: starEach [c] X.env := by rfl) (h3 : starEach [c] X.env = (false, eval c X.env) :: starEach [] X.env := by rfl) :
    SV Θ X (.Assign [.Tuple [.Name x px, .Name y py, .Name z pz] kt pt] (.Tuple [a, b, c] k2 pt2) pos :: rest) δ N P Ξ := fun M G0 H0 G H σ Dn E tk S O q r ex =>
  .of (pss_cons (ps_par3 xo.calm xo.nd hi hj hk hij hik hjk hx hy hz (pa_cons pe_can (pa_cons pe_can (pa_cons pe_can pa_nil h3) h2) h1) hw hs) pss_can) (ha M G0 H0 G H σ _ S fun v1 d1 G1 H1 S1 g1 r1 q1 => hb M G0 H0 G1 H1 σ _ S1 fun v2 d2 G2 H2 S2 g2 r2 q2 => hc M G0 H0 G2 H2 σ _ S2 fun G3 H3 p3 vs3 S3 g3 hL3 r3 n3 m3 z3 f3 _ => by
    obtain ⟨S4, O4⟩ := give_mu (i := k) S3 O hL3 r3 n3 m3 z3 f3
    refine ⟨_, _, _, rfl, ?_⟩
    have e : ((σ.set i (some v1)).set j (some v2)).set k (some (.ref p3)) = ((σ.set k (some (.ref p3))).set i (some v1)).set j (some v2) := by
      rw [List.set_comm _ _ hjk, List.set_comm _ _ hik]
    rw [e]
    exact hr d1 d2 q1 q2 M G0 H0 G3 H3 _ Dn E tk ((S4.set ((r1.gr g2).gr g3)).set (r2.gr g3)) O4.set.set (fun σ' δ' G' H' S' O' g n => q σ' δ' G' H' S' O' (((g1.trans g2).trans g3).trans g) n) r ex)
end
end PM

/-! for .. in range(a throw); _law_flat, _law_place, _law_list, _law_market. -/
namespace PM
open PySem PySem.Spec PyProof.Rows L2
section
variable {Θ : Th} {X : Cx} {a : Expr} {body rest : List Stmt} {δ : List SD} {pos p pc px : Pos} {N : List SD → Prop} {P PE : D → Prop} {Ξ : Addr → Prop} {x : Str}
theorem sv_forRg (j : Nat) (xo : XOk Θ X) (T : Tx Θ) (po : PassesOwn (model X.prog X.w) X.A X.env X.xe) (he : EV Θ X a δ PE) (hPE : ∀ d, PE d → ∃ n : Nat, d = .int (n : Int) ∧ n ≤ 1000) (Iv : Nat → Nat → List SD → Prop) (h0 : ∀ n : Nat, PE (.int (n : Int)) → Iv n 0 δ)
    (hb : ∀ (n m : Nat) δ', PE (.int (n : Int)) → m < n → Iv n m δ' → SV Θ X body (δ'.set j (.im (.int (m : Int)))) (Iv n (m + 1)) P Ξ) (hr : ∀ (n : Nat) δ', PE (.int (n : Int)) → Iv n n δ' → SV Θ X rest δ' N P Ξ)
    (hj : X.N[j]? = some x := by rfl) (hx : Loc X.env.scope x := by first | exact .inl rfl | exact .inr rfl) (hf : X.fn x = true ∨ X.env.scope.names.lookup x = some .local := by first | exact .inl rfl | exact .inr rfl | assumption)
    (hg : Gl X "range" := by rfl) (hs : ∀ y, foldedSetIterable (.Call (.Name "range" p) [a] [] pc) X.env y = pure y := by intro _; rfl) (hst : starEach [a] X.env = [(false, eval a X.env)] := by rfl) (hs0 : starEach [a] X.env = (false, eval a X.env) :: starEach [] X.env := by rfl) :
    SV Θ X (.For (.Name x px) (.Call (.Name "range" p) [a] [] pc) body [] pos :: rest) δ N P Ξ := fun M G0 H0 G H σ Dn E tk S O q r ex => by
  refine .of (pss_cons (ps_for po xo.calm (pi_range1 hg (xo.mg ▸ T.range) (pa_cons pe_can pa_nil hs0) hst) (pg_name xo.nd hj hx hf) pss_can hs) pss_can) ?_
  refine he M G0 H0 G H σ _ S fun v d G1 H1 S1 g1 r1 p1 => ?_
  obtain ⟨n, rfl, hn⟩ := hPE d p1
  refine ⟨(n : Int), by rw [r1.int_inv], by omega, by omega, ?_⟩
  have e : (n : Int).toNat = n := Int.toNat_natCast n
  rw [e]
  have it := itd_range (Θ := Θ) (G := G1) (j := j) (n := n)
  refine ⟨fun m k σ' H' => k = n - m ∧ m ≤ n ∧ ∃ G' δ', StOk Θ M G0 H0 G' H' σ' δ' ∧ Own H0 σ' δ' ∧ Gr G1 G' ∧ Iv n m δ', ⟨n, by simp, Nat.zero_le _, G1, δ, S1, O, .refl _, h0 n p1⟩, ?_⟩
  rintro m k σ' H' ⟨rfl, hle, G', δ', S', O', g', iv⟩
  by_cases hlt : m < n
  · refine .inr ⟨it.go g' S'.hs m hlt, fun σ2 H2 => ∃ G2 δ2, StOk Θ M G0 H0 G2 H2 σ2 δ2 ∧ Own H0 σ2 δ2 ∧ Gr G1 G2 ∧ Iv n (m + 1) δ2, fun σ2 H2 z => ⟨n - (m + 1), by omega, rfl, hlt, z⟩, fun x H2 y => ?_⟩
    refine it.yld g' S'.hs m hlt x H2 y σ' _ fun bv G2 s2 h2 hbnd => ?_
    exact hb n m δ' p1 hlt iv M G0 H0 G2 H2 _ _ E tk ((S'.pure s2 h2).setB hbnd) (O'.setB hbnd) (fun σ3 δ3 G3 H3 S3 O3 g3 n3 => ⟨G3, δ3, S3, O3, (g'.trans s2.g).trans g3, n3⟩) r ex
  · have e : m = n := by omega
    subst e
    exact .inl ⟨it.stop g' S'.hs, hr m δ' p1 iv M G0 H0 G' H' σ' Dn E tk S' O' (fun σ3 δ3 G3 H3 S3 O3 g3 n3 => q σ3 δ3 G3 H3 S3 O3 ((g1.trans g').trans g3) n3) r ex⟩
end
section
variable {Θ : Th} {X : Cx} {a b : Expr} {δ : List SD} {pos : Pos} {o : Option Int} {l : List Int}
theorem tInO (ha : EV Θ X a δ (· = optD o)) (hb : EV Θ X b δ (· = .tup (l.map .int))) (hK : Θ.K = X.K := by rfl) (hm : behindInMarks .In b = false := by first | exact nomark _ | rfl) : ET Θ X (.Compare a [.In] [b] pos) δ (memO o l) :=
  tst2 op_in_seq ha hb (by rw [← hK]; exact opd_inO (neg := false)) hm
theorem eInO (ha : EV Θ X a δ (· = optD o)) (hb : EV Θ X b δ (· = .tup (l.map .int))) (hK : Θ.K = X.K := by rfl) (hm : behindInMarks .In b = false := by first | exact nomark _ | rfl) : EV Θ X (.Compare a [.In] [b] pos) δ (· = .bl (memO o l)) :=
  cmp2 op_in_seq ha hb (by rw [← hK]; exact opd_inO (neg := false)) hm
theorem tNinO (ha : EV Θ X a δ (· = optD o)) (hb : EV Θ X b δ (· = .tup (l.map .int))) (hK : Θ.K = X.K := by rfl) (hm : behindInMarks .NotIn b = false := by first | exact nomark _ | rfl) : ET Θ X (.Compare a [.NotIn] [b] pos) δ (!memO o l) :=
  tst2 op_notIn_seq ha hb (by rw [← hK]; exact opd_inO (neg := true)) hm
theorem eNinO (ha : EV Θ X a δ (· = optD o)) (hb : EV Θ X b δ (· = .tup (l.map .int))) (hK : Θ.K = X.K := by rfl) (hm : behindInMarks .NotIn b = false := by first | exact nomark _ | rfl) : EV Θ X (.Compare a [.NotIn] [b] pos) δ (· = .bl (!memO o l)) :=
  cmp2 op_notIn_seq ha hb (by rw [← hK]; exact opd_inO (neg := true)) hm
end
/-! ### _law_flat -/
def dPrs (l : List (Int × Int)) : D := .lst (l.map dPr)
def R_flat (ds : List D) (d : D) : Prop := ∃ rows : List (List (Int × Int)), ds = [.lst (rows.map dPrs)] ∧ rows.length ≤ 20 ∧ (∀ r ∈ rows, r.length ≤ 20) ∧ d = dPrs rows.flatten
def placeI (l : List Int) (o : Option Int) : Int := match o with
  | none => l.length
  | some i => if i ∈ l then (l.idxOf i : Nat) else l.length
def R_place (ds : List D) (d : D) : Prop := ∃ l o, ds = [.ftu (l.map .int), optD o] ∧ d = .int (placeI l o)
def isList (many : Int) (d : D) : Prop := ∃ l : List Int, d = .ftu (l.map .int) ∧ okL l many ∧ l.length ≤ 20
def R_list (ds : List D) (P : D → Prop) : Prop := ∃ many : Nat, ds = [.int (many : Int)] ∧ 0 < many ∧ many ≤ 20 ∧ P = isList many
theorem flat_le (rows : List (List (Int × Int))) (h : ∀ r ∈ rows, r.length ≤ 20) : rows.flatten.length ≤ rows.length * 20 := by
  induction rows with
  | nil => simp
  | cons a t ih =>
    have h1 := h a List.mem_cons_self
    have h2 := ih fun r hr => h r (List.mem_cons_of_mem _ hr)
    rw [List.flatten_cons, List.length_append, List.length_cons]
    omega
section
variable {Θ : Th} {f c P : Addr} {fd : FuncData}
abbrev N_flat : List Str := ["_law_rows", "_law_found", "_law_row"]
theorem sc_flat : FnScope N_flat ["_law_rows"] (defScope s_L_flat) := ⟨rfl, rfl, rfl, by decide +kernel, rfl, by decide +kernel, by decide +kernel⟩
theorem ok_flat (T : Tx Θ) (F : Fun Θ.K "_law_flat" "_law_flat" s_L_flat f fd) : FnOk Θ.P Θ.w Θ.K Θ.mg Θ.base (L2.CX Θ.P Θ.w) 1 f fd ["_law_rows"] (PSp Θ 1 R_flat NoX) := by
  refine fn_ok F sc_flat rfl (fun cdv A outer s H E ds d hr hl hR => ?_) (fun _ _ _ _ _ _ _ _ _ _ h => h.elim)
  obtain ⟨rows, rfl, h20, hr20, rfl⟩ := hR
  have xo := xo_cx (Θ := Θ) (qual := "_law_flat") (f := f) (cd := cdv) (A := A) (outer := outer) (s := s) (H := H) (E := E) sc_flat
  have po : PassesOwn (model Θ.P Θ.w) (cxP Θ N_flat "_law_flat" (defScope s_L_flat) f cdv A outer s H E).A (cxP Θ N_flat "_law_flat" (defScope s_L_flat) f cdv A outer s H E).env (cxP Θ N_flat "_law_flat" (defScope s_L_flat) f cdv A outer s H E).xe := passes_of rfl
  refine set1 (d := dPrs []) 1 xo (ev_lst ea_nil) ?_
  refine sv_for (n := (rows.map dPrs).length) (g := gName 2) (bd := fun i => [(2, (rows.map dPrs).getD i .non)]) xo po (ei_list (v 0)) (pg_name xo.nd rfl (.inl rfl)) (fun k δ' => ∃ x, δ' = [.im (.lst (rows.map dPrs)), .im (dPrs (rows.take k).flatten), x]) ⟨.no, rfl⟩ ?_ ?_
  · rintro k δ' hk ⟨x, rfl⟩
    have hk' : k < rows.length := by rw [List.length_map] at hk; exact hk
    have ew : (rows.map dPrs).getD k .non = dPrs (rows.getD k []) := getD_map rows [] dPrs hk'
    have htk : rows.take (k + 1) = rows.take k ++ [rows.getD k []] := by
      rw [List.take_succ, get_getD rows [] hk']
      rfl
    refine set1 (d := dPrs (rows.take (k + 1)).flatten) 1 xo ((bin2 (da := dPrs (rows.take k).flatten) (db := dPrs (rows.getD k [])) op_cat (v 1) ((v 2).eq ew) (opd_catL ?_)).eq ?_) (sv_nil ⟨_, rfl⟩)
    · rw [List.length_map, List.length_map]
      have h1 := flat_le (rows.take k) fun r hr => hr20 r (List.mem_of_mem_take hr)
      have h2 := hr20 _ (getD_mem rows [] hk')
      rw [List.length_take] at h1
      omega
    · rw [htk, List.flatten_append]
      unfold dPrs
      simp
  · rintro δ' ⟨x, rfl⟩
    refine sv_ret (v 1) fun d e => ?_
    rw [e, List.length_map, List.take_length]
/-! ### _law_place -/
abbrev N_place : List Str := ["_law_order", "_law_one"]
theorem sc_place : FnScope N_place N_place (defScope s_L_place) := ⟨rfl, rfl, rfl, by decide +kernel, rfl, by decide +kernel, by decide +kernel⟩
theorem ok_place (T : Tx Θ) (F : Fun Θ.K "_law_place" "_law_place" s_L_place f fd) : FnOk Θ.P Θ.w Θ.K Θ.mg Θ.base (L2.CX Θ.P Θ.w) 1 f fd N_place (PSp Θ 2 R_place NoX) := by
  refine fn_ok F sc_place rfl (fun cdv A outer s H E ds d hr hl hR => ?_) (fun _ _ _ _ _ _ _ _ _ _ h => h.elim)
  obtain ⟨l, o, rfl, rfl⟩ := hR
  have xo := xo_cx (Θ := Θ) (qual := "_law_place") (f := f) (cd := cdv) (A := A) (outer := outer) (s := s) (H := H) (E := E) sc_place
  refine sv_ret (ev_if (k := memO o l) (tInO (v 1) (v 0).thaw) (fun h => ?_) fun h => (lenT T (v 0).thaw).eq ?_) fun d e => e
  · cases o with
    | none => cases h
    | some i =>
      have h : i ∈ l := of_decide_eq_true h
      refine (ev_tidx xo (v 0) (v 1) h).eq ?_
      show D.int _ = D.int (if i ∈ l then ((l.idxOf i : Nat) : Int) else (l.length : Int))
      rw [if_pos h]
  · rw [List.length_map]
    cases o with
    | none => rfl
    | some i =>
      have h : ¬ i ∈ l := of_decide_eq_false h
      show D.int _ = D.int (if i ∈ l then ((l.idxOf i : Nat) : Int) else (l.length : Int))
      rw [if_neg h]
theorem ev_ixMN {X : Cx} {b : Expr} {δ : List SD} {i : Nat} {x : Str} {l : List D} {PB P : D → Prop} {px pos : Pos} (hδ : δ[i]? = some (.mu l)) (hb : EV Θ X b δ PB) (hk : ∀ d, PB d → ∃ (m : Nat) (e : D), d = .int (m : Int) ∧ l[m]? = some e ∧ P e) (hN : X.N[i]? = some x := by rfl) (hv : Vis X.env.scope x := by first | exact Or.inl rfl | exact Or.inr (Or.inl rfl) | exact Or.inr (Or.inr rfl)) (hd : (x == ("__debug__" : Str)) = false := by decide) (hcd : (x == ("__classdict__" : Str)) = false := by decide)
    (hs : PlainIx b := by exact fun _ _ => rfl) : EV Θ X (.Subscript (.Name x px) b pos) δ P := fun M G0 H0 G H σ Q S q => by
  obtain ⟨L, vs, e1, e2, e3, e4, e5⟩ := S.mu i l hδ
  refine .of (pe_ix ix_list (pe_var hN hv hd hcd) pe_can hs) ⟨_, e1, ?_⟩
  refine hb M G0 H0 G H σ _ S fun w dw G1 H1 S1 g1 r1 p1 => ?_
  obtain ⟨m, e, rfl, hm, pe⟩ := hk dw p1
  obtain ⟨L1, vs1, f1, f2, f3, f4, f5⟩ := S1.mu i l hδ
  rw [e1] at f1
  cases f1
  obtain ⟨u, h1, h2⟩ := f3.get hm
  rw [r1.int_inv]
  exact ⟨L, vs1, _, u, rfl, rfl, .of f2, atI_nat h1, q u e G1 H1 S1 g1 h2 pe⟩
theorem ev_ixLN {X : Cx} {a b : Expr} {δ : List SD} {l : List D} {PB P : D → Prop} {pos : Pos} (ha : EV Θ X a δ (· = .lst l)) (hb : EV Θ X b δ PB) (hk : ∀ d, PB d → ∃ (m : Nat) (e : D), d = .int (m : Int) ∧ l[m]? = some e ∧ P e) (hs : PlainIx b := by exact fun _ _ => rfl) : EV Θ X (.Subscript a b pos) δ P := fun M G0 H0 G H σ Q S q => by
  refine .of (pe_ix ix_list pe_can pe_can hs) ?_
  refine ha M G0 H0 G H σ _ S fun v d G1 H1 S1 g1 r1 p1 => ?_
  subst p1
  obtain ⟨L, vs, rfl, e1, q1⟩ := r1.lst_inv
  refine hb M G0 H0 G1 H1 σ _ S1 fun w dw G2 H2 S2 g2 r2 p2 => ?_
  obtain ⟨m, e, rfl, hm, pe⟩ := hk dw p2
  obtain ⟨u, h1, h2⟩ := q1.get hm
  rw [r2.int_inv]
  exact ⟨L, vs, _, u, rfl, rfl, .of (S2.hs.sub _ _ (g2 _ _ e1)), atI_nat h1, q u e G2 H2 S2 (g1.trans g2) (h2.gr g2) pe⟩
/-! ### _law_list -/
theorem perm_erase : ∀ (l : List Int) (k : Nat), k < l.length → (l.getD k 0 :: l.eraseIdx k).Perm l
  | [], _, h => absurd h (Nat.not_lt_zero _)
  | a :: t, 0, _ => by simp
  | a :: t, k + 1, h => by
    have ih := perm_erase t k (Nat.lt_of_succ_lt_succ h)
    rw [List.eraseIdx_cons_succ, List.getD_cons_succ]
    exact (List.Perm.swap a (t.getD k 0) _).trans (ih.cons a)
structure LsOk (many t : Nat) (ls fs : List Int) : Prop where
  n : (ls ++ fs).Nodup
  b : ∀ i ∈ ls ++ fs, 0 ≤ i ∧ i < (many : Int)
  l : ls.length + t = many
  f : fs.length = t
theorem LsOk.start (many : Nat) : LsOk many 0 ((List.range many).map fun i : Nat => (i : Int)) [] where
  n := by
    rw [List.append_nil]
    exact List.pairwise_map.mpr (List.nodup_range.imp fun {a b} h e => h (by omega))
  b := fun i hi => by
    rw [List.append_nil] at hi
    obtain ⟨k, hk, rfl⟩ := List.mem_map.mp hi
    have := List.mem_range.mp hk
    omega
  l := by simp
  f := rfl
theorem LsOk.step {many t : Nat} {ls fs : List Int} (h : LsOk many t ls fs) {k : Nat} (hk : k < ls.length) : LsOk many (t + 1) (ls.eraseIdx k) (fs ++ [ls.getD k 0]) := by
  have hp : (ls.eraseIdx k ++ (fs ++ [ls.getD k 0])).Perm (ls ++ fs) := by
    have h1 : (ls.getD k 0 :: ls.eraseIdx k).Perm ls := perm_erase ls k hk
    have h2 : (ls.eraseIdx k ++ (fs ++ [ls.getD k 0])).Perm (ls.getD k 0 :: (ls.eraseIdx k ++ fs)) := by
      rw [← List.append_assoc]
      exact List.perm_append_singleton _ _
    exact h2.trans (h1.append_right fs)
  refine ⟨hp.nodup_iff.mpr h.n, fun i hi => h.b i (hp.mem_iff.mp hi), ?_, ?_⟩
  · rw [List.length_eraseIdx_of_lt hk]
    have := h.l
    omega
  · rw [List.length_append, h.f]
    rfl
abbrev N_list : List Str := ["_law_dice_here", "_law_many", "_law_left", "_law_found", "_law_turn", "_law_one"]
theorem sc_list : FnScope N_list ["_law_dice_here", "_law_many"] (defScope s_L_list) := ⟨rfl, rfl, rfl, by decide +kernel, rfl, by decide +kernel, by decide +kernel⟩
theorem ok_list (T : Tx Θ) (dR : DfnD Θ "_law_roll" 1 1 R_roll) (F : Fun Θ.K "_law_list" "_law_list" s_L_list f fd) : FnOk Θ.P Θ.w Θ.K Θ.mg Θ.base (L2.CX Θ.P Θ.w) 2 f fd ["_law_dice_here", "_law_many"] (DSp Θ 1 R_list) := by
  refine fn_okD F sc_list rfl fun cdv A outer s H E ds P hr hl hR => ?_
  obtain ⟨many, rfl, h0, h20, rfl⟩ := hR
  have xo := xo_cx (Θ := Θ) (qual := "_law_list") (f := f) (cd := cdv) (A := A) (outer := outer) (s := s) (H := H) (E := E) sc_list
  have po : PassesOwn (model Θ.P Θ.w) (cxP Θ N_list "_law_list" (defScope s_L_list) f cdv A outer s H E).A (cxP Θ N_list "_law_list" (defScope s_L_list) f cdv A outer s H E).env (cxP Θ N_list "_law_list" (defScope s_L_list) f cdv A outer s H E).xe := passes_of rfl
  refine sv_parMM (i := 2) (j := 3) xo (en_listRg T xo (v 1) (by omega)) en_nil rfl ?_
  refine sv_forRg 4 xo T po (PE := isThrow ((many : Int) + 1)) (ev_callD xo dR hr (by decide) rfl (i := 0) rfl rfl (.inl rfl) (ea_c (bin2 (da := .int (many : Int)) (db := .int 1) op_add (v 1) ev_int (opd_I0 (o := .int ((many : Int) + 1)) rfl)) ea_nil) ⟨_, rfl, by omega, by omega, rfl⟩) (fun d ⟨z, e, z0, z1⟩ => ⟨z.toNat, by rw [e, show ((z.toNat : Nat) : Int) = z by omega], by omega⟩)
    (fun n t δ' => n ≤ many ∧ ∃ ls fs x y, LsOk many t ls fs ∧ δ' = [.dc, .im (.int (many : Int)), .mu (ls.map .int), .mu (fs.map .int), x, y]) (fun n ⟨z, e, z0, z1⟩ => ?_) (fun n t δ' hn ht ⟨hle, ls, fs, x, y, ok, e⟩ => ?_) fun n δ' hn ⟨hle, ls, fs, x, y, ok, e⟩ => ?_
  · have e2 : (n : Int) = z := by cases e; rfl
    exact ⟨by omega, _, [], .no, .no, LsOk.start many, by rw [List.map_map]; rfl⟩
  · subst e
    have hlen : 0 < ls.length := by have := ok.l; omega
    have hf := ok.f
    have hl2 := ok.l
    refine sv_set (i := 5) (PE := fun d => ∃ k : Nat, k < ls.length ∧ d = .int (ls.getD k 0)) xo rfl (.inl rfl) ?_ ?_
    · refine ev_ixMN (i := 2) rfl (ev_callD xo dR hr (by decide) rfl (i := 0) (P := isThrow (ls.length : Int)) rfl rfl (.inl rfl) (ea_c ((ev_lenM (i := 2) T xo rfl).eq (by rw [List.length_map])) ea_nil) ⟨_, rfl, by omega, by omega, rfl⟩) fun d ⟨z, e, z0, z1⟩ => ⟨z.toNat, .int (ls.getD z.toNat 0), by rw [e, show ((z.toNat : Nat) : Int) = z by omega], by rw [List.getElem?_map, get_getD ls 0 (by omega)]; rfl, z.toNat, by omega, rfl⟩
    · rintro d ⟨k, hk, rfl⟩
      refine sv_app (i := 3) (PE := (· = .int (ls.getD k 0))) xo rfl (by rw [List.length_map]; omega) (v 5) fun d e => ?_
      subst e
      refine sv_rem (i := 2) (ns := ls) (m := k) (z := ls.getD k 0) xo rfl (v 5) (get_getD ls 0 hk) (fun k' hk' e => ?_) ?_
      · have nd : ls.Nodup := (List.nodup_append.mp ok.n).1
        have h1 := get_getD ls 0 hk
        have := (List.getElem?_inj (by omega) nd).mp (e.trans h1.symm)
        omega
      · refine sv_nil ⟨hle, ls.eraseIdx k, fs ++ [ls.getD k 0], .im (.int (t : Int)), .im (.int (ls.getD k 0)), ok.step hk, ?_⟩
        rw [List.map_append]
        rfl
  · subst e
    refine sv_freeze (i := 3) rfl ?_
    refine sv_ret (tupF xo T (v 3)) fun d e => ⟨fs, e, ⟨(List.nodup_append.mp ok.n).2.1, fun i hi => ok.b i (List.mem_append_right _ hi)⟩, by have := ok.f; omega⟩
end
end PM

/-! _law_market, _law_seated, _law_part1. -/
namespace PM
open PySem PySem.Spec PyProof.Rows L2
theorem accR_map {α : Type} {F : α → D} {Qa : α → Prop} {PL : Nat → D → Prop} (h : ∀ i d, PL i d → ∃ x, d = F x ∧ Qa x) : ∀ {n : Nat} {l : List D}, AccR (fun _ => true) PL n l → ∃ xs : List α, l = xs.map F ∧ xs.length = n ∧ ∀ x ∈ xs, Qa x := by
  intro n l a
  generalize hkp : (fun _ : Nat => true) = kp at a
  induction a with
  | zero => exact ⟨[], rfl, rfl, fun _ h => nomatch h⟩
  | skip h => subst hkp; cases h
  | take hk hp _ ih =>
    obtain ⟨xs, e1, e2, e3⟩ := ih
    obtain ⟨x, rfl, hq⟩ := h _ _ hp
    refine ⟨xs ++ [x], by rw [e1, List.map_append]; rfl, by rw [List.length_append, e2]; rfl, fun y hy => ?_⟩
    rcases List.mem_append.mp hy with hy | hy
    · exact e3 y hy
    · rw [List.mem_singleton.mp hy]; exact hq
/-- the law's lists -/
def dF (l : List Int) : D := .ftu (l.map .int)
def isMarket (a r : Nat) (d : D) : Prop := ∃ (as rs : List (List Int)) (ss : List Int), d = .tup [.lst (as.map dF), .lst (rs.map dF), .lst (ss.map .int)] ∧ MkOk as rs ss ∧ as.length = a ∧ rs.length = r ∧ ∀ s ∈ ss, 0 ≤ s ∧ s < 3
def R_market (ds : List D) (P : D → Prop) : Prop := ∃ a r : Nat, ds = [.int (a : Int), .int (r : Int)] ∧ 0 < a ∧ a ≤ 20 ∧ 0 < r ∧ r ≤ 20 ∧ P = isMarket a r
section
variable {Θ : Th} {f c P : Addr} {fd : FuncData}
abbrev N_market : List Str := ["_law_dice_here", "_law_askers", "_law_rooms", "_law_lists", "_law_orders", "_law_k"]
theorem sc_market : FnScope N_market ["_law_dice_here", "_law_askers", "_law_rooms"] (defScope s_L_market) := ⟨rfl, rfl, rfl, by decide +kernel, rfl, by decide +kernel, by decide +kernel⟩
theorem ok_market (T : Tx Θ) (dR : DfnD Θ "_law_roll" 1 1 R_roll) (dL : DfnD Θ "_law_list" 2 1 R_list) (F : Fun Θ.K "_law_market" "_law_market" s_L_market f fd) : FnOk Θ.P Θ.w Θ.K Θ.mg Θ.base (L2.CX Θ.P Θ.w) 3 f fd ["_law_dice_here", "_law_askers", "_law_rooms"] (DSp Θ 2 R_market) := by
  refine fn_okD F sc_market rfl fun cdv A outer s H E ds P hr hl hR => ?_
  obtain ⟨a, r, rfl, a0, a1, r0, r1, rfl⟩ := hR
  have xo := xo_cx (Θ := Θ) (qual := "_law_market") (f := f) (cd := cdv) (A := A) (outer := outer) (s := s) (H := H) (E := E) sc_market
  refine sv_setLc (i := 3) (n := a) (g := gName 5) (bd := fun i => [(5, .int (i : Int))]) (own := [("_law_k", 5)]) (kp := fun _ => true) (PL := fun i d => isList (r : Int) d) xo rfl rfl (sw_true rfl rfl rfl (by decide +kernel)) (ei_range rfl T.range (v 1) (by omega)) (blkOk_by (N := N_market) (sc := defScope s_L_market) (by decide +kernel)) (by omega)
    (fun i hi σ bv G h => hw1 σ bv h) (fun s H C cl fp => pg_name xo.nd rfl (.inl rfl)) (fun i hi s H C cl fp => ets_nil) (fun i hi _ s H C cl fp => ev_callD (bk_ok xo) dL hr (by decide) rfl (i := 0) rfl rfl (by first | exact Or.inl rfl | exact Or.inr (Or.inl rfl) | exact Or.inr (Or.inr rfl)) (ea_c (v 2) ea_nil) ⟨_, rfl, r0, r1, rfl⟩) fun l1 al1 => ?_
  obtain ⟨as, rfl, la, qa⟩ := accR_map (F := dF) (Qa := fun l => okL l (r : Int) ∧ l.length ≤ 20) (fun i d h => by obtain ⟨l, e, h⟩ := h; exact ⟨l, e, h⟩) al1
  refine sv_setLc (i := 4) (n := r) (g := gName 5) (bd := fun i => [(5, .int (i : Int))]) (own := [("_law_k", 5)]) (kp := fun _ => true) (PL := fun i d => isList (a : Int) d) xo rfl rfl (sw_true rfl rfl rfl (by decide +kernel)) (ei_range rfl T.range (v 2) (by omega)) (blkOk_by (N := N_market) (sc := defScope s_L_market) (by decide +kernel)) (by omega)
    (fun i hi σ bv G h => hw1 σ bv h) (fun s H C cl fp => pg_name xo.nd rfl (.inl rfl)) (fun i hi s H C cl fp => ets_nil) (fun i hi _ s H C cl fp => ev_callD (bk_ok xo) dL hr (by decide) rfl (i := 0) rfl rfl (by first | exact Or.inl rfl | exact Or.inr (Or.inl rfl) | exact Or.inr (Or.inr rfl)) (ea_c (v 1) ea_nil) ⟨_, rfl, a0, a1, rfl⟩) fun l2 al2 => ?_
  obtain ⟨rs, rfl, lr, qr⟩ := accR_map (F := dF) (Qa := fun l => okL l (a : Int) ∧ l.length ≤ 20) (fun i d h => by obtain ⟨l, e, h⟩ := h; exact ⟨l, e, h⟩) al2
  refine sv_ret (ev_tupP (PL := fun ds => ∃ ss : List Int, ds = [.lst (as.map dF), .lst (rs.map dF), .lst (ss.map .int)] ∧ ss.length = r ∧ ∀ s ∈ ss, 0 ≤ s ∧ s < 3) (ea_cons (v 3) (ea_cons (v 4) (ea_cons (lc1 (n := r) (b := fun i => .int (i : Int)) (kp := fun _ => true) (PL := fun i d => isThrow 3 d) 5 xo (ei_range rfl T.range (v 2) (by omega)) (blkOk_by (N := N_market) (sc := defScope s_L_market) (by decide +kernel)) (by omega) (fun i hi s H C cl fp xb => ets_nil)
    fun i hi _ s H C cl fp xb => ev_callD xb dR hr (by decide) rfl (i := 0) rfl rfl (by first | exact Or.inl rfl | exact Or.inr (Or.inl rfl) | exact Or.inr (Or.inr rfl)) (ea_c ev_int ea_nil) ⟨_, rfl, by decide, by decide, rfl⟩) ea_nil (PL := fun ds => ∃ ss : List Int, ds = [.lst (ss.map .int)] ∧ ss.length = r ∧ ∀ s ∈ ss, 0 ≤ s ∧ s < 3) (fun d ds p q => ?_)) (PL := fun ds => ∃ ss : List Int, ds = [.lst (rs.map dF), .lst (ss.map .int)] ∧ ss.length = r ∧ ∀ s ∈ ss, 0 ≤ s ∧ s < 3) (fun d ds p ⟨ss, e, q⟩ => ⟨ss, by rw [p, e], q⟩)) (fun d ds p ⟨ss, e, q⟩ => ⟨ss, by rw [p, e], q⟩)) (by decide) fun ds ⟨ss, e, _⟩ => by rw [e]; rfl) fun d ⟨ds, e, ss, e2, ls, qs⟩ => ?_
  · obtain ⟨l, rfl, al⟩ := p
    obtain ⟨ss, rfl, ls, qs⟩ := accR_map (F := D.int) (Qa := fun z => 0 ≤ z ∧ z < 3) (fun i d h => by obtain ⟨z, e, h⟩ := h; exact ⟨z, e, h⟩) al
    exact ⟨ss, by rw [q], ls, qs⟩
  · refine ⟨as, rs, ss, by rw [e, e2], ⟨by omega, by omega, by omega, fun l hl => ?_, fun l hl => ?_⟩, la, lr, qs⟩
    · rw [lr]; exact qa l hl
    · rw [la]; exact qr l hl
end
end PM

/-! _law_seated, _law_part1. -/
namespace PM
open PySem PySem.Spec PyProof.Rows L2
/-- a seating by the lists -/
def seatOk (as : List (List Int)) (m : Ma) : Prop := ∀ i, i < m.length → ∀ r, m.getD i none = some r → r ∈ as.getD i []
def isSeated (as : List (List Int)) (d : D) : Prop := ∃ m : Ma, d = .tup (m.map optD) ∧ m.length = as.length ∧ seatOk as m
def R_seated (ds : List D) (P : D → Prop) : Prop := ∃ (as : List (List Int)) (ss : List Int), ds = [.lst (as.map dF), .lst (ss.map .int)] ∧ as.length ≤ 20 ∧ ss.length ≤ 20 ∧ (∀ l ∈ as, okL l (ss.length : Int) ∧ l.length ≤ 20) ∧ P = isSeated as
theorem plain_opts (n : Nat) (m : Ma) : (m.map optD).all (D.plain n) = true := by
  induction m with
  | nil => rfl
  | cons a m ih => rw [List.map_cons, List.all_cons, ih]; cases a <;> cases n <;> rfl
theorem seatOk.snoc {as : List (List Int)} {m : Ma} {o : Option Int} (h : seatOk as m) (ho : ∀ r, o = some r → r ∈ as.getD m.length []) : seatOk as (m ++ [o]) := fun i hi r e => by
  rw [List.length_append, List.length_singleton] at hi
  by_cases hlt : i < m.length
  · refine h i hlt r ?_
    rw [List.getD_eq_getElem?_getD, List.getElem?_append_left hlt] at e
    rw [List.getD_eq_getElem?_getD]
    exact e
  · have ei : i = m.length := by omega
    subst ei
    rw [List.getD_eq_getElem?_getD, List.getElem?_append_right (Nat.le_refl _), Nat.sub_self] at e
    exact ho r e
section
variable {Θ : Th} {f c P : Addr} {fd : FuncData}
abbrev N_seated : List Str := ["_law_dice_here", "_law_lists", "_law_seats", "_law_left", "_law_guess", "_law_order", "_law_room"]
theorem sc_seated : FnScope N_seated ["_law_dice_here", "_law_lists", "_law_seats"] (defScope s_L_seated) := ⟨rfl, rfl, rfl, by decide +kernel, rfl, by decide +kernel, by decide +kernel⟩
theorem ok_seated (T : Tx Θ) (dR : DfnD Θ "_law_roll" 1 1 R_roll) (F : Fun Θ.K "_law_seated" "_law_seated" s_L_seated f fd) : FnOk Θ.P Θ.w Θ.K Θ.mg Θ.base (L2.CX Θ.P Θ.w) 2 f fd ["_law_dice_here", "_law_lists", "_law_seats"] (DSp Θ 2 R_seated) := by
  refine fn_okD F sc_seated rfl fun cdv A outer s H E ds P hr hl hR => ?_
  obtain ⟨as, ss, rfl, a1, s1, qa, rfl⟩ := hR
  have xo := xo_cx (Θ := Θ) (qual := "_law_seated") (f := f) (cd := cdv) (A := A) (outer := outer) (s := s) (H := H) (E := E) sc_seated
  have po : PassesOwn (model Θ.P Θ.w) (cxP Θ N_seated "_law_seated" (defScope s_L_seated) f cdv A outer s H E).A (cxP Θ N_seated "_law_seated" (defScope s_L_seated) f cdv A outer s H E).env (cxP Θ N_seated "_law_seated" (defScope s_L_seated) f cdv A outer s H E).xe := passes_of rfl
  refine sv_parMI (i := 3) (j := 4) (P2 := (· = .tup [])) xo (en_list T xo ((v 2).imp fun d e => .inl e)) (ev_tup ea_nil) rfl fun d2 e2 => ?_
  subst e2
  refine sv_for (n := (as.map dF).length) (g := gName 5) (bd := fun i => [(5, (as.map dF).getD i .non)]) xo po (ei_list (v 1)) (pg_name xo.nd rfl (.inl rfl))
    (fun k δ' => ∃ (ls : List Int) (m : Ma) (x y : SD), ls.length = ss.length ∧ m.length = k ∧ seatOk as m ∧ δ' = [.dc, .im (.lst (as.map dF)), .im (.lst (ss.map .int)), .mu (ls.map .int), .im (.tup (m.map optD)), x, y]) ⟨ss, [], .no, .no, rfl, rfl, fun i hi => absurd hi (Nat.not_lt_zero _), rfl⟩ ?_ ?_
  · rintro k δ' hk ⟨ls, m, x, y, l1, l2, so, rfl⟩
    have hk' : k < as.length := by rw [List.length_map] at hk; exact hk
    have ew : (as.map dF).getD k .non = dF (as.getD k []) := getD_map as [] dF hk'
    have okk := qa _ (getD_mem as [] hk')
    have hall : ∀ (j : Nat) (e : D), ((none :: (as.getD k []).map some).map optD)[j]? = some e → ∃ o : Option Int, e = optD o ∧ ∀ r, o = some r → r ∈ as.getD k [] := fun j e h => by
      rw [List.getElem?_map] at h
      obtain ⟨o, ho, rfl⟩ := Option.map_eq_some_iff.mp h
      refine ⟨o, rfl, fun r er => ?_⟩
      have hm := List.mem_of_getElem? ho
      rw [er] at hm
      rcases List.mem_cons.mp hm with h | h
      · cases h
      · obtain ⟨r', h1, h2⟩ := List.mem_map.mp h
        cases h2
        exact h1
    -- the room drawn
    refine sv_set (i := 6) (PE := fun d => ∃ o : Option Int, d = optD o ∧ ∀ r, o = some r → r ∈ as.getD k []) xo rfl (.inl rfl) (ev_ixLN (l := ((none :: (as.getD k []).map some).map optD)) (PB := isThrow ((((as.getD k []).length : Nat) : Int) + 1)) ((bin2 (da := .lst [.non]) (db := .lst ((as.getD k []).map .int)) op_cat (ev_lst (ea_c ev_non ea_nil)) (lstT T ((v 5).eq ew).thaw) (opd_catL ?_)).eq ?_)
      (ev_callD xo dR hr (by decide) rfl (i := 0) rfl rfl (.inl rfl) (ea_c (bin2 (da := .int ((as.getD k []).length : Int)) (db := .int 1) op_add ((lenT T ((v 5).eq ew).thaw).eq (by rw [List.length_map])) ev_int (opd_I0 (o := .int (((as.getD k []).length : Int) + 1)) rfl)) ea_nil) ⟨_, rfl, by omega, by have := okk.2; omega, rfl⟩)
      fun d ⟨z, e, z0, z1⟩ => ?_) ?_
    · rw [List.length_map]; have := okk.2; show 1 + _ ≤ 1000; omega
    · rw [List.map_cons, List.map_map]; rfl
    · have hz : z.toNat < ((none :: (as.getD k []).map some).map optD).length := by
        rw [List.length_map, List.length_cons, List.length_map]; omega
      exact ⟨z.toNat, _, by rw [e, show ((z.toNat : Nat) : Int) = z by omega], List.getElem?_eq_getElem hz, hall z.toNat _ (List.getElem?_eq_getElem hz)⟩
    · rintro d ⟨o, rfl, ho⟩
      have inl : ∀ r, o = some r → ∃ n : Nat, r = (n : Int) ∧ n < ls.length := fun r e => by
        have h := okk.1.2 r (ho r e)
        exact ⟨r.toNat, by omega, by omega⟩
      refine sv_set (i := 6) (PE := fun d => ∃ o : Option Int, d = optD o ∧ ∀ r, o = some r → r ∈ as.getD k []) xo rfl (.inl rfl) (ev_if (k := o.isSome && decide (0 < ls.getD (o.getD 0).toNat 0)) (et_w (ew_and (k := o.isSome) (m := decide (0 < ls.getD (o.getD 0).toNat 0)) (tNotN o (v 6)) fun h => ew_and1 ?_)) (fun _ => (v 6).imp fun d e => ⟨o, e, ho⟩) fun _ => ev_non.imp fun d e => ⟨none, e, fun r h => nomatch h⟩) ?_
      · obtain ⟨r, rfl⟩ := Option.isSome_iff_exists.mp h
        obtain ⟨n, rfl, hn⟩ := inl r rfl
        exact tst2 op_gt (ev_ixM (i := 3) (m := n) (d := .int (ls.getD n 0)) rfl (v 6) rfl (by rw [List.getElem?_map, get_getD ls 0 hn]; rfl)) ev_int (opd_I0 rfl)
      · rintro d ⟨o2, rfl, ho2⟩
        have inl2 : ∀ r, o2 = some r → ∃ n : Nat, r = (n : Int) ∧ n < ls.length := fun r e => by
          have h := okk.1.2 r (ho2 r e)
          exact ⟨r.toNat, by omega, by omega⟩
        refine sv_if (k := o2.isSome) (N1 := fun δ' => ∃ ls2 : List Int, ls2.length = ss.length ∧ δ' = [.dc, .im (.lst (as.map dF)), .im (.lst (ss.map .int)), .mu (ls2.map .int), .im (.tup (m.map optD)), .im ((as.map dF).getD k .non), .im (optD o2)]) (tNotN o2 (v 6)) (fun h => ?_) (fun h => ?_) fun δ' ⟨ls2, l3, e⟩ => ?_
        · obtain ⟨r, rfl⟩ := Option.isSome_iff_exists.mp h
          obtain ⟨n, rfl, hn⟩ := inl2 r rfl
          refine sv_seti (i := 3) (m := n) (z := (n : Int)) (d := .int (ls.getD n 0 - 1)) xo rfl (bin2 (da := .int (ls.getD n 0)) (db := .int 1) op_sub (ev_ixM (i := 3) (m := n) (d := .int (ls.getD n 0)) rfl (v 6) rfl (by rw [List.getElem?_map, get_getD ls 0 hn]; rfl)) ev_int (opd_I0 rfl)) (v 6) rfl (by rw [List.length_map]; exact hn) ?_
          exact sv_nil ⟨ls.set n (ls.getD n 0 - 1), by rw [List.length_set, l1], by rw [List.map_set]; rfl⟩
        · exact sv_nil ⟨ls, l1, rfl⟩
        · subst e
          refine set1 (d := .tup ((m ++ [o2]).map optD)) 4 xo ((bin2 (da := .tup (m.map optD)) (db := .tup [optD o2]) op_catA (v 4) (ev_tup (ea_c (v 6) ea_nil)) (opd_catT ?_)).eq (by rw [List.map_append]; rfl)) (sv_nil ⟨ls2, m ++ [o2], _, _, l3, by rw [List.length_append, l2]; rfl, so.snoc (by rw [l2]; exact ho2), rfl⟩)
          rw [List.length_map, l2]
          show k + 1 ≤ 1000
          omega
  · rintro δ' ⟨ls, m, x, y, l1, l2, so, rfl⟩
    exact sv_ret (v 4) fun d e => ⟨m, e, by rw [l2, List.length_map], so⟩
end
end PM

/-! Ranks and places; _law_part1. -/
namespace PM
open PySem PySem.Spec PyProof.Rows L2
theorem look_idx {l : List Int} {i : Int} (h : i ∈ l) : lookI (rkL l) i = some ((l.idxOf i : Nat) : Int) := by
  rw [look_rkL]
  rw [List.findIdx?_eq_some_of_exists ⟨i, h, by simp⟩]
  show some (((l.findIdx fun x => decide (x = i)) : Nat) : Int) = _
  have e : l.findIdx (fun x => decide (x = i)) = l.idxOf i := by
    unfold List.idxOf
    congr 1
  rw [e]
theorem look_non {l : List Int} {i : Int} (h : ¬ i ∈ l) : lookI (rkL l) i = none := by
  have := has_look l i
  rw [decide_eq_false h] at this
  cases e : lookI (rkL l) i with
  | none => rfl
  | some x => rw [e] at this; cases this
theorem rnk_place (l : List Int) (o : Option Int) : rnk l o = if o = none ∨ memO o l = true then some (placeI l o) else none := by
  cases o with
  | none => rw [if_pos (.inl rfl)]; rfl
  | some i =>
    by_cases h : i ∈ l
    · rw [if_pos (.inr (decide_eq_true h))]
      show lookI (rkL l) i = some (if i ∈ l then ((l.idxOf i : Nat) : Int) else (l.length : Int))
      rw [look_idx h, if_pos h]
    · rw [if_neg (fun z => z.elim (fun z => nomatch z) fun z => h (of_decide_eq_true z))]
      exact look_non h
theorem better_self (l : List Int) (o : Option Int) : betterB l o o = false := by
  unfold betterB
  cases rnk l o with
  | none => rfl
  | some a => exact decide_eq_false (Int.lt_irrefl a)
theorem good_self (as : List (List Int)) (m : Ma) : goodB as m m = true := by
  unfold goodB
  rw [List.all_eq_true]
  intro i _
  rw [better_self]
  rfl
def R_part1 (ds : List D) (d : D) : Prop := ∃ (as rs : List (List Int)) (ss : List Int) (m : Ma), ds = [.lst (as.map dF), .int (as.length : Int), .mkt as rs ss, .ftu (m.map optD)] ∧ as.length ≤ 20 ∧ m.length = as.length ∧ d = .bl true
section
variable {Θ : Th} {f c P : Addr} {fd : FuncData}
abbrev N_part1 : List Str := ["_law_lists", "_law_many", "_law_market_here", "_law_match", "_law_told_now", "_law_k"]
theorem sc_part1 : FnScope N_part1 ["_law_lists", "_law_many", "_law_market_here", "_law_match"] (defScope s_L_part1) := ⟨rfl, rfl, rfl, by decide +kernel, rfl, by decide +kernel, by decide +kernel⟩
theorem ok_part1 (T : Tx Θ) (dK : Dfn Θ "ranks_of" 2 2 R_ranks NoX) (dG : Dfn Θ "as_good" 4 3 R_good NoX) (dP : Dfn Θ "_law_place" 1 2 R_place NoX) (F : Fun Θ.K "_law_part1" "_law_part1" s_L_part1 f fd) : FnOk Θ.P Θ.w Θ.K Θ.mg Θ.base (L2.CX Θ.P Θ.w) 5 f fd ["_law_lists", "_law_many", "_law_market_here", "_law_match"] (PSp Θ 4 R_part1 NoX) := by
  refine fn_ok F sc_part1 rfl (fun cdv A outer s H E ds d hr hl hR => ?_) (fun _ _ _ _ _ _ _ _ _ _ h => h.elim)
  obtain ⟨as, rs, ss, m, rfl, la, lm, rfl⟩ := hR
  have xo := xo_cx (Θ := Θ) (qual := "_law_part1") (f := f) (cd := cdv) (A := A) (outer := outer) (s := s) (H := H) (E := E) sc_part1
  refine set1 (d := .tup ((ranksL as m).map optD)) 4 xo (ev_call xo dK hr (by decide) rfl (ea_c (v 2) (ea_c (v 3).thaw ea_nil)) ⟨as, rs, ss, m, rfl, la, lm, rfl⟩) ?_
  refine sv_ifRet (k := false) (et_w (ew_or (k := false) (m := false) (tst2 (db := .tup ((ranksL as m).map optD)) (op_neD (by have := hr.units; exact this)) (v 4) ((tupL T (lc1f (n := as.length) (b := fun i => .int (i : Int)) (kp := fun _ => true) (f := fun i => optD (rnk (as.getD i []) (m.getD i none))) 5 xo (ei_range rfl T.range (v 1) (by omega)) (blkOk_by (N := N_part1) (sc := defScope s_L_part1) (by decide +kernel)) (by omega)
    (fun i hi s H C cl fp xb => ets_nil) fun i hi _ s H C cl fp xb => ?_)).eq ?_) (opd_neD (n := 2) (by exact plain_opts 1 _))) fun _ => ew_or1 ?_)) (fun h => nomatch h) fun _ => sv_ret ev_bool fun d e => e
  · have e1 : (as.map dF)[i]? = some (dF (as.getD i [])) := by rw [List.getElem?_map, get_getD as [] hi]; rfl
    have e2 : (m.map optD)[i]? = some (optD (m.getD i none)) := by rw [List.getElem?_map, get_getD m none (by omega)]; rfl
    refine ev_if (k := (m.getD i none).isNone || memO (m.getD i none) (as.getD i [])) (et_w (ew_or (k := (m.getD i none).isNone) (m := memO (m.getD i none) (as.getD i [])) (tIsN _ (ixT (v 3).thaw (v 5) rfl e2)) fun _ => ew_or1 (tInO (ixT (v 3).thaw (v 5) rfl e2) (ixL (d := dF (as.getD i [])) (v 0) (v 5) rfl e1).thaw))) (fun h => ?_) fun h => ?_
    · refine (ev_call xb dP hr (by decide) rfl (ea_c (ixL (d := dF (as.getD i [])) (v 0) (v 5) rfl e1) (ea_c (ixT (v 3).thaw (v 5) rfl e2) ea_nil)) ⟨_, _, rfl, rfl⟩).eq ?_
      rw [rnk_place, if_pos (by
        rw [Bool.or_eq_true] at h
        rcases h with h | h
        · exact .inl (by cases e : m.getD i none with
            | none => rfl
            | some x => rw [e] at h; cases h)
        · exact .inr h)]
      rfl
    · refine ev_non.eq ?_
      rw [Bool.or_eq_false_iff] at h
      rw [rnk_place, if_neg (by
        rintro (z | z)
        · rw [z] at h; cases h.1
        · rw [z] at h; cases h.2)]
      rfl
  · rw [List.filter_eq_self.mpr fun _ _ => rfl]
    unfold ranksL
    rw [List.map_map]
    rfl
  · refine ET.eq (b := !(goodB as m m)) ?_ (by rw [good_self]; rfl)
    exact et_not (et_val (ev_call xo dG hr (by decide) rfl (ea_c (v 2) (ea_c (v 3).thaw (ea_c (v 3).thaw ea_nil))) ⟨as, rs, ss, m, m, rfl, lm, lm, rfl⟩))
end
end PM

/-! [x for x in xs if test], no item kept; the test knows the maker's state. -/
namespace PM
open PySem PySem.Spec PyProof.Rows L2
section
variable {X : Cx} {pins : List (Addr × Obj)} {σ : L2.St} {H : Hp} {s : Shared} {scope : Scope} {own : List (Str × Nat)} {elt tg iter : Expr} {ifs : List Expr} {pos : Pos} {wi : TI} {g : TG} {Q : VK} {tt : Shared → Hp → Addr → List (Str × Addr) → List Addr → TT}
theorem lcN (hc : X.calm = true) (hN : X.N.Nodup) (I : Inv X pins σ H s) (hi : PI X tg iter wi) (ok : BlkOk X.N X.env.scope scope own)
    (hg : ∀ s H C cl fp, PG (bk X scope s H C cl fp) tg g) (ht : ∀ s H C cl fp, Inv X pins σ H s → (∀ b ∈ fp, FpOk X pins H b) → PTs (bk X scope s H C cl fp) ifs (tt s H C cl fp)) (hs : ∀ x, foldedSetIterable iter X.env x = pure x)
    (h : wi σ H fun J H1 => ∀ L, H1 L = none → ∀ s' C cl fp, ∃ W : Nat → Nat → Hp → Prop, (∃ m, W 0 m (upd H1 L (.lst []))) ∧ ∀ i m H', W i m H' → (J.stop i H' ∧ Q (.ref L) H') ∨
      (J.go i H' ∧ ∃ Nx : Hp → Prop, (∀ H'', Nx H'' → ∃ m', m' < m ∧ W (i + 1) m' H'') ∧ ∀ x H2, J.yld i H' x H2 → g x (wipe σ (own.map (·.2))) H2 fun σ2 H3 => wipe σ2 (own.map (·.2)) = wipe σ (own.map (·.2)) ∧ tt s' (upd H1 L (.lst [])) C cl fp σ2 H3 fun b H4 => b = false ∧ Nx H4)) :
    wpAny (model X.prog X.w) X.A (eval (.ListComp elt [⟨tg, iter, ifs, 0⟩] scope pos) X.env) (EP X pins σ Q) X.xe s := by
  rw [eval_ListComp]
  have caps : ∀ y ∈ scope.names, y.2 = .free → ∃ c, X.env.cells.lookup y.1 = some c := fun y hy e => (ok.free y hy e).elim (fun k => I.ok.has _ (.inl k)) fun k => I.ok.has _ (.inr k)
  refine wpAny_comprehension_free (use := none) rfl hs (closure_ok caps) ok.kind (fun y hy e => by rw [ok.uniq y hy, e]) (thn (hi.run pins s σ H _ I h) fun xv s1 hx => thn hx fun itv s2 h2 => ?_)
  obtain ⟨it, fp, tn, J, H2, e, I2, T, st2, f2, q⟩ := h2
  subst e
  refine wpAny_newObj_type (newEnv_comp ?_) (by show 0 ≤ sizeLine; decide)
  generalize hD : s2.heap.objs.size = L
  have hDn : H2 L = none := I2.hok.fresh (Nat.le_of_eq hD)
  generalize hs3 : ({ s2 with heap := s2.heap.push { cls := .type "list", data := .seq ([] : List Value).toArray } } : Shared) = s3
  have I3 : Inv X pins σ (upd H2 L (.lst [])) s3 := by
    rw [← hs3]
    exact I2.laid (t' := s2.toks) (fun b o e => Heap.get?_push_of_some _ e) (Nat.le_of_eq hD) ⟨Nat.zero_le _, [], 0, .nil, by rw [← hD]; exact Heap.get?_push_size _ rfl⟩
  have h3 : s3.heap = s2.heap.push { cls := .type "list", data := .seq ([] : List Value).toArray } := by rw [← hs3]
  have f3 : ∀ b ∈ fp, FpOk X pins (upd H2 L (.lst [])) b ∧ b < s3.heap.objs.size := fun b hb => by
    obtain ⟨o, e, _⟩ := T.obj _ _ st2 b hb
    have hlt := Heap.lt_size e
    exact ⟨⟨by rw [upd_ne (by rw [← hD]; exact Nat.ne_of_lt hlt)]; exact (f2 b hb).1, (f2 b hb).2⟩, by rw [h3, Heap.size_push]; exact Nat.lt_succ_of_lt hlt⟩
  have st3 : tn 0 s3.heap := T.keep _ _ _ st2 fun b _ o e => by rw [h3]; exact Heap.get?_push_of_some _ e
  obtain ⟨W, ⟨m0, w0⟩, turn⟩ := q L hDn s3 s3.heap.objs.size (cellsFrom (s3.heap.objs.size + 1) scope.names (cloFrom X.env.cells scope.names [])) fp
  have I4 := block_start I3 ok hN f3
  have pg := hg s3 (upd H2 L (.lst [])) s3.heap.objs.size (cellsFrom (s3.heap.objs.size + 1) scope.names (cloFrom X.env.cells scope.names [])) fp
  have pt := ht s3 (upd H2 L (.lst [])) s3.heap.objs.size (cellsFrom (s3.heap.objs.size + 1) scope.names (cloFrom X.env.cells scope.names [])) fp I3 fun b hb => (f3 b hb).1
  show codeAny _ _ (.compStart (.ListComp elt [⟨tg, iter, ifs, 0⟩] scope pos) 0 (.ref it) (.ref L) (compEnvC scope (cellsFrom (s3.heap.objs.size + 1) scope.names (cloFrom X.env.cells scope.names [])) s3.heap.objs.size X.env)) (compPost (model X.prog X.w) X.A X.xe none (EP X pins σ Q) (.ref L) s3.heap.objs.size) { s3 with heap := pushCells (s3.heap.push { cls := .type "dict", data := .dict #[] }) scope.names }
  unfold bk at pg pt
  generalize hTT : tt s3 (upd H2 L (.lst [])) s3.heap.objs.size (cellsFrom (s3.heap.objs.size + 1) scope.names (cloFrom X.env.cells scope.names [])) fp = tB at pt turn
  generalize hce : compEnvC scope (cellsFrom (s3.heap.objs.size + 1) scope.names (cloFrom X.env.cells scope.names [])) s3.heap.objs.size X.env = ce at I4 pg pt ⊢
  have cL : ce.locals = s3.heap.objs.size := by subst hce; rfl
  have nfp : ∀ b ∈ fp, (upd H2 L (.lst [])) b = none := fun b hb => (f3 b hb).1.1
  generalize hH3 : upd H2 L (.lst []) = H3 at I3 I4 pg pt w0 nfp f3
  generalize hs4 : ({ s3 with heap := pushCells (s3.heap.push { cls := .type "dict", data := .dict #[] }) scope.names } : Shared) = s4 at I4 ⊢
  have st4 : tn 0 s4.heap := T.keep _ _ _ st3 fun b _ o e => by rw [← hs4]; exact pushCells_keeps _ _ _ _ (Heap.get?_push_of_some _ e)
  have stat : ∀ {σ' : L2.St} {H' : Hp} {s' : Shared}, Inv (X.blk s3 H3 scope ce fp) [] σ' H' s' → (∀ b ∈ fp, H' b = none) → ∀ b ∈ fp, FpOk (X.blk s3 H3 scope ce fp) [] H' b := fun {σ' H' s'} I' hn b hb =>
    ⟨hn b hb, (I'.ok.exf b hb).1, I'.ok.exfs b hb, .inl hb, fun x c e => (I'.ok.exf b hb).2 x c e, fun p hp => absurd (show p ∈ ([] : List (Addr × Obj)) ++ [] from hp) (by simp)⟩
  have loop : codeAny (model X.prog X.w) X.A (.compLoop (.ListComp elt [⟨tg, iter, ifs, 0⟩] scope pos) 0 (.ref it) (.ref L) ce) (compPost (model X.prog X.w) X.A X.xe none (EP X pins σ Q) (.ref L) s3.heap.objs.size) s4 := by
    refine compLoop_any (fun n s' => ∃ i H', Inv (X.blk s3 H3 scope ce fp) [] (wipe σ (own.map (·.2))) H' s' ∧ tn i s'.heap ∧ (∀ b ∈ fp, H' b = none) ∧ W i n H') ?_ m0 ⟨0, H3, I4, st4, nfp, w0⟩
    rintro n s5 ⟨i, H5, I5, st5, n5, w5⟩
    rcases turn i n H5 w5 with ⟨stop, qq⟩ | ⟨go, Nx, hNx, step⟩
    · refine thnF (T.done (X.blk s3 H3 scope ce fp) rfl rfl rfl hc i [] s5 _ H5 (fun _ _ => False) I5 (stat I5 n5) st5 stop) fun r s6 ⟨hr, I6⟩ => ?_
      subst hr
      have I7 : Inv X pins σ H5 s6 := I3.call' (ch := fp) I6.os I6.base I6.hok I6.bare fun b hb => ⟨(f3 b hb).1.2.2.2.1, (f3 b hb).1.2.1, (f3 b hb).1.2.2.2.2.1, (f3 b hb).1.2.2.2.2.2⟩
      have nC : H5 s3.heap.objs.size = none := by rw [← cL]; exact I6.free
      obtain ⟨m, hn, _⟩ := I6.loc
      have hn : s6.heap.Ns ce.locals m := hn
      rw [cL] at hn
      obtain ⟨f0, f1, f2, f4, f5, f6⟩ := I3.fpOk (Nat.le_refl _) nC
      exact ⟨m, hn, fun h'' sb => ⟨.ref L, H5, I7.turned (t' := s6.toks) (fun b o hb e => (sb.2 b hb).trans e) nC f1 f4 f5 f6, rfl, qq⟩⟩
    · refine thnF (T.item (X.blk s3 H3 scope ce fp) rfl rfl rfl hc i [] s5 _ H5 (fun _ _ => False) I5 (stat I5 n5) st5 go) fun r s6 ⟨u, hr, h6⟩ => ?_
      subst hr
      refine thnF h6 fun _ s7 ⟨x, H7, I7, r7, y7, st7, n7⟩ => ?_
      have I7' := I7.pinned (stat I7 n7) (T.obj _ _ st7)
      refine thnF (pg.run _ s7 _ H7 x u _ I7' r7 (step x H7 y7)) fun _ s8 ⟨σ8, H8, I8, hw8, q8⟩ => ?_
      refine thnF (pt.run _ s8 σ8 H8 _ I8 q8) fun b s9 ⟨H9, I9, eb, nx⟩ => ?_
      subst eb
      simp only [Bool.false_eq_true, if_false]
      obtain ⟨m', hm, w'⟩ := hNx H9 nx
      have keep : ∀ b ∈ fp, ∀ o, s7.heap.get? b = some o → s9.heap.get? b = some o ∧ H9 b = none := fun b hb o e =>
        let z := I9.pin (b, o) (List.mem_append_right _ (List.mem_append_right _ (mem_pinsAt hb e)))
        ⟨z.1, z.2.1⟩
      refine ⟨m', hm, i + 1, H9, (I9.unpinned (pins := [])).weak (by rw [← hw8, wipe_length]) (fun j v e => ?_), T.keep _ _ _ st7 fun b hb o e => (keep b hb o e).1, fun b hb => ?_, w'⟩
      · rw [← hw8] at e
        exact (wipe_some e).1
      · obtain ⟨o, e, _⟩ := T.obj _ _ st7 b hb
        exact (keep b hb o e).2
  exact codeAny_compStart_list loop (T.self X.A 0 _ _ _ st4 loop)
end
end PM

/-! _law_told of a lambda that the running def made; the lambda raises. -/
namespace PM
open PySem PySem.Spec PyProof.Rows L2
section
variable {Θ : Th} {x qual : Str} {st : Stmt} {f : Addr} {fd : FuncData} {N ps : List Str} {k : Nat} {A : Around} {outer : List Env} {s : Shared} {H : Hp} {vs : List V} {us : List Value} {Q : VK} {E : XK}
/-- a def at one state -/
theorem fn_at (F : Fun Θ.K x qual st f fd) (S : FnScope N ps (defScope st)) (hl : vs.length = ps.length) (hr : Room (k + 1) A) (e0 : Env0 Θ.P Θ.w Θ.K Θ.mg Θ.base A outer s H) (hb : BindsTo s fd ⟨us, []⟩ (ps.zip us)) (r : Vals vs us)
    (hbody : ∀ cdv, Room k (A.deeper (envOfC qual (defScope st) s.heap.objs.size f cdv)) → tSs (cxP Θ N qual (defScope st) f cdv A outer s H E) (defBody st) { nx := fun _ H' => Q .non H', rt := Q } (L2.start N vs) H) :
    codeAny (model Θ.P Θ.w) A (.call (.ref f) ⟨us, []⟩) (CR (L2.CX Θ.P Θ.w) outer Θ.P Θ.w H s Q E) s := by
  obtain ⟨oc, od, kV, doc, pm, an, cdv, ct, osl, rfl, lk, hcd⟩ := F.ex
  have kin : Θ.K.In s.heap := e0.mod.kin.keeps fun b o e => (e0.bs b o e).1
  refine codeAny_call_function hr.depth (kin _ _ lk) rfl S.co S.gen rfl (PySem.W.codeRec_of kin hcd) (hb _ _ _ _ ?_)
  refine wpAny_newFunctionEnv_cells S.kind (fun ⟨n, v⟩ hy => (S.par n (List.of_mem_zip hy).1).elim .inl fun q => .inr ⟨q, PySem.W.cellsFrom_some _ _ _ (.inl q)⟩) fun env he s1 x => ?_
  subst he
  refine ⟨(e0.mod.nolimit.keeps fun b o e => (e0.bs b o e).1).keeps x.toInCall.keep, codeAny_func ?_⟩
  have I : Inv (cxP Θ N qual (defScope st) f cdv A outer s H E) [] (L2.start N vs) H s1 := inv_start S hr.hd e0 hl r x
  refine wpAny_mono (hbody cdv (hr.deeper _) [] s1 I) (fun fl s' hs => ?_) fun e s' hs => hs
  cases fl with
  | ret u =>
    obtain ⟨v, σ', H', J, rv, q⟩ := hs
    exact ⟨v, H', J.os, J.bare, J.base, J.hok, rv, q⟩
  | next =>
    obtain ⟨σ', H', J, q⟩ := hs
    exact ⟨.non, H', J.os, J.bare, J.base, J.hok, rfl, q⟩
  | brk =>
    obtain ⟨_, _, _, q⟩ := hs
    exact False.elim q
  | cont =>
    obtain ⟨_, _, _, q⟩ := hs
    exact False.elim q
end
section
variable {X : Cx} {pins : List (Addr × Obj)} {σ : L2.St} {H HZ : Hp} {s s1 : Shared} {A : Around} {outer : List Env} {E : XK} {Q : VK}
/-- f(), f a lambda whose maker was at s -/
theorem lam_call0 {params : Arguments} {body : Expr} {scope : Scope} {pm ctv : Value} {f c' : Addr} {fsU ex : List Addr} (I : Inv X pins σ H s) (L : LamP X.env.scope scope []) (e0 : Env0 X.prog X.w X.K X.mg X.base A outer s1 HZ) (hd : A.handled = none) (hdep : A.depth < recursionLimit)
    (un : Un fsU ex H HZ s.heap s1.heap) (hex : ∀ y c, X.env.cells.lookup y = some c → c ∉ ex) (lim : s1.heap.NoLimit)
    (hf : HZ f = some (FnO f (lamO X params body scope pm c' ctv))) (hc : HZ c' = some (LamX.CodeO c' (X.env.qual ++ "<lambda>")))
    (hbind : bindArgs (PySem.W.kla_fn "<lambda>" (X.env.qual ++ "<lambda>") params body scope (cloFrom X.env.cells scope.names []) pm (.ref c') ctv) ⟨[], []⟩ = pure [])
    (hbody : tE (LamX.lamCx X A outer s1 HZ E scope f c') body σ HZ Q) : codeAny (model X.prog X.w) A (.call (.ref f) ⟨[], []⟩) (CR (L2.CX X.prog X.w) outer X.prog X.w HZ s1 Q E) s1 := by
  have of1 : s1.heap.get? f = some (lamO X params body scope pm c' ctv) := (e0.hok f _ hf).1
  obtain ⟨⟨oc, vs, t, hoc, hdc, hvc⟩, _, _⟩ := e0.hok c' _ hc
  refine PySem.W.kla_callFunE hdep of1 rfl L.co L.gen rfl ⟨c', oc, vs, t, rfl, hoc, hdc, hvc⟩ ?_
  rw [hbind]
  refine wpAny_pure (wpAny_newFunctionEnv L.cell (fun z hz => nomatch hz) (fun h₁ hns hsb => ⟨lim.fresh _ hsb, ?_⟩) L.kind)
  show codeAny _ _ (.expr body (LamX.lamEnv X scope s1.heap.objs.size f c')) _ _
  have kp : ∀ b o, s1.heap.get? b = some o → h₁.get? b = some o := fun b o e => hsb.extBut b o (Nat.ne_of_lt (Heap.lt_size e)) (Heap.get?_push_of_some _ e)
  have J : Inv (LamX.lamCx X A outer s1 HZ E scope f c') [] σ HZ { s1 with heap := h₁, toks := s1.toks + ([] : List (Str × Value)).length } :=
    lamP_start I L e0 hd un hex hns kp rfl fun i z v e1 e2 => ⟨fun h => absurd (L.loc _ (PySem.mem_of_lookup h) rfl) (by simp), fun _ => e2⟩
  refine PySem.W.kla_codeExpr (wpAny_mono (hbody [] _ J) (fun v s' hq => ?_) fun e s' hq => hq)
  obtain ⟨w', H', J', rv, q⟩ := hq
  exact ⟨w', H', J'.os, J'.bare, J'.base, J'.hok, rv, q⟩
end
end PM

/-! _law_told. -/
namespace PM
open PySem PySem.Spec PyProof.Rows L2
abbrev N_told : List Str := ["_law_what"]
theorem sc_told : FnScope N_told N_told (defScope s_L_told) := ⟨rfl, rfl, rfl, by decide +kernel, rfl, by decide +kernel, by decide +kernel⟩
/-- the nine classes, by what _law_told makes of them -/
abbrev toldNames : List (Str × Str) := [("BadWish", "wish"), ("BadRoom", "room"), ("BadMatch", "match"), ("BadPaper", "paper"), ("BadSize", "size"), ("BadText", "text"), ("BadStore", "store"), ("NoSuch", "no such"), ("BadDeed", "deed")]
def toldL (cs : List Addr) : List (Value × (Addr → Value → Option Addr → TS)) := (cs.zip toldNames).map fun p => (Value.ref p.1, fun _ _ _ D _ H => D.rt (.str p.2.2) H)
section
variable {X : Cx} {pins : List (Addr × Obj)} {σ : L2.St} {H HZ : Hp} {s s1 : Shared} {A : Around} {outer : List Env} {Q : VK}
theorem told_at {ft : Addr} {fdt : FuncData} {b1 b2 b3 b4 b5 b6 b7 b8 b9 : Addr} {k : Nat} {params : Arguments} {body : Expr} {scope : Scope} {pm ctv : Value} {f c' c : Addr} {fsU ex : List Addr} {Good : Hp → Prop}
    (F : Fun X.K "_law_told" "_law_told" s_L_told ft fdt) (hb : Binds X.K fdt N_told [])
    (n1 : X.mg "BadWish" = some (.ref b1)) (n2 : X.mg "BadRoom" = some (.ref b2)) (n3 : X.mg "BadMatch" = some (.ref b3)) (n4 : X.mg "BadPaper" = some (.ref b4)) (n5 : X.mg "BadSize" = some (.ref b5)) (n6 : X.mg "BadText" = some (.ref b6)) (n7 : X.mg "BadStore" = some (.ref b7)) (n8 : X.mg "NoSuch" = some (.ref b8)) (n9 : X.mg "BadDeed" = some (.ref b9))
    (I : Inv X pins σ H s) (L : LamP X.env.scope scope []) (e0 : Env0 X.prog X.w X.K X.mg X.base A outer s1 HZ) (hr : Room (k + 2) A)
    (un : Un fsU ex H HZ s.heap s1.heap) (hex : ∀ y c, X.env.cells.lookup y = some c → c ∉ ex)
    (hf : HZ f = some (FnO f (lamO X params body scope pm c' ctv))) (hc : HZ c' = some (LamX.CodeO c' (X.env.qual ++ "<lambda>")))
    (hbind : bindArgs (PySem.W.kla_fn "<lambda>" (X.env.qual ++ "<lambda>") params body scope (cloFrom X.env.cells scope.names []) pm (.ref c') ctv) ⟨[], []⟩ = pure [])
    (hbody : ∀ A' outer' s2 E', Room k (A'.deeper (LamX.lamEnv X scope s2.heap.objs.size f c')) → (∀ H', Good H' → E' (.ref c) none H') → tE (LamX.lamCx X A' outer' s2 HZ E' scope f c') body σ HZ fun _ _ => False)
    (hw : ∀ H', Good H' → wMany X.K (fun _ _ _ _ => False) { nx := fun _ H' => Q .non H', rt := Q } (toldL [b1, b2, b3, b4, b5, b6, b7, b8, b9]) (.ref c) none (L2.start N_told [.ref f]) H') :
    codeAny (model X.prog X.w) A (.call (.ref ft) ⟨[.ref f], []⟩) (CR (L2.CX X.prog X.w) outer X.prog X.w HZ s1 Q L2.E0) s1 := by
  obtain ⟨oc, od, kV, doc, pm2, an, cdv, ct, osl, rfl, lk, hcd⟩ := F.ex
  refine LamX.run_ofS (N := N_told) (ps := N_told) (us := [.ref f]) (vs := [.ref f]) lk hcd sc_told hr e0 (hb s1 [.ref f] (e0.mod.kin.keeps fun b o e => (e0.bs b o e).1) rfl) (.cons rfl .nil) rfl fun hr' => ?_
  generalize hY : cxOf (L2.CX X.prog X.w) X.prog X.w X.K X.mg X.base N_told "_law_told" (defScope s_L_told) ft cdv A outer s1 HZ L2.E0 = Y
  have nm : ∀ (x : Str) (b : Addr), X.mg x = some (.ref b) → Gl Y x → (x == ("__debug__" : Str)) = false → Names Y x (.ref b) := fun x b e g d => ⟨g, d, .inl (by rw [← hY]; exact e)⟩
  refine ⟨_, pss_one (ps_try_many (X := Y) (l := toldL [b1, b2, b3, b4, b5, b6, b7, b8, b9]) (tb := fun W D σ' H' => σ'[0]? = some (some (.ref f)) ∧ H' = HZ ∧ ∀ H'', Good H'' → W (.ref c) none σ' H'') (by rw [← hY]; rfl) (by rw [← hY]; rfl) LamX.takes0 (fun W pn xe tk po => ⟨fun pinsZ sZ σZ H2 D IZ hz => ?_⟩) ?_), ?_⟩
  · obtain ⟨z1, rfl, z2⟩ := hz
    subst hY
    refine (pss_one (ps_ret (te := fun σ' H' _ => σ'[0]? = some (some (.ref f)) ∧ H' = H2 ∧ ∀ H'', Good H'' → W (.ref c) none σ' H'') ⟨fun pins2 s2 σ2 H3 Q2 I2 hz => ?_⟩)).run pinsZ sZ σZ H2 D IZ ⟨z1, rfl, z2⟩
    obtain ⟨y1, rfl, y2⟩ := hz
    refine wpAny_Call_Name_kw (thn ((pe_var (i := 0) rfl (.inl rfl) (by decide) (by decide)).run pins2 s2 σ2 H3 (fun v H1 => v = .ref f ∧ H1 = H3) I2 ⟨.ref f, y1, rfl, rfl⟩) fun u s3 ⟨v, H1, I3, r1, q1⟩ => ?_)
    obtain ⟨ev, eH⟩ := q1
    subst ev
    rw [eH] at I3
    obtain rfl : u = Value.ref f := r1
    have of3 := (I3.hok f _ hf).1
    refine PySem.W.callWith_F0 ⟨_, _, _, _, of3⟩ ?_
    have un3 : Un (frs outer) [] H3 H3 s1.heap s3.heap := I3.base
    have un4 : Un (fsU ++ frs outer) ex H H3 s.heap s3.heap := (un.mono (fun b hb => List.mem_append_left _ hb) fun b hb => hb).trans (un3.mono (fun b hb => List.mem_append_right _ hb) fun b hb => nomatch hb)
    have rc := lam_call0 (E := fun cls d H' => cls = .ref c ∧ d = none ∧ Good H') (Q := fun _ _ => False) I L I3.env0 hr'.hd hr'.depth un4 hex I3.nolimit hf hc hbind (hbody _ _ _ _ (hr'.deeper _) fun H' g => ⟨rfl, rfl, g⟩)
    refine wpAny_call (codeAny_mono rc fun r s' hq => ?_)
    cases r with
    | error e => exact tk e s' (XE.of_call I3 (fun cls d H' h => by obtain ⟨rfl, rfl, g⟩ := h; exact y2 H' g) hq)
    | ok fl =>
      cases fl with
      | ret u =>
        obtain ⟨_, _, _, _, _, _, _, z⟩ := hq
        exact z.elim
      | next => exact False.elim hq
      | brk => exact False.elim hq
      | cont => exact False.elim hq
  · exact .cons (nm _ _ n1 (by rw [← hY]; rfl) (by decide)) (fun a oe cls d pn _ _ => pss_one (ps_ret pe_str)) (.cons (nm _ _ n2 (by rw [← hY]; rfl) (by decide)) (fun a oe cls d pn _ _ => pss_one (ps_ret pe_str)) (.cons (nm _ _ n3 (by rw [← hY]; rfl) (by decide)) (fun a oe cls d pn _ _ => pss_one (ps_ret pe_str))
    (.cons (nm _ _ n4 (by rw [← hY]; rfl) (by decide)) (fun a oe cls d pn _ _ => pss_one (ps_ret pe_str)) (.cons (nm _ _ n5 (by rw [← hY]; rfl) (by decide)) (fun a oe cls d pn _ _ => pss_one (ps_ret pe_str)) (.cons (nm _ _ n6 (by rw [← hY]; rfl) (by decide)) (fun a oe cls d pn _ _ => pss_one (ps_ret pe_str))
    (.cons (nm _ _ n7 (by rw [← hY]; rfl) (by decide)) (fun a oe cls d pn _ _ => pss_one (ps_ret pe_str)) (.cons (nm _ _ n8 (by rw [← hY]; rfl) (by decide)) (fun a oe cls d pn _ _ => pss_one (ps_ret pe_str)) (.cons (nm _ _ n9 (by rw [← hY]; rfl) (by decide)) (fun a oe cls d pn _ _ => pss_one (ps_ret pe_str)) .nil))))))))
  · refine ⟨rfl, rfl, ?_⟩
    rw [← hY]
    exact hw
end
end PM

/-! [pair for pair in bad if told(pair[0]) != pair[1]]. -/
namespace PM
open PySem PySem.Spec PyProof.Rows L2
def ToldAs (K : PySem.W.Frag) (cs : List Addr) (c : Addr) (nm : Str) : Prop := ∀ (D : Ends) (σ : L2.St) (H : Hp), D.rt (.str nm) H → wMany K (fun _ _ _ _ => False) D (toldL cs) (.ref c) none σ H
/-- what _law_told needs -/
structure ToldK (Θ : Th) (ft : Addr) (fdt : FuncData) (b1 b2 b3 b4 b5 b6 b7 b8 b9 : Addr) : Prop where
  F : Fun Θ.K "_law_told" "_law_told" s_L_told ft fdt
  m : Θ.mg "_law_told" = some (.ref ft)
  b : Binds Θ.K fdt N_told []
  n1 : Θ.mg "BadWish" = some (.ref b1)
  n2 : Θ.mg "BadRoom" = some (.ref b2)
  n3 : Θ.mg "BadMatch" = some (.ref b3)
  n4 : Θ.mg "BadPaper" = some (.ref b4)
  n5 : Θ.mg "BadSize" = some (.ref b5)
  n6 : Θ.mg "BadText" = some (.ref b6)
  n7 : Θ.mg "BadStore" = some (.ref b7)
  n8 : Θ.mg "NoSuch" = some (.ref b8)
  n9 : Θ.mg "BadDeed" = some (.ref b9)
def Ent (Θ : Th) (X : Cx) (k : Nat) (δ : List SD) (cs : List Addr) (d : D) : Prop := ∃ (params : Arguments) (body : Expr) (scope : Scope) (pm ctv : Value) (f c' : Addr) (nm : Str) (c : Addr),
  d = .tup [.obj f (FnO f (lamO X params body scope pm c' ctv)) c' (LamX.CodeO c' (X.env.qual ++ "<lambda>")), .str nm] ∧ LamP X.env.scope scope [] ∧
  bindArgs (PySem.W.kla_fn "<lambda>" (X.env.qual ++ "<lambda>") params body scope (cloFrom X.env.cells scope.names []) pm (.ref c') ctv) ⟨[], []⟩ = pure [] ∧
  (∀ x5 A' outer' s2 H2 E', Room k (A'.deeper (LamX.lamEnv X scope s2.heap.objs.size f c')) → EX Θ (LamX.lamCx X A' outer' s2 H2 E' scope f c') body (δ.set 5 x5) c) ∧ ToldAs Θ.K cs c nm
section
variable {Θ : Th} {X : Cx} {pins : List (Addr × Obj)} {σ : L2.St} {H : Hp} {s : Shared} {scope : Scope} {δ δb : List SD} {ft b1 b2 b3 b4 b5 b6 b7 b8 b9 : Addr} {fdt : FuncData} {k : Nat} {arg : Expr} {p pos : Pos} {C : Addr} {cl : List (Str × Addr)} {fp : List Addr} {da : D}
theorem told_ev (xo : XOk Θ X) (TK : ToldK Θ ft fdt b1 b2 b3 b4 b5 b6 b7 b8 b9) (hr : Room (k + 2) X.A) (I : Inv X pins σ H s) (hfp : ∀ b ∈ fp, FpOk X pins H b)
    {params : Arguments} {body : Expr} {lsc : Scope} {pm ctv : Value} {f c' c : Addr} {nm : Str} {M : Option Addr} {G0 H0 Gx Hx G3 H3 : Hp} {σ2 : L2.St} {Q : VK}
    (L : LamP X.env.scope lsc []) (hbind : bindArgs (PySem.W.kla_fn "<lambda>" (X.env.qual ++ "<lambda>") params body lsc (cloFrom X.env.cells lsc.names []) pm (.ref c') ctv) ⟨[], []⟩ = pure [])
    (hb : ∀ A' outer' s2 H2 E', Room k (A'.deeper (LamX.lamEnv X lsc s2.heap.objs.size f c')) → EX Θ (LamX.lamCx X A' outer' s2 H2 E' lsc f c') body δ c) (ta : ToldAs Θ.K [b1, b2, b3, b4, b5, b6, b7, b8, b9] c nm)
    (hg : Gl (bk X scope s H C cl fp) "_law_told") (harg : EV Θ (bk X scope s H C cl fp) arg δb (· = .obj f (FnO f (lamO X params body lsc pm c' ctv)) c' (LamX.CodeO c' (X.env.qual ++ "<lambda>"))))
    (SB : StOk Θ M G0 H0 G3 H3 σ2 δb) (SX : ∀ G' H', StOk Θ M G0 H0 G' H' σ2 δb → Gr G3 G' → StOk Θ M Gx Hx G' H' σ δ) (q : ∀ v d G' H', StOk Θ M G0 H0 G' H' σ2 δb → Gr G3 G' → Rep Θ G' v d → d = .str nm → Q v H')
    (hk : PySem.W.keepIn Θ.K (.ref ft) = true)
    (he : starEach [arg] (bk X scope s H C cl fp).env = (false, eval arg (bk X scope s H C cl fp).env) :: starEach [] (bk X scope s H C cl fp).env := by rfl) (hpl : (backTo pos (starEach [] (bk X scope s H C cl fp).env)).any (·.1) = false := by rfl) :
    tE (bk X scope s H C cl fp) (.Call (.Name "_law_told" p) [arg] [] pos) σ2 H3 Q := by
  intro pins2 s2 I2
  have hK := xo.K
  have hM := xo.mg
  refine wpAny_Call_Name_kw (ld_glob I2 hg (show X.mg "_law_told" = _ by rw [← hM]; exact TK.m) ?_ (by decide))
  refine PySem.W.callWith_K (h₀ := X.base) I2.ok.mod.kin (show PySem.W.keepIn X.K (.ref ft) = true by rw [← hK]; exact hk) (thn ((pa_cons pe_can pa_nil he).run pos pins2 s2 σ2 H3 (fun vs H4 => ∃ G4, vs = [.ref f] ∧ StOk Θ M G0 H0 G4 H4 σ2 δb ∧ Gr G3 G4 ∧ G4 f = some (FnO f (lamO X params body lsc pm c' ctv)) ∧ G4 c' = some (LamX.CodeO c' (X.env.qual ++ "<lambda>"))) I2 ?_) fun us s3 ⟨vs, H4, I3, r, z⟩ => ⟨I3.kIn, ?_⟩) he hpl
  · refine harg M G0 H0 G3 H3 σ2 _ SB fun v d G4 H4 S4 g4 r4 p4 => ?_
    subst p4
    obtain ⟨rfl, e1, e2⟩ := r4.obj_inv
    exact ⟨G4, rfl, S4, g4, e1, e2⟩
  · obtain ⟨G4, rfl, S4, g4, e1, e2⟩ := z
    obtain ⟨u, rfl, ru⟩ := vals1 r
    obtain rfl : u = Value.ref f := ru
    have un : Un (frs X.stack) fp H H4 s.heap s3.heap := I3.base
    have SX4 := SX G4 H4 S4 g4
    have n1 := TK.n1
    have n2 := TK.n2
    have n3 := TK.n3
    have n4 := TK.n4
    have n5 := TK.n5
    have n6 := TK.n6
    have n7 := TK.n7
    have n8 := TK.n8
    have n9 := TK.n9
    have F := TK.F
    have bb := TK.b
    rw [hM] at n1 n2 n3 n4 n5 n6 n7 n8 n9
    rw [hK] at F bb
    refine wpAny_call (codeAny_mono (told_at (X := X) (c := c) (σ := σ) (Q := Q) (Good := fun H' => ∃ G', StOk Θ M G4 H4 G' H' σ δ) F bb n1 n2 n3 n4 n5 n6 n7 n8 n9 I L I3.env0 hr un (fun y c0 e z => (hfp c0 z).2.2.2.2.1 y c0 e rfl) (S4.hs.sub _ _ e1) (S4.hs.sub _ _ e2) hbind (fun A' outer' s5 E' hr' hE => ?_) fun H' ⟨G', S'⟩ => ?_) fun r s4 hq => ?_)
    · exact hb A' outer' s5 H4 E' hr' M G4 H4 G4 H4 σ _ E' (takes_of rfl rfl rfl rfl) SX4.anew fun G' H' S' => hE H' ⟨G', S'⟩
    · have ta := ta
      rw [hK] at ta
      refine ta _ _ _ ?_
      exact q (.str nm) (.str nm) G' H' (S4.step S'.stp S'.hs fun d e => (S'.dice d e).2) (g4.trans S'.stp.g) (.str nm) rfl
    · cases r with
      | error e =>
        obtain ⟨_, _, _, _, _, _, _, _, _, _, _, _, z⟩ := hq
        exact z.elim
      | ok fl =>
        cases fl with
        | ret u => exact I3.after hq
        | next => exact False.elim hq
        | brk => exact False.elim hq
        | cont => exact False.elim hq
theorem ev_cases {a0 a1 a2 a3 a4 : SD} {ds : List D} {p1 p2 p3 p4 p5 p6 p7 p8 p9 p10 c1 c2 : Pos} {j1 j2 : Nat} (xo : XOk Θ X) (TK : ToldK Θ ft fdt b1 b2 b3 b4 b5 b6 b7 b8 b9) (hk : PySem.W.keepIn Θ.K (.ref ft) = true) (hr : Room (k + 2) X.A) (hn : ds.length ≤ 1000)
    (h5 : X.N[5]? = some ("_law_bad" : Str)) (h6 : X.N[6]? = some ("_law_pair" : Str)) (hl : X.N.length = 7) (ok : BlkOk X.N X.env.scope scope [("_law_pair", 6)]) (hv : Vis X.env.scope ("_law_bad" : Str))
    (hent : ∀ d ∈ ds, Ent Θ X k [a0, a1, a2, a3, a4, .no, .no] [b1, b2, b3, b4, b5, b6, b7, b8, b9] d)
    (hg : ∀ s H C cl fp, Gl (bk X scope s H C cl fp) "_law_told") (hlp : ∀ s H C cl fp, Loc (bk X scope s H C cl fp).env.scope ("_law_pair" : Str)) (hf : ∀ s H C cl fp, (bk X scope s H C cl fp).fn ("_law_pair" : Str) = true ∨ (bk X scope s H C cl fp).env.scope.names.lookup ("_law_pair" : Str) = some .local) :
    EV Θ X (.ListComp (.Name "_law_pair" p1) [⟨.Name "_law_pair" p2, .Name "_law_bad" p3, [.Compare (.Call (.Name "_law_told" p4) [.Subscript (.Name "_law_pair" p5) (.Constant (.int 0) j1 c1) p6] [] p7) [.NotEq] [.Subscript (.Name "_law_pair" p8) (.Constant (.int 1) j2 c2) p9] p10], 0⟩] scope pos) [a0, a1, a2, a3, a4, .im (.lst ds), .no] (· = .lst []) := fun M G0 H0 G H σ Q S q => by
  intro pins s I
  obtain ⟨wi, hpi, hi⟩ := ei_list (tg := .Name "_law_pair" p2) (j := 6) (v (X := X) (d := .lst ds) (δ := [a0, a1, a2, a3, a4, .im (.lst ds), .no]) (pos := p3) 5 rfl h5 hv (by decide) (by decide))
  refine lcN (own := [("_law_pair", 6)]) (g := gName 6) (tt := fun s' H' C cl fp σ2 H3 K => Inv X pins σ H' s' → (∀ b ∈ fp, FpOk X pins H' b) → tTs (bk X scope s' H' C cl fp) _ σ2 H3 K) xo.calm xo.nd I hpi ok (fun s H C cl fp => pg_name xo.nd h6 (hlp s H C cl fp) (hf s H C cl fp)) (fun s' H' C cl fp I' hfp => ⟨fun pins' s2 σ2 H3 K J h => h I' hfp pins' s2 J⟩) (fun _ => rfl) ?_
  refine hi M G0 H0 G H σ _ S fun J G1 H1 S1 g1 it => fun L hD s' C cl fp => ?_
  have S2 : StOk Θ M G0 H0 G1 (upd H1 L (.lst [])) σ _ := S1.step (.made hD) (S1.hs.made hD) fun d e => by
    obtain ⟨_, z2, a, b, c, z3⟩ := S1.dice d e
    exact ⟨z2, a, b, c, by rw [upd_ne (ne_of_none z3 hD)]; exact z3⟩
  have gL : G1 L = none := S1.hs.sub.free hD
  have h0L : H0 L = none := by
    cases z : H0 L with
    | none => rfl
    | some o => exact absurd hD (S1.stp.some L (by rw [z]; simp))
  have hML : M ≠ some L := fun e => (S1.dice L e).1 h0L
  let Nx : Hp → Prop := fun H' => ∃ G', StOk Θ M G1 (upd H1 L (.lst [])) G' H' (wipe σ [6]) (wipeD [a0, a1, a2, a3, a4, .im (.lst ds), .no] [6]) ∧ Gr G1 G'
  refine ⟨fun i m Hi => m = ds.length - i ∧ i ≤ ds.length ∧ Nx Hi, ⟨ds.length, by simp, Nat.zero_le _, G1, (S2.wipe [6]).anew, .refl _⟩, ?_⟩
  rintro i m Hi ⟨rfl, hle, Gi, Si, gi⟩
  by_cases hlt : i < ds.length
  · refine .inr ⟨it.go gi Si.hs i hlt, Nx, fun H' nx => ⟨ds.length - (i + 1), by omega, rfl, hlt, nx⟩, fun x H2 y => ?_⟩
    refine it.yld gi Si.hs i hlt x H2 y _ _ fun bv G2 s2 h2 hb => ⟨hw1 σ bv hb, fun I' hfp => ?_⟩
    obtain ⟨params, body, lsc, pm, ctv, f, c', nm, c, ed, Lp, hbind, hbody, ta⟩ := hent _ (getD_mem ds .non hlt)
    rw [ed] at hb
    have SB : StOk Θ M Gi Hi G2 H2 (setV (wipe σ [6]) bv) (setD (wipeD [a0, a1, a2, a3, a4, .im (.lst ds), .no] [6]) [(6, _)]) := (Si.anew.pure s2 h2).setB hb
    refine .of (pts_one pt_can) ?_
    refine .of (pt_cmpR op_ne pe_can pe_can (nomark _)) ?_
    refine told_ev (k := k) (δ := [a0, a1, a2, a3, a4, .im (.lst ds), .no]) (Gx := G0) (Hx := H0) xo TK hr I' hfp Lp hbind (hbody (.im (.lst ds))) ta (hg _ _ _ _ _) (ixT (v (X := bk X scope s' (upd H1 L (.lst [])) C cl fp) 6 rfl h6 (by have := hlp s' (upd H1 L (.lst [])) C cl fp; rcases this with h | h <;> first | exact .inl h | exact .inr (.inl h)) (by decide) (by decide)) ev_int (j := 0) rfl rfl (show Θ.K = X.K from xo.K)) SB (fun G' H' S' g' => ?_) (fun v0 d0 G3 H3 S3 g3 r3 p3 => ?_) hk
    · exact S2.step (Si.stp.trans S'.stp) S'.hs fun d e => (S'.dice d e).2
    · subst p3
      refine (ixT (v (X := bk X scope s' (upd H1 L (.lst [])) C cl fp) 6 rfl h6 (by have := hlp s' (upd H1 L (.lst [])) C cl fp; rcases this with h | h <;> first | exact .inl h | exact .inr (.inl h)) (by decide) (by decide)) ev_int (j := 1) rfl rfl (show Θ.K = X.K from xo.K)) M _ _ G3 H3 _ _ S3 fun w dw G4 H4 S4 g4 r4 p4 => ?_
      subst p4
      refine opd_neF (Θ := Θ) (dx := .str nm) (dy := .str nm) rfl rfl rfl S4.hs (r3.gr g4) r4 (S4.kd fun v1 d1 G5 H5 S5 g5 r5 e5 => ?_)
      subst e5
      exact ⟨false, by rw [r5.bl_inv]; simp, rfl, G5, Si.step S5.stp S5.hs fun d e => (S5.dice d e).2, (((gi.trans s2.g).trans g3).trans g4).trans g5⟩
  · have e : i = ds.length := by omega
    subst e
    refine .inl ⟨it.stop gi Si.hs, ?_⟩
    obtain ⟨hLi, gLi⟩ := keepL Si.stp upd_same gL hML
    have hf : Hs Θ (upd Gi L (.lst [])) Hi := Si.hs.frozen hLi
    have st : Stp M G1 H1 (upd Gi L (.lst [])) Hi := ((Stp.made hD).trans Si.stp).froze hD gL
    have S6 : StOk Θ M G0 H0 (upd Gi L (.lst [])) Hi σ _ := S1.step st hf fun d e => by
      obtain ⟨_, z2, z3⟩ := Si.dice d e
      exact ⟨by rw [upd_ne fun z => hML (by rw [e, z])]; exact z2, z3⟩
    exact q (.ref L) _ _ Hi S6 (g1.trans st.g) (.lst upd_same .nil) rfl
end
end PM

/-! _law_cases1. -/
namespace PM
open PySem PySem.Spec PyProof.Rows L2
section
variable {Θ : Th} {X : Cx} {δ : List SD} {e : Expr} {es : List Expr} {pos : Pos}
theorem ev_lstP {PL : List D → Prop} (h : EA Θ X es δ PL) (hl : es.length ≤ 1000) (hn : ∀ ds, PL ds → ds.length = es.length) : EV Θ X (.List es pos) δ (fun d => ∃ ds, d = .lst ds ∧ PL ds) := fun M G0 H0 G H σ Q S q =>
  .of (pe_lst pa_can) (h M G0 H0 G H σ _ S fun vs ds G1 H1 S1 g1 r1 p1 => ⟨sz_of (by rw [r1.length, hn _ p1]; exact hl), fun p hp =>
    (S1.kd fun v d G' H' S' g => q v d G' H' S' (g1.trans g)) _ _ _ _ (.laid hp (S1.hs.sub.free hp)) (S1.hs.laid hp fun _ z => by cases z) (.lst upd_same (r1.gr (.new (S1.hs.sub.free hp)))) ⟨ds, rfl, p1⟩⟩)
theorem RepA.thawL {G : Hp} : ∀ {l : List (List Int)} {vs : List V}, RepA Θ G vs (l.map dF) → RepA Θ G vs (dLs l)
  | [], _, .nil => .nil
  | a :: l, _, .cons r t => .cons r.thaw (RepA.thawL t)
theorem EV.thawL {l : List (List Int)} (h : EV Θ X e δ (· = .lst (l.map dF))) : EV Θ X e δ (· = .lst (dLs l)) := fun M G0 H0 G H σ Q S q => h M G0 H0 G H σ Q S fun v d G1 H1 S1 g1 r1 p1 => by
  subst p1
  obtain ⟨a, xs, rfl, e1, q1⟩ := r1.lst_inv
  exact q _ _ G1 H1 S1 g1 (.lst e1 (RepA.thawL q1)) rfl
/-- an entry of the table -/
theorem ent_of {params : Arguments} {body : Expr} {scope : Scope} {lpos pt p : Pos} {kt j k : Nat} {nm : Str} {c P cx : Addr} {cs : List Addr} (xo : XOk Θ X) (LT : LamT Θ c P (X.env.qual ++ "<lambda>")) (hcode : X.env.code = .ref c) (L : LamP X.env.scope scope [])
    (ta : ToldAs Θ.K cs cx nm) (hb : ∀ x5 A' outer' s2 H2 E' f c', Room k (A'.deeper (LamX.lamEnv X scope s2.heap.objs.size f c')) → XOk Θ (LamX.lamCx X A' outer' s2 H2 E' scope f c') → EX Θ (LamX.lamCx X A' outer' s2 H2 E' scope f c') body (δ.set 5 x5) cx)
    (hbind : ∀ pm c' ctv, bindArgs (PySem.W.kla_fn "<lambda>" (X.env.qual ++ "<lambda>") params body scope (cloFrom X.env.cells scope.names []) pm c' ctv) ⟨[], []⟩ = pure [] := by intros; rfl) (hdef : defaultsOf params X.env = ([], []) := by rfl)
    (h1 : starEach [.Lambda params body scope lpos, .Constant (.str nm) j p] X.env = (false, eval (.Lambda params body scope lpos) X.env) :: starEach [.Constant (.str nm) j p] X.env := by rfl) (h2 : starEach [.Constant (.str nm) j p] X.env = (false, eval (.Constant (.str nm) j p) X.env) :: starEach [] X.env := by rfl) :
    EV Θ X (.Tuple [.Lambda params body scope lpos, .Constant (.str nm) j p] kt pt) δ (Ent Θ X k δ cs) :=
  (ev_tupP (PL := fun ds => ∃ f c' pm ctv, ds = [.obj f (FnO f (lamO X params body scope pm c' ctv)) c' (LamX.CodeO c' (X.env.qual ++ "<lambda>")), .str nm]) (ea_cons (ev_lam xo LT hcode hdef fun y hy h => L.free y hy h) (ea_c ev_str ea_nil h2) (fun d ds ⟨f, c', pm, ctv, e⟩ e2 => ⟨f, c', pm, ctv, by rw [e, e2]⟩) h1) (by exact Nat.le_of_ble_eq_true rfl) fun ds ⟨f, c', pm, ctv, e⟩ => by rw [e]; rfl).imp
    fun d ⟨ds, e1, f, c', pm, ctv, e2⟩ => ⟨params, body, scope, pm, ctv, f, c', nm, cx, by rw [e1, e2], L, hbind _ _ _, fun x5 A' outer' s2 H2 E' h => hb x5 A' outer' s2 H2 E' f c' h ⟨xo.P, xo.w, xo.K, xo.mg, xo.base, rfl, xo.nd⟩, ta⟩
def EntL (Θ : Th) (X : Cx) (k : Nat) (δ : List SD) (cs : List Addr) (n : Nat) (ds : List D) : Prop := ds.length = n ∧ ∀ d ∈ ds, Ent Θ X k δ cs d
theorem ea_ent {k n : Nat} {cs : List Addr} (h : EV Θ X e δ (Ent Θ X k δ cs)) (h2 : EA Θ X es δ (EntL Θ X k δ cs n)) (hs : starEach (e :: es) X.env = (false, eval e X.env) :: starEach es X.env := by rfl) : EA Θ X (e :: es) δ (EntL Θ X k δ cs (n + 1)) :=
  ea_cons h h2 (fun d ds p q => ⟨by rw [List.length_cons, q.1], fun x hx => (List.mem_cons.mp hx).elim (fun z => z ▸ p) (q.2 x)⟩) hs
theorem ea_ent0 {k : Nat} {cs : List Addr} : EA Θ X [] δ (EntL Θ X k δ cs 0) := fun M G0 H0 G H σ Q S q => ea_nil M G0 H0 G H σ Q S fun vs ds G' H' S' g r p => q vs ds G' H' S' g r (by rw [p]; exact ⟨rfl, fun _ h => nomatch h⟩)
end
/-! ### the classes told -/
structure ToldX (Θ : Th) (b1 b2 b3 : Addr) : Prop where
  e11 : PySem.W.exmOne Θ.K (.ref b1) (.ref b1) = some true
  e21 : PySem.W.exmOne Θ.K (.ref b2) (.ref b1) = some false
  e22 : PySem.W.exmOne Θ.K (.ref b2) (.ref b2) = some true
  e31 : PySem.W.exmOne Θ.K (.ref b3) (.ref b1) = some false
  e32 : PySem.W.exmOne Θ.K (.ref b3) (.ref b2) = some false
  e33 : PySem.W.exmOne Θ.K (.ref b3) (.ref b3) = some true
section
variable {Θ : Th} {b1 b2 b3 b4 b5 b6 b7 b8 b9 : Addr}
theorem ta1 (x : ToldX Θ b1 b2 b3) : ToldAs Θ.K [b1, b2, b3, b4, b5, b6, b7, b8, b9] b1 "wish" := fun D σ H h => ⟨true, x.e11, fun _ a ha => h, fun z => Bool.noConfusion z⟩
theorem ta2 (x : ToldX Θ b1 b2 b3) : ToldAs Θ.K [b1, b2, b3, b4, b5, b6, b7, b8, b9] b2 "room" := fun D σ H h => ⟨false, x.e21, fun z => Bool.noConfusion z, fun _ => ⟨true, x.e22, fun _ a ha => h, fun z => Bool.noConfusion z⟩⟩
theorem ta3 (x : ToldX Θ b1 b2 b3) : ToldAs Θ.K [b1, b2, b3, b4, b5, b6, b7, b8, b9] b3 "match" := fun D σ H h => ⟨false, x.e31, fun z => Bool.noConfusion z, fun _ => ⟨false, x.e32, fun z => Bool.noConfusion z, fun _ => ⟨true, x.e33, fun _ a ha => h, fun z => Bool.noConfusion z⟩⟩⟩
end
def R_c1 (ds : List D) (d : D) : Prop := ∃ (as rs : List (List Int)) (ss : List Int) (m : Ma), ds = [.mkt as rs ss, .ftu (m.map optD), .lst (as.map dF), .lst (rs.map dF), .lst (ss.map .int)] ∧ MkOk as rs ss ∧ m.length = as.length ∧ 0 < as.length ∧ 0 < rs.length ∧ d = .bl true
abbrev N_c1 : List Str := ["_law_market_here", "_law_match", "_law_lists", "_law_orders", "_law_seats", "_law_bad", "_law_pair"]
theorem sc_c1 : FnScope N_c1 ["_law_market_here", "_law_match", "_law_lists", "_law_orders", "_law_seats"] (defScope s_L_cases1) := ⟨rfl, rfl, rfl, by decide +kernel, rfl, by decide +kernel, by decide +kernel⟩
section
variable {Θ : Th} {f c P ft b1 b2 b3 b4 b5 b6 b7 b8 b9 : Addr} {fd fdt : FuncData}
theorem ok_c1 (T : Tx Θ) (LT : LamT Θ c P "_law_cases1.<locals>.<lambda>") (TK : ToldK Θ ft fdt b1 b2 b3 b4 b5 b6 b7 b8 b9) (tx : ToldX Θ b1 b2 b3) (hk : PySem.W.keepIn Θ.K (.ref ft) = true)
    (dC : Dfn Θ "check_match" 2 2 R_cm (X_cm b3)) (mM : Mkr Θ "Market" Θ.CM 5 3 R_mi (X_mi b2 b1)) (mS : Mth Θ Θ.CM "with_seats" 7 3 R_ws (X_ws b2)) (F : Fun Θ.K "_law_cases1" "_law_cases1" s_L_cases1 f fd) (hc : fd.code = .ref c) :
    FnOk Θ.P Θ.w Θ.K Θ.mg Θ.base (L2.CX Θ.P Θ.w) 11 f fd ["_law_market_here", "_law_match", "_law_lists", "_law_orders", "_law_seats"] (PSp Θ 5 R_c1 NoX) := by
  refine fn_okC F hc sc_c1 rfl (fun A outer s H E ds d hr hl hR => ?_) (fun _ _ _ _ _ _ _ _ _ h => h.elim)
  obtain ⟨as, rs, ss, m, rfl, mk, lm, la, lr, rfl⟩ := hR
  have xo := xo_cx (Θ := Θ) (qual := "_law_cases1") (f := f) (cd := .ref c) (A := A) (outer := outer) (s := s) (H := H) (E := E) sc_c1
  have la20 := mk.la
  have lr20 := mk.lr
  have ls20 := mk.ls
  refine sv_set (i := 5) (PE := fun d => ∃ ds, d = .lst ds ∧ EntL Θ (cxP Θ N_c1 "_law_cases1" (defScope s_L_cases1) f (.ref c) A outer s H E) 8 (δ0 N_c1 [.mkt as rs ss, .ftu (m.map optD), .lst (as.map dF), .lst (rs.map dF), .lst (ss.map .int)]) [b1, b2, b3, b4, b5, b6, b7, b8, b9] 11 ds) xo rfl (.inl rfl)
    (ev_lstP (ea_ent (ent_of xo LT rfl (lamP_by (sc := defScope s_L_cases1) (by decide +kernel)) (ta3 tx) fun x5 A' o' s2 H2 E' f' c' hl xl => ?_)
      (ea_ent (ent_of xo LT rfl (lamP_by (sc := defScope s_L_cases1) (by decide +kernel)) (ta3 tx) fun x5 A' o' s2 H2 E' f' c' hl xl => ?_)
      (ea_ent (ent_of xo LT rfl (lamP_by (sc := defScope s_L_cases1) (by decide +kernel)) (ta3 tx) fun x5 A' o' s2 H2 E' f' c' hl xl => ?_)
      (ea_ent (ent_of xo LT rfl (lamP_by (sc := defScope s_L_cases1) (by decide +kernel)) (ta2 tx) fun x5 A' o' s2 H2 E' f' c' hl xl => ?_)
      (ea_ent (ent_of xo LT rfl (lamP_by (sc := defScope s_L_cases1) (by decide +kernel)) (ta1 tx) fun x5 A' o' s2 H2 E' f' c' hl xl => ?_)
      (ea_ent (ent_of xo LT rfl (lamP_by (sc := defScope s_L_cases1) (by decide +kernel)) (ta1 tx) fun x5 A' o' s2 H2 E' f' c' hl xl => ?_)
      (ea_ent (ent_of xo LT rfl (lamP_by (sc := defScope s_L_cases1) (by decide +kernel)) (ta3 tx) fun x5 A' o' s2 H2 E' f' c' hl xl => ?_)
      (ea_ent (ent_of xo LT rfl (lamP_by (sc := defScope s_L_cases1) (by decide +kernel)) (ta3 tx) fun x5 A' o' s2 H2 E' f' c' hl xl => ?_)
      (ea_ent (ent_of xo LT rfl (lamP_by (sc := defScope s_L_cases1) (by decide +kernel)) (ta2 tx) fun x5 A' o' s2 H2 E' f' c' hl xl => ?_)
      (ea_ent (ent_of xo LT rfl (lamP_by (sc := defScope s_L_cases1) (by decide +kernel)) (ta2 tx) fun x5 A' o' s2 H2 E' f' c' hl xl => ?_)
      (ea_ent (ent_of xo LT rfl (lamP_by (sc := defScope s_L_cases1) (by decide +kernel)) (ta1 tx) fun x5 A' o' s2 H2 E' f' c' hl xl => ?_) ea_ent0))))))))))) (by exact Nat.le_of_ble_eq_true rfl) fun ds h => h.1) ?_
  -- the bodies
  · refine ex_call xl dC hl (by decide) rfl (ea_c (v 0) (ea_c ((bin2 (da := .tup (m.map optD)) (db := .tup [.non]) op_catA (v 1).thaw (ev_tup (ea_c ev_non ea_nil)) (opd_catT (by rw [List.length_map]; show _ + 1 ≤ _; omega))).eq (d' := .tup ((m ++ [none]).map optD)) (by rw [List.map_append]; rfl)) ea_nil)) ⟨as, rs, ss, m ++ [none], _, rfl, .inl rfl, by rw [List.length_append]; show _ + 1 ≤ _; omega, fun h => ?_, rfl⟩
    have := h.1
    rw [List.length_append, lm] at this
    simp at this
  · refine ex_call xl dC hl (by decide) rfl (ea_c (v 0) (ea_c ((ev_from (n := ((1 : Nat) : Int)) sl_tupA (v 1).thaw ev_int sld_fromT).eq (d' := .tup ((m.drop 1).map optD)) (by rw [List.map_drop])) ea_nil)) ⟨as, rs, ss, m.drop 1, _, rfl, .inl rfl, by rw [List.length_drop]; omega, fun h => ?_, rfl⟩
    have := h.1
    rw [List.length_drop, lm] at this
    omega
  · refine ex_call xl dC hl (by decide) rfl (ea_c (v 0) (ea_c ((bin2 (da := .tup [.int (-1)]) (db := .tup ((m.drop 1).map optD)) op_catA (ev_tup (ea_c (bin2 op_sub ev_int ev_int (opd_I0 (o := .int (-1)) rfl)) ea_nil)) ((ev_from (n := ((1 : Nat) : Int)) sl_tupA (v 1).thaw ev_int sld_fromT).eq (by rw [List.map_drop])) (opd_catT (by rw [List.length_map, List.length_drop]; show 1 + _ ≤ _; omega))).eq (d' := .tup ((some (-1) :: m.drop 1).map optD)) rfl) ea_nil)) ⟨as, rs, ss, some (-1) :: m.drop 1, _, rfl, .inl rfl, by rw [List.length_cons, List.length_drop]; omega, fun h => ?_, rfl⟩
    have := (h.2.1 (-1) List.mem_cons_self).1
    omega
  · refine ex_make xl mM hl (by decide) rfl (ea_c (v 2).thawL (ea_c (v 3).thawL (ea_c ((bin2 (da := .lst [.int (-1)]) (db := .lst ((ss.drop 1).map .int)) op_cat (ev_lst (ea_c (bin2 op_sub ev_int ev_int (opd_I0 (o := .int (-1)) rfl)) ea_nil)) ((ev_from (n := ((1 : Nat) : Int)) sl_list (v 4) ev_int sld_fromL).eq (by rw [List.map_drop])) (opd_catL (by rw [List.length_map, List.length_drop]; show 1 + _ ≤ _; omega))).eq (d' := .lst ((-1 :: ss.drop 1).map .int)) rfl) ea_nil))) ⟨as, rs, -1 :: ss.drop 1, _, rfl, .inr rfl, mk.la, mk.lr, by rw [List.length_cons, List.length_drop]; omega, .inl ⟨.inr ⟨-1, List.mem_cons_self, by decide⟩, rfl⟩⟩
  · exact ex_make xl mM hl (by decide) rfl (ea_c (ev_lst (ea_c (ev_tup (ea_c ev_int ea_nil)) ea_nil)) (ea_c (ev_lst (ea_c (ev_tup (ea_c ev_int ea_nil)) ea_nil)) (ea_c (ev_lst (ea_c ev_int ea_nil)) ea_nil))) ⟨[[0]], [[1]], [1], _, rfl, .inr rfl, by decide, by decide, by decide, .inr ⟨.inl ⟨rfl, .inl rfl⟩, rfl, rfl⟩⟩
  · exact ex_make xl mM hl (by decide) rfl (ea_c (ev_lst (ea_c (ev_tup (ea_c ev_int ea_nil)) ea_nil)) (ea_c (ev_lst (ea_c (ev_tup (ea_c ev_int (ea_c ev_int ea_nil))) ea_nil)) (ea_c (ev_lst (ea_c ev_int ea_nil)) ea_nil))) ⟨[[0]], [[0, 0]], [1], _, rfl, .inr rfl, by decide, by decide, by decide, .inr ⟨.inl ⟨rfl, .inr rfl⟩, rfl, rfl⟩⟩
  · refine ex_call xl dC hl (by decide) rfl (ea_c (v 0) (ea_c ((bin2 (da := .tup [.int (rs.length : Int)]) (db := .tup ((m.drop 1).map optD)) op_catA (ev_tup (ea_c ((lenL T (v 3)).eq (by rw [List.length_map])) ea_nil)) ((ev_from (n := ((1 : Nat) : Int)) sl_tupA (v 1).thaw ev_int sld_fromT).eq (by rw [List.map_drop])) (opd_catT (by rw [List.length_map, List.length_drop]; show 1 + _ ≤ _; omega))).eq (d' := .tup ((some (rs.length : Int) :: m.drop 1).map optD)) rfl) ea_nil)) ⟨as, rs, ss, some (rs.length : Int) :: m.drop 1, _, rfl, .inl rfl, by rw [List.length_cons, List.length_drop]; omega, fun h => ?_, rfl⟩
    have := (h.2.1 (rs.length : Int) List.mem_cons_self).2
    omega
  · refine ex_call xl dC hl (by decide) rfl (ea_c (ev_make xl mM hl (by decide) rfl (ea_c (ev_lst (ea_c (ev_tup (ea_c ev_int ea_nil)) (ea_c (ev_tup (ea_c ev_int ea_nil)) ea_nil))) (ea_c (ev_lst (ea_c (ev_tup (ea_c ev_int (ea_c ev_int ea_nil))) ea_nil)) (ea_c (ev_lst (ea_c ev_int ea_nil)) ea_nil))) ⟨[[0], [0]], [[0, 1]], [1], _, rfl, .inr rfl, ⟨by decide, by decide, rfl, by decide, by decide⟩, by decide, rfl⟩) (ea_c (ev_tup (ea_c ev_int (ea_c ev_int ea_nil))) ea_nil)) ⟨[[0], [0]], [[0, 1]], [1], [some 0, some 0], _, rfl, .inl rfl, by decide, fun h => ?_, rfl⟩
    have := h.2.2 0 (by decide)
    revert this
    decide
  · refine ex_make xl mM hl (by decide) rfl (ea_c (v 2).thawL (ea_c (v 3).thawL (ea_c ((bin2 (da := .lst (ss.map .int)) (db := .lst [.int 1]) op_cat (v 4) (ev_lst (ea_c ev_int ea_nil)) (opd_catL (by rw [List.length_map]; show _ + 1 ≤ _; omega))).eq (d' := .lst ((ss ++ [1]).map .int)) (by rw [List.map_append]; rfl)) ea_nil))) ⟨as, rs, ss ++ [1], _, rfl, .inr rfl, mk.la, mk.lr, by rw [List.length_append]; show _ + 1 ≤ _; omega, .inl ⟨.inl fun h => ?_, rfl⟩⟩
    rw [List.length_append, mk.ls] at h
    simp at h
  · exact ex_meth xl mS hl (by decide) (v 0) noFld_mkt (ea_c ev_int (ea_c (bin2 op_sub ev_int ev_int (opd_I0 (o := .int (-1)) rfl)) ea_nil)) ⟨as, rs, ss, 0, -1, rfl, ⟨by decide, by omega⟩, mk, by decide, rfl⟩
  · exact ex_make xl mM hl (by decide) rfl (ea_c (ev_lst (ea_c (ev_tup (ea_c ev_int ea_nil)) ea_nil)) (ea_c (ev_lst (ea_c (ev_tup (ea_c ev_int ea_nil)) ea_nil)) (ea_c (ev_lst (ea_c ev_int ea_nil)) ea_nil))) ⟨[[5]], [[0]], [1], _, rfl, .inr rfl, by decide, by decide, by decide, .inr ⟨.inr ⟨rfl, rfl⟩, rfl, rfl⟩⟩
  · rintro d ⟨ds, rfl, hn, hent⟩
    refine sv_ret (cmp2 (da := .lst []) (db := .lst []) (op_eqD (by have := hr.units; exact this)) (ev_cases (k := 8) xo TK hk hr (by omega) rfl rfl rfl (blkOk_by (N := N_c1) (sc := defScope s_L_cases1) (by decide +kernel)) (by first | exact Or.inl rfl | exact Or.inr (Or.inl rfl)) hent (fun _ _ _ _ _ => rfl) (fun _ _ _ _ _ => .inl rfl) (fun _ _ _ _ _ => .inr rfl)) (ev_lst ea_nil) (opd_eqL (n := 1) rfl)) fun d e => e
end
end PM

/-! The plain law: what the program gives is what the law's own tries give. -/
namespace PM
open PySem PySem.Spec PyProof.Rows L2
theorem those_len (m : Ma) (r : Int) : (thoseL m r).length = m.countP fun o => decide (o = some r) := by
  unfold thoseL
  rw [List.length_map]
  have h := filter_range_get m none (fun o => decide (o = some r)) (fun o => o)
  have e : ∀ l : List Nat, (l.map fun i => m.getD i none).length = l.length := fun l => List.length_map _
  rw [← e, h, List.length_map, List.countP_eq_length_filter]
theorem notin_take : ∀ (l : List Int) (i : Int), i ∉ l.take (l.idxOf i)
  | [], i => by simp
  | a :: l, i => by
    by_cases h : a = i
    · subst h; simp
    · have e : (a :: l).idxOf i = l.idxOf i + 1 := by
        rw [List.idxOf_cons, show (a == i) = false from beq_eq_false_iff_ne.mpr h]
        rfl
      rw [e, List.take_succ_cons]
      intro z
      rcases List.mem_cons.mp z with z | z
      · exact h z.symm
      · exact notin_take l i z
theorem place_mem {l : List Int} {i : Int} (h : i ∈ l) : placeI l (some i) = (l.idxOf i : Nat) := by
  show (if i ∈ l then ((l.idxOf i : Nat) : Int) else (l.length : Int)) = _
  rw [if_pos h]
theorem place_not {l : List Int} {i : Int} (h : ¬ i ∈ l) : placeI l (some i) = (l.length : Int) := by
  show (if i ∈ l then ((l.idxOf i : Nat) : Int) else (l.length : Int)) = _
  rw [if_neg h]
theorem ahead_take (l : List Int) (o : Option Int) : aheadL l o = if (!memO o l && o.isSome) = true then l else l.take (placeI l o).toNat := by
  unfold aheadL
  rw [rnk_place]
  cases o with
  | none => simp [placeI]
  | some i =>
    by_cases h : i ∈ l
    · have e : memO (some i) l = true := decide_eq_true h
      rw [if_pos (.inr e), e]
      simp
    · have e : memO (some i) l = false := decide_eq_false h
      rw [if_neg (by rw [e]; rintro (z | z) <;> cases z), e]
      rfl
theorem ahead_ne {l : List Int} {o : Option Int} {r : Int} (h : r ∈ aheadL l o) : some r ≠ o := by
  rintro rfl
  rw [ahead_take] at h
  by_cases hm : r ∈ l
  · have e : memO (some r) l = true := decide_eq_true hm
    rw [e] at h
    have h : r ∈ l.take (placeI l (some r)).toNat := h
    rw [place_mem hm] at h
    exact notin_take l r h
  · have e : memO (some r) l = false := decide_eq_false hm
    rw [e] at h
    exact hm h
theorem better_place {l : List Int} {i j : Int} (h : i ∈ l) : betterB l (some i) (some j) = decide (placeI l (some i) < placeI l (some j)) := by
  unfold betterB
  show cmpO (lookI (rkL l) i) (lookI (rkL l) j) = _
  rw [look_idx h, place_mem h]
  by_cases hj : j ∈ l
  · rw [look_idx hj, place_mem hj]; rfl
  · rw [look_non hj, place_not hj]
    have : l.idxOf i < l.length := List.idxOf_lt_length_of_mem h
    exact (decide_eq_true (by omega)).symm
def worseL (rs : List (List Int)) (m : Ma) (r a : Int) : List Int := (thoseL m r).filter fun j => decide (placeI (nth rs r) (some a) < placeI (nth rs r) (some j))
def goodW (rs : List (List Int)) (ss : List Int) (m : Ma) (r a : Int) : Bool := decide (a ∈ nth rs r) && (decide (0 < nthI ss r) && (decide (((thoseL m r).length : Int) < nthI ss r) || !(worseL rs m r a).isEmpty))
theorem wt_good {rs : List (List Int)} {ss : List Int} {m : Ma} {r a : Int} (h0 : 0 ≤ nthI ss r) : wtB rs ss m r a = goodW rs ss m r a := by
  unfold wtB goodW
  by_cases ha : a ∈ nth rs r
  · rw [decide_eq_true ha]
    by_cases hz : nthI ss r = 0
    · rw [hz]; rfl
    · have hp : 0 < nthI ss r := by omega
      rw [decide_eq_false hz, decide_eq_true hp]
      by_cases hl : ((thoseL m r).length : Int) < nthI ss r
      · rw [decide_eq_true hl, if_neg (by decide), if_pos hl]; rfl
      · rw [decide_eq_false hl, if_neg (by decide), if_neg hl]
        show _ = (true && (true && (false || !(worseL rs m r a).isEmpty)))
        rw [Bool.true_and, Bool.true_and, Bool.false_or]
        unfold worseL
        have e : ∀ l : List Int, l.any (fun o => betterB (nth rs r) (some a) (some o)) = !(l.filter fun j => decide (placeI (nth rs r) (some a) < placeI (nth rs r) (some j))).isEmpty := fun l => by
          induction l with
          | nil => rfl
          | cons x t ih =>
            rw [List.any_cons, List.filter_cons, better_place ha, ih]
            cases decide (placeI (nth rs r) (some a) < placeI (nth rs r) (some x)) <;> rfl
        exact e _
  · rw [decide_eq_false ha]; rfl
theorem row_due {as rs : List (List Int)} {ss : List Int} {m : Ma} {k : Nat} (h0 : ∀ r ∈ as.getD k [], 0 ≤ nthI ss r) : blkRow as rs ss m k = ((aheadL (as.getD k []) (m.getD k none)).filter fun r => goodW rs ss m r k).map fun r => ((k : Int), r) := by
  unfold blkRow
  congr 1
  refine List.filter_congr fun r hr => ?_
  rw [decide_eq_false (ahead_ne hr), wt_good (h0 r (ahead_mem hr))]
  rfl
theorem seat_place {l : List Int} {o : Option Int} (h : ∀ r, o = some r → r ∈ l) : rnk l o = some (placeI l o) := by
  rw [rnk_place]
  cases o with
  | none => rw [if_pos (.inl rfl)]
  | some i => rw [if_pos (.inr (decide_eq_true (h i rfl)))]
theorem good_seat {as : List (List Int)} {m1 m2 : Ma} (l1 : m1.length = as.length) (l2 : m2.length = as.length) (h1 : seatOk as m1) (h2 : seatOk as m2) :
    goodB as m1 m2 = ((List.range as.length).filter fun k => decide (placeI (as.getD k []) (m2.getD k none) < placeI (as.getD k []) (m1.getD k none))).isEmpty := by
  unfold goodB
  have e : ∀ l : List Nat, (∀ i ∈ l, i < as.length) → (l.all fun i => !betterB (as.getD i []) (m2.getD i none) (m1.getD i none)) = (l.filter fun k => decide (placeI (as.getD k []) (m2.getD k none) < placeI (as.getD k []) (m1.getD k none))).isEmpty := fun l hl => by
    induction l with
    | nil => rfl
    | cons i t ih =>
      have hi := hl i List.mem_cons_self
      rw [List.all_cons, List.filter_cons, ih fun j hj => hl j (List.mem_cons_of_mem _ hj)]
      have eb : betterB (as.getD i []) (m2.getD i none) (m1.getD i none) = decide (placeI (as.getD i []) (m2.getD i none) < placeI (as.getD i []) (m1.getD i none)) := by
        unfold betterB
        rw [seat_place (h2 i (by omega)), seat_place (h1 i (by omega))]
        rfl
      rw [eb]
      cases decide (placeI (as.getD i []) (m2.getD i none) < placeI (as.getD i []) (m1.getD i none)) <;> rfl
  exact e _ fun i hi => List.mem_range.mp hi
end PM

/-! The plain law: settled. -/
namespace PM
open PySem PySem.Spec PyProof.Rows L2
theorem range_one (g : Nat) : ∀ n, g < n → (List.range n).filter (fun j => decide (j = g)) = [g]
  | 0, h => absurd h (Nat.not_lt_zero _)
  | n + 1, h => by
    rw [List.range_succ, List.filter_append]
    by_cases e : g = n
    · subst e
      have h0 : (List.range g).filter (fun j => decide (j = g)) = [] := List.filter_eq_nil_iff.mpr fun j hj => by
        have := List.mem_range.mp hj
        simp; omega
      rw [h0]
      simp
    · rw [range_one g n (by omega)]
      have : decide (n = g) = false := decide_eq_false (fun z => e z.symm)
      simp [this]
theorem worst_max (key : Int → Int) {l : List Int} (h : l ≠ []) {y : Int} (hy : y ∈ l) : key y ≤ key (worstI key l) := by
  unfold worstI
  obtain ⟨x, hx, hp⟩ := max_ex key l h
  cases e : l.find? (fun x => l.all fun y => decide (key y ≤ key x)) with
  | none => exact absurd hp (List.find?_eq_none.mp e x hx)
  | some z =>
    have hz := List.find?_some e
    exact of_decide_eq_true (List.all_eq_true.mp hz y hy)
def goneJ (rs : List (List Int)) (ss : List Int) (m : Ma) (k : Nat) (r : Int) : List Nat := (List.range m.length).filter fun j => !decide (j = k) && !decide ((settL rs ss m k r).getD j none = m.getD j none)
section
variable {rs : List (List Int)} {ss : List Int} {m : Ma} {k : Nat} {r : Int}
theorem settM_len : (settM rs ss m r).length = m.length := by
  unfold settM
  split
  · exact List.length_set
  · rfl
theorem sett_len : (settL rs ss m k r).length = m.length := by
  unfold settL
  rw [List.length_set, settM_len]
theorem sett_k (hk : k < m.length) : (settL rs ss m k r).getD k none = some r := by
  unfold settL
  rw [List.getD_eq_getElem?_getD, show ((k : Int)).toNat = k by omega, List.getElem?_set_self (by rw [settM_len]; exact hk)]
  rfl
theorem sett_ne {j : Nat} (hj : j ≠ k) : (settL rs ss m k r).getD j none = (settM rs ss m r).getD j none := by
  unfold settL
  rw [List.getD_eq_getElem?_getD, List.getD_eq_getElem?_getD, show ((k : Int)).toNat = k by omega, List.getElem?_set_ne (Ne.symm hj)]
theorem gone_nil (h : ¬ nthI ss r ≤ ((thoseL m r).length : Int)) : goneJ rs ss m k r = [] := by
  unfold goneJ
  refine List.filter_eq_nil_iff.mpr fun j _ => ?_
  by_cases hj : j = k
  · rw [decide_eq_true hj]; simp
  · rw [sett_ne hj]
    unfold settM
    rw [if_neg h]
    simp
theorem gone_one (h : nthI ss r ≤ ((thoseL m r).length : Int)) (hs : 0 < nthI ss r) (hk : m.getD k none ≠ some r) :
    goneJ rs ss m k r = [(goneI rs m r).toNat] ∧ m.getD (goneI rs m r).toNat none = some r ∧ (settL rs ss m k r).getD (goneI rs m r).toNat none = none ∧ (goneI rs m r).toNat < m.length ∧ ((goneI rs m r).toNat : Int) = goneI rs m r ∧ (goneI rs m r).toNat ≠ k := by
  have hne : thoseL m r ≠ [] := fun e => by rw [e] at h; simp at h; omega
  obtain ⟨hi, hr⟩ := those_ix (gone_mem (rs := rs) hne)
  have hr : m.getD (goneI rs m r).toNat none = some r := hr
  have hgk : (goneI rs m r).toNat ≠ k := fun e => hk (by rw [← e]; exact hr)
  have hlt : (goneI rs m r).toNat < m.length := by have := hi.1; have := hi.2; omega
  have sm : settM rs ss m r = m.set (goneI rs m r).toNat none := by unfold settM; rw [if_pos h]
  have ag : (settL rs ss m k r).getD (goneI rs m r).toNat none = none := by
    rw [sett_ne hgk, sm, List.getD_eq_getElem?_getD, List.getElem?_set_self hlt]
    rfl
  refine ⟨?_, hr, ag, hlt, by have := hi.1; omega, hgk⟩
  unfold goneJ
  rw [← range_one (goneI rs m r).toNat m.length hlt]
  refine List.filter_congr fun j hj => ?_
  by_cases hjg : j = (goneI rs m r).toNat
  · subst hjg
    rw [ag, hr, decide_eq_false hgk, decide_eq_true rfl]
    rfl
  · rw [decide_eq_false hjg]
    by_cases hjk : j = k
    · rw [decide_eq_true hjk]; rfl
    · rw [sett_ne hjk, sm, List.getD_eq_getElem?_getD, List.getElem?_set_ne (Ne.symm hjg), ← List.getD_eq_getElem?_getD, decide_eq_true rfl, decide_eq_false hjk]
      rfl
/-- no one seated there, listed, is placed behind the one that goes -/
theorem gone_worst (hne : thoseL m r ≠ []) (hg : goneI rs m r ∈ nth rs r) {j : Int} (hj : j ∈ thoseL m r) : ¬ placeI (nth rs r) (some (goneI rs m r)) < placeI (nth rs r) (some j) := by
  have hb : badL rs m r = [] := by
    cases e : badL rs m r with
    | nil => rfl
    | cons a t =>
      exfalso
      have eg : goneI rs m r = a := by
        unfold goneI
        rw [e]
        rfl
      have : a ∈ badL rs m r := by rw [e]; exact List.mem_cons_self
      have := (List.mem_filter.mp this).2
      rw [eg] at hg
      rw [decide_eq_true hg] at this
      cases this
  have all_in : ∀ x ∈ thoseL m r, x ∈ nth rs r := fun x hx => by
    cases hd : decide (x ∈ nth rs r) with
    | true => exact of_decide_eq_true hd
    | false =>
      have : x ∈ badL rs m r := List.mem_filter.mpr ⟨hx, by rw [hd]; rfl⟩
      rw [hb] at this
      cases this
  have he : listedL (nth rs r) (thoseL m r) = thoseL m r := List.filter_eq_self.mpr fun x hx => decide_eq_true (all_in x hx)
  have eg : goneI rs m r = worstI (late (nth rs r)) (thoseL m r) := by
    unfold goneI
    rw [hb, he]
    rfl
  have lt : ∀ x ∈ nth rs r, late (nth rs r) x = placeI (nth rs r) (some x) := fun x hx => by
    unfold late
    rw [look_idx hx, place_mem hx]
    rfl
  have := worst_max (late (nth rs r)) hne hj
  rw [← eg, lt j (all_in j hj), lt _ hg] at this
  omega
end
end PM

/-! law: its last statements. -/
namespace PM
open PySem PySem.Spec PyProof.Rows L2
abbrev N_law : List Str := ["_law_script", "_law_dice_here", "_law_many", "_law_rooms", "_law_lists", "_law_orders", "_law_seats", "_law_market_here", "_law_match", "_law_left", "_law_k", "_law_room", "_law_wrong", "_law_due", "_law_ahead", "_law_inside", "_law_worse", "_law_good", "_law_after", "_law_gone", "_law_guesses", "_law_other", "_law_j", "_law_turn"]
theorem sc_law : FnScope N_law ["_law_script"] (defScope s_law) := ⟨rfl, rfl, rfl, by decide +kernel, rfl, by decide +kernel, by decide +kernel⟩
abbrev lawBody : List Stmt := match defBody s_law with
  | .For _ _ b _ _ :: _ => b
  | _ => []
structure LawD (Θ : Th) (b1 b2 b3 : Addr) : Prop where
  roll : DfnD Θ "_law_roll" 1 1 R_roll
  market : DfnD Θ "_law_market" 3 2 R_market
  seated : DfnD Θ "_law_seated" 2 2 R_seated
  rounds : Dfn Θ "_law_rounds" 2 2 R_rounds NoX
  place : Dfn Θ "_law_place" 1 2 R_place NoX
  flat : Dfn Θ "_law_flat" 1 1 R_flat NoX
  part1 : Dfn Θ "_law_part1" 5 4 R_part1 NoX
  cases1 : Dfn Θ "_law_cases1" 11 5 R_c1 NoX
  unw : Dfn Θ "unwanted" 3 2 R_unw NoX
  cm : Dfn Θ "check_match" 2 2 R_cm (X_cm b3)
  fill : Dfn Θ "filled" 2 2 R_fill NoX
  wt : Dfn Θ "would_take" 4 4 R_wt NoX
  those : Dfn Θ "those_in" 1 2 R_those NoX
  blk : Dfn Θ "blocks" 5 2 R_blk NoX
  st : Dfn Θ "is_stable" 6 2 R_st NoX
  sett : Dfn Θ "settled" 4 3 R_sett NoX
  good : Dfn Θ "as_good" 4 3 R_good NoX
  mkt : Mkr Θ "Market" Θ.CM 5 3 R_mi (X_mi b2 b1)
  likes : Mth Θ Θ.CM "likes" 2 3 R_likes NoX
  pairs : Mth Θ Θ.CM "pairs" 2 1 R_prs NoX
  size : Mth Θ Θ.CM "size" 1 1 R_size NoX
  wl : Mth Θ Θ.CM "with_list" 7 3 R_wl NoX
  ws : Mth Θ Θ.CM "with_seats" 7 3 R_ws (X_ws b2)
  wo : Mth Θ Θ.CM "with_order" 7 3 R_wo NoX
  shown : Mth Θ Θ.CM "shown" 1 1 R_shown NoX
/-- what holds of a market, a match, the seats left -/
structure LF (as rs : List (List Int)) (ss : List Int) (m : Ma) (ls : List Int) : Prop where
  mok : MkOk as rs ss
  a0 : 0 < as.length
  r0 : 0 < rs.length
  s0 : ∀ s ∈ ss, 0 ≤ s
  mt : MtOk as rs m
  ll : ls.length = rs.length
  lf : ∀ r, r < rs.length → 0 ≤ ls.getD r 0 ∧ ls.getD r 0 + ((thoseL m r).length : Int) = ss.getD r 0
theorem plain_dLs (l : List (List Int)) : (dLs l).all (D.plain 2) = true := by
  unfold dLs
  rw [List.all_map, List.all_eq_true]
  intro x _
  exact plain_ints 1 x
theorem plain_shown (as rs : List (List Int)) (ss : List Int) : D.plain 4 (dShown as rs ss) = true := by
  unfold dShown
  have h1 : D.plain 3 (.tup (dLs as)) = true := plain_dLs as
  have h2 : D.plain 3 (.tup (dLs rs)) = true := plain_dLs rs
  have h3 : D.plain 3 (.tup (ss.map .int)) = true := plain_ints 2 ss
  show ([D.tup (dLs as), .tup (dLs rs), .tup (ss.map .int)]).all (D.plain 3) = true
  rw [List.all_cons, List.all_cons, List.all_cons, h1, h2, h3]
  rfl
theorem set0 {α : Type} (l : List α) (x : α) (h : 0 < l.length) : l.set 0 x = x :: l.drop 1 := by
  cases l with
  | nil => exact absurd h (Nat.lt_irrefl 0)
  | cons a t => rfl
section
variable {Θ : Th} {f : Addr} {cdv : Value} {A : Around} {outer : List Env} {s : Shared} {H : Hp} {E : XK} {b1 b2 b3 : Addr} {as rs : List (List Int)} {ss ls : List Int} {m : Ma} {x9 x10 x11 x12 x13 x14 x15 x16 x17 x18 x19 x20 x21 x22 x23 : SD}
abbrev XL (Θ : Th) (f : Addr) (cdv : Value) (A : Around) (outer : List Env) (s : Shared) (H : Hp) (E : XK) : Cx := cxP Θ N_law "law" (defScope s_law) f cdv A outer s H E
abbrev SL (Θ : Th) (f : Addr) (cdv : Value) (A : Around) (outer : List Env) (s : Shared) (H : Hp) (E : XK) (st : List Stmt) (δ : List SD) : Prop := SV Θ (XL Θ f cdv A outer s H E) st δ (fun _ => True) (· = .bl true) (fun _ => False)
/-- the slots -/
abbrev dL (as rs : List (List Int)) (ss : List Int) (m : Ma) (x9 x10 x11 x12 x13 x14 x15 x16 x17 x18 x19 x20 x21 x22 x23 : SD) : List SD :=
  [.no, .dc, .im (.int (as.length : Int)), .im (.int (rs.length : Int)), .im (.lst (as.map dF)), .im (.lst (rs.map dF)), .im (.lst (ss.map .int)), .im (.mkt as rs ss), .im (.ftu (m.map optD)), x9, x10, x11, x12, x13, x14, x15, x16, x17, x18, x19, x20, x21, x22, x23]
theorem xoL : XOk Θ (XL Θ f cdv A outer s H E) := xo_cx (Θ := Θ) (qual := "law") (f := f) (cd := cdv) (A := A) (outer := outer) (s := s) (H := H) (E := E) sc_law
theorem law18 (T : Tx Θ) (W : LawD Θ b1 b2 b3) (hr : Room 11 (XL Θ f cdv A outer s H E).A) (lf : LF as rs ss m ls) :
    SL Θ f cdv A outer s H E (lawBody.drop 18) (dL as rs ss m x9 x10 x11 x12 x13 x14 x15 x16 x17 x18 x19 x20 x21 x22 x23) := by
  refine sv_ifRet (k := false) ?_ (fun h => nomatch h) fun _ => sv_nil trivial
  exact (et_not (et_val (k := true) (ev_call xoL W.cases1 hr (by decide) rfl (ea_c (v 7) (ea_c (v 8) (ea_c (v 4) (ea_c (v 5) (ea_c (v 6) ea_nil))))) ⟨as, rs, ss, m, rfl, lf.mok, lf.mt.len, lf.a0, lf.r0, rfl⟩)))
theorem law17 (T : Tx Θ) (W : LawD Θ b1 b2 b3) (hr : Room 11 (XL Θ f cdv A outer s H E).A) (lf : LF as rs ss m ls) :
    SL Θ f cdv A outer s H E (lawBody.drop 17) (dL as rs ss m x9 x10 x11 x12 x13 x14 x15 x16 x17 x18 x19 x20 (.im (.mkt (as.set 0 [0]) (rs.set 0 [0]) (ss.set 0 5))) x22 x23) := by
  have la := lf.mok.la
  have lr := lf.mok.lr
  have ls := lf.mok.ls
  refine sv_ifRet (k := false) (et_w (ew_or (k := false) (m := false) ?_ fun _ => ew_or1 ?_)) (fun h => nomatch h) fun _ => law18 T W hr lf
  · refine tst2 (da := dShown (as.set 0 [0]) (rs.set 0 [0]) (ss.set 0 5)) (db := dShown (as.set 0 [0]) (rs.set 0 [0]) (ss.set 0 5)) (op_neD (by have := hr.units; exact this)) (ev_meth0 xoL W.shown hr (by decide) (v 21) noFld_mkt ⟨_, _, _, rfl, by rw [List.length_set]; exact la, by rw [List.length_set]; exact lr, rfl⟩) ?_ (opd_neD (n := 4) (plain_shown _ _ _))
    rw [set0 as _ lf.a0, set0 rs _ lf.r0, set0 ss _ (by have := lf.r0; omega)]
    refine ev_tup (ea_c (d := .tup (dLs ([0] :: as.drop 1))) ((bin2 (da := .tup [.tup [.int 0]]) (db := .tup (dLs (as.drop 1))) op_catA (ev_tup (ea_c (ev_tup (ea_c ev_int ea_nil)) ea_nil)) (tupL T (EV.thawL ((ev_from (n := ((1 : Nat) : Int)) sl_list (v 4) ev_int sld_fromL).eq (by rw [List.map_drop])))) (opd_catT (by rw [dLs_len, List.length_drop]; show 1 + _ ≤ _; omega))).eq rfl)
      (ea_c (d := .tup (dLs ([0] :: rs.drop 1))) ((bin2 (da := .tup [.tup [.int 0]]) (db := .tup (dLs (rs.drop 1))) op_catA (ev_tup (ea_c (ev_tup (ea_c ev_int ea_nil)) ea_nil)) (tupL T (EV.thawL ((ev_from (n := ((1 : Nat) : Int)) sl_list (v 5) ev_int sld_fromL).eq (by rw [List.map_drop])))) (opd_catT (by rw [dLs_len, List.length_drop]; show 1 + _ ≤ _; omega))).eq rfl)
      (ea_c (d := .tup ((5 :: ss.drop 1).map .int)) ((bin2 (da := .tup [.int 5]) (db := .tup ((ss.drop 1).map .int)) op_catA (ev_tup (ea_c ev_int ea_nil)) (tupL T ((ev_from (n := ((1 : Nat) : Int)) sl_list (v 6) ev_int sld_fromL).eq (by rw [List.map_drop]))) (opd_catT (by rw [List.length_map, List.length_drop]; show 1 + _ ≤ _; omega))).eq rfl) ea_nil)))
  · exact tst2 (da := dShown as rs ss) (db := dShown as rs ss) (op_neD (by have := hr.units; exact this)) (ev_meth0 xoL W.shown hr (by decide) (v 7) noFld_mkt ⟨_, _, _, rfl, la, lr, rfl⟩) (ev_tup (ea_c (tupL T (v 4).thawL) (ea_c (tupL T (v 5).thawL) (ea_c (tupL T (v 6)) ea_nil)))) (opd_neD (n := 4) (plain_shown _ _ _))
end
end PM

/-! law: statements 11 to 16. -/
namespace PM
open PySem PySem.Spec PyProof.Rows L2
section
variable {Θ : Th} {f : Addr} {cdv : Value} {A : Around} {outer : List Env} {s : Shared} {H : Hp} {E : XK} {b1 b2 b3 : Addr} {as rs : List (List Int)} {ss ls : List Int} {m : Ma} {x9 x10 x11 x12 x13 x14 x15 x16 x17 x18 x19 x20 x21 x22 x23 : SD}
theorem law16 (T : Tx Θ) (W : LawD Θ b1 b2 b3) (hr : Room 11 (XL Θ f cdv A outer s H E).A) (lf : LF as rs ss m ls) :
    SL Θ f cdv A outer s H E (lawBody.drop 16) (dL as rs ss m x9 x10 x11 x12 x13 x14 x15 x16 x17 x18 x19 x20 x21 x22 x23) := by
  have la := lf.mok.la
  have lr := lf.mok.lr
  have lls := lf.mok.ls
  have a0 := lf.a0
  have r0 := lf.r0
  have ok1 : okL [0] rs.length := ⟨by decide, fun i hi => by rw [List.mem_singleton.mp hi]; omega⟩
  have ok2 : okL [0] (as.set 0 [0]).length := ⟨by decide, fun i hi => by rw [List.mem_singleton.mp hi, List.length_set]; omega⟩
  have m1 : MkOk (as.set 0 [0]) rs ss := lf.mok.setA ok1 (by decide)
  have m2 : MkOk (as.set 0 [0]) rs (ss.set 0 5) := m1.setS
  have s1 : ∀ z ∈ ss.set 0 5, 0 ≤ z := fun z hz => by
    rcases List.mem_or_eq_of_mem_set hz with h | h
    · exact lf.s0 z h
    · omega
  refine set1 (d := .mkt (as.set 0 [0]) (rs.set 0 [0]) (ss.set 0 5)) 21 xoL (ev_meth xoL W.wo hr (by decide) (ds0 := .mkt (as.set 0 [0]) rs (ss.set 0 5)) (ev_meth xoL W.ws hr (by decide) (ds0 := .mkt (as.set 0 [0]) rs ss) (ev_meth xoL W.wl hr (by decide) (v 7) noFld_mkt (ea_c ev_int (ea_c (ev_tup (ea_c ev_int ea_nil)) ea_nil)) ⟨as, rs, ss, 0, [0], rfl, ⟨by decide, by omega⟩, lf.mok, lf.s0, ok1, by decide, rfl⟩) noFld_mkt (ea_c ev_int (ea_c ev_int ea_nil)) ⟨_, _, _, 0, 5, rfl, ⟨by decide, by omega⟩, m1, lf.s0, by decide, rfl⟩) noFld_mkt (ea_c ev_int (ea_c (ev_tup (ea_c ev_int ea_nil)) ea_nil)) ⟨_, _, _, 0, [0], rfl, ⟨by decide, by omega⟩, m2, s1, ok2, by decide, rfl⟩) ?_
  exact law17 T W hr lf
theorem prs_rows (as rs : List (List Int)) : ((List.range as.length).map (prsRow as rs)).flatten = pairsL as rs := rfl
theorem law15 (T : Tx Θ) (W : LawD Θ b1 b2 b3) (hr : Room 11 (XL Θ f cdv A outer s H E).A) (lf : LF as rs ss m ls) :
    SL Θ f cdv A outer s H E (lawBody.drop 15) (dL as rs ss m x9 x10 x11 x12 x13 x14 x15 x16 x17 x18 x19 x20 x21 x22 x23) := by
  have la := lf.mok.la
  have lr := lf.mok.lr
  refine sv_ifRet (k := false) (et_w (ew_or (k := false) (m := false) ?_ fun _ => ew_or1 ?_)) (fun h => nomatch h) fun _ => law16 T W hr lf
  · refine tst2 (da := .tup ((pairsL as rs).map dPr)) (db := .tup ((pairsL as rs).map dPr)) (op_neD (by have := hr.units; exact this)) (ev_meth0 xoL W.pairs hr (by decide) (v 7) noFld_mkt ⟨_, _, _, rfl, lf.mok, rfl⟩) (tupL T ?_) (opd_neD (n := 2) (by exact plain_pr _))
    refine (ev_call xoL W.flat hr (by decide) rfl (ea_c (lc1f (n := as.length) (b := fun i => .int (i : Int)) (kp := fun _ => true) (f := fun i => dPrs (prsRow as rs i)) 10 xoL (ei_range rfl T.range (v 2) (by omega)) (blkOk_by (N := N_law) (sc := defScope s_law) (by decide +kernel)) (by omega)
      (fun i hi s H C cl fp xb => ets_nil) fun i hi _ s2 H2 C cl fp xb => ?_) ea_nil) ⟨(List.range as.length).map (prsRow as rs), ?_, by rw [List.length_map, List.length_range]; exact la, fun r hr => ?_, rfl⟩)
    · have e1 : (as.map dF)[i]? = some (dF (as.getD i [])) := by rw [List.getElem?_map, get_getD as [] hi]; rfl
      have nl : ((as.getD i []).map D.int).length = (as.getD i []).length := List.length_map _
      have at_ : ∀ j, j < ((as.getD i []).map D.int).length → ((as.getD i []).map D.int).getD j .non = .int ((as.getD i []).getD j 0) := fun j hj => getD_map _ 0 D.int (by rw [← nl]; exact hj)
      have hmk := lf.mok.a _ (getD_mem as [] hi)
      refine (lc1f (n := ((as.getD i []).map D.int).length) (b := fun j => ((as.getD i []).map D.int).getD j .non) (kp := fun j => decide ((i : Int) ∈ nth rs ((as.getD i []).getD j 0))) (f := fun j => dPr ((i : Int), (as.getD i []).getD j 0)) 11 xb (ei_tup (ixL (d := dF (as.getD i [])) (v 4) (v 10) rfl e1).thaw) (blkOk_by (N := N_law) (sc := relS _ (defScope s_law)) (by decide +kernel)) (by rw [nl]; have := hmk.2; omega)
        (fun j hj s H C cl fp xc => ?_) fun j hj _ s H C cl fp xc => ev_tup (ea_c (v 10) (ea_c ((v 11).eq (at_ j hj)) ea_nil))).eq ?_
      · have hlt : j < (as.getD i []).length := by rw [← nl]; exact hj
        have hix := hmk.1.2 _ (getD_mem (as.getD i []) 0 hlt)
        refine ets_one ((tInO (o := some (i : Int)) (l := nth rs ((as.getD i []).getD j 0)) (v 10) (ixL (d := dF (nth rs ((as.getD i []).getD j 0))) (j := ((as.getD i []).getD j 0).toNat) (v 5) ((v 11).eq (at_ j hj)) (by omega) ?_).thaw).eq rfl)
        rw [List.getElem?_map, get_getD rs [] (by omega)]
        rfl
      · rw [nl, filter_range_get (as.getD i []) 0 (fun r => decide ((i : Int) ∈ nth rs r)) fun r => dPr ((i : Int), r)]
        unfold dPrs prsRow
        rw [List.map_map]
        rfl
    · rw [List.filter_eq_self.mpr fun _ _ => rfl, List.map_map]
      rfl
    · obtain ⟨i, hi, rfl⟩ := List.mem_map.mp hr
      exact prsRow_len lf.mok (List.mem_range.mp hi)
  · exact tst2 (op_neD (by have := hr.units; exact this)) (ev_meth0 xoL W.size hr (by decide) (v 7) noFld_mkt ⟨_, _, _, rfl, rfl⟩) (v 2) (opd_neD (n := 1) rfl)
end
end PM

/-! law: statements 11 to 14. -/
namespace PM
open PySem PySem.Spec PyProof.Rows L2
section
variable {Θ : Th} {f : Addr} {cdv : Value} {A : Around} {outer : List Env} {s : Shared} {H : Hp} {E : XK} {b1 b2 b3 : Addr} {as rs : List (List Int)} {ss ls : List Int} {m : Ma} {x9 x10 x11 x12 x13 x14 x15 x16 x17 x18 x19 x20 x21 x22 x23 : SD}
theorem poL : PassesOwn (model Θ.P Θ.w) (XL Θ f cdv A outer s H E).A (XL Θ f cdv A outer s H E).env (XL Θ f cdv A outer s H E).xe := passes_of rfl
theorem law14 (T : Tx Θ) (W : LawD Θ b1 b2 b3) (hr : Room 11 (XL Θ f cdv A outer s H E).A) (lf : LF as rs ss m ls) :
    SL Θ f cdv A outer s H E (lawBody.drop 14) (dL as rs ss m x9 x10 x11 x12 x13 x14 x15 x16 x17 x18 x19 x20 x21 x22 x23) := by
  have la := lf.mok.la
  have lr := lf.mok.lr
  refine sv_for (n := rs.length) (g := gName 11) (bd := fun i => [(11, .int (i : Int))]) xoL poL (ei_range rfl T.range (v 3) (by omega)) (pg_name xoL.nd rfl (.inr rfl)) (fun k δ' => ∃ y, δ' = dL as rs ss m x9 x10 y x12 x13 x14 x15 x16 x17 x18 x19 x20 x21 x22 x23) ⟨x11, rfl⟩ ?_ ?_
  · rintro q δ' hq ⟨y, rfl⟩
    refine sv_ifRet (k := false) ?_ (fun h => nomatch h) fun _ => sv_nil ⟨_, rfl⟩
    refine tst2 (da := .lst []) (db := .lst []) (op_neD (by have := hr.units; exact this)) ((lc1f (n := as.length) (b := fun i => .int (i : Int)) (kp := fun _ => false) (f := fun i => .int (i : Int)) 10 xoL (ei_range rfl T.range (v 2) (by omega)) (blkOk_by (N := N_law) (sc := defScope s_law) (by decide +kernel)) (by omega)
      (fun i hi s2 H2 C cl fp xb => ets_one ?_) fun i hi hf s2 H2 C cl fp xb => nomatch hf).eq ?_) (ev_lst ea_nil) (opd_neL (n := 1) rfl)
    · have e1 : (as.map dF)[i]? = some (dF (as.getD i [])) := by rw [List.getElem?_map, get_getD as [] hi]; rfl
      have e2 : (rs.map dF)[q]? = some (dF (rs.getD q [])) := by rw [List.getElem?_map, get_getD rs [] hq]; rfl
      refine (tst2 (da := .bl (likesB as rs i q)) (db := .bl (likesB as rs i q)) op_ne (ev_meth xb W.likes hr (by decide) (v 7) noFld_mkt (ea_c (v 10) (ea_c (v 11) ea_nil)) ⟨as, rs, ss, i, q, rfl, ix_nat hi, ix_nat hq, rfl⟩)
        ((ev_and (k := decide ((q : Int) ∈ as.getD i [])) (m := decide ((i : Int) ∈ rs.getD q [])) (eInO (o := some (q : Int)) (v 11) (ixL (d := dF (as.getD i [])) (v 4) (v 10) rfl e1).thaw) fun _ => ev_one (eInO (o := some (i : Int)) (v 10) (ixL (d := dF (rs.getD q [])) (v 5) (v 11) rfl e2).thaw)).eq ?_) opd_neB).eq (by simp)
      unfold likesB
      rw [nth_nat, nth_nat]
    · rw [show (List.range as.length).filter (fun _ => false) = [] from List.filter_eq_nil_iff.mpr fun _ _ h => Bool.noConfusion h]
      rfl
  · rintro δ' ⟨y, rfl⟩
    exact law15 T W hr lf
theorem law13 (T : Tx Θ) (W : LawD Θ b1 b2 b3) (hr : Room 11 (XL Θ f cdv A outer s H E).A) (lf : LF as rs ss m ls) {g1 g2 : Ma} (l1 : g1.length = as.length) (l2 : g2.length = as.length) (h1 : seatOk as g1) (h2 : seatOk as g2) :
    SL Θ f cdv A outer s H E (lawBody.drop 13) (dL as rs ss m x9 x10 x11 x12 x13 x14 x15 x16 x17 x18 x19 (.im (.lst [.tup (g1.map optD), .tup (g2.map optD)])) x21 x22 x23) := by
  have la := lf.mok.la
  refine sv_ifRet (k := false) ?_ (fun h => nomatch h) fun _ => law14 T W hr lf
  refine (tst2 (da := .bl (goodB as g1 g2)) (db := .bl (goodB as g1 g2)) op_ne (ev_call xoL W.good hr (by decide) rfl (ea_c (v 7) (ea_c (ixL (j := 0) (v 20) ev_int rfl rfl) (ea_c (ixL (j := 1) (v 20) ev_int rfl rfl) ea_nil))) ⟨as, rs, ss, g1, g2, rfl, l1, l2, rfl⟩)
    ((cmp2 (db := .lst []) (op_eqD (by have := hr.units; exact this)) ((lc1f (n := as.length) (b := fun i => .int (i : Int)) (kp := fun k => decide (placeI (as.getD k []) (g2.getD k none) < placeI (as.getD k []) (g1.getD k none))) (f := fun i => .int (i : Int)) 10 xoL (ei_range rfl T.range (v 2) (by omega)) (blkOk_by (N := N_law) (sc := defScope s_law) (by decide +kernel)) (by omega)
      (fun i hi s2 H2 C cl fp xb => ets_one ?_) fun i hi hf s2 H2 C cl fp xb => v 10).eq (d' := .lst ((((List.range as.length).filter fun k => decide (placeI (as.getD k []) (g2.getD k none) < placeI (as.getD k []) (g1.getD k none))).map fun i : Nat => (i : Int)).map .int)) (by rw [List.map_map]; rfl)) (ev_lst ea_nil) (opd_nilL _)).eq ?_) opd_neB).eq (by simp)
  · have e1 : (as.map dF)[i]? = some (dF (as.getD i [])) := by rw [List.getElem?_map, get_getD as [] hi]; rfl
    have e2 : (g1.map optD)[i]? = some (optD (g1.getD i none)) := by rw [List.getElem?_map, get_getD g1 none (by omega)]; rfl
    have e3 : (g2.map optD)[i]? = some (optD (g2.getD i none)) := by rw [List.getElem?_map, get_getD g2 none (by omega)]; rfl
    exact tst2 op_gt (ev_call xb W.place hr (by decide) rfl (ea_c (ixL (d := dF (as.getD i [])) (v 4) (v 10) rfl e1) (ea_c (ixT (ixL (j := 0) (v 20) ev_int rfl rfl) (v 10) rfl e2) ea_nil)) ⟨_, _, rfl, rfl⟩)
      (ev_call xb W.place hr (by decide) rfl (ea_c (ixL (d := dF (as.getD i [])) (v 4) (v 10) rfl e1) (ea_c (ixT (ixL (j := 1) (v 20) ev_int rfl rfl) (v 10) rfl e3) ea_nil)) ⟨_, _, rfl, rfl⟩) (opd_I0 rfl)
  · rw [good_seat l1 l2 h1 h2, List.isEmpty_map]
theorem law12 (T : Tx Θ) (W : LawD Θ b1 b2 b3) (hr : Room 11 (XL Θ f cdv A outer s H E).A) (lf : LF as rs ss m ls) :
    SL Θ f cdv A outer s H E (lawBody.drop 12) (dL as rs ss m x9 x10 x11 x12 x13 x14 x15 x16 x17 x18 x19 x20 x21 x22 x23) := by
  have la := lf.mok.la
  have lr := lf.mok.lr
  have lls := lf.mok.ls
  refine sv_set (i := 20) xoL rfl (.inr rfl) (lc1 (n := 2) (b := fun i => .int (i : Int)) (kp := fun _ => true) (PL := fun _ d => isSeated as d) 23 xoL (ei_range rfl T.range ev_int (by omega)) (blkOk_by (N := N_law) (sc := defScope s_law) (by decide +kernel)) (by omega) (fun i hi s H C cl fp xb => ets_nil)
    fun i hi _ s H C cl fp xb => ev_callD xb W.seated hr (by decide) rfl (i := 1) rfl rfl (by first | exact Or.inl rfl | exact Or.inr (Or.inl rfl) | exact Or.inr (Or.inr rfl)) (ea_c (v 4) (ea_c (v 6) ea_nil)) ⟨as, ss, rfl, la, by omega, fun l hl => by rw [lls]; exact lf.mok.a l hl, rfl⟩) fun d ⟨l, e, al⟩ => ?_
  subst e
  obtain ⟨xs, rfl, hl, hq⟩ := accR_map (F := fun m : Ma => D.tup (m.map optD)) (Qa := fun m => m.length = as.length ∧ seatOk as m) (fun i d h => by obtain ⟨m, e, h⟩ := h; exact ⟨m, e, h⟩) al
  match xs, hl with
  | [g1, g2], _ =>
    have q1 := hq g1 (by simp)
    have q2 := hq g2 (by simp)
    exact law13 T W hr lf q1.1 q2.1 q1.2 q2.2
theorem law11 (T : Tx Θ) (W : LawD Θ b1 b2 b3) (hr : Room 11 (XL Θ f cdv A outer s H E).A) (lf : LF as rs ss m ls) :
    SL Θ f cdv A outer s H E (lawBody.drop 11) (dL as rs ss m x9 x10 x11 x12 x13 x14 x15 x16 x17 x18 x19 x20 x21 x22 x23) := by
  refine sv_ifRet (k := false) ?_ (fun h => nomatch h) fun _ => law12 T W hr lf
  exact et_not (et_val (k := true) (ev_call xoL W.part1 hr (by decide) rfl (ea_c (v 4) (ea_c (v 2) (ea_c (v 7) (ea_c (v 8) ea_nil)))) ⟨as, rs, ss, m, rfl, lf.mok.la, lf.mt.len, rfl⟩))
end
end PM

/-! law: statement 10, settled. -/
namespace PM
open PySem PySem.Spec PyProof.Rows L2
theorem gone_facts {as rs : List (List Int)} {ss ls : List Int} {m : Ma} (lf : LF as rs ss m ls) {k : Nat} {r : Int} (hk : k < as.length) (hr : Ix rs r) (hs : 0 < nthI ss r) (hm : m.getD k none ≠ some r) :
    (goneJ rs ss m k r).length ≤ 1 ∧ (∀ j ∈ goneJ rs ss m k r, m.getD j none = some r ∧ (settL rs ss m k r).getD j none = none ∧ j < m.length) ∧ (!(goneJ rs ss m k r).isEmpty) = decide (ls.getD r.toNat 0 = 0) ∧
    (∀ g ∈ goneJ rs ss m k r, (g : Int) ∈ nth rs r → ∀ j, j < m.length → m.getD j none = some r → ¬ placeI (nth rs r) (some (g : Int)) < placeI (nth rs r) (some (j : Int))) := by
  have hrn : r.toNat < rs.length := by have := hr.1; have := hr.2; omega
  obtain ⟨l0, l1⟩ := lf.lf r.toNat hrn
  have er : ((r.toNat : Nat) : Int) = r := by have := hr.1; omega
  rw [er] at l1
  have en : nthI ss r = ss.getD r.toNat 0 := rfl
  by_cases h : nthI ss r ≤ ((thoseL m r).length : Int)
  · obtain ⟨e, e1, e2, e3, e4, e5⟩ := gone_one (rs := rs) h hs hm
    rw [e]
    refine ⟨by simp, fun j hj => ?_, ?_, fun g hg hgr j hj hjr => ?_⟩
    · rw [List.mem_singleton.mp hj]
      exact ⟨e1, e2, e3⟩
    · rw [decide_eq_true (by omega)]
      rfl
    · rw [List.mem_singleton.mp hg, e4] at hgr ⊢
      have hne : thoseL m r ≠ [] := fun z => by rw [z] at h; simp at h; omega
      refine gone_worst hne hgr ?_
      unfold thoseL
      exact List.mem_map.mpr ⟨j, List.mem_filter.mpr ⟨List.mem_range.mpr hj, decide_eq_true hjr⟩, rfl⟩
  · rw [gone_nil h]
    refine ⟨by simp, (fun j hj => by cases hj), ?_, fun g hg => by cases hg⟩
    rw [decide_eq_false (by omega)]
    rfl
theorem blk_mem {as rs : List (List Int)} {ss ls : List Int} {m : Ma} (lf : LF as rs ss m ls) {p : Int × Int} (h : p ∈ blkL as rs ss m) : ∃ (k : Nat) (r : Int), p = ((k : Int), r) ∧ k < as.length ∧ Ix rs r ∧ 0 < nthI ss r ∧ m.getD k none ≠ some r := by
  unfold blkL at h
  obtain ⟨row, hrow, hp⟩ := List.mem_flatten.mp h
  obtain ⟨k, hk, rfl⟩ := List.mem_map.mp hrow
  have hk := List.mem_range.mp hk
  unfold blkRow at hp
  obtain ⟨r, hr, rfl⟩ := List.mem_map.mp hp
  obtain ⟨h1, h2⟩ := List.mem_filter.mp hr
  have hix := (lf.mok.a _ (getD_mem as [] hk)).1.2 _ (ahead_mem h1)
  rw [Bool.and_eq_true] at h2
  refine ⟨k, r, rfl, hk, hix, ?_, fun e => ahead_ne h1 e.symm⟩
  have h0 : 0 ≤ nthI ss r := by
    unfold nthI
    exact lf.s0 _ (getD_mem ss 0 (by have := lf.mok.ls; have := hix.1; have := hix.2; omega))
  have h3 := h2.2
  rw [wt_good h0] at h3
  unfold goodW at h3
  rw [Bool.and_eq_true, Bool.and_eq_true] at h3
  exact of_decide_eq_true h3.2.1
section
variable {Θ : Th} {X : Cx} {rest : List Stmt} {δ : List SD} {pos : Pos} {N : List SD → Prop} {P : D → Prop} {Ξ : Addr → Prop} {i j : Nat} {e : Expr}
theorem sv_unpack2 {PT : D → D → Prop} {elts : List Expr} {kt : Nat} {pt : Pos} (he : EV Θ X e δ (fun d => ∃ d1 d2, d = .tup [d1, d2] ∧ PT d1 d2)) (hg : PG X (.Tuple elts kt pt) (gTup X.K 2 (gCons (gName i) (gCons (gName j) gNil))))
    (hr : ∀ d1 d2, PT d1 d2 → SV Θ X rest ((δ.set i (.im d1)).set j (.im d2)) N P Ξ) (hs : swapsWithSole [.Tuple elts kt pt] e pos.line X.env = pure false := by rfl) (hw : swappedStores [.Tuple elts kt pt] e X.env = pure none := by rfl)
    (h1 : (assignEach [.Tuple elts kt pt] X.env).map (·.2) = [assign (.Tuple elts kt pt) X.env] := by rfl) : SV Θ X (.Assign [.Tuple elts kt pt] e pos :: rest) δ N P Ξ := fun M G0 H0 G H σ Dn E tk S O q r ex =>
  .of (pss_cons (ps_asg pe_can hg hs hw h1) pss_can) (he M G0 H0 G H σ _ S fun v d G1 H1 S1 g1 r1 p1 => by
    obtain ⟨d1, d2, rfl, pt⟩ := p1
    obtain ⟨a, xs, rfl, e1, q1⟩ := r1.tup_inv
    refine ⟨a, xs, rfl, .inl (e1.gr S1.hs.sub), q1.length, bnd_two q1 fun bv hb => ?_⟩
    exact hr d1 d2 pt M G0 H0 G1 H1 _ Dn E tk (S1.setB hb) (O.setB hb) (fun σ' δ' G' H' S' O' g n => q σ' δ' G' H' S' O' (g1.trans g) n) r ex)
end
section
variable {Θ : Th} {f : Addr} {cdv : Value} {A : Around} {outer : List Env} {s : Shared} {H : Hp} {E : XK} {b1 b2 b3 : Addr} {as rs : List (List Int)} {ss ls : List Int} {m : Ma} {x10 x11 x12 x13 x14 x15 x16 x17 x18 x19 x20 x21 x22 x23 : SD}
theorem opd_nePr {Θ : Th} (l : List (Int × Int)) : OpD Θ (rNeD Θ.K) (.lst (l.map dPr)) (.lst []) (· = .bl (!l.isEmpty)) := opd_to (opd_neL (n := 1) (plain_pr l)) (by rw [List.isEmpty_map])
theorem opd_neJ {Θ : Th} (G : List Nat) : OpD Θ (rNeD Θ.K) (.lst (G.map fun j : Nat => D.int (j : Int))) (.lst []) (· = .bl (!G.isEmpty)) := opd_to (opd_neL (n := 1) (by rw [List.all_map, List.all_eq_true]; intro j _; rfl)) (by rw [List.isEmpty_map])
theorem law10 (T : Tx Θ) (W : LawD Θ b1 b2 b3) (hr : Room 11 (XL Θ f cdv A outer s H E).A) (lf : LF as rs ss m ls) (hb : (blkL as rs ss m).length ≤ 900) :
    SL Θ f cdv A outer s H E (lawBody.drop 10) (dL as rs ss m (.mu (ls.map .int)) x10 x11 x12 (.im (.lst ((blkL as rs ss m).map dPr))) x14 x15 x16 x17 x18 x19 x20 x21 x22 x23) := by
  have la := lf.mok.la
  have lr := lf.mok.lr
  have lm := lf.mt.len
  refine sv_if (k := !(blkL as rs ss m).isEmpty) (N1 := fun δ' => ∃ y10 y11 y18 y19, δ' = dL as rs ss m (.mu (ls.map .int)) y10 y11 x12 (.im (.lst ((blkL as rs ss m).map dPr))) x14 x15 x16 x17 y18 y19 x20 x21 x22 x23) ?_ (fun h => ?_) (fun h => sv_nil ⟨_, _, _, _, rfl⟩) fun δ' ⟨y10, y11, y18, y19, e⟩ => by
    subst e
    exact law11 T W hr lf
  · exact tst2 (op_neD (by have := hr.units; exact this)) (v 13) (ev_lst ea_nil) (opd_nePr _)
  · have hne : 0 < (blkL as rs ss m).length := by
      cases e : blkL as rs ss m with
      | nil => rw [e] at h; cases h
      | cons a t => exact Nat.succ_pos _
    refine sv_unpack2 (i := 10) (j := 11) (PT := fun d1 d2 => ∃ (k : Nat) (r : Int), d1 = .int (k : Int) ∧ d2 = .int r ∧ k < as.length ∧ Ix rs r ∧ 0 < nthI ss r ∧ m.getD k none ≠ some r) (ev_ixLN (l := (blkL as rs ss m).map dPr) (v 13) (ev_callD xoL W.roll hr (by decide) rfl (i := 1) (P := isThrow ((blkL as rs ss m).length : Int)) rfl rfl (by first | exact Or.inl rfl | exact Or.inr (Or.inl rfl)) (ea_c ((lenL T (v 13)).eq (by rw [List.length_map])) ea_nil) ⟨_, rfl, by omega, by omega, rfl⟩)
      fun d ⟨z, e, z0, z1⟩ => ?_) (pg_tup rfl (pgs_cons (pg_name xoL.nd rfl (.inr rfl)) (pgs_cons (pg_name xoL.nd rfl (.inr rfl)) pgs_nil rfl) rfl) rfl rfl) ?_
    · have hz : z.toNat < (blkL as rs ss m).length := by omega
      have hmem : (blkL as rs ss m)[z.toNat] ∈ blkL as rs ss m := List.getElem_mem hz
      obtain ⟨k, r, ep, q1, q2, q3, q4⟩ := blk_mem lf hmem
      exact ⟨z.toNat, dPr ((k : Int), r), by rw [e, show ((z.toNat : Nat) : Int) = z by omega], by rw [List.getElem?_map, List.getElem?_eq_getElem hz, ep]; rfl, _, _, rfl, k, r, rfl, rfl, q1, q2, q3, q4⟩
    · rintro d1 d2 ⟨k, r, rfl, rfl, hk, hix, hs, hm⟩
      obtain ⟨f1, f2, f3, f4⟩ := gone_facts lf hk hix hs hm
      have hkm : k < m.length := by omega
      refine set1 (d := .tup ((settL rs ss m k r).map optD)) 18 xoL (ev_call xoL W.sett hr (by decide) rfl (ea_c (v 7) (ea_c (v 8).thaw (ea_c (ev_tup (ea_c (v 10) (ea_c (v 11) ea_nil))) ea_nil))) ⟨as, rs, ss, m, k, r, rfl, lf.mok, lf.mt, ix_nat hkm, hix, hs, rfl⟩) ?_
      have lsett : (settL rs ss m k r).length = m.length := sett_len
      refine set1 (d := .lst ((goneJ rs ss m k r).map fun j : Nat => .int (j : Int))) 19 xoL ((lc1f (n := as.length) (b := fun i => .int (i : Int)) (kp := fun j => !decide (j = k) && !decide ((settL rs ss m k r).getD j none = m.getD j none)) (f := fun i => .int (i : Int)) 22 xoL (ei_range rfl T.range (v 2) (by omega)) (blkOk_by (N := N_law) (sc := defScope s_law) (by decide +kernel)) (by omega)
        (fun i hi s2 H2 C cl fp xb => ets_one ?_) fun i hi hf s2 H2 C cl fp xb => v 22).eq (by rw [← lm]; rfl)) ?_
      · have e1 : ((settL rs ss m k r).map optD)[i]? = some (optD ((settL rs ss m k r).getD i none)) := by rw [List.getElem?_map, get_getD (settL rs ss m k r) none (by omega)]; rfl
        have e2 : (m.map optD)[i]? = some (optD (m.getD i none)) := by rw [List.getElem?_map, get_getD m none (by omega)]; rfl
        refine et_w (ew_and (k := !decide (i = k)) (m := !decide ((settL rs ss m k r).getD i none = m.getD i none)) ((tst2 op_ne (v 22) (v 10) opd_neI).eq (by congr 1; exact decide_eq_decide.mpr ⟨fun z => by omega, fun z => by omega⟩)) fun _ => ew_and1 (tst2 op_ne (ixT (v 18) (v 22) rfl e1) (ixT (v 8).thaw (v 22) rfl e2) (opd_neO _ _)))
      · -- the two tests
        have hrn : r.toNat < rs.length := by have := hix.1; have := hix.2; omega
        have ern : r = ((r.toNat : Nat) : Int) := by have := hix.1; omega
        have eo : (rs.map dF)[r.toNat]? = some (dF (nth rs r)) := by rw [List.getElem?_map, get_getD rs [] hrn]; rfl
        have nG : ((goneJ rs ss m k r).map fun j : Nat => D.int (j : Int)).length = (goneJ rs ss m k r).length := List.length_map _
        have atG : ∀ j, j < ((goneJ rs ss m k r).map fun j : Nat => D.int (j : Int)).length → ∃ g ∈ goneJ rs ss m k r, ((goneJ rs ss m k r).map fun j : Nat => D.int (j : Int)).getD j .non = .int (g : Int) := fun j hj => by
          rw [nG] at hj
          exact ⟨(goneJ rs ss m k r)[j], List.getElem_mem hj, by simp [List.getD_eq_getElem?_getD, hj]⟩
        refine sv_ifRet (k := false) (et_w (ew_or (k := false) (m := false) ?_ fun _ => ew_or (k := false) (m := false) ?_ fun _ => ew_or1 ?_)) (fun h => nomatch h) fun _ => ?_
        · have e1 : ((settL rs ss m k r).map optD)[k]? = some (optD (some r)) := by rw [List.getElem?_map, get_getD (settL rs ss m k r) none (by omega), sett_k hkm]; rfl
          exact (tst2 op_ne (ixT (v 18) (v 10) rfl e1) (v 11) (opd_neO (some r) (some r))).eq (by simp)
        · exact (tst2 (da := .int ((goneJ rs ss m k r).length : Int)) (db := .int 1) (k := decide (((goneJ rs ss m k r).length : Int) > 1)) op_gt ((lenL T (v 19)).eq (by rw [nG])) ev_int (opd_I0 rfl)).eq (decide_eq_false (by omega))
        · refine tst2 (da := .lst []) (db := .lst []) (op_neD (by have := hr.units; exact this)) ((lc1f (n := ((goneJ rs ss m k r).map fun j : Nat => D.int (j : Int)).length) (b := fun i => ((goneJ rs ss m k r).map fun j : Nat => D.int (j : Int)).getD i .non) (kp := fun _ => false) (f := fun _ => .non) 22 xoL (ei_list (v 19)) (blkOk_by (N := N_law) (sc := defScope s_law) (by decide +kernel)) (by rw [nG]; omega)
            (fun i hi s2 H2 C cl fp xb => ets_one ?_) fun i hi hf s2 H2 C cl fp xb => Bool.noConfusion hf).eq ?_) (ev_lst ea_nil) (opd_neL (n := 1) rfl)
          · obtain ⟨g, hg, eg⟩ := atG i hi
            obtain ⟨g1, g2, g3⟩ := f2 g hg
            have e1 : ((settL rs ss m k r).map optD)[g]? = some (optD none) := by rw [List.getElem?_map, get_getD (settL rs ss m k r) none (by omega), g2]; rfl
            have e2 : (m.map optD)[g]? = some (optD (some r)) := by rw [List.getElem?_map, get_getD m none (by omega), g1]; rfl
            exact (et_w (ew_or (k := false) (m := false) ((tst2 op_ne (ixT (v 8).thaw ((v 22).eq eg) rfl e2) (v 11) (opd_neO (some r) (some r))).eq (by simp)) fun _ => ew_or1 (tNotN none (ixT (v 18) ((v 22).eq eg) rfl e1))))
          · rw [show (List.range ((goneJ rs ss m k r).map fun j : Nat => D.int (j : Int)).length).filter (fun _ => false) = [] from List.filter_eq_nil_iff.mpr fun _ _ h => Bool.noConfusion h]
            rfl
        · refine sv_ifRet (k := false) (et_w (ew_or (k := false) (m := false) ?_ fun _ => ew_or1 (ET.eq (et_w (ew_and (k := !(goneJ rs ss m k r).isEmpty) (m := false) ?_ fun hG => ew_and1 ?_)) (Bool.and_false _)))) (fun h => nomatch h) fun _ => sv_nil ⟨_, _, _, _, rfl⟩
          · refine (tst2 (da := .bl (!(goneJ rs ss m k r).isEmpty)) (db := .bl (!(goneJ rs ss m k r).isEmpty)) op_ne (cmp2 (op_neD (by have := hr.units; exact this)) (v 19) (ev_lst ea_nil) (opd_neJ _)) ((cmp2 (da := .int (ls.getD r.toNat 0)) (db := .int 0) op_eq (ev_ixM (i := 9) (m := r.toNat) (z := r) (l := ls.map .int) rfl (v 11) ern ?_) ev_int opd_eqI).eq (by rw [f3])) opd_neB).eq (by simp)
            rw [List.getElem?_map, get_getD ls 0 (by rw [lf.ll]; exact hrn)]
            rfl
          · exact tst2 (op_neD (by have := hr.units; exact this)) (v 19) (ev_lst ea_nil) (opd_neJ _)
          · obtain ⟨g, hg, eG⟩ : ∃ g, g ∈ goneJ rs ss m k r ∧ ((goneJ rs ss m k r).map fun j : Nat => D.int (j : Int))[0]? = some (.int (g : Int)) := by
              cases e : goneJ rs ss m k r with
              | nil => rw [e] at hG; cases hG
              | cons a t => exact ⟨a, List.mem_cons_self, rfl⟩
            refine tst2 (da := .lst []) (db := .lst []) (op_neD (by have := hr.units; exact this)) ((lc1f (n := as.length) (b := fun i => .int (i : Int)) (kp := fun _ => false) (f := fun _ => .non) 22 xoL (ei_range rfl T.range (v 2) (by omega)) (blkOk_by (N := N_law) (sc := defScope s_law) (by decide +kernel)) (by omega)
              (fun i hi s2 H2 C cl fp xb => ets_one ?_) fun i hi hf s2 H2 C cl fp xb => Bool.noConfusion hf).eq ?_) (ev_lst ea_nil) (opd_neL (n := 1) rfl)
            · have e2 : (m.map optD)[i]? = some (optD (m.getD i none)) := by rw [List.getElem?_map, get_getD m none (by omega)]; rfl
              refine (et_w (ew_and (k := decide (m.getD i none = some r)) (m := decide (placeI (nth rs r) (some (g : Int)) < placeI (nth rs r) (some (i : Int))) && memO (some (g : Int)) (nth rs r)) (tst2 (da := optD (m.getD i none)) (db := optD (some r)) op_eq (ixT (v 8).thaw (v 22) rfl e2) (v 11) (opd_eqO _ _)) fun _ => ew_and (k := decide (placeI (nth rs r) (some (g : Int)) < placeI (nth rs r) (some (i : Int)))) (m := memO (some (g : Int)) (nth rs r)) (tst2 op_gt (ev_call xb W.place hr (by decide) rfl (ea_c (ixL (d := dF (nth rs r)) (v 5) (v 11) ern eo) (ea_c (v 22) ea_nil)) ⟨nth rs r, some (i : Int), rfl, rfl⟩)
                (ev_call xb W.place hr (by decide) rfl (ea_c (ixL (d := dF (nth rs r)) (v 5) (v 11) ern eo) (ea_c (ixL (j := 0) (v 19) ev_int rfl eG) ea_nil)) ⟨nth rs r, some (g : Int), rfl, rfl⟩) (opd_I0 rfl)) fun _ => ew_and1 (tInO (o := some (g : Int)) (l := nth rs r) (ixL (j := 0) (v 19) ev_int rfl eG) (ixL (d := dF (nth rs r)) (v 5) (v 11) ern eo).thaw))).eq ?_
              by_cases c1 : m.getD i none = some r
              · by_cases c3 : (g : Int) ∈ nth rs r
                · rw [decide_eq_false (f4 g hg c3 i (by omega) c1)]
                  simp
                · rw [show memO (some (g : Int)) (nth rs r) = false from decide_eq_false c3]
                  simp
              · rw [decide_eq_false c1]
                rfl
            · rw [show (List.range as.length).filter (fun _ => false) = [] from List.filter_eq_nil_iff.mpr fun _ _ h => Bool.noConfusion h]
              rfl
end
end PM

/-! law: statements 8, 9: blocks. -/
namespace PM
open PySem PySem.Spec PyProof.Rows L2
theorem LF.okM {as rs : List (List Int)} {ss ls : List Int} {m : Ma} (lf : LF as rs ss m ls) : okM as rs ss m := by
  refine ⟨lf.mt.len, fun r hr => lf.mt.rm _ hr r rfl, fun r hr => ?_⟩
  have hr' : r < rs.length := by rw [← lf.mok.ls]; exact hr
  obtain ⟨h1, h2⟩ := lf.lf r hr'
  have e : cntM m (r : Int) = (thoseL m (r : Int)).length := by rw [those_len, List.countP_eq_length_filter]; rfl
  rw [e]
  omega
theorem LF.seat0 {as rs : List (List Int)} {ss ls : List Int} {m : Ma} (lf : LF as rs ss m ls) {r : Int} (h : Ix rs r) : 0 ≤ nthI ss r := by
  unfold nthI
  exact lf.s0 _ (getD_mem ss 0 (by have := lf.mok.ls; have := h.1; have := h.2; omega))
theorem row_len {as rs : List (List Int)} {ss ls : List Int} {m : Ma} (lf : LF as rs ss m ls) {k : Nat} (hk : k < as.length) : (blkRow as rs ss m k).length ≤ 20 := by
  unfold blkRow
  rw [List.length_map]
  refine Nat.le_trans (List.length_filter_le _ _) ?_
  rw [ahead_take]
  have := (lf.mok.a _ (getD_mem as [] hk)).2
  split
  · exact this
  · rw [List.length_take]; omega
section
variable {Θ : Th} {f : Addr} {cdv : Value} {A : Around} {outer : List Env} {s : Shared} {H : Hp} {E : XK} {b1 b2 b3 : Addr} {as rs : List (List Int)} {ss ls : List Int} {m : Ma} {x10 x11 x12 x13 x14 x15 x16 x17 x18 x19 x20 x21 x22 x23 : SD}
theorem law9 (T : Tx Θ) (W : LawD Θ b1 b2 b3) (hr : Room 11 (XL Θ f cdv A outer s H E).A) (lf : LF as rs ss m ls) :
    SL Θ f cdv A outer s H E (lawBody.drop 9) (dL as rs ss m (.mu (ls.map .int)) x10 x11 (.im (.lst ((unwL as rs m).map dPr))) (.im (.lst ((blkL as rs ss m).map dPr))) x14 x15 x16 x17 x18 x19 x20 x21 x22 x23) := by
  have la := lf.mok.la
  have hb : (blkL as rs ss m).length ≤ 900 := by
    have := flat_len (blkRow as rs ss m) 20 as.length fun i hi => row_len lf hi
    unfold blkL
    omega
  refine sv_ifRet (k := false) (et_w (ew_or (k := false) (m := false) ?_ fun _ => ew_or1 ?_)) (fun h => nomatch h) fun _ => law10 T W hr lf hb
  · exact tst2 (da := .lst ((blkL as rs ss m).map dPr)) (db := .lst ((blkL as rs ss m).map dPr)) (op_neD (by have := hr.units; exact this)) (lstT T (ev_call xoL W.blk hr (by decide) rfl (ea_c (v 7) (ea_c (v 8).thaw ea_nil)) ⟨as, rs, ss, m, rfl, lf.mok, lf.mt, rfl⟩)) (v 13) (opd_neD (n := 2) (by exact plain_pr _))
  · have eqPr : ∀ l : List (Int × Int), OpD Θ (rEqD Θ.K) (.lst (l.map dPr)) (.lst []) (· = .bl l.isEmpty) := fun l => opd_to (opd_eqL (n := 1) (plain_pr l)) (by rw [List.isEmpty_map])
    exact (tst2 (da := .bl ((unwL as rs m).isEmpty && (blkL as rs ss m).isEmpty)) (db := .bl ((unwL as rs m).isEmpty && (blkL as rs ss m).isEmpty)) op_ne (ev_call xoL W.st hr (by decide) rfl (ea_c (v 7) (ea_c (v 8).thaw ea_nil)) ⟨as, rs, ss, m, rfl, lf.mok, lf.mt, lf.okM, rfl⟩)
      (ev_and (k := (unwL as rs m).isEmpty) (m := (blkL as rs ss m).isEmpty) (cmp2 (op_eqD (by have := hr.units; exact this)) (v 12) (ev_lst ea_nil) (eqPr _)) fun _ => ev_one (cmp2 (op_eqD (by have := hr.units; exact this)) (v 13) (ev_lst ea_nil) (eqPr _))) opd_neB).eq (by simp)
end
end PM

/-! law: statement 8, the two loops. -/
namespace PM
open PySem PySem.Spec PyProof.Rows L2
theorem dPrs_app (a b : List (Int × Int)) : D.lst (a.map dPr ++ b.map dPr) = .lst ((a ++ b).map dPr) := by rw [List.map_append]
section
variable {Θ : Th} {f : Addr} {cdv : Value} {A : Around} {outer : List Env} {s : Shared} {H : Hp} {E : XK} {b1 b2 b3 : Addr} {as rs : List (List Int)} {ss ls : List Int} {m : Ma} {x10 x11 x12 x13 x14 x15 x16 x17 x18 x19 x20 x21 x22 x23 : SD}
theorem law8 (T : Tx Θ) (W : LawD Θ b1 b2 b3) (hr : Room 11 (XL Θ f cdv A outer s H E).A) (lf : LF as rs ss m ls) :
    SL Θ f cdv A outer s H E (lawBody.drop 8) (dL as rs ss m (.mu (ls.map .int)) x10 x11 (.im (.lst ((unwL as rs m).map dPr))) (.im (.lst [])) x14 x15 x16 x17 x18 x19 x20 x21 x22 x23) := by
  have la := lf.mok.la
  have lr := lf.mok.lr
  have lm := lf.mt.len
  refine sv_for (n := as.length) (g := gName 10) (bd := fun i => [(10, .int (i : Int))]) xoL poL (ei_range rfl T.range (v 2) (by omega)) (pg_name xoL.nd rfl (.inr rfl))
    (fun k δ' => ∃ y10 y11 y14 y15 y16 y17, δ' = dL as rs ss m (.mu (ls.map .int)) y10 y11 (.im (.lst ((unwL as rs m).map dPr))) (.im (.lst ((((List.range k).map (blkRow as rs ss m)).flatten).map dPr))) y14 y15 y16 y17 x18 x19 x20 x21 x22 x23) ⟨x10, x11, x14, x15, x16, x17, rfl⟩ ?_ ?_
  · rintro k δ' hk ⟨y10, y11, y14, y15, y16, y17, rfl⟩
    have e1 : (as.map dF)[k]? = some (dF (as.getD k [])) := by rw [List.getElem?_map, get_getD as [] hk]; rfl
    have e2 : (m.map optD)[k]? = some (optD (m.getD k none)) := by rw [List.getElem?_map, get_getD m none (by omega)]; rfl
    have hmk := lf.mok.a _ (getD_mem as [] hk)
    have prevl : (((List.range k).map (blkRow as rs ss m)).flatten).length ≤ k * 20 := flat_len _ 20 k fun i hi => row_len lf (by omega)
    have ahl : (aheadL (as.getD k []) (m.getD k none)).length ≤ 20 := by
      rw [ahead_take]
      split
      · exact hmk.2
      · rw [List.length_take]; have := hmk.2; omega
    -- ahead
    refine set1 (d := .tup ((aheadL (as.getD k []) (m.getD k none)).map .int)) 14 xoL (ev_if (k := !memO (m.getD k none) (as.getD k []) && (m.getD k none).isSome) (et_w (ew_and (k := !memO (m.getD k none) (as.getD k [])) (m := (m.getD k none).isSome) (tNinO (ixT (v 8).thaw (v 10) rfl e2) (ixL (d := dF (as.getD k [])) (v 4) (v 10) rfl e1).thaw) fun _ => ew_and1 (tNotN _ (ixT (v 8).thaw (v 10) rfl e2))))
      (fun h => ((ixL (d := dF (as.getD k [])) (v 4) (v 10) rfl e1).thaw).eq (by rw [ahead_take, if_pos h])) fun h => ?_) ?_
    · have hp0 : 0 ≤ placeI (as.getD k []) (m.getD k none) := by
        cases m.getD k none with
        | none => exact Int.natCast_nonneg _
        | some i =>
          by_cases hi : i ∈ as.getD k []
          · rw [place_mem hi]; exact Int.natCast_nonneg _
          · rw [place_not hi]; exact Int.natCast_nonneg _
      refine (ev_to (n := (((placeI (as.getD k []) (m.getD k none)).toNat : Nat) : Int)) sl_tupA (ixL (d := dF (as.getD k [])) (v 4) (v 10) rfl e1).thaw ((ev_call xoL W.place hr (by decide) rfl (ea_c (ixL (d := dF (as.getD k [])) (v 4) (v 10) rfl e1) (ea_c (ixT (v 8).thaw (v 10) rfl e2) ea_nil)) ⟨_, _, rfl, rfl⟩).eq (by congr 1; omega)) sld_toT).eq ?_
      rw [ahead_take, if_neg (by rw [h]; decide), List.map_take]
    · have nA : ((aheadL (as.getD k []) (m.getD k none)).map D.int).length = (aheadL (as.getD k []) (m.getD k none)).length := List.length_map _
      refine sv_for (n := ((aheadL (as.getD k []) (m.getD k none)).map D.int).length) (g := gName 11) (bd := fun i => [(11, ((aheadL (as.getD k []) (m.getD k none)).map D.int).getD i .non)]) xoL poL (ei_tup (v 14)) (pg_name xoL.nd rfl (.inr rfl))
        (fun q δ' => ∃ y11 y15 y16 y17, δ' = dL as rs ss m (.mu (ls.map .int)) (.im (.int (k : Int))) y11 (.im (.lst ((unwL as rs m).map dPr))) (.im (.lst ((((List.range k).map (blkRow as rs ss m)).flatten ++ (((aheadL (as.getD k []) (m.getD k none)).take q).filter fun r => goodW rs ss m r k).map fun r => ((k : Int), r)).map dPr))) (.im (.tup ((aheadL (as.getD k []) (m.getD k none)).map .int))) y15 y16 y17 x18 x19 x20 x21 x22 x23) ⟨y11, y15, y16, y17, by simp only [List.take_zero, List.filter_nil, List.map_nil, List.append_nil]; rfl⟩ ?_ ?_
      · rintro q δ2 hq ⟨z11, z15, z16, z17, rfl⟩
        have hq' : q < (aheadL (as.getD k []) (m.getD k none)).length := by rw [← nA]; exact hq
        obtain ⟨r, er⟩ : ∃ r, r = (aheadL (as.getD k []) (m.getD k none)).getD q 0 := ⟨_, rfl⟩
        have ev : ((aheadL (as.getD k []) (m.getD k none)).map D.int).getD q .non = .int r := by rw [er]; exact getD_map _ 0 D.int hq'
        have hmem : r ∈ aheadL (as.getD k []) (m.getD k none) := by rw [er]; exact getD_mem _ 0 hq'
        have hix : Ix rs r := hmk.1.2 _ (ahead_mem hmem)
        have hrn : r.toNat < rs.length := by have := hix.1; have := hix.2; omega
        have ern : r = ((r.toNat : Nat) : Int) := by have := hix.1; omega
        have eo : (rs.map dF)[r.toNat]? = some (dF (nth rs r)) := by rw [List.getElem?_map, get_getD rs [] hrn]; rfl
        have es : (ss.map D.int)[r.toNat]? = some (.int (nthI ss r)) := by rw [List.getElem?_map, get_getD ss 0 (by rw [lf.mok.ls]; exact hrn)]; rfl
        have take1 : (aheadL (as.getD k []) (m.getD k none)).take (q + 1) = (aheadL (as.getD k []) (m.getD k none)).take q ++ [r] := by
          rw [List.take_succ, get_getD _ 0 hq', ← er]
          rfl
        show SV Θ (XL Θ f cdv A outer s H E) _ (dL as rs ss m (.mu (ls.map .int)) (.im (.int (k : Int))) (.im (((aheadL (as.getD k []) (m.getD k none)).map D.int).getD q .non)) _ _ _ z15 z16 z17 x18 x19 x20 x21 x22 x23) _ _ _
        rw [ev]
        have tl : (thoseL m r).length ≤ 20 := by
          unfold thoseL
          rw [List.length_map]
          exact Nat.le_trans (List.length_filter_le _ _) (by rw [List.length_range]; omega)
        refine setC1 (n := as.length) (b := fun i => .int (i : Int)) (kp := fun j => decide (m.getD j none = some r)) (f := fun i => .int (i : Int)) 15 22 xoL (ei_range rfl T.range (v 2) (by omega)) (blkOk_by (N := N_law) (sc := defScope s_law) (by decide +kernel)) (by omega)
          (fun i hi s2 H2 C cl fp xb => ets_one (tst2 (da := optD (m.getD i none)) (db := optD (some r)) op_eq (ixT (v 8).thaw (v 22) rfl (by rw [List.getElem?_map, get_getD m none (by omega)]; rfl)) (v 11) (opd_eqO _ _))) (fun i hi hf s2 H2 C cl fp xb => v 22) ?_ (sw_true rfl rfl rfl (by decide +kernel))
        have eins : ((List.range as.length).filter fun j => decide (m.getD j none = some r)).map (fun i : Nat => D.int (i : Int)) = (thoseL m r).map .int := by
          unfold thoseL
          rw [List.map_map, lm]
          rfl
        rw [eins]
        have nI : ((thoseL m r).map D.int).length = (thoseL m r).length := List.length_map _
        have atI : ∀ j, j < ((thoseL m r).map D.int).length → ((thoseL m r).map D.int).getD j .non = .int ((thoseL m r).getD j 0) := fun j hj => getD_map _ 0 D.int (by rw [← nI]; exact hj)
        refine setC1 (n := ((thoseL m r).map D.int).length) (b := fun i => ((thoseL m r).map D.int).getD i .non) (kp := fun j => decide (placeI (nth rs r) (some (k : Int)) < placeI (nth rs r) (some ((thoseL m r).getD j 0)))) (f := fun i => .int ((thoseL m r).getD i 0)) 16 22 xoL (ei_list (v 15)) (blkOk_by (N := N_law) (sc := defScope s_law) (by decide +kernel)) (by rw [nI]; omega)
          (fun i hi s2 H2 C cl fp xb => ets_one (tst2 op_gt (ev_call xb W.place hr (by decide) rfl (ea_c (ixL (d := dF (nth rs r)) (v 5) (v 11) ern eo) (ea_c ((v 22).eq (atI i hi)) ea_nil)) ⟨nth rs r, some ((thoseL m r).getD i 0), rfl, rfl⟩)
            (ev_call xb W.place hr (by decide) rfl (ea_c (ixL (d := dF (nth rs r)) (v 5) (v 11) ern eo) (ea_c (v 10) ea_nil)) ⟨nth rs r, some (k : Int), rfl, rfl⟩) (opd_I0 rfl))) (fun i hi hf s2 H2 C cl fp xb => (v 22).eq (atI i hi)) ?_ (sw_true rfl rfl rfl (by decide +kernel))
        rw [nI, filter_range_get (thoseL m r) 0 (fun j => decide (placeI (nth rs r) (some (k : Int)) < placeI (nth rs r) (some j))) fun j => D.int j]
        refine set1 (d := .bl (goodW rs ss m r k)) 17 xoL (ev_and (k := decide ((k : Int) ∈ nth rs r)) (m := decide (0 < nthI ss r) && (decide (((thoseL m r).length : Int) < nthI ss r) || !(worseL rs m r k).isEmpty)) (eInO (o := some (k : Int)) (l := nth rs r) (v 10) (ixL (d := dF (nth rs r)) (v 5) (v 11) ern eo).thaw)
          fun _ => ev_and (k := decide (0 < nthI ss r)) (m := decide (((thoseL m r).length : Int) < nthI ss r) || !(worseL rs m r k).isEmpty) (cmp2 (da := .int (nthI ss r)) (db := .int 0) op_gt (ixL (v 6) (v 11) ern es) ev_int (opd_I0 rfl))
          fun _ => ev_one (ev_or (k := decide (((thoseL m r).length : Int) < nthI ss r)) (m := !(worseL rs m r k).isEmpty) (cmp2 (da := .int ((thoseL m r).length : Int)) (db := .int (nthI ss r)) op_lt ((lenL T (v 15)).eq (by rw [nI])) (ixL (v 6) (v 11) ern es) (opd_I0 rfl))
          fun _ => ev_one (cmp2 (da := .lst ((worseL rs m r k).map .int)) (db := .lst []) (op_neD (by have := hr.units; exact this)) (v 16) (ev_lst ea_nil) (opd_neNil _)))) ?_
        refine sv_ifRet (k := false) (et_w (ew_or (k := false) (m := false) ?_ fun _ => ew_or1 ?_)) (fun h => nomatch h) fun _ => ?_
        · exact (tst2 (da := .bl (goodW rs ss m r k)) (db := .bl (goodW rs ss m r k)) op_ne ((ev_call xoL W.wt hr (by decide) rfl (ea_c (v 7) (ea_c (v 8).thaw (ea_c (v 11) (ea_c (v 10) ea_nil)))) ⟨as, rs, ss, m, r, (k : Int), rfl, lf.mok, lf.mt, hix, rfl⟩).eq (by rw [wt_good (lf.seat0 hix)])) (v 17) opd_neB).eq (by simp)
        · exact tst2 (da := .tup ((thoseL m r).map .int)) (db := .tup ((thoseL m r).map .int)) (op_neD (by have := hr.units; exact this)) (ev_call xoL W.those hr (by decide) rfl (ea_c (v 8).thaw (ea_c (v 11) ea_nil)) ⟨m, r, rfl, by omega, rfl⟩) (tupL T (v 15)) (opd_neD (n := 2) (by exact plain_ints 1 _))
        · refine set1 (d := .lst ((((List.range k).map (blkRow as rs ss m)).flatten ++ (((aheadL (as.getD k []) (m.getD k none)).take (q + 1)).filter fun r => goodW rs ss m r k).map fun r => ((k : Int), r)).map dPr)) 13 xoL ((bin2 (db := .lst ((if goodW rs ss m r k = true then [((k : Int), r)] else []).map dPr)) op_cat (v 13) (ev_if (k := goodW rs ss m r k) (et_val (v 17)) (fun h => (ev_lst (ea_c (ev_tup (ea_c (v 10) (ea_c (v 11) ea_nil))) ea_nil)).eq (by rw [if_pos h]; rfl)) fun h => (ev_lst ea_nil).eq (by rw [if_neg (by rw [h]; decide)]; rfl)) (opd_catL ?_)).eq ?_) (sv_nil ⟨_, _, _, _, rfl⟩)
          · have h1 : ((((aheadL (as.getD k []) (m.getD k none)).take q).filter fun r => goodW rs ss m r k).map fun r => ((k : Int), r)).length ≤ 20 := by
              rw [List.length_map]
              exact Nat.le_trans (List.length_filter_le _ _) (by rw [List.length_take]; omega)
            have h2 : ((if goodW rs ss m r k = true then [((k : Int), r)] else []) : List (Int × Int)).length ≤ 1 := by split <;> simp
            rw [List.length_map, List.length_map, List.length_append]
            omega
          · have hX : (((aheadL (as.getD k []) (m.getD k none)).take (q + 1)).filter fun r => goodW rs ss m r k).map (fun r => ((k : Int), r)) = (((aheadL (as.getD k []) (m.getD k none)).take q).filter fun r => goodW rs ss m r k).map (fun r => ((k : Int), r)) ++ (if goodW rs ss m r k = true then [((k : Int), r)] else []) := by
              rw [take1, List.filter_append, List.map_append]
              congr 1
              by_cases h : goodW rs ss m r k = true
              · rw [if_pos h, List.filter_cons, if_pos h]; rfl
              · rw [if_neg h, List.filter_cons, if_neg h]; rfl
            rw [hX, dPrs_app, List.append_assoc]
      · rintro δ2 ⟨z11, z15, z16, z17, rfl⟩
        refine sv_nil ⟨.im (.int (k : Int)), z11, .im (.tup ((aheadL (as.getD k []) (m.getD k none)).map .int)), z15, z16, z17, ?_⟩
        rw [nA, List.take_length, take_flat_succ, row_due fun r hr' => lf.seat0 (hmk.1.2 _ hr')]
  · rintro δ' ⟨y10, y11, y14, y15, y16, y17, rfl⟩
    exact law9 T W hr lf
end
end PM

/-! law: statements 5 to 7. -/
namespace PM
open PySem PySem.Spec PyProof.Rows L2
section
variable {Θ : Th} {f : Addr} {cdv : Value} {A : Around} {outer : List Env} {s : Shared} {H : Hp} {E : XK} {b1 b2 b3 : Addr} {as rs : List (List Int)} {ss ls : List Int} {m : Ma} {x10 x11 x12 x13 x14 x15 x16 x17 x18 x19 x20 x21 x22 x23 : SD}
theorem law6 (T : Tx Θ) (W : LawD Θ b1 b2 b3) (hr : Room 11 (XL Θ f cdv A outer s H E).A) (lf : LF as rs ss m ls) :
    SL Θ f cdv A outer s H E (lawBody.drop 6) (dL as rs ss m (.mu (ls.map .int)) x10 x11 (.im (.lst ((unwL as rs m).map dPr))) x13 x14 x15 x16 x17 x18 x19 x20 x21 x22 x23) := by
  have la := lf.mok.la
  have lr := lf.mok.lr
  have lm := lf.mt.len
  refine sv_ifRet (k := false) (et_w (ew_or (k := false) (m := false) ?_ fun _ => ew_or (k := false) (m := false) ?_ fun _ => ew_or1 ?_)) (fun h => nomatch h) fun _ => set1 (d := .lst []) 13 xoL (ev_lst ea_nil) (law8 T W hr lf)
  · exact tst2 (da := .lst ((unwL as rs m).map dPr)) (db := .lst ((unwL as rs m).map dPr)) (op_neD (by have := hr.units; exact this)) (lstT T (ev_call xoL W.unw hr (by decide) rfl (ea_c (v 7) (ea_c (v 8).thaw ea_nil)) ⟨as, rs, ss, m, rfl, lf.mok, lf.mt, rfl⟩)) (v 12) (opd_neD (n := 2) (by exact plain_pr _))
  · exact tst2 (da := .tup (m.map optD)) (db := .tup (m.map optD)) (op_neD (by have := hr.units; exact this)) (ev_call xoL W.cm hr (by decide) rfl (ea_c (v 7) (ea_c (lstT T (v 8).thaw) ea_nil)) ⟨as, rs, ss, m, _, rfl, .inr rfl, by omega, lf.okM, rfl⟩) (v 8).thaw (opd_neD (n := 2) (by exact plain_opts 1 _))
  · refine tst2 (da := .tup ((fillL rs m).map .int)) (db := .tup ((fillL rs m).map .int)) (op_neD (by have := hr.units; exact this)) (ev_call xoL W.fill hr (by decide) rfl (ea_c (v 7) (ea_c (v 8).thaw ea_nil)) ⟨as, rs, ss, m, rfl, lr, by omega, rfl⟩) ((tupL T (lc1f (n := rs.length) (b := fun i => .int (i : Int)) (kp := fun _ => true) (f := fun i : Nat => .int ((m.countP fun o => decide (o = some (i : Int)) : Nat) : Int)) 11 xoL (ei_range rfl T.range (v 3) (by omega)) (blkOk_by (N := N_law) (sc := defScope s_law) (by decide +kernel)) (by omega)
      (fun i hi s2 H2 C cl fp xb => ets_nil) fun i hi _ s2 H2 C cl fp xb => ev_tcnt xb (v 8) (v 11))).eq ?_) (opd_neD (n := 2) (by exact plain_ints 1 _))
    rw [List.filter_eq_self.mpr fun _ _ => rfl]
    unfold fillL
    rw [List.map_map]
    congr 1
    refine List.map_congr_left fun i _ => ?_
    show D.int _ = D.int ((thoseL m i).length : Int)
    rw [those_len]
theorem law5 (T : Tx Θ) (W : LawD Θ b1 b2 b3) (hr : Room 11 (XL Θ f cdv A outer s H E).A) (lf : LF as rs ss m ls) :
    SL Θ f cdv A outer s H E (lawBody.drop 5) (dL as rs ss m (.mu (ls.map .int)) x10 x11 x12 x13 x14 x15 x16 x17 x18 x19 x20 x21 x22 x23) := by
  have la := lf.mok.la
  have lr := lf.mok.lr
  have lm := lf.mt.len
  refine setC1 (n := as.length) (b := fun i => .int (i : Int)) (kp := fun i : Nat => (m.getD i none).isSome && !likesB as rs i ((m.getD i none).getD 0)) (f := fun i : Nat => dPr ((i : Int), (m.getD i none).getD 0)) 12 10 xoL (ei_range rfl T.range (v 2) (by omega)) (blkOk_by (N := N_law) (sc := defScope s_law) (by decide +kernel)) (by omega)
    (fun i hi s2 H2 C cl fp xb => ets_one ?_) (fun i hi hk s2 H2 C cl fp xb => ?_) ?_ (sw_true rfl rfl rfl (by decide +kernel))
  · have e1 : (as.map dF)[i]? = some (dF (as.getD i [])) := by rw [List.getElem?_map, get_getD as [] hi]; rfl
    have e2 : (m.map optD)[i]? = some (optD (m.getD i none)) := by rw [List.getElem?_map, get_getD m none (by omega)]; rfl
    refine et_w (ew_and (k := (m.getD i none).isSome) (m := !likesB as rs i ((m.getD i none).getD 0)) (tNotN _ (ixT (v 8).thaw (v 10) rfl e2)) fun h => ew_and1 ?_)
    obtain ⟨r, er⟩ := Option.isSome_iff_exists.mp h
    have hix : Ix rs r := lf.mt.rm (some r) (by rw [← er]; exact getD_mem m none (by omega)) r rfl
    have ern : r = ((r.toNat : Nat) : Int) := by have := hix.1; omega
    have eo : (rs.map dF)[r.toNat]? = some (dF (nth rs r)) := by rw [List.getElem?_map, get_getD rs [] (by have := hix.1; have := hix.2; omega)]; rfl
    rw [er] at e2 ⊢
    refine (et_w (ew_or (k := !memO (some r) (as.getD i [])) (m := !memO (some (i : Int)) (nth rs r)) (tNinO (ixT (v 8).thaw (v 10) rfl e2) (ixL (d := dF (as.getD i [])) (v 4) (v 10) rfl e1).thaw) fun _ => ew_or1 (tNinO (o := some (i : Int)) (l := nth rs r) (v 10) (ixL (d := dF (nth rs r)) (v 5) (ixT (d := .int r) (v 8).thaw (v 10) rfl e2) ern eo).thaw))).eq ?_
    unfold likesB
    rw [nth_nat, Bool.not_and]
    rfl
  · have h1 : (m.getD i none).isSome = true := by
      rw [Bool.and_eq_true] at hk
      exact hk.1
    obtain ⟨r, er⟩ := Option.isSome_iff_exists.mp h1
    have e2 : (m.map optD)[i]? = some (.int r) := by rw [List.getElem?_map, get_getD m none (by omega), er]; rfl
    rw [er]
    exact ev_tup (ea_c (v 10) (ea_c (ixT (v 8).thaw (v 10) rfl e2) ea_nil))
  · have e : ((List.range as.length).filter fun i : Nat => (m.getD i none).isSome && !likesB as rs i ((m.getD i none).getD 0)).map (fun i : Nat => dPr ((i : Int), (m.getD i none).getD 0)) = (unwL as rs m).map dPr := by
      unfold unwL
      rw [List.map_map, lm]
      rfl
    rw [e]
    exact law6 T W hr lf
end
end PM

/-! law: statements 3, 4: the match is drawn. -/
namespace PM
open PySem PySem.Spec PyProof.Rows L2
structure LI (rs : List (List Int)) (ss : List Int) (k : Nat) (m : Ma) (ls : List Int) : Prop where
  n : m.length = k
  l : ls.length = rs.length
  rm : ∀ o ∈ m, ∀ r, o = some r → Ix rs r
  f : ∀ r, r < rs.length → 0 ≤ ls.getD r 0 ∧ ls.getD r 0 + ((thoseL m r).length : Int) = ss.getD r 0
theorem those_snoc (m : Ma) (o : Option Int) (r : Int) : (thoseL (m ++ [o]) r).length = (thoseL m r).length + (if o = some r then 1 else 0) := by
  rw [those_len, those_len, List.countP_append]
  congr 1
  by_cases h : o = some r
  · rw [if_pos h, List.countP_cons, decide_eq_true h]; rfl
  · rw [if_neg h, List.countP_cons, decide_eq_false h]; rfl
theorem LI.none {rs : List (List Int)} {ss ls : List Int} {k : Nat} {m : Ma} (h : LI rs ss k m ls) : LI rs ss (k + 1) (m ++ [none]) ls where
  n := by rw [List.length_append, h.n]; rfl
  l := h.l
  rm := fun o ho r e => by
    rcases List.mem_append.mp ho with z | z
    · exact h.rm o z r e
    · rw [List.mem_singleton.mp z] at e; cases e
  f := fun r hr => by
    rw [those_snoc, if_neg (by simp)]
    exact h.f r hr
theorem LI.some {rs : List (List Int)} {ss ls : List Int} {k q : Nat} {m : Ma} (h : LI rs ss k m ls) (hq : q < rs.length) (hp : 0 < ls.getD q 0) : LI rs ss (k + 1) (m ++ [some (q : Int)]) (ls.set q (ls.getD q 0 - 1)) where
  n := by rw [List.length_append, h.n]; rfl
  l := by rw [List.length_set]; exact h.l
  rm := fun o ho r e => by
    rcases List.mem_append.mp ho with z | z
    · exact h.rm o z r e
    · rw [List.mem_singleton.mp z] at e
      cases e
      exact ix_nat hq
  f := fun r hr => by
    obtain ⟨f0, f1⟩ := h.f r hr
    rw [those_snoc]
    by_cases e : q = r
    · subst e
      rw [if_pos rfl, List.getD_eq_getElem?_getD, List.getElem?_set_self (by rw [h.l]; exact hq)]
      show 0 ≤ ls.getD q 0 - 1 ∧ ls.getD q 0 - 1 + (((thoseL m q).length + 1 : Nat) : Int) = ss.getD q 0
      omega
    · rw [if_neg (fun z => e (by cases z; rfl)), List.getD_eq_getElem?_getD, List.getElem?_set_ne e, ← List.getD_eq_getElem?_getD]
      exact ⟨f0, f1⟩
section
variable {Θ : Th} {f : Addr} {cdv : Value} {A : Around} {outer : List Env} {s : Shared} {H : Hp} {E : XK} {b1 b2 b3 : Addr} {as rs : List (List Int)} {ss : List Int} {x10 x11 x12 x13 x14 x15 x16 x17 x18 x19 x20 x21 x22 x23 : SD}
abbrev dM (as rs : List (List Int)) (ss : List Int) (x8 x9 x10 x11 x12 x13 x14 x15 x16 x17 x18 x19 x20 x21 x22 x23 : SD) : List SD :=
  [.no, .dc, .im (.int (as.length : Int)), .im (.int (rs.length : Int)), .im (.lst (as.map dF)), .im (.lst (rs.map dF)), .im (.lst (ss.map .int)), .im (.mkt as rs ss), x8, x9, x10, x11, x12, x13, x14, x15, x16, x17, x18, x19, x20, x21, x22, x23]
theorem law3 (T : Tx Θ) (W : LawD Θ b1 b2 b3) (hr : Room 11 (XL Θ f cdv A outer s H E).A) (mk : MkOk as rs ss) (a0 : 0 < as.length) (r0 : 0 < rs.length) (s0 : ∀ s ∈ ss, 0 ≤ s) :
    SL Θ f cdv A outer s H E (lawBody.drop 3) (dM as rs ss (.im (.lst [])) (.mu (ss.map .int)) x10 x11 x12 x13 x14 x15 x16 x17 x18 x19 x20 x21 x22 x23) := by
  have la := mk.la
  have lr := mk.lr
  refine sv_for (n := as.length) (g := gName 10) (bd := fun i => [(10, .int (i : Int))]) xoL poL (ei_range rfl T.range (v 2) (by omega)) (pg_name xoL.nd rfl (.inr rfl))
    (fun k δ' => ∃ m ls y10 y11, LI rs ss k m ls ∧ δ' = dM as rs ss (.im (.lst (m.map optD))) (.mu (ls.map .int)) y10 y11 x12 x13 x14 x15 x16 x17 x18 x19 x20 x21 x22 x23) ⟨[], ss, x10, x11, ⟨rfl, mk.ls, (fun o h => by cases h), fun r hr => ⟨s0 _ (getD_mem ss 0 (by rw [mk.ls]; exact hr)), by show ss.getD r 0 + ((0 : Nat) : Int) = _; omega⟩⟩, rfl⟩ ?_ ?_
  · rintro k δ' hk ⟨m, ls, y10, y11, li, rfl⟩
    have ln := li.n
    refine sv_set (i := 11) (PE := isThrow ((rs.length : Int) + 1)) xoL rfl (.inr rfl) (ev_callD xoL W.roll hr (by decide) rfl (i := 1) rfl rfl (by first | exact Or.inl rfl | exact Or.inr (Or.inl rfl)) (ea_c (bin2 (da := .int (rs.length : Int)) (db := .int 1) op_add (v 3) ev_int (opd_I0 (o := .int ((rs.length : Int) + 1)) rfl)) ea_nil) ⟨_, rfl, by omega, by omega, rfl⟩) fun d ⟨z, e, z0, z1⟩ => ?_
    obtain ⟨q, rfl⟩ : ∃ q : Nat, z = (q : Int) := ⟨z.toNat, by omega⟩
    subst e
    -- the choice
    obtain ⟨o, eo⟩ : ∃ o : Option Int, o = if (decide ((q : Int) < rs.length) && decide (0 < ls.getD q 0)) = true then some (q : Int) else none := ⟨_, rfl⟩
    refine set1 (d := .lst ((m ++ [o]).map optD)) 8 xoL ((bin2 (da := .lst (m.map optD)) (db := .lst [optD o]) op_cat (v 8) (ev_lst (ea_c (ev_if (k := decide ((q : Int) < rs.length) && decide (0 < ls.getD q 0)) (et_w (ew_and (k := decide ((q : Int) < rs.length)) (m := decide (0 < ls.getD q 0)) (tst2 (da := .int (q : Int)) (db := .int (rs.length : Int)) op_lt (v 11) (v 3) (opd_I0 rfl)) fun h => ew_and1 ?_)) (fun h => (v 11).eq (by rw [eo, if_pos h]; rfl)) fun h => ev_non.eq (by rw [eo, if_neg (by rw [h]; decide)]; rfl)) ea_nil)) (opd_catL (by rw [List.length_map, ln]; show k + 1 ≤ _; omega))).eq (by rw [List.map_append]; rfl)) ?_
    · have hq : q < ls.length := by have := of_decide_eq_true h; rw [li.l]; omega
      exact tst2 (da := .int (ls.getD q 0)) (db := .int 0) op_gt (ev_ixM (i := 9) (m := q) (d := .int (ls.getD q 0)) rfl (v 11) rfl (by rw [List.getElem?_map, get_getD ls 0 hq]; rfl)) ev_int (opd_I0 rfl)
    · have e8 : ((m ++ [o]).map optD)[k]? = some (optD o) := by
        rw [List.getElem?_map, List.getElem?_append_right (by omega), ln, Nat.sub_self]
        rfl
      refine sv_if (k := o.isSome) (N1 := fun δ' => ∃ m ls y10 y11, LI rs ss (k + 1) m ls ∧ δ' = dM as rs ss (.im (.lst (m.map optD))) (.mu (ls.map .int)) y10 y11 x12 x13 x14 x15 x16 x17 x18 x19 x20 x21 x22 x23) (tNotN o (ixL (v 8) (v 10) rfl e8)) (fun h => ?_) (fun h => ?_) fun δ' h => sv_nil h
      · obtain ⟨r, er⟩ := Option.isSome_iff_exists.mp h
        have hc : (decide ((q : Int) < rs.length) && decide (0 < ls.getD q 0)) = true := by
          cases hb : (decide ((q : Int) < rs.length) && decide (0 < ls.getD q 0)) with
          | true => rfl
          | false => rw [hb, er] at eo; cases eo
        rw [if_pos hc] at eo
        subst eo
        rw [Bool.and_eq_true, decide_eq_true_eq, decide_eq_true_eq] at hc
        have hq : q < ls.length := by rw [li.l]; omega
        refine sv_seti (i := 9) (m := q) (z := (q : Int)) (d := .int (ls.getD q 0 - 1)) xoL rfl (bin2 (da := .int (ls.getD q 0)) (db := .int 1) op_sub (ev_ixM (i := 9) (m := q) (d := .int (ls.getD q 0)) rfl (ixL (d := .int (q : Int)) (v 8) (v 10) rfl e8) rfl (by rw [List.getElem?_map, get_getD ls 0 hq]; rfl)) ev_int (opd_I0 rfl)) (ixL (d := .int (q : Int)) (v 8) (v 10) rfl e8) rfl (by rw [List.length_map]; exact hq) ?_
        exact sv_nil ⟨m ++ [some (q : Int)], ls.set q (ls.getD q 0 - 1), _, _, li.some (by omega) hc.2, by rw [List.map_set]; rfl⟩
      · have : o = none := by cases o with
          | none => rfl
          | some r => cases h
        subst this
        exact sv_nil ⟨m ++ [none], ls, _, _, li.none, rfl⟩
  · rintro δ' ⟨m, ls, y10, y11, li, rfl⟩
    refine set1 (d := .ftu (m.map optD)) 8 xoL (tupF xoL T (v 8)) ?_
    exact law5 T W hr ⟨mk, a0, r0, s0, ⟨li.n, li.rm⟩, li.l, li.f⟩
end
end PM

/-! law: statements 0 to 2. -/
namespace PM
open PySem PySem.Spec PyProof.Rows L2
theorem mu_set {δ : List SD} {σ : L2.St} {i n : Nat} {d : D} {v : V} {ds : List D} (h : (δ.set i (.im d))[n]? = some (.mu ds)) : δ[n]? = some (.mu ds) ∧ (σ.set i (some v))[n]? = σ[n]? := by
  by_cases e : i = n
  · subst e
    have hl := lt_of_set h
    rw [List.getElem?_set_self hl] at h
    cases h
  · rw [List.getElem?_set_ne e] at h
    exact ⟨h, List.getElem?_set_ne e⟩
section
variable {Θ : Th} {X : Cx} {a b c : Expr} {rest : List Stmt} {δ : List SD} {pos pt : Pos} {N : List SD → Prop} {P P1 P2 : D → Prop} {Ξ : Addr → Prop} {i j k : Nat} {lc : List D} {elts : List Expr} {kt k2 : Nat} {pt2 : Pos}
/-- x, y, z = something, something, a new list; not all of them plain locals -/
theorem sv_tupIIM (ha : EV Θ X a δ P1) (hb : EV Θ X b δ P2) (hc : EN Θ X c δ lc) (hg : PG X (.Tuple elts kt pt) (gTup X.K 3 (gCons (gName i) (gCons (gName j) (gCons (gName k) gNil)))))
    (hr : ∀ d1 d2, P1 d1 → P2 d2 → SV Θ X rest (((δ.set i (.im d1)).set j (.im d2)).set k (.mu lc)) N P Ξ)
    (hs : swapsWithSole [.Tuple elts kt pt] (.Tuple [a, b, c] k2 pt2) pos.line X.env = pure false := by rfl) (hw : swappedStores [.Tuple elts kt pt] (.Tuple [a, b, c] k2 pt2) X.env = pure none := by rfl)
    (h1 : (assignEach [.Tuple elts kt pt] X.env).map (·.2) = [assign (.Tuple elts kt pt) X.env] := by rfl)
    (h2 : starEach [a, b, c] X.env = (false, eval a X.env) :: starEach [b, c] X.env := by rfl) (h3 : starEach [b, c] X.env = (false, eval b X.env) :: starEach [c] X.env := by rfl) (h4 : starEach [c] X.env = (false, eval c X.env) :: starEach [] X.env := by rfl) :
    SV Θ X (.Assign [.Tuple elts kt pt] (.Tuple [a, b, c] k2 pt2) pos :: rest) δ N P Ξ := fun M G0 H0 G H σ Dn E tk S O q r ex =>
  .of (pss_cons (ps_asg (pe_tup (pa_cons pe_can (pa_cons pe_can (pa_cons pe_can pa_nil h4) h3) h2)) hg hs hw h1) pss_can) (ha M G0 H0 G H σ _ S fun v1 d1 G1 H1 S1 g1 r1 q1 => hb M G0 H0 G1 H1 σ _ S1 fun v2 d2 G2 H2 S2 g2 r2 q2 => hc M G0 H0 G2 H2 σ _ S2 fun G3 H3 p3 vs3 S3 g3 hL3 r3 n3 m3 z3 f3 _ => ⟨by show 3 ≤ _; decide, fun p hp => by
    have S4 : StOk Θ M G0 H0 G3 (upd H3 p (.tup [v1, v2, .ref p3])) σ δ := S3.step (.made hp) (S3.hs.made hp) fun d e => by
      obtain ⟨_, z2, a, b, c, z3⟩ := S3.dice d e
      exact ⟨z2, a, b, c, by rw [upd_ne (ne_of_none z3 hp)]; exact z3⟩
    have hL4 : upd H3 p (.tup [v1, v2, .ref p3]) p3 = some (.lst vs3) := by rw [upd_ne (ne_of_none hL3 hp)]; exact hL3
    refine ⟨p, _, rfl, .of upd_same, rfl, v1, _, rfl, v2, _, rfl, .ref p3, _, rfl, rfl, ?_⟩
    have S5 := (S4.set (i := i) ((r1.gr g2).gr g3)).set (i := j) (r2.gr g3)
    have O5 : Own H0 ((σ.set i (some v1)).set j (some v2)) ((δ.set i (.im d1)).set j (.im d2)) := O.set.set
    obtain ⟨S6, O6⟩ := give_mu (i := k) S5 O5 hL4 r3 n3 m3 z3 fun n ds e1 e2 => by
      obtain ⟨a1, a2⟩ := mu_set (σ := σ.set i (some v1)) (v := v2) e1
      obtain ⟨b1, b2⟩ := mu_set (σ := σ) (v := v1) a1
      rw [a2, b2] at e2
      exact f3 n ds b1 e2
    exact hr d1 d2 q1 q2 M G0 H0 G3 _ _ Dn E tk S6 O6 (fun σ' δ' G' H' S' O' g n => q σ' δ' G' H' S' O' (((g1.trans g2).trans g3).trans g) n) r ex⟩)
end
section
variable {Θ : Th} {f : Addr} {cdv : Value} {A : Around} {outer : List Env} {s : Shared} {H : Hp} {E : XK} {b1 b2 b3 : Addr}
theorem throw1 {δ : List SD} {p p1 p2 p3 p4 p5 : Pos} {j1 j2 : Nat} (W : LawD Θ b1 b2 b3) (hr : Room 11 (XL Θ f cdv A outer s H E).A) (hd : δ[1]? = some .dc := by rfl) :
    EV Θ (XL Θ f cdv A outer s H E) (.BinOp (.Constant (.int 1) j1 p1) .Add (.Call (.Name "_law_roll" p2) [.Name "_law_dice_here" p3, .Constant (.int 3) j2 p4] [] p5) p) δ (fun d => ∃ z : Int, d = .int z ∧ 1 ≤ z ∧ z < 4) :=
  ev_bin op_add ev_int (ev_callD xoL W.roll hr (by decide) rfl (i := 1) (P := isThrow 3) hd rfl (.inr (.inl rfl)) (ea_c ev_int ea_nil) ⟨_, rfl, by decide, by decide, rfl⟩) fun dx dy p ⟨z, e, z0, z1⟩ => by
    subst p e
    exact fun hs rx ry k => ⟨1, z, rx.int_inv, ry.int_inv, k.same hs (.int (1 + z)) ⟨1 + z, rfl, by omega, by omega⟩⟩
theorem law0 (T : Tx Θ) (W : LawD Θ b1 b2 b3) (hr : Room 11 (XL Θ f cdv A outer s H E).A) :
    SL Θ f cdv A outer s H E lawBody [.no, .dc, .no, .no, .no, .no, .no, .no, .no, .no, .no, .no, .no, .no, .no, .no, .no, .no, .no, .no, .no, .no, .no, .no] := by
  refine sv_par (i := 2) (j := 3) (P1 := fun d => ∃ z : Int, d = .int z ∧ 1 ≤ z ∧ z < 4) (P2 := fun d => ∃ z : Int, d = .int z ∧ 1 ≤ z ∧ z < 4) xoL rfl rfl (by decide) rfl rfl ?_ ?_ rfl fun d1 d2 ⟨n, e1, n0, n1⟩ ⟨q, e2, q0, q1⟩ => ?_
  · exact throw1 W hr
  · exact throw1 W hr
  · subst e1 e2
    obtain ⟨a, rfl⟩ : ∃ a : Nat, n = (a : Int) := ⟨n.toNat, by omega⟩
    obtain ⟨r, rfl⟩ : ∃ r : Nat, q = (r : Int) := ⟨q.toNat, by omega⟩
    refine sv_unpack3 (i := 4) (j := 5) (m := 6) (PT := fun d1 d2 d3 => ∃ (as rs : List (List Int)) (ss : List Int), d1 = .lst (as.map dF) ∧ d2 = .lst (rs.map dF) ∧ d3 = .lst (ss.map .int) ∧ MkOk as rs ss ∧ as.length = a ∧ rs.length = r ∧ ∀ s ∈ ss, 0 ≤ s ∧ s < 3)
      ((ev_callD xoL W.market hr (by decide) rfl (i := 1) (P := isMarket a r) rfl rfl (by first | exact Or.inl rfl | exact Or.inr (Or.inl rfl)) (ea_c (v 2) (ea_c (v 3) ea_nil)) ⟨a, r, rfl, by omega, by omega, by omega, by omega, rfl⟩).imp fun d ⟨as, rs, ss, e, h1, h2, h3, h4⟩ => ⟨_, _, _, e, as, rs, ss, rfl, rfl, rfl, h1, h2, h3, h4⟩)
      (pg_tup rfl (pgs_cons (pg_name xoL.nd rfl (.inr rfl)) (pgs_cons (pg_name xoL.nd rfl (.inr rfl)) (pgs_cons (pg_name xoL.nd rfl (.inr rfl)) pgs_nil rfl) rfl) rfl) rfl rfl) ?_
    rintro d1 d2 d3 ⟨as, rs, ss, rfl, rfl, rfl, mk, ha, hr', hs⟩
    subst ha hr'
    refine sv_tupIIM (i := 7) (j := 8) (k := 9) (P1 := (· = .mkt as rs ss)) (P2 := (· = .lst [])) (ev_make xoL W.mkt hr (by decide) rfl (ea_c (v 4).thawL (ea_c (v 5).thawL (ea_c (v 6) ea_nil))) ⟨as, rs, ss, _, rfl, .inr rfl, mk, fun s h => (hs s h).1, rfl⟩) (ev_lst ea_nil) (en_list T xoL ((v 6).imp fun d e => .inl e))
      (pg_tup rfl (pgs_cons (pg_name xoL.nd rfl (.inr rfl)) (pgs_cons (pg_name xoL.nd rfl (.inr rfl)) (pgs_cons (pg_name xoL.nd rfl (.inl rfl)) pgs_nil rfl) rfl) rfl) rfl rfl) ?_
    rintro d1 d2 rfl rfl
    exact law3 T W hr mk (by omega) (by omega) fun s h => (hs s h).1
end
end PM

/-! The top of law: the rounds, the one turn. -/
namespace PM
open PySem PySem.Spec PyProof.Rows L2
/-- law's promise -/
def LSp (Θ : Th) : Sp := fun vs H Q _ => ∃ (a : Addr) (ns : List Int), vs = [.ref a] ∧ SqL Θ.K H a (ns.map V.int) ∧ (∀ p ∈ Θ.T, LamX.TabS H p.1 p.2) ∧ (∀ p ∈ Θ.TG, GxR.TabG H p) ∧ ∀ H', Q (.bl true) H'
section
variable {Θ : Th}
/-- a heap that knows one object -/
theorem hs_one {H : Hp} {a : Addr} {o : HO} (h1 : ∀ p ∈ Θ.T, LamX.TabS H p.1 p.2) (h2 : ∀ p ∈ Θ.TG, GxR.TabG H p) (e : H a = some o) (n : ∀ ps, o ≠ .tbl ps) : Hs Θ (upd (fun _ => none) a o) H :=
  ⟨fun b u z => (by
    by_cases q : b = a
    · subst q; rw [upd_same] at z; rw [e]; exact z
    · rw [upd_ne q] at z; cases z),
   fun b ps z => (by
    by_cases q : b = a
    · subst q; rw [upd_same] at z; exact n ps (Option.some.inj z)
    · rw [upd_ne q] at z; cases z), h1, h2⟩
theorem hs_start {H : Hp} {a : Addr} {ns : List Int} (h : SqL Θ.K H a (ns.map V.int)) (h1 : ∀ p ∈ Θ.T, LamX.TabS H p.1 p.2) (h2 : ∀ p ∈ Θ.TG, GxR.TabG H p) : ∃ G, Hs Θ G H ∧ Rep Θ G (.ref a) (.scr ns) := by
  rcases h with (e | ⟨o, e⟩) | h
  · exact ⟨_, hs_one h1 h2 e (fun _ z => by cases z), .scr (.inl (.inl upd_same))⟩
  · exact ⟨_, hs_one h1 h2 e (fun _ z => by cases z), .scr (.inl (.inr ⟨o, upd_same⟩))⟩
  · exact ⟨fun _ => none, ⟨fun _ _ z => (by cases z), fun _ _ z => (by cases z), h1, h2⟩, .scr (.inr h)⟩
theorem dc_at (k : Nat) : ∀ (i : Nat) (s : SD), (SD.no :: .dc :: List.replicate k .no)[i]? = some s → (i = 1 ∧ s = .dc) ∨ s = .no
  | 0, s, h => by cases h; exact .inr rfl
  | 1, s, h => by cases h; exact .inl ⟨rfl, rfl⟩
  | i + 2, s, h => by
    rw [List.getElem?_cons_succ, List.getElem?_cons_succ, List.getElem?_replicate] at h
    split at h
    · cases h; exact .inr rfl
    · cases h
/-- the dice in slot 1 -/
theorem stOk_dc {G H : Hp} {σ : L2.St} {k : Nat} {d : Addr} (hs : Hs Θ G H) (z : DiceAt G H d) (hl : σ.length = k + 2) (h1 : σ[1]? = some (some (.ref d))) : StOk Θ (some d) G H G H σ (.no :: .dc :: List.replicate k .no) ∧ Own H σ (.no :: .dc :: List.replicate k .no) := by
  refine ⟨⟨.refl _ _ _, hs, fun d' e => ?_, by rw [hl]; simp, fun i d' h => ?_, fun i l h => ?_, fun i h => ?_, fun i j l m v _ h => ?_⟩, fun i l a h => ?_⟩
  · cases e
    obtain ⟨_, a, b, c, zH⟩ := id z
    exact ⟨by rw [zH]; simp, z⟩
  · rcases dc_at k i _ h with ⟨_, e⟩ | e <;> cases e
  · rcases dc_at k i _ h with ⟨_, e⟩ | e <;> cases e
  · rcases dc_at k i _ h with ⟨rfl, e⟩ | e
    · exact ⟨d, h1, rfl⟩
    · cases e
  · rcases dc_at k i _ h with ⟨_, e⟩ | e <;> cases e
  · rcases dc_at k i _ h with ⟨_, e⟩ | e <;> cases e
theorem diceL_3 (c : Int) : ∃ x y z : Int, diceL c = [x, y, z] := by
  unfold diceL
  split
  · exact ⟨_, _, _, rfl⟩
  · exact ⟨_, _, _, rfl⟩
variable {f : Addr} {fd : FuncData} {b1 b2 b3 : Addr}
theorem ok_law (T : Tx Θ) (W : LawD Θ b1 b2 b3) (F : Fun Θ.K "law" "law" s_law f fd) : FnOk Θ.P Θ.w Θ.K Θ.mg Θ.base (L2.CX Θ.P Θ.w) 12 f fd ["_law_script"] (LSp Θ) := by
  refine F.okX sc_law (fun vs H Q E h => by obtain ⟨a, ns, rfl, _⟩ := h; rfl) fun cdv A outer s H vs Q E hr h => ?_
  obtain ⟨a, ns, rfl, hS, t1, t2, q⟩ := h
  obtain ⟨G, hs, r⟩ := hs_start hS t1 t2
  obtain ⟨S0, O0⟩ := stOk_start (N := N_law) hs (RepA.cons r .nil)
  have tk : Takes (XL Θ f cdv A outer s H E) (fun cls d _ H => E cls d H) := takes_of rfl rfl rfl rfl
  have xo := xoL (Θ := Θ) (f := f) (cdv := cdv) (A := A) (outer := outer) (s := s) (H := H) (E := E)
  have po : PassesOwn (model Θ.P Θ.w) (XL Θ f cdv A outer s H E).A (XL Θ f cdv A outer s H E).env (XL Θ f cdv A outer s H E).xe := passes_of rfl
  refine ⟨_, pss_cons (ps_for po xo.calm (pi_list pe_can) (pg_name (i := 1) xo.nd rfl (.inr rfl)) pss_can) (pss_one (ps_ret pe_bl)), ?_⟩
  refine (ev_call xo W.rounds hr (by decide) rfl (ea_c (v 0) (ea_c ev_int ea_nil)) ⟨ns, rfl, rfl⟩) none G H G H _ _ S0 fun v d G1 H1 S1 g1 r1 p1 => ?_
  subst p1
  obtain ⟨L, xs, rfl, e1, q1⟩ := r1.lst_inv
  have hlen := q1.length
  cases q1 with
  | cons r2 t =>
    cases t
    obtain ⟨z1, z2, z3, ed⟩ := diceL_3 (ns.getD 0 0)
    rw [ed] at r2
    obtain ⟨d, us, rfl, e2, q2⟩ := r2.lst_inv
    have e3 := RepA.ints_inv (l := [z1, z2, z3]) q2
    subst e3
    have eL := S1.hs.sub _ _ e1
    have eD := S1.hs.sub _ _ e2
    have ne : d ≠ L := fun w => by
      rw [w, e1] at e2
      cases e2
    have hs2 : Hs Θ (upd (fun _ => none) L (.lst [.ref d])) H1 := hs_one S1.hs.tabs S1.hs.tabg eL (fun _ w => by cases w)
    have at_ : ∀ {G' H' : Hp}, Gr (upd (fun _ => none) L (.lst [.ref d])) G' → Hs Θ G' H' → SqL Θ.K H' L [.ref d] := fun g hs => .of (hs.sub _ _ (g _ _ upd_same))
    refine ⟨L, rfl, ⟨[.ref d], at_ (.refl _) hs2⟩, ?_⟩
    refine ⟨fun m k σ' H' => (m = 0 ∧ k = 1 ∧ σ' = L2.start N_law [.ref a] ∧ H' = H1) ∨ (m = 1 ∧ k = 0 ∧ SqL Θ.K H' L [.ref d]), ⟨1, .inl ⟨rfl, rfl, rfl, rfl⟩⟩, ?_⟩
    rintro m k σ' H' (⟨rfl, rfl, rfl, rfl⟩ | ⟨rfl, rfl, w1⟩)
    · refine .inr ⟨⟨[.ref d], .ref d, at_ (.refl _) hs2, rfl⟩, fun σ2 H2 => SqL Θ.K H2 L [.ref d], fun σ2 H2 z => ⟨0, by decide, .inr ⟨rfl, rfl, z⟩⟩, fun x H2 y => ?_⟩
      obtain ⟨rfl, y⟩ := y
      have ex := y [.ref d] (at_ (.refl _) hs2)
      cases ex
      have zd : DiceAt (upd (fun _ => none) L (.lst [.ref d])) _ d := ⟨by rw [upd_ne ne], z1, z2, z3, eD⟩
      obtain ⟨S2, O2⟩ := stOk_dc (σ := (L2.start N_law [.ref a]).set 1 (some (.ref d))) (k := 22) hs2 zd rfl rfl
      exact law0 T W hr (some d) _ _ _ _ _ _ E tk S2 O2 (fun σ3 δ3 G3 H3 S3 O3 g3 _ => at_ g3 S3.hs) (fun v d' G3 H3 e3 r3 p3 => by
        subst p3
        rw [r3.bl_inv]
        exact q H3) (fun _ _ _ _ w => w.elim)
    · exact .inl ⟨⟨[.ref d], w1, Nat.le_refl _⟩, q H'⟩
end
end PM

/-! The head: the facts by names, the run. -/
namespace PM
open PySem PySem.Spec PyProof.Rows L2
abbrev RwR : PySem.W.OpenRow := PySem.W.OpenLaw.row PySem.Challenge.rw_pairmart_k02_matchings_and_what_blocks
def dd (x : Str) (st : Stmt) : He.DefD := ⟨(x, none), x, x, defArgs st, defBody st, defScope st, [], []⟩
def dm (C m q : Str) (st : Stmt) : He.DefD := ⟨(C, some m), m, q, defArgs st, defBody st, defScope st, [], []⟩
def hdFn : List He.DefD := [dd "check_list" s_check_list, dd "check_match" s_check_match, dd "those_in" s_those_in, dd "unwanted" s_unwanted, dd "would_take" s_would_take, dd "blocks" s_blocks, dd "is_stable" s_is_stable, dd "settled" s_settled, dd "ranks_of" s_ranks_of, dd "as_good" s_as_good, dd "filled" s_filled, dd "_law_flat" s_L_flat, dd "_law_dice" s_L_dice, dd "_law_roll" s_L_roll, dd "_law_rounds" s_L_rounds, dd "_law_told" s_L_told, dd "_law_list" s_L_list, dd "_law_market" s_L_market, dd "_law_place" s_L_place, dd "_law_cases1" s_L_cases1, dd "_law_part1" s_L_part1, dd "_law_seated" s_L_seated, dd "law" s_law, dm "Wish" "__init__" "Wish.__init__" s_W_init, dm "Wish" "has" "Wish.has" s_W_has, dm "Wish" "rank" "Wish.rank" s_W_rank, dm "Wish" "better" "Wish.better" s_W_better, dm "Wish" "ahead_of" "Wish.ahead_of" s_W_ahead_of, dm "Wish" "worst" "Wish.worst" s_W_worst, dm "Market" "__init__" "Market.__init__" s_M_init, dm "Market" "size" "Market.size" s_M_size, dm "Market" "likes" "Market.likes" s_M_likes, dm "Market" "pairs" "Market.pairs" s_M_pairs, dm "Market" "with_list" "Market.with_list" s_M_with_list, dm "Market" "with_order" "Market.with_order" s_M_with_order, dm "Market" "with_seats" "Market.with_seats" s_M_with_seats, dm "Market" "shown" "Market.shown" s_M_shown]
def hdFa : List He.Fa := [.glo "BadWish", .glo "BadRoom", .glo "BadMatch", .glo "BadPaper", .glo "BadSize", .glo "BadText", .glo "BadStore", .glo "NoSuch", .glo "BadDeed", .glo "Wish", .glo "Market", .glo "check_list", .glo "check_match", .glo "those_in", .glo "unwanted", .glo "would_take", .glo "blocks", .glo "is_stable", .glo "settled", .glo "ranks_of", .glo "as_good", .glo "filled", .glo "_law_flat", .glo "_law_dice", .glo "_law_roll", .glo "_law_rounds", .glo "_law_told", .glo "_law_list", .glo "_law_market", .glo "_law_place", .glo "_law_cases1", .glo "_law_part1", .glo "_law_seated", .glo "law", .free "len"]
def hdFb : List He.Fa := [.free "tuple", .free "list", .free "dict", .free "enumerate", .free "range", .free "any", .free "all", .free "max", .free "abs", .free "int", .cls "Wish", .cls "Market", .noat "Wish" "order", .noat "Wish" "ranks", .noat "Market" "askers", .noat "Market" "rooms", .noat "Market" "seats", .meth "Wish" "has", .meth "Wish" "rank", .meth "Wish" "better", .meth "Wish" "ahead_of", .meth "Wish" "worst", .meth "Market" "size", .meth "Market" "likes", .meth "Market" "pairs", .meth "Market" "with_list", .meth "Market" "with_order", .meth "Market" "with_seats", .meth "Market" "shown", .mkr "Wish", .mkr "Market", .exc "BadWish", .exc "BadRoom", .exc "BadMatch", .exm "BadWish" "BadWish" true, .exm "BadRoom" "BadWish" false, .exm "BadRoom" "BadRoom" true, .exm "BadMatch" "BadWish" false, .exm "BadMatch" "BadRoom" false, .exm "BadMatch" "BadMatch" true]
def hdTf : List He.Defn := [("check_list", none), ("Market", some "__init__"), ("would_take", none), ("as_good", none), ("check_match", none), ("Wish", some "worst"), ("_law_cases1", none)]
/-- no two tables are one -/
def hdEx (K : PySem.W.Frag) : Bool := decide ((hdTf.map fun p => (He.cT K p).2).Nodup)
def hdN1 : List Str := ["_wall", "MarketFault", "BadWish", "BadRoom", "BadMatch", "BadPaper", "BadSize", "BadText", "BadStore", "NoSuch", "BadDeed", "Wish", "check_list", "Market", "check_match", "those_in", "unwanted", "would_take", "blocks", "is_stable", "settled", "ranks_of", "as_good", "filled"]
def hdN2 : List Str := ["_law_flat", "_law_dice", "_law_roll", "_law_rounds", "_law_told", "_law_list", "_law_market", "_law_place", "_law_blocks", "_law_cases1", "_law_part1", "_law_seated"]
abbrev hk : PySem.W.Hook := He.hookX 4 (hdFa ++ hdFb) hdFn [] hdTf hdEx
def ob (s : PySem.W.SharedT) : He.AlX := He.obsX 4 (hdFa ++ hdFb) hdFn [] hdTf hdEx (HandSHeadRun.getT s)
theorem ob_eq (s : PySem.W.SharedT) : ob s = hk.obs s.abs := He.obsX_eq (HandSHeadRun.getT_eq s)
theorem run (w : World) : HandSHeadRun.RunEq RwR (PySem.W.view RwR.prog [40]) hk ob 4000 (hdN1 ++ hdN2) w := by
  intro os
  kernel_rfl
end PM

/-! The facts, each by its name. -/
namespace PM
open PySem PySem.Spec PyProof.Rows L2
/-- the def's own facts -/
theorem fun_of {K : PySem.W.Frag} {x q : Str} {st : Stmt} {p : He.Defn} (h : ∃ fd, FunD K x q (defArgs st) (defBody st) (defScope st) [] [] (He.fAd K p) fd) : ∃ fd, Fun K x q st (He.fAd K p) fd ∧ fd.code = .ref (He.codeOf K p) := by
  obtain ⟨fd, F⟩ := h
  obtain ⟨oc, od, dV, kV, doc, pm, an, cdv, ct, osl, rfl, lk, hcd, hD, hK⟩ := F.ex
  obtain ⟨cc, e⟩ := He.codeIn_ref hcd
  have hc := He.codeOf_eq (c := cc) lk (by exact e)
  rcases hD with ⟨_, rfl⟩ | ⟨e2, _⟩
  · exact ⟨_, ⟨⟨oc, od, kV, doc, pm, an, cdv, ct, osl, rfl, lk, hcd⟩, F.kp⟩, by rw [hc]; exact e⟩
  · exact absurd rfl e2
section
variable {w : World} {h : Heap} {K : PySem.W.Frag} {mg : Str → Option Value} (c : He.SaysX (hdFa ++ hdFb) hdFn [] hdTf hdEx w h K) (X : K.In h) (G : h.Ns mainGlobals mg)
include c X G in
theorem g_BadWish : mg "BadWish" = some (.ref (He.ga K "BadWish")) := He.glo_ok X G (c.t.d.fact 0 (f := .glo "BadWish") rfl)
include c X G in
theorem g_BadRoom : mg "BadRoom" = some (.ref (He.ga K "BadRoom")) := He.glo_ok X G (c.t.d.fact 1 (f := .glo "BadRoom") rfl)
include c X G in
theorem g_BadMatch : mg "BadMatch" = some (.ref (He.ga K "BadMatch")) := He.glo_ok X G (c.t.d.fact 2 (f := .glo "BadMatch") rfl)
include c X G in
theorem g_BadPaper : mg "BadPaper" = some (.ref (He.ga K "BadPaper")) := He.glo_ok X G (c.t.d.fact 3 (f := .glo "BadPaper") rfl)
include c X G in
theorem g_BadSize : mg "BadSize" = some (.ref (He.ga K "BadSize")) := He.glo_ok X G (c.t.d.fact 4 (f := .glo "BadSize") rfl)
include c X G in
theorem g_BadText : mg "BadText" = some (.ref (He.ga K "BadText")) := He.glo_ok X G (c.t.d.fact 5 (f := .glo "BadText") rfl)
include c X G in
theorem g_BadStore : mg "BadStore" = some (.ref (He.ga K "BadStore")) := He.glo_ok X G (c.t.d.fact 6 (f := .glo "BadStore") rfl)
include c X G in
theorem g_NoSuch : mg "NoSuch" = some (.ref (He.ga K "NoSuch")) := He.glo_ok X G (c.t.d.fact 7 (f := .glo "NoSuch") rfl)
include c X G in
theorem g_BadDeed : mg "BadDeed" = some (.ref (He.ga K "BadDeed")) := He.glo_ok X G (c.t.d.fact 8 (f := .glo "BadDeed") rfl)
include c X G in
theorem g_Wish : mg "Wish" = some (.ref (He.ga K "Wish")) := He.glo_ok X G (c.t.d.fact 9 (f := .glo "Wish") rfl)
include c X G in
theorem g_Market : mg "Market" = some (.ref (He.ga K "Market")) := He.glo_ok X G (c.t.d.fact 10 (f := .glo "Market") rfl)
include c X G in
theorem g_check_list : mg "check_list" = some (.ref (He.ga K "check_list")) := He.glo_ok X G (c.t.d.fact 11 (f := .glo "check_list") rfl)
include c X G in
theorem g_check_match : mg "check_match" = some (.ref (He.ga K "check_match")) := He.glo_ok X G (c.t.d.fact 12 (f := .glo "check_match") rfl)
include c X G in
theorem g_those_in : mg "those_in" = some (.ref (He.ga K "those_in")) := He.glo_ok X G (c.t.d.fact 13 (f := .glo "those_in") rfl)
include c X G in
theorem g_unwanted : mg "unwanted" = some (.ref (He.ga K "unwanted")) := He.glo_ok X G (c.t.d.fact 14 (f := .glo "unwanted") rfl)
include c X G in
theorem g_would_take : mg "would_take" = some (.ref (He.ga K "would_take")) := He.glo_ok X G (c.t.d.fact 15 (f := .glo "would_take") rfl)
include c X G in
theorem g_blocks : mg "blocks" = some (.ref (He.ga K "blocks")) := He.glo_ok X G (c.t.d.fact 16 (f := .glo "blocks") rfl)
include c X G in
theorem g_is_stable : mg "is_stable" = some (.ref (He.ga K "is_stable")) := He.glo_ok X G (c.t.d.fact 17 (f := .glo "is_stable") rfl)
include c X G in
theorem g_settled : mg "settled" = some (.ref (He.ga K "settled")) := He.glo_ok X G (c.t.d.fact 18 (f := .glo "settled") rfl)
include c X G in
theorem g_ranks_of : mg "ranks_of" = some (.ref (He.ga K "ranks_of")) := He.glo_ok X G (c.t.d.fact 19 (f := .glo "ranks_of") rfl)
include c X G in
theorem g_as_good : mg "as_good" = some (.ref (He.ga K "as_good")) := He.glo_ok X G (c.t.d.fact 20 (f := .glo "as_good") rfl)
include c X G in
theorem g_filled : mg "filled" = some (.ref (He.ga K "filled")) := He.glo_ok X G (c.t.d.fact 21 (f := .glo "filled") rfl)
include c X G in
theorem g__law_flat : mg "_law_flat" = some (.ref (He.ga K "_law_flat")) := He.glo_ok X G (c.t.d.fact 22 (f := .glo "_law_flat") rfl)
include c X G in
theorem g__law_dice : mg "_law_dice" = some (.ref (He.ga K "_law_dice")) := He.glo_ok X G (c.t.d.fact 23 (f := .glo "_law_dice") rfl)
include c X G in
theorem g__law_roll : mg "_law_roll" = some (.ref (He.ga K "_law_roll")) := He.glo_ok X G (c.t.d.fact 24 (f := .glo "_law_roll") rfl)
include c X G in
theorem g__law_rounds : mg "_law_rounds" = some (.ref (He.ga K "_law_rounds")) := He.glo_ok X G (c.t.d.fact 25 (f := .glo "_law_rounds") rfl)
include c X G in
theorem g__law_told : mg "_law_told" = some (.ref (He.ga K "_law_told")) := He.glo_ok X G (c.t.d.fact 26 (f := .glo "_law_told") rfl)
include c X G in
theorem g__law_list : mg "_law_list" = some (.ref (He.ga K "_law_list")) := He.glo_ok X G (c.t.d.fact 27 (f := .glo "_law_list") rfl)
include c X G in
theorem g__law_market : mg "_law_market" = some (.ref (He.ga K "_law_market")) := He.glo_ok X G (c.t.d.fact 28 (f := .glo "_law_market") rfl)
include c X G in
theorem g__law_place : mg "_law_place" = some (.ref (He.ga K "_law_place")) := He.glo_ok X G (c.t.d.fact 29 (f := .glo "_law_place") rfl)
include c X G in
theorem g__law_cases1 : mg "_law_cases1" = some (.ref (He.ga K "_law_cases1")) := He.glo_ok X G (c.t.d.fact 30 (f := .glo "_law_cases1") rfl)
include c X G in
theorem g__law_part1 : mg "_law_part1" = some (.ref (He.ga K "_law_part1")) := He.glo_ok X G (c.t.d.fact 31 (f := .glo "_law_part1") rfl)
include c X G in
theorem g__law_seated : mg "_law_seated" = some (.ref (He.ga K "_law_seated")) := He.glo_ok X G (c.t.d.fact 32 (f := .glo "_law_seated") rfl)
include c X G in
theorem g_law : mg "law" = some (.ref (He.ga K "law")) := He.glo_ok X G (c.t.d.fact 33 (f := .glo "law") rfl)
include c X G in
theorem fr_len : mg "len" = none := He.free_ok X G (c.t.d.fact 34 (f := .free "len") rfl)
include c X G in
theorem fr_tuple : mg "tuple" = none := He.free_ok X G (c.t.d.fact 35 (f := .free "tuple") rfl)
include c X G in
theorem fr_list : mg "list" = none := He.free_ok X G (c.t.d.fact 36 (f := .free "list") rfl)
include c X G in
theorem fr_dict : mg "dict" = none := He.free_ok X G (c.t.d.fact 37 (f := .free "dict") rfl)
include c X G in
theorem fr_enumerate : mg "enumerate" = none := He.free_ok X G (c.t.d.fact 38 (f := .free "enumerate") rfl)
include c X G in
theorem fr_range : mg "range" = none := He.free_ok X G (c.t.d.fact 39 (f := .free "range") rfl)
include c X G in
theorem fr_any : mg "any" = none := He.free_ok X G (c.t.d.fact 40 (f := .free "any") rfl)
include c X G in
theorem fr_all : mg "all" = none := He.free_ok X G (c.t.d.fact 41 (f := .free "all") rfl)
include c X G in
theorem fr_max : mg "max" = none := He.free_ok X G (c.t.d.fact 42 (f := .free "max") rfl)
include c X G in
theorem fr_abs : mg "abs" = none := He.free_ok X G (c.t.d.fact 43 (f := .free "abs") rfl)
include c X G in
theorem fr_int : mg "int" = none := He.free_ok X G (c.t.d.fact 44 (f := .free "int") rfl)
include c in
theorem cls_Wish : Cls K (He.ga K "Wish") := He.cls_ok (c.t.d.fact 45 (f := .cls "Wish") rfl)
include c in
theorem cls_Market : Cls K (He.ga K "Market") := He.cls_ok (c.t.d.fact 46 (f := .cls "Market") rfl)
include c in
theorem na_order : NoAttr K (He.ga K "Wish") "order" := He.noat_ok (c.t.d.fact 47 (f := .noat "Wish" "order") rfl)
include c in
theorem na_ranks : NoAttr K (He.ga K "Wish") "ranks" := He.noat_ok (c.t.d.fact 48 (f := .noat "Wish" "ranks") rfl)
include c in
theorem na_askers : NoAttr K (He.ga K "Market") "askers" := He.noat_ok (c.t.d.fact 49 (f := .noat "Market" "askers") rfl)
include c in
theorem na_rooms : NoAttr K (He.ga K "Market") "rooms" := He.noat_ok (c.t.d.fact 50 (f := .noat "Market" "rooms") rfl)
include c in
theorem na_seats : NoAttr K (He.ga K "Market") "seats" := He.noat_ok (c.t.d.fact 51 (f := .noat "Market" "seats") rfl)
include c in
theorem me_Wish_has : Meth K (He.ga K "Wish") "has" (He.ma K (He.ga K "Wish") "has") := He.meth_ok (c.t.d.fact 52 (f := .meth "Wish" "has") rfl)
include c in
theorem me_Wish_rank : Meth K (He.ga K "Wish") "rank" (He.ma K (He.ga K "Wish") "rank") := He.meth_ok (c.t.d.fact 53 (f := .meth "Wish" "rank") rfl)
include c in
theorem me_Wish_better : Meth K (He.ga K "Wish") "better" (He.ma K (He.ga K "Wish") "better") := He.meth_ok (c.t.d.fact 54 (f := .meth "Wish" "better") rfl)
include c in
theorem me_Wish_ahead_of : Meth K (He.ga K "Wish") "ahead_of" (He.ma K (He.ga K "Wish") "ahead_of") := He.meth_ok (c.t.d.fact 55 (f := .meth "Wish" "ahead_of") rfl)
include c in
theorem me_Wish_worst : Meth K (He.ga K "Wish") "worst" (He.ma K (He.ga K "Wish") "worst") := He.meth_ok (c.t.d.fact 56 (f := .meth "Wish" "worst") rfl)
include c in
theorem me_Market_size : Meth K (He.ga K "Market") "size" (He.ma K (He.ga K "Market") "size") := He.meth_ok (c.t.d.fact 57 (f := .meth "Market" "size") rfl)
include c in
theorem me_Market_likes : Meth K (He.ga K "Market") "likes" (He.ma K (He.ga K "Market") "likes") := He.meth_ok (c.t.d.fact 58 (f := .meth "Market" "likes") rfl)
include c in
theorem me_Market_pairs : Meth K (He.ga K "Market") "pairs" (He.ma K (He.ga K "Market") "pairs") := He.meth_ok (c.t.d.fact 59 (f := .meth "Market" "pairs") rfl)
include c in
theorem me_Market_with_list : Meth K (He.ga K "Market") "with_list" (He.ma K (He.ga K "Market") "with_list") := He.meth_ok (c.t.d.fact 60 (f := .meth "Market" "with_list") rfl)
include c in
theorem me_Market_with_order : Meth K (He.ga K "Market") "with_order" (He.ma K (He.ga K "Market") "with_order") := He.meth_ok (c.t.d.fact 61 (f := .meth "Market" "with_order") rfl)
include c in
theorem me_Market_with_seats : Meth K (He.ga K "Market") "with_seats" (He.ma K (He.ga K "Market") "with_seats") := He.meth_ok (c.t.d.fact 62 (f := .meth "Market" "with_seats") rfl)
include c in
theorem me_Market_shown : Meth K (He.ga K "Market") "shown" (He.ma K (He.ga K "Market") "shown") := He.meth_ok (c.t.d.fact 63 (f := .meth "Market" "shown") rfl)
include c in
theorem mk_Wish : Mk K (He.ga K "Wish") (He.ma K (He.ga K "Wish") "__init__") := He.mkr_ok (c.t.d.fact 64 (f := .mkr "Wish") rfl)
include c in
theorem mk_Market : Mk K (He.ga K "Market") (He.ma K (He.ga K "Market") "__init__") := He.mkr_ok (c.t.d.fact 65 (f := .mkr "Market") rfl)
include c in
theorem exc_BadWish : PySem.W.excIn K (He.ga K "BadWish") He.veBase "ValueError.__new__" = true ∧ PySem.W.keepIn K (.ref (He.ga K "BadWish")) = true ∧ PySem.W.subIn K (.ref (He.ga K "BadWish")) (.type "BaseException") = some true ∧ PySem.W.typeIn K (.ref (He.ga K "BadWish")) = some (.type "type") := He.exc_ok (c.t.d.fact 66 (f := .exc "BadWish") rfl)
include c in
theorem exc_BadRoom : PySem.W.excIn K (He.ga K "BadRoom") He.veBase "ValueError.__new__" = true ∧ PySem.W.keepIn K (.ref (He.ga K "BadRoom")) = true ∧ PySem.W.subIn K (.ref (He.ga K "BadRoom")) (.type "BaseException") = some true ∧ PySem.W.typeIn K (.ref (He.ga K "BadRoom")) = some (.type "type") := He.exc_ok (c.t.d.fact 67 (f := .exc "BadRoom") rfl)
include c in
theorem exc_BadMatch : PySem.W.excIn K (He.ga K "BadMatch") He.veBase "ValueError.__new__" = true ∧ PySem.W.keepIn K (.ref (He.ga K "BadMatch")) = true ∧ PySem.W.subIn K (.ref (He.ga K "BadMatch")) (.type "BaseException") = some true ∧ PySem.W.typeIn K (.ref (He.ga K "BadMatch")) = some (.type "type") := He.exc_ok (c.t.d.fact 68 (f := .exc "BadMatch") rfl)
include c in
theorem em_BadWish_BadWish : PySem.W.exmOne K (.ref (He.ga K "BadWish")) (.ref (He.ga K "BadWish")) = some true := He.exm_ok (c.t.d.fact 69 (f := .exm "BadWish" "BadWish" true) rfl)
include c in
theorem em_BadRoom_BadWish : PySem.W.exmOne K (.ref (He.ga K "BadRoom")) (.ref (He.ga K "BadWish")) = some false := He.exm_ok (c.t.d.fact 70 (f := .exm "BadRoom" "BadWish" false) rfl)
include c in
theorem em_BadRoom_BadRoom : PySem.W.exmOne K (.ref (He.ga K "BadRoom")) (.ref (He.ga K "BadRoom")) = some true := He.exm_ok (c.t.d.fact 71 (f := .exm "BadRoom" "BadRoom" true) rfl)
include c in
theorem em_BadMatch_BadWish : PySem.W.exmOne K (.ref (He.ga K "BadMatch")) (.ref (He.ga K "BadWish")) = some false := He.exm_ok (c.t.d.fact 72 (f := .exm "BadMatch" "BadWish" false) rfl)
include c in
theorem em_BadMatch_BadRoom : PySem.W.exmOne K (.ref (He.ga K "BadMatch")) (.ref (He.ga K "BadRoom")) = some false := He.exm_ok (c.t.d.fact 73 (f := .exm "BadMatch" "BadRoom" false) rfl)
include c in
theorem em_BadMatch_BadMatch : PySem.W.exmOne K (.ref (He.ga K "BadMatch")) (.ref (He.ga K "BadMatch")) = some true := He.exm_ok (c.t.d.fact 74 (f := .exm "BadMatch" "BadMatch" true) rfl)
include c in
theorem d_check_list : ∃ fd, Fun K "check_list" "check_list" s_check_list (He.ga K "check_list") fd ∧ fd.code = .ref (He.codeOf K ("check_list", none)) := fun_of (K := K) (x := "check_list") (q := "check_list") (st := s_check_list) (p := ("check_list", none)) (c.t.d.def_ 0 (d := dd "check_list" s_check_list) rfl)
include c in
theorem d_check_match : ∃ fd, Fun K "check_match" "check_match" s_check_match (He.ga K "check_match") fd ∧ fd.code = .ref (He.codeOf K ("check_match", none)) := fun_of (K := K) (x := "check_match") (q := "check_match") (st := s_check_match) (p := ("check_match", none)) (c.t.d.def_ 1 (d := dd "check_match" s_check_match) rfl)
include c in
theorem d_those_in : ∃ fd, Fun K "those_in" "those_in" s_those_in (He.ga K "those_in") fd ∧ fd.code = .ref (He.codeOf K ("those_in", none)) := fun_of (K := K) (x := "those_in") (q := "those_in") (st := s_those_in) (p := ("those_in", none)) (c.t.d.def_ 2 (d := dd "those_in" s_those_in) rfl)
include c in
theorem d_unwanted : ∃ fd, Fun K "unwanted" "unwanted" s_unwanted (He.ga K "unwanted") fd ∧ fd.code = .ref (He.codeOf K ("unwanted", none)) := fun_of (K := K) (x := "unwanted") (q := "unwanted") (st := s_unwanted) (p := ("unwanted", none)) (c.t.d.def_ 3 (d := dd "unwanted" s_unwanted) rfl)
include c in
theorem d_would_take : ∃ fd, Fun K "would_take" "would_take" s_would_take (He.ga K "would_take") fd ∧ fd.code = .ref (He.codeOf K ("would_take", none)) := fun_of (K := K) (x := "would_take") (q := "would_take") (st := s_would_take) (p := ("would_take", none)) (c.t.d.def_ 4 (d := dd "would_take" s_would_take) rfl)
include c in
theorem d_blocks : ∃ fd, Fun K "blocks" "blocks" s_blocks (He.ga K "blocks") fd ∧ fd.code = .ref (He.codeOf K ("blocks", none)) := fun_of (K := K) (x := "blocks") (q := "blocks") (st := s_blocks) (p := ("blocks", none)) (c.t.d.def_ 5 (d := dd "blocks" s_blocks) rfl)
include c in
theorem d_is_stable : ∃ fd, Fun K "is_stable" "is_stable" s_is_stable (He.ga K "is_stable") fd ∧ fd.code = .ref (He.codeOf K ("is_stable", none)) := fun_of (K := K) (x := "is_stable") (q := "is_stable") (st := s_is_stable) (p := ("is_stable", none)) (c.t.d.def_ 6 (d := dd "is_stable" s_is_stable) rfl)
include c in
theorem d_settled : ∃ fd, Fun K "settled" "settled" s_settled (He.ga K "settled") fd ∧ fd.code = .ref (He.codeOf K ("settled", none)) := fun_of (K := K) (x := "settled") (q := "settled") (st := s_settled) (p := ("settled", none)) (c.t.d.def_ 7 (d := dd "settled" s_settled) rfl)
include c in
theorem d_ranks_of : ∃ fd, Fun K "ranks_of" "ranks_of" s_ranks_of (He.ga K "ranks_of") fd ∧ fd.code = .ref (He.codeOf K ("ranks_of", none)) := fun_of (K := K) (x := "ranks_of") (q := "ranks_of") (st := s_ranks_of) (p := ("ranks_of", none)) (c.t.d.def_ 8 (d := dd "ranks_of" s_ranks_of) rfl)
include c in
theorem d_as_good : ∃ fd, Fun K "as_good" "as_good" s_as_good (He.ga K "as_good") fd ∧ fd.code = .ref (He.codeOf K ("as_good", none)) := fun_of (K := K) (x := "as_good") (q := "as_good") (st := s_as_good) (p := ("as_good", none)) (c.t.d.def_ 9 (d := dd "as_good" s_as_good) rfl)
include c in
theorem d_filled : ∃ fd, Fun K "filled" "filled" s_filled (He.ga K "filled") fd ∧ fd.code = .ref (He.codeOf K ("filled", none)) := fun_of (K := K) (x := "filled") (q := "filled") (st := s_filled) (p := ("filled", none)) (c.t.d.def_ 10 (d := dd "filled" s_filled) rfl)
include c in
theorem d__law_flat : ∃ fd, Fun K "_law_flat" "_law_flat" s_L_flat (He.ga K "_law_flat") fd ∧ fd.code = .ref (He.codeOf K ("_law_flat", none)) := fun_of (K := K) (x := "_law_flat") (q := "_law_flat") (st := s_L_flat) (p := ("_law_flat", none)) (c.t.d.def_ 11 (d := dd "_law_flat" s_L_flat) rfl)
include c in
theorem d__law_dice : ∃ fd, Fun K "_law_dice" "_law_dice" s_L_dice (He.ga K "_law_dice") fd ∧ fd.code = .ref (He.codeOf K ("_law_dice", none)) := fun_of (K := K) (x := "_law_dice") (q := "_law_dice") (st := s_L_dice) (p := ("_law_dice", none)) (c.t.d.def_ 12 (d := dd "_law_dice" s_L_dice) rfl)
include c in
theorem d__law_roll : ∃ fd, Fun K "_law_roll" "_law_roll" s_L_roll (He.ga K "_law_roll") fd ∧ fd.code = .ref (He.codeOf K ("_law_roll", none)) := fun_of (K := K) (x := "_law_roll") (q := "_law_roll") (st := s_L_roll) (p := ("_law_roll", none)) (c.t.d.def_ 13 (d := dd "_law_roll" s_L_roll) rfl)
include c in
theorem d__law_rounds : ∃ fd, Fun K "_law_rounds" "_law_rounds" s_L_rounds (He.ga K "_law_rounds") fd ∧ fd.code = .ref (He.codeOf K ("_law_rounds", none)) := fun_of (K := K) (x := "_law_rounds") (q := "_law_rounds") (st := s_L_rounds) (p := ("_law_rounds", none)) (c.t.d.def_ 14 (d := dd "_law_rounds" s_L_rounds) rfl)
include c in
theorem d__law_told : ∃ fd, Fun K "_law_told" "_law_told" s_L_told (He.ga K "_law_told") fd ∧ fd.code = .ref (He.codeOf K ("_law_told", none)) := fun_of (K := K) (x := "_law_told") (q := "_law_told") (st := s_L_told) (p := ("_law_told", none)) (c.t.d.def_ 15 (d := dd "_law_told" s_L_told) rfl)
include c in
theorem d__law_list : ∃ fd, Fun K "_law_list" "_law_list" s_L_list (He.ga K "_law_list") fd ∧ fd.code = .ref (He.codeOf K ("_law_list", none)) := fun_of (K := K) (x := "_law_list") (q := "_law_list") (st := s_L_list) (p := ("_law_list", none)) (c.t.d.def_ 16 (d := dd "_law_list" s_L_list) rfl)
include c in
theorem d__law_market : ∃ fd, Fun K "_law_market" "_law_market" s_L_market (He.ga K "_law_market") fd ∧ fd.code = .ref (He.codeOf K ("_law_market", none)) := fun_of (K := K) (x := "_law_market") (q := "_law_market") (st := s_L_market) (p := ("_law_market", none)) (c.t.d.def_ 17 (d := dd "_law_market" s_L_market) rfl)
include c in
theorem d__law_place : ∃ fd, Fun K "_law_place" "_law_place" s_L_place (He.ga K "_law_place") fd ∧ fd.code = .ref (He.codeOf K ("_law_place", none)) := fun_of (K := K) (x := "_law_place") (q := "_law_place") (st := s_L_place) (p := ("_law_place", none)) (c.t.d.def_ 18 (d := dd "_law_place" s_L_place) rfl)
include c in
theorem d__law_cases1 : ∃ fd, Fun K "_law_cases1" "_law_cases1" s_L_cases1 (He.ga K "_law_cases1") fd ∧ fd.code = .ref (He.codeOf K ("_law_cases1", none)) := fun_of (K := K) (x := "_law_cases1") (q := "_law_cases1") (st := s_L_cases1) (p := ("_law_cases1", none)) (c.t.d.def_ 19 (d := dd "_law_cases1" s_L_cases1) rfl)
include c in
theorem d__law_part1 : ∃ fd, Fun K "_law_part1" "_law_part1" s_L_part1 (He.ga K "_law_part1") fd ∧ fd.code = .ref (He.codeOf K ("_law_part1", none)) := fun_of (K := K) (x := "_law_part1") (q := "_law_part1") (st := s_L_part1) (p := ("_law_part1", none)) (c.t.d.def_ 20 (d := dd "_law_part1" s_L_part1) rfl)
include c in
theorem d__law_seated : ∃ fd, Fun K "_law_seated" "_law_seated" s_L_seated (He.ga K "_law_seated") fd ∧ fd.code = .ref (He.codeOf K ("_law_seated", none)) := fun_of (K := K) (x := "_law_seated") (q := "_law_seated") (st := s_L_seated) (p := ("_law_seated", none)) (c.t.d.def_ 21 (d := dd "_law_seated" s_L_seated) rfl)
include c in
theorem d_law : ∃ fd, Fun K "law" "law" s_law (He.ga K "law") fd ∧ fd.code = .ref (He.codeOf K ("law", none)) := fun_of (K := K) (x := "law") (q := "law") (st := s_law) (p := ("law", none)) (c.t.d.def_ 22 (d := dd "law" s_law) rfl)
include c in
theorem d_Wish___init__ : ∃ fd, Fun K "__init__" "Wish.__init__" s_W_init (He.ma K (He.ga K "Wish") "__init__") fd ∧ fd.code = .ref (He.codeOf K ("Wish", some "__init__")) := fun_of (K := K) (x := "__init__") (q := "Wish.__init__") (st := s_W_init) (p := ("Wish", some "__init__")) (c.t.d.def_ 23 (d := dm "Wish" "__init__" "Wish.__init__" s_W_init) rfl)
include c in
theorem d_Wish_has : ∃ fd, Fun K "has" "Wish.has" s_W_has (He.ma K (He.ga K "Wish") "has") fd ∧ fd.code = .ref (He.codeOf K ("Wish", some "has")) := fun_of (K := K) (x := "has") (q := "Wish.has") (st := s_W_has) (p := ("Wish", some "has")) (c.t.d.def_ 24 (d := dm "Wish" "has" "Wish.has" s_W_has) rfl)
include c in
theorem d_Wish_rank : ∃ fd, Fun K "rank" "Wish.rank" s_W_rank (He.ma K (He.ga K "Wish") "rank") fd ∧ fd.code = .ref (He.codeOf K ("Wish", some "rank")) := fun_of (K := K) (x := "rank") (q := "Wish.rank") (st := s_W_rank) (p := ("Wish", some "rank")) (c.t.d.def_ 25 (d := dm "Wish" "rank" "Wish.rank" s_W_rank) rfl)
include c in
theorem d_Wish_better : ∃ fd, Fun K "better" "Wish.better" s_W_better (He.ma K (He.ga K "Wish") "better") fd ∧ fd.code = .ref (He.codeOf K ("Wish", some "better")) := fun_of (K := K) (x := "better") (q := "Wish.better") (st := s_W_better) (p := ("Wish", some "better")) (c.t.d.def_ 26 (d := dm "Wish" "better" "Wish.better" s_W_better) rfl)
include c in
theorem d_Wish_ahead_of : ∃ fd, Fun K "ahead_of" "Wish.ahead_of" s_W_ahead_of (He.ma K (He.ga K "Wish") "ahead_of") fd ∧ fd.code = .ref (He.codeOf K ("Wish", some "ahead_of")) := fun_of (K := K) (x := "ahead_of") (q := "Wish.ahead_of") (st := s_W_ahead_of) (p := ("Wish", some "ahead_of")) (c.t.d.def_ 27 (d := dm "Wish" "ahead_of" "Wish.ahead_of" s_W_ahead_of) rfl)
include c in
theorem d_Wish_worst : ∃ fd, Fun K "worst" "Wish.worst" s_W_worst (He.ma K (He.ga K "Wish") "worst") fd ∧ fd.code = .ref (He.codeOf K ("Wish", some "worst")) := fun_of (K := K) (x := "worst") (q := "Wish.worst") (st := s_W_worst) (p := ("Wish", some "worst")) (c.t.d.def_ 28 (d := dm "Wish" "worst" "Wish.worst" s_W_worst) rfl)
include c in
theorem d_Market___init__ : ∃ fd, Fun K "__init__" "Market.__init__" s_M_init (He.ma K (He.ga K "Market") "__init__") fd ∧ fd.code = .ref (He.codeOf K ("Market", some "__init__")) := fun_of (K := K) (x := "__init__") (q := "Market.__init__") (st := s_M_init) (p := ("Market", some "__init__")) (c.t.d.def_ 29 (d := dm "Market" "__init__" "Market.__init__" s_M_init) rfl)
include c in
theorem d_Market_size : ∃ fd, Fun K "size" "Market.size" s_M_size (He.ma K (He.ga K "Market") "size") fd ∧ fd.code = .ref (He.codeOf K ("Market", some "size")) := fun_of (K := K) (x := "size") (q := "Market.size") (st := s_M_size) (p := ("Market", some "size")) (c.t.d.def_ 30 (d := dm "Market" "size" "Market.size" s_M_size) rfl)
include c in
theorem d_Market_likes : ∃ fd, Fun K "likes" "Market.likes" s_M_likes (He.ma K (He.ga K "Market") "likes") fd ∧ fd.code = .ref (He.codeOf K ("Market", some "likes")) := fun_of (K := K) (x := "likes") (q := "Market.likes") (st := s_M_likes) (p := ("Market", some "likes")) (c.t.d.def_ 31 (d := dm "Market" "likes" "Market.likes" s_M_likes) rfl)
include c in
theorem d_Market_pairs : ∃ fd, Fun K "pairs" "Market.pairs" s_M_pairs (He.ma K (He.ga K "Market") "pairs") fd ∧ fd.code = .ref (He.codeOf K ("Market", some "pairs")) := fun_of (K := K) (x := "pairs") (q := "Market.pairs") (st := s_M_pairs) (p := ("Market", some "pairs")) (c.t.d.def_ 32 (d := dm "Market" "pairs" "Market.pairs" s_M_pairs) rfl)
include c in
theorem d_Market_with_list : ∃ fd, Fun K "with_list" "Market.with_list" s_M_with_list (He.ma K (He.ga K "Market") "with_list") fd ∧ fd.code = .ref (He.codeOf K ("Market", some "with_list")) := fun_of (K := K) (x := "with_list") (q := "Market.with_list") (st := s_M_with_list) (p := ("Market", some "with_list")) (c.t.d.def_ 33 (d := dm "Market" "with_list" "Market.with_list" s_M_with_list) rfl)
include c in
theorem d_Market_with_order : ∃ fd, Fun K "with_order" "Market.with_order" s_M_with_order (He.ma K (He.ga K "Market") "with_order") fd ∧ fd.code = .ref (He.codeOf K ("Market", some "with_order")) := fun_of (K := K) (x := "with_order") (q := "Market.with_order") (st := s_M_with_order) (p := ("Market", some "with_order")) (c.t.d.def_ 34 (d := dm "Market" "with_order" "Market.with_order" s_M_with_order) rfl)
include c in
theorem d_Market_with_seats : ∃ fd, Fun K "with_seats" "Market.with_seats" s_M_with_seats (He.ma K (He.ga K "Market") "with_seats") fd ∧ fd.code = .ref (He.codeOf K ("Market", some "with_seats")) := fun_of (K := K) (x := "with_seats") (q := "Market.with_seats") (st := s_M_with_seats) (p := ("Market", some "with_seats")) (c.t.d.def_ 35 (d := dm "Market" "with_seats" "Market.with_seats" s_M_with_seats) rfl)
include c in
theorem d_Market_shown : ∃ fd, Fun K "shown" "Market.shown" s_M_shown (He.ma K (He.ga K "Market") "shown") fd ∧ fd.code = .ref (He.codeOf K ("Market", some "shown")) := fun_of (K := K) (x := "shown") (q := "Market.shown") (st := s_M_shown) (p := ("Market", some "shown")) (c.t.d.def_ 36 (d := dm "Market" "shown" "Market.shown" s_M_shown) rfl)
end
end PM

/-! The promises put together. -/
namespace PM
open PySem PySem.Spec PyProof.Rows L2
section
variable {Θ : Th} {x qual m : Str} {st : Stmt} {f C : Addr} {fd : FuncData} {ps : List Str} {k n : Nat} {R : List D → D → Prop} {RX : List D → Addr → Prop} {RD : List D → (D → Prop) → Prop}
theorem dfn_of (g : Θ.mg x = some (.ref f)) (F : Fun Θ.K x qual st f fd) (o : FnOk Θ.P Θ.w Θ.K Θ.mg Θ.base (L2.CX Θ.P Θ.w) k f fd ps (PSp Θ n R RX))
    (h : ∀ (kV doc pm : Value) (an : Option Addr) (cdv ct : Value) (us : List Value), us.length = ps.length → bindArgs (PySem.W.fnOf x qual (defArgs st) (defBody st) (defScope st) .none kV doc pm an cdv ct) ⟨us, []⟩ = pure (ps.zip us)) : Dfn Θ x k n R RX :=
  ⟨⟨f, fd, ps, o, g, F.kp, F.binds h⟩⟩
theorem dfnD_of (g : Θ.mg x = some (.ref f)) (F : Fun Θ.K x qual st f fd) (o : FnOk Θ.P Θ.w Θ.K Θ.mg Θ.base (L2.CX Θ.P Θ.w) k f fd ps (DSp Θ n RD))
    (h : ∀ (kV doc pm : Value) (an : Option Addr) (cdv ct : Value) (us : List Value), us.length = ps.length → bindArgs (PySem.W.fnOf x qual (defArgs st) (defBody st) (defScope st) .none kV doc pm an cdv ct) ⟨us, []⟩ = pure (ps.zip us)) : DfnD Θ x k n RD :=
  ⟨⟨f, fd, ps, o, g, F.kp, F.binds h⟩⟩
theorem mth_of (cl : Cls Θ.K C) (me : Meth Θ.K C m f) (F : Fun Θ.K x qual st f fd) (o : FnOk Θ.P Θ.w Θ.K Θ.mg Θ.base (L2.CX Θ.P Θ.w) k f fd ps (PSp Θ n R RX))
    (h : ∀ (kV doc pm : Value) (an : Option Addr) (cdv ct : Value) (us : List Value), us.length = ps.length → bindArgs (PySem.W.fnOf x qual (defArgs st) (defBody st) (defScope st) .none kV doc pm an cdv ct) ⟨us, []⟩ = pure (ps.zip us)) : Mth Θ C m k n R RX :=
  ⟨⟨f, fd, ps, cl, me, o, F.binds h⟩⟩
theorem mkr_of {y : Str} (mk : Mk Θ.K C f) (g : Θ.mg y = some (.ref C)) (F : Fun Θ.K x qual st f fd) (o : FnOk Θ.P Θ.w Θ.K Θ.mg Θ.base (L2.CX Θ.P Θ.w) k f fd ps (ISp Θ C n R RX))
    (h : ∀ (kV doc pm : Value) (an : Option Addr) (cdv ct : Value) (us : List Value), us.length = ps.length → bindArgs (PySem.W.fnOf x qual (defArgs st) (defBody st) (defScope st) .none kV doc pm an cdv ct) ⟨us, []⟩ = pure (ps.zip us)) : Mkr Θ y C k n R RX :=
  ⟨⟨f, fd, ps, mk, o, g, F.binds h⟩⟩
end
/-- a def's code object, its table -/
abbrev cK (K : PySem.W.Frag) (p : He.Defn) : Addr := He.codeOf K p
abbrev tK (K : PySem.W.Frag) (p : He.Defn) : Addr := (He.cT K p).2
/-- all that is fixed -/
abbrev ThK (P : Program) (w : World) (K : PySem.W.Frag) (mg : Str → Option Value) (base : Heap) : Th where
  P := P
  w := w
  K := K
  mg := mg
  base := base
  CW := He.ga K "Wish"
  CM := He.ga K "Market"
  T := [(tK K ("Wish", some "worst"), "Wish.worst.<locals>.<lambda>"), (tK K ("_law_cases1", none), "_law_cases1.<locals>.<lambda>")]
  TG := [tK K ("check_list", none), tK K ("Market", some "__init__"), tK K ("would_take", none), tK K ("as_good", none), tK K ("check_match", none)]
theorem tabs_ne {K : PySem.W.Frag} (h : hdEx K = true) : ∀ i j : Nat, i < 7 → j < 7 → i ≠ j → (hdTf.map fun p => (He.cT K p).2).getD i 0 ≠ (hdTf.map fun p => (He.cT K p).2).getD j 0 := fun i j hi hj ne e => by
  have nd : (hdTf.map fun p => (He.cT K p).2).Nodup := of_decide_eq_true h
  have hl : (hdTf.map fun p => (He.cT K p).2).length = 7 := rfl
  have h1 := get_getD (hdTf.map fun p => (He.cT K p).2) 0 (show i < _ by rw [hl]; exact hi)
  have h2 := get_getD (hdTf.map fun p => (He.cT K p).2) 0 (show j < _ by rw [hl]; exact hj)
  rw [e, ← h2] at h1
  exact ne ((List.getElem?_inj (by rw [hl]; exact hi) nd).mp h1)
section
variable {P : Program} {w : World} {h base : Heap} {K : PySem.W.Frag} {mg : Str → Option Value}
theorem genT_of {c P' : Addr} (hm : P' ∈ (ThK P w K mg base).TG) (ne : tK K ("Wish", some "worst") ≠ P' ∧ tK K ("_law_cases1", none) ≠ P') (t : LamX.TabB base mg c P') : GenT (ThK P w K mg base) c P' := by
  refine ⟨hm, fun p hp => ?_, ⟨t.code, t.bm, t.gP⟩⟩
  have hp : p ∈ [(tK K ("Wish", some "worst"), ("Wish.worst.<locals>.<lambda>" : Str)), (tK K ("_law_cases1", none), "_law_cases1.<locals>.<lambda>")] := hp
  rcases List.mem_cons.mp hp with e | hp
  · rw [e]; exact ne.1
  · rcases List.mem_cons.mp hp with e | hp
    · rw [e]; exact ne.2
    · cases hp
theorem excC_of {x : Str} (e : PySem.W.excIn K (He.ga K x) He.veBase "ValueError.__new__" = true ∧ PySem.W.keepIn K (.ref (He.ga K x)) = true ∧ PySem.W.subIn K (.ref (He.ga K x)) (.type "BaseException") = some true ∧ PySem.W.typeIn K (.ref (He.ga K x)) = some (.type "type"))
    (g : mg x = some (.ref (He.ga K x))) : ExC (ThK P w K mg base) x (He.ga K x) := ⟨e.1, g, e.2.1, e.2.2.1, e.2.2.2⟩
theorem all_ok (c : He.SaysX (hdFa ++ hdFb) hdFn [] hdTf hdEx w h K) (X : K.In h) (G : h.Ns mainGlobals mg) (TB : ∀ p ∈ hdTf.map (He.cT K), LamX.TabB base mg p.1 p.2) :
    Tx (ThK P w K mg base) ∧ LawD (ThK P w K mg base) (He.ga K "BadWish") (He.ga K "BadRoom") (He.ga K "BadMatch") := by
  have ne := tabs_ne c.more
  have tb : ∀ (i : Nat) (q : He.Defn), hdTf[i]? = some q → LamX.TabB base mg (cK K q) (tK K q) := fun i q e => TB _ (List.mem_map.mpr ⟨q, List.mem_of_getElem? e, rfl⟩)
  have T : Tx (ThK P w K mg base) := ⟨cls_Wish c, cls_Market c, na_order c, na_ranks c, na_askers c, na_rooms c, na_seats c, fr_len c X G, fr_tuple c X G, fr_list c X G, fr_dict c X G, fr_enumerate c X G, fr_range c X G, fr_any c X G, fr_all c X G, fr_max c X G, fr_abs c X G, fr_int c X G⟩
  have G1 : GenT (ThK P w K mg base) (cK K ("check_list", none)) (tK K ("check_list", none)) := genT_of (by simp) ⟨ne 5 0 (by decide) (by decide) (by decide), ne 6 0 (by decide) (by decide) (by decide)⟩ (tb 0 _ rfl)
  have G2 : GenT (ThK P w K mg base) (cK K ("Market", some "__init__")) (tK K ("Market", some "__init__")) := genT_of (by simp) ⟨ne 5 1 (by decide) (by decide) (by decide), ne 6 1 (by decide) (by decide) (by decide)⟩ (tb 1 _ rfl)
  have G3 : GenT (ThK P w K mg base) (cK K ("would_take", none)) (tK K ("would_take", none)) := genT_of (by simp) ⟨ne 5 2 (by decide) (by decide) (by decide), ne 6 2 (by decide) (by decide) (by decide)⟩ (tb 2 _ rfl)
  have G4 : GenT (ThK P w K mg base) (cK K ("as_good", none)) (tK K ("as_good", none)) := genT_of (by simp) ⟨ne 5 3 (by decide) (by decide) (by decide), ne 6 3 (by decide) (by decide) (by decide)⟩ (tb 3 _ rfl)
  have G5 : GenT (ThK P w K mg base) (cK K ("check_match", none)) (tK K ("check_match", none)) := genT_of (by simp) ⟨ne 5 4 (by decide) (by decide) (by decide), ne 6 4 (by decide) (by decide) (by decide)⟩ (tb 4 _ rfl)
  have n56 := ne 5 6 (by decide) (by decide) (by decide)
  have L1 : LamT (ThK P w K mg base) (cK K ("Wish", some "worst")) (tK K ("Wish", some "worst")) "Wish.worst.<locals>.<lambda>" := by
    refine ⟨List.mem_cons_self, fun p hp e => ?_, fun hp => ?_, tb 5 _ rfl⟩
    · rcases List.mem_cons.mp hp with z | hp
      · rw [z]
      · rcases List.mem_cons.mp hp with z | hp
        · rw [z] at e
          exact absurd e.symm n56
        · cases hp
    · have hp : tK K ("Wish", some "worst") ∈ [tK K ("check_list", none), tK K ("Market", some "__init__"), tK K ("would_take", none), tK K ("as_good", none), tK K ("check_match", none)] := hp
      rcases List.mem_cons.mp hp with z | hp
      · exact ne 5 0 (by decide) (by decide) (by decide) z
      rcases List.mem_cons.mp hp with z | hp
      · exact ne 5 1 (by decide) (by decide) (by decide) z
      rcases List.mem_cons.mp hp with z | hp
      · exact ne 5 2 (by decide) (by decide) (by decide) z
      rcases List.mem_cons.mp hp with z | hp
      · exact ne 5 3 (by decide) (by decide) (by decide) z
      rcases List.mem_cons.mp hp with z | hp
      · exact ne 5 4 (by decide) (by decide) (by decide) z
      cases hp
  have L2' : LamT (ThK P w K mg base) (cK K ("_law_cases1", none)) (tK K ("_law_cases1", none)) "_law_cases1.<locals>.<lambda>" := by
    refine ⟨List.mem_cons_of_mem _ List.mem_cons_self, fun p hp e => ?_, fun hp => ?_, tb 6 _ rfl⟩
    · rcases List.mem_cons.mp hp with z | hp
      · rw [z] at e
        exact absurd e n56
      · rcases List.mem_cons.mp hp with z | hp
        · rw [z]
        · cases hp
    · have hp : tK K ("_law_cases1", none) ∈ [tK K ("check_list", none), tK K ("Market", some "__init__"), tK K ("would_take", none), tK K ("as_good", none), tK K ("check_match", none)] := hp
      rcases List.mem_cons.mp hp with z | hp
      · exact ne 6 0 (by decide) (by decide) (by decide) z
      rcases List.mem_cons.mp hp with z | hp
      · exact ne 6 1 (by decide) (by decide) (by decide) z
      rcases List.mem_cons.mp hp with z | hp
      · exact ne 6 2 (by decide) (by decide) (by decide) z
      rcases List.mem_cons.mp hp with z | hp
      · exact ne 6 3 (by decide) (by decide) (by decide) z
      rcases List.mem_cons.mp hp with z | hp
      · exact ne 6 4 (by decide) (by decide) (by decide) z
      cases hp
  have e1 : ExC (ThK P w K mg base) "BadWish" (He.ga K "BadWish") := excC_of (exc_BadWish c) (g_BadWish c X G)
  have e2 : ExC (ThK P w K mg base) "BadRoom" (He.ga K "BadRoom") := excC_of (exc_BadRoom c) (g_BadRoom c X G)
  have e3 : ExC (ThK P w K mg base) "BadMatch" (He.ga K "BadMatch") := excC_of (exc_BadMatch c) (g_BadMatch c X G)
  -- the wishes
  obtain ⟨fdWi, FWi, _⟩ := d_Wish___init__ c
  have mW : Mkr (ThK P w K mg base) "Wish" (ThK P w K mg base).CW 1 1 R_wi NoX := mkr_of (mk_Wish c) (g_Wish c X G) FWi (ok_wi T FWi) fun _ _ _ _ _ _ us hl => match us, hl with | [_, _], _ => rfl
  obtain ⟨_, Fha, _⟩ := d_Wish_has c
  have mHa : Mth (ThK P w K mg base) (ThK P w K mg base).CW "has" 1 2 R_has NoX := mth_of T.clW (me_Wish_has c) Fha (ok_has T Fha) fun _ _ _ _ _ _ us hl => match us, hl with | [_, _], _ => rfl
  obtain ⟨_, Fra, _⟩ := d_Wish_rank c
  have mRa : Mth (ThK P w K mg base) (ThK P w K mg base).CW "rank" 1 2 R_rank NoX := mth_of T.clW (me_Wish_rank c) Fra (ok_rank T Fra) fun _ _ _ _ _ _ us hl => match us, hl with | [_, _], _ => rfl
  obtain ⟨_, Fbe, _⟩ := d_Wish_better c
  have mBe : Mth (ThK P w K mg base) (ThK P w K mg base).CW "better" 2 3 R_better NoX := mth_of T.clW (me_Wish_better c) Fbe (ok_better T Fbe mRa) fun _ _ _ _ _ _ us hl => match us, hl with | [_, _, _], _ => rfl
  obtain ⟨_, Fah, _⟩ := d_Wish_ahead_of c
  have mAh : Mth (ThK P w K mg base) (ThK P w K mg base).CW "ahead_of" 2 2 R_ahead NoX := mth_of T.clW (me_Wish_ahead_of c) Fah (ok_ahead T Fah mRa) fun _ _ _ _ _ _ us hl => match us, hl with | [_, _], _ => rfl
  obtain ⟨_, Fwo, cWo⟩ := d_Wish_worst c
  have mWo : Mth (ThK P w K mg base) (ThK P w K mg base).CW "worst" 3 2 R_worst NoX := mth_of T.clW (me_Wish_worst c) Fwo (ok_worst T L1 Fwo cWo) fun _ _ _ _ _ _ us hl => match us, hl with | [_, _], _ => rfl
  have W : WiM (ThK P w K mg base) := ⟨mHa, mRa, mBe, mAh⟩
  obtain ⟨_, Fcl, cCl⟩ := d_check_list c
  have dCl : Dfn (ThK P w K mg base) "check_list" 2 2 R_clist (X_clist (He.ga K "BadWish")) := dfn_of (g_check_list c X G) Fcl (ok_clist T G1 e1 Fcl cCl) fun _ _ _ _ _ _ us hl => match us, hl with | [_, _], _ => rfl
  -- the market
  obtain ⟨_, Fmi, cMi⟩ := d_Market___init__ c
  have mM : Mkr (ThK P w K mg base) "Market" (ThK P w K mg base).CM 5 3 R_mi (X_mi (He.ga K "BadRoom") (He.ga K "BadWish")) := mkr_of (mk_Market c) (g_Market c X G) Fmi (ok_mi T G2 e2 dCl mW Fmi cMi) fun _ _ _ _ _ _ us hl => match us, hl with | [_, _, _, _], _ => rfl
  obtain ⟨_, Fsi, _⟩ := d_Market_size c
  have mSi : Mth (ThK P w K mg base) (ThK P w K mg base).CM "size" 1 1 R_size NoX := mth_of T.clM (me_Market_size c) Fsi (ok_size T Fsi) fun _ _ _ _ _ _ us hl => match us, hl with | [_], _ => rfl
  obtain ⟨_, Fli, _⟩ := d_Market_likes c
  have mLi : Mth (ThK P w K mg base) (ThK P w K mg base).CM "likes" 2 3 R_likes NoX := mth_of T.clM (me_Market_likes c) Fli (ok_likes T W Fli) fun _ _ _ _ _ _ us hl => match us, hl with | [_, _, _], _ => rfl
  obtain ⟨_, Fpa, _⟩ := d_Market_pairs c
  have mPa : Mth (ThK P w K mg base) (ThK P w K mg base).CM "pairs" 2 1 R_prs NoX := mth_of T.clM (me_Market_pairs c) Fpa (ok_prs T W Fpa) fun _ _ _ _ _ _ us hl => match us, hl with | [_], _ => rfl
  obtain ⟨_, Fwl, _⟩ := d_Market_with_list c
  have mWl : Mth (ThK P w K mg base) (ThK P w K mg base).CM "with_list" 7 3 R_wl NoX := mth_of T.clM (me_Market_with_list c) Fwl (ok_wl T mM Fwl) fun _ _ _ _ _ _ us hl => match us, hl with | [_, _, _], _ => rfl
  obtain ⟨_, Fwd, _⟩ := d_Market_with_order c
  have mWd : Mth (ThK P w K mg base) (ThK P w K mg base).CM "with_order" 7 3 R_wo NoX := mth_of T.clM (me_Market_with_order c) Fwd (ok_wo T mM Fwd) fun _ _ _ _ _ _ us hl => match us, hl with | [_, _, _], _ => rfl
  obtain ⟨_, Fws, _⟩ := d_Market_with_seats c
  have mWs : Mth (ThK P w K mg base) (ThK P w K mg base).CM "with_seats" 7 3 R_ws (X_ws (He.ga K "BadRoom")) := mth_of T.clM (me_Market_with_seats c) Fws (ok_ws T mM Fws) fun _ _ _ _ _ _ us hl => match us, hl with | [_, _, _], _ => rfl
  obtain ⟨_, Fsh, _⟩ := d_Market_shown c
  have mSh : Mth (ThK P w K mg base) (ThK P w K mg base).CM "shown" 1 1 R_shown NoX := mth_of T.clM (me_Market_shown c) Fsh (ok_shown T Fsh) fun _ _ _ _ _ _ us hl => match us, hl with | [_], _ => rfl
  -- the defs over markets
  obtain ⟨_, Fcm, cCm⟩ := d_check_match c
  have dCm : Dfn (ThK P w K mg base) "check_match" 2 2 R_cm (X_cm (He.ga K "BadMatch")) := dfn_of (g_check_match c X G) Fcm (ok_cm T G5 e3 mSi Fcm cCm) fun _ _ _ _ _ _ us hl => match us, hl with | [_, _], _ => rfl
  obtain ⟨_, Fth, _⟩ := d_those_in c
  have dTh : Dfn (ThK P w K mg base) "those_in" 1 2 R_those NoX := dfn_of (g_those_in c X G) Fth (ok_those T Fth) fun _ _ _ _ _ _ us hl => match us, hl with | [_, _], _ => rfl
  obtain ⟨_, Fun', _⟩ := d_unwanted c
  have dUn : Dfn (ThK P w K mg base) "unwanted" 3 2 R_unw NoX := dfn_of (g_unwanted c X G) Fun' (ok_unw T mLi Fun') fun _ _ _ _ _ _ us hl => match us, hl with | [_, _], _ => rfl
  obtain ⟨_, Fwt, cWt⟩ := d_would_take c
  have dWt : Dfn (ThK P w K mg base) "would_take" 4 4 R_wt NoX := dfn_of (g_would_take c X G) Fwt (ok_wt T W G3 dTh Fwt cWt) fun _ _ _ _ _ _ us hl => match us, hl with | [_, _, _, _], _ => rfl
  obtain ⟨_, Fbl, _⟩ := d_blocks c
  have dBl : Dfn (ThK P w K mg base) "blocks" 5 2 R_blk NoX := dfn_of (g_blocks c X G) Fbl (ok_blk T W dWt Fbl) fun _ _ _ _ _ _ us hl => match us, hl with | [_, _], _ => rfl
  obtain ⟨_, Fst, _⟩ := d_is_stable c
  have dSt : Dfn (ThK P w K mg base) "is_stable" 6 2 R_st NoX := dfn_of (g_is_stable c X G) Fst (ok_st T dCm dUn dBl Fst) fun _ _ _ _ _ _ us hl => match us, hl with | [_, _], _ => rfl
  obtain ⟨_, Fse, _⟩ := d_settled c
  have dSe : Dfn (ThK P w K mg base) "settled" 4 3 R_sett NoX := dfn_of (g_settled c X G) Fse (ok_sett T W mWo dTh Fse) fun _ _ _ _ _ _ us hl => match us, hl with | [_, _, _], _ => rfl
  obtain ⟨_, Frk, _⟩ := d_ranks_of c
  have dRk : Dfn (ThK P w K mg base) "ranks_of" 2 2 R_ranks NoX := dfn_of (g_ranks_of c X G) Frk (ok_ranks T W Frk) fun _ _ _ _ _ _ us hl => match us, hl with | [_, _], _ => rfl
  obtain ⟨_, Fgo, cGo⟩ := d_as_good c
  have dGo : Dfn (ThK P w K mg base) "as_good" 4 3 R_good NoX := dfn_of (g_as_good c X G) Fgo (ok_good T W G4 Fgo cGo) fun _ _ _ _ _ _ us hl => match us, hl with | [_, _, _], _ => rfl
  obtain ⟨_, Ffi, _⟩ := d_filled c
  have dFi : Dfn (ThK P w K mg base) "filled" 2 2 R_fill NoX := dfn_of (g_filled c X G) Ffi (ok_fill T dTh Ffi) fun _ _ _ _ _ _ us hl => match us, hl with | [_, _], _ => rfl
  -- the law's own
  obtain ⟨_, Ffl, _⟩ := d__law_flat c
  have dFl : Dfn (ThK P w K mg base) "_law_flat" 1 1 R_flat NoX := dfn_of (g__law_flat c X G) Ffl (ok_flat T Ffl) fun _ _ _ _ _ _ us hl => match us, hl with | [_], _ => rfl
  obtain ⟨_, Fdi, _⟩ := d__law_dice c
  have dDi : Dfn (ThK P w K mg base) "_law_dice" 1 1 R_dice NoX := dfn_of (g__law_dice c X G) Fdi (ok_dice T Fdi) fun _ _ _ _ _ _ us hl => match us, hl with | [_], _ => rfl
  obtain ⟨_, Fro, _⟩ := d__law_roll c
  have dRo : DfnD (ThK P w K mg base) "_law_roll" 1 1 R_roll := dfnD_of (g__law_roll c X G) Fro (ok_roll T Fro) fun _ _ _ _ _ _ us hl => match us, hl with | [_, _], _ => rfl
  obtain ⟨_, Frn, _⟩ := d__law_rounds c
  have dRn : Dfn (ThK P w K mg base) "_law_rounds" 2 2 R_rounds NoX := dfn_of (g__law_rounds c X G) Frn (ok_rounds T dDi Frn) fun _ _ _ _ _ _ us hl => match us, hl with | [_, _], _ => rfl
  obtain ⟨_, Fls, _⟩ := d__law_list c
  have dLs : DfnD (ThK P w K mg base) "_law_list" 2 1 R_list := dfnD_of (g__law_list c X G) Fls (ok_list T dRo Fls) fun _ _ _ _ _ _ us hl => match us, hl with | [_, _], _ => rfl
  obtain ⟨_, Fma, _⟩ := d__law_market c
  have dMa : DfnD (ThK P w K mg base) "_law_market" 3 2 R_market := dfnD_of (g__law_market c X G) Fma (ok_market T dRo dLs Fma) fun _ _ _ _ _ _ us hl => match us, hl with | [_, _, _], _ => rfl
  obtain ⟨_, Fpl, _⟩ := d__law_place c
  have dPl : Dfn (ThK P w K mg base) "_law_place" 1 2 R_place NoX := dfn_of (g__law_place c X G) Fpl (ok_place T Fpl) fun _ _ _ _ _ _ us hl => match us, hl with | [_, _], _ => rfl
  obtain ⟨fdt, Fto, _⟩ := d__law_told c
  have TK : ToldK (ThK P w K mg base) (He.ga K "_law_told") fdt (He.ga K "BadWish") (He.ga K "BadRoom") (He.ga K "BadMatch") (He.ga K "BadPaper") (He.ga K "BadSize") (He.ga K "BadText") (He.ga K "BadStore") (He.ga K "NoSuch") (He.ga K "BadDeed") :=
    ⟨Fto, g__law_told c X G, Fto.binds fun _ _ _ _ _ _ us hl => match us, hl with | [_], _ => rfl, g_BadWish c X G, g_BadRoom c X G, g_BadMatch c X G, g_BadPaper c X G, g_BadSize c X G, g_BadText c X G, g_BadStore c X G, g_NoSuch c X G, g_BadDeed c X G⟩
  have tx : ToldX (ThK P w K mg base) (He.ga K "BadWish") (He.ga K "BadRoom") (He.ga K "BadMatch") := ⟨em_BadWish_BadWish c, em_BadRoom_BadWish c, em_BadRoom_BadRoom c, em_BadMatch_BadWish c, em_BadMatch_BadRoom c, em_BadMatch_BadMatch c⟩
  obtain ⟨_, Fc1, cC1⟩ := d__law_cases1 c
  have dC1 : Dfn (ThK P w K mg base) "_law_cases1" 11 5 R_c1 NoX := dfn_of (g__law_cases1 c X G) Fc1 (ok_c1 T L2' TK tx Fto.kp dCm mM mWs Fc1 cC1) fun _ _ _ _ _ _ us hl => match us, hl with | [_, _, _, _, _], _ => rfl
  obtain ⟨_, Fp1, _⟩ := d__law_part1 c
  have dP1 : Dfn (ThK P w K mg base) "_law_part1" 5 4 R_part1 NoX := dfn_of (g__law_part1 c X G) Fp1 (ok_part1 T dRk dGo dPl Fp1) fun _ _ _ _ _ _ us hl => match us, hl with | [_, _, _, _], _ => rfl
  obtain ⟨_, Fsd, _⟩ := d__law_seated c
  have dSd : DfnD (ThK P w K mg base) "_law_seated" 2 2 R_seated := dfnD_of (g__law_seated c X G) Fsd (ok_seated T dRo Fsd) fun _ _ _ _ _ _ us hl => match us, hl with | [_, _, _], _ => rfl
  exact ⟨T, ⟨dRo, dMa, dSd, dRn, dPl, dFl, dP1, dC1, dUn, dCm, dFi, dWt, dTh, dBl, dSt, dSe, dGo, mM, mLi, mPa, mSi, mWl, mWs, mWd, mSh⟩⟩
/-- what the law's end wants -/
theorem law_at (c : He.SaysX (hdFa ++ hdFb) hdFn [] hdTf hdEx w h K) (X : K.In h) (G : h.Ns mainGlobals mg) :
    LamX.LawAtS PySem.Challenge.rw_pairmart_k02_matchings_and_what_blocks w K (L2.CX PySem.Challenge.rw_pairmart_k02_matchings_and_what_blocks.prog w) 12 63 "_law_script" mg (He.ga K "law") h := by
  obtain ⟨fd, F, _⟩ := d_law c
  have bi : Binds K fd ["_law_script"] [] := F.binds fun _ _ _ _ _ _ us hl => match us, hl with | [_], _ => rfl
  refine ⟨fd, hdTf.map (He.cT K), LSp (ThK PySem.Challenge.rw_pairmart_k02_matchings_and_what_blocks.prog w K mg h), fun p hp => ?_, fun p hp => ?_, fun p hp => ?_, fun s u => ?_, fun H a ns _ _ ht hS => ?_, fun base KB GB TB => ?_⟩
  · obtain ⟨q, hq, rfl⟩ := List.mem_map.mp hp
    exact c.empty q hq
  · obtain ⟨q, hq, rfl⟩ := List.mem_map.mp hp
    exact c.out q hq
  · obtain ⟨q, hq, rfl⟩ := List.mem_map.mp hp
    exact PySem.W.codeHd_of_K X (c.hd q hq)
  · obtain ⟨oc, od, kV, doc, pm, an, cdv, ct, osl, rfl, lk, hcd⟩ := F.ex
    exact .of_eq rfl
  · have at_ : ∀ q ∈ hdTf, H (He.cT K q).2 = some (.tbl #[]) := fun q hq => ht _ (List.mem_map.mpr ⟨q, hq, rfl⟩)
    refine ⟨a, ns, rfl, hS, fun p hp => ?_, fun p hp => ?_, fun _ => rfl⟩
    · rcases List.mem_cons.mp hp with e | hp
      · rw [e]; exact LamX.TabS.nil (at_ ("Wish", some "worst") (List.mem_of_getElem? (i := 5) rfl))
      rcases List.mem_cons.mp hp with e | hp
      · rw [e]; exact LamX.TabS.nil (at_ ("_law_cases1", none) (List.mem_of_getElem? (i := 6) rfl))
      cases hp
    · have key : ∃ q ∈ hdTf, p = (He.cT K q).2 := by
        rcases List.mem_cons.mp hp with e | hp
        · exact ⟨("check_list", none), List.mem_of_getElem? (i := 0) rfl, e⟩
        rcases List.mem_cons.mp hp with e | hp
        · exact ⟨("Market", some "__init__"), List.mem_of_getElem? (i := 1) rfl, e⟩
        rcases List.mem_cons.mp hp with e | hp
        · exact ⟨("would_take", none), List.mem_of_getElem? (i := 2) rfl, e⟩
        rcases List.mem_cons.mp hp with e | hp
        · exact ⟨("as_good", none), List.mem_of_getElem? (i := 3) rfl, e⟩
        rcases List.mem_cons.mp hp with e | hp
        · exact ⟨("check_match", none), List.mem_of_getElem? (i := 4) rfl, e⟩
        cases hp
      obtain ⟨q, hq, e⟩ := key
      rw [e]
      exact ⟨#[], at_ q hq, True.intro⟩
  · obtain ⟨T, W⟩ := all_ok (P := PySem.Challenge.rw_pairmart_k02_matchings_and_what_blocks.prog) (base := base) c X G TB
    exact ok_law T W F
end
end PM

namespace PM
open PySem PySem.W PySem.Calls PyProof.Rows
theorem cx_no {P : Program} (w : World) (H : L2.Hp) (s : Shared) (e : Value) (s' : Shared) (h : L2.CX P w [] H s (fun _ _ _ => False) e s') : False := by
  obtain ⟨_, _, _, _, _, _, _, _, _, _, _, _, z⟩ := h
  exact z.elim
end PM
open PySem PySem.W PySem.Calls PyProof.Rows
theorem PySem.Challenge.cw_pairmart_k02_matchings_and_what_blocks_holds : PySem.Challenge.rw_pairmart_k02_matchings_and_what_blocks.Holds := by
  w_on; o_law
  refine HandSHeadRun.head_any (r := OpenLaw.row PySem.Challenge.rw_pairmart_k02_matchings_and_what_blocks) (q := view (OpenLaw.row PySem.Challenge.rw_pairmart_k02_matchings_and_what_blocks).prog [40]) (H := PM.hk) (ob := PM.ob) (M := 4000) (loose := PM.hdN1 ++ PM.hdN2) (d := HandSHeadRun.topDef (OpenLaw.row PySem.Challenge.rw_pairmart_k02_matchings_and_what_blocks).prog 40) (kwd := []) PM.ob_eq
    (by kernel_rfl) (fun s => by kernel_rfl) PM.run (by kernel_rfl) (by kernel_rfl) (by kernel_rfl) (by rfl) (by first | assumption | decide +kernel) (by decide +kernel) ⟨rfl, rfl, rfl, rfl, rfl, by decide +kernel⟩ ?hw ?hc
  case hw => w_witness2
  case hc =>
    refine LamX.walk_ofTsE (l := PySem.Challenge.rw_pairmart_k02_matchings_and_what_blocks) (n := 63) (k := 12) (x := "_law_script") (CX := fun w => L2.CX PySem.Challenge.rw_pairmart_k02_matchings_and_what_blocks.prog w) rfl (by decide) (by kernel_rfl) ⟨rfl, by decide, by decide⟩ ?F (fun w H s e s' h => PM.cx_no w H s e s' h)
    intro w mg fa h Y G hmg0
    obtain ⟨K, KX, c⟩ := Y
    have hmg : mg ("law" : PySem.Str) = some (.ref fa) := by
      have e : (HandSHeadRun.topDef (OpenLaw.row PySem.Challenge.rw_pairmart_k02_matchings_and_what_blocks).prog 40).name = ("law" : PySem.Str) := by kernel_rfl
      rw [← e]
      exact hmg0
    have e := hmg.symm.trans (PM.g_law c KX G)
    cases e
    exact ⟨K, KX, PM.law_at c KX G⟩
